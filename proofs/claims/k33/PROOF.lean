import PyProof.Rows.All
import Wide.All
import OpenK.AllK
import Wide.FinOn
import HandS.ForMost
import HandS.ForExc
import HandS.IsInst
import HandS.ExcInit
import HandS.ExcIs
import HandS.ExcField
import HandS.Lambda
import HandS.EndTab
import HandS.OwnEq
import HandS.TupAny
import HandS.Style
import HandS.Codes
import HandS.MakeKw
import HandS.Property
import HandS.ClsMeth
import HandS.Flow
import HandS.Strs
import KE.KExcIs
import PyProof.ReprRoads
import HandS.Walk
import HandS.FStr
import KE.KCallOwn
import HandS.More
import HandS.MakeKwOnly
import PyProof.EqKinds
import KE.KSortAsk
import HandS.SortRule
import HandS.NamedTupSort
import KE.SortData
import KE.DataMinMax
import HandS.ExcOwn
import KE.GoesMore
import HandS.SetFor
import HandS.TupMul
import HandS.Conv
import HandS.Text
import PySem.Challenge.RW_rowshapes_k33_orders_compared_and_read
import KE.IntTextText
import KE.KNestM
set_option Elab.async false
set_option linter.all false
set_option maxRecDepth 100000
set_option maxHeartbeats 0
set_option synthInstance.maxSize 1000000
set_option synthInstance.maxHeartbeats 4000000
section
namespace Z
open PySem PySem.Spec PyProof.Rows L2
/-! ### heaps -/
def ExtP (p : Addr) (H H' : Hp) : Prop := ∀ a o, a ≠ p → H a = some o → H' a = some o
theorem ExtP.refl {p : Addr} (H : Hp) : ExtP p H H := fun _ _ _ h => h
theorem ExtP.trans {p : Addr} {H H1 H2 : Hp} (a : ExtP p H H1) (b : ExtP p H1 H2) : ExtP p H H2 := fun c o n h => b c o n (a c o n h)
theorem ExtP.of {p : Addr} {H H' : Hp} (e : Same H H') : ExtP p H H' := fun c o _ h => e c o h
theorem ExtP.upd {p : Addr} {H H' : Hp} {o : HO} (e : ExtP p H H') : ExtP p H (upd H' p o) := fun c u n h => by
  rw [upd_ne n]; exact e c u n h
theorem ExtP.new {p r : Addr} {H H' : Hp} {o : HO} (e : ExtP p H H') (hr : H' r = none) : ExtP p H (L2.upd H' r o) := fun c u n h => by
  have q := e c u n h
  rw [upd_ne (ne_of_none q hr)]; exact q
theorem Same.new {r : Addr} {H H' : Hp} {o : HO} (e : Same H H') (hr : H' r = none) : Same H (L2.upd H' r o) := fun c u h => by
  have q := e c u h
  rw [upd_ne (ne_of_none q hr)]; exact q
theorem h_old {H : Hp} {r p : Addr} {o o' : HO} (hr : H r = none) (h : H p = some o') : upd H r o p = some o' := by
  rw [upd_ne (ne_of_none h hr)]; exact h
theorem h_mut {H : Hp} {r p : Addr} {o o' : HO} (hn : p ≠ r) (h : H p = some o') : upd H r o p = some o' := by
  rw [upd_ne hn]; exact h
theorem h_same {H H' : Hp} {p : Addr} {o : HO} (e : Same H H') (h : H p = some o) : H' p = some o := e _ _ h
theorem h_extP {H H' : Hp} {p q : Addr} {o : HO} (e : ExtP q H H') (hn : p ≠ q) (h : H p = some o) : H' p = some o := e _ _ hn h

/-! ### what a reading's head asks -/
section
variable {K : PySem.W.Frag} {σ : L2.St} {H : Hp} {Q : VK} {D : Ends} {ta tb te : TE} {t u : TT} {x y v : V} {r : R2} {s1 s2 : TS} {A B : Prop}
theorem i_var {i : Nat} (h : σ[i]? = some (some v)) (q : Q v H) : tVar i σ H Q := ⟨v, h, q⟩
theorem i_c (q : Q v H) : tC v σ H Q := q
theorem i_op (h : ta σ H fun x H1 => tb σ H1 fun y H2 => r x y H2 Q) : tOp r ta tb σ H Q := h
theorem i_un {r : V → Hp → VK → Prop} (h : ta σ H fun x H1 => r x H1 Q) : tUn r ta σ H Q := h
theorem i_cb {r : List V → Hp → VK → Prop} {t : TA} (h : t σ H fun vs H1 => r vs H1 Q) : tCB r t σ H Q := h
theorem i_nil {Q : List V → Hp → Prop} (q : Q [] H) : tNil σ H Q := q
theorem i_cons {Q : List V → Hp → Prop} {tr : TA} (h : ta σ H fun x H1 => tr σ H1 fun xs H2 => Q (x :: xs) H2) : tCons ta tr σ H Q := h
theorem i_test {Q : Bool → Hp → Prop} (h : te σ H fun x H' => ∃ k, x = .bl k ∧ Q k H') : tTest te σ H Q := h
theorem i_tB {Q : Bool → Hp → Prop} (h : te σ H fun x H' => ∃ k, x = .bl k ∧ Q k H') : tB te σ H Q := h
theorem i_bl {Q : Bool → Hp → Prop} {b : Bool} (q : Q b H) : ∃ k, V.bl b = .bl k ∧ Q k H := ⟨b, rfl, q⟩
theorem i_blv {Q : Bool → Prop} {b : Bool} (q : Q b) : ∃ k, V.bl b = .bl k ∧ Q k := ⟨b, rfl, q⟩
theorem i_and {Q : Bool → Hp → Prop} (h : t σ H fun c H1 => if c = true then u σ H1 Q else Q false H1) : tAnd t u σ H Q := h
theorem i_or {Q : Bool → Hp → Prop} (h : t σ H fun c H1 => if c = true then Q true H1 else u σ H1 Q) : tOr t u σ H Q := h
theorem i_not {Q : Bool → Hp → Prop} (h : t σ H fun c H1 => Q (!c) H1) : tNot t σ H Q := h
theorem i_andV (h : ta σ H fun x H1 => ∃ c, x = .bl c ∧ if c = true then tb σ H1 Q else Q (.bl false) H1) : tAndV ta tb σ H Q := h
theorem i_orV (h : ta σ H fun x H1 => ∃ c, x = .bl c ∧ if c = true then Q (.bl true) H1 else tb σ H1 Q) : tOrV ta tb σ H Q := h
theorem i_notV (h : ta σ H fun x H1 => ∃ c, x = .bl c ∧ Q (.bl (!c)) H1) : tNotV ta σ H Q := h
theorem i_ifx (h : t σ H fun c H1 => if c = true then ta σ H1 Q else tb σ H1 Q) : tIf t ta tb σ H Q := h
theorem i_chain {r r' : R2} {tc : TE} (h : ta σ H fun x H1 => tb σ H1 fun y H2 => r x y H2 fun z H3 => ∃ k, z = .bl k ∧ (if k = true then tc σ H3 fun w' H4 => r' y w' H4 Q else Q (.bl false) H3)) : tChain r r' ta tb tc σ H Q := h
theorem i_lst {t : TA} (h : t σ H fun xs H1 => xs.length ≤ sizeLine ∧ ∀ p, H1 p = none → Q (.ref p) (upd H1 p (.lst xs))) : tLst t σ H Q := h
theorem i_tup {t : TA} (h : t σ H fun xs H1 => xs.length ≤ sizeLine ∧ ∀ p, H1 p = none → Q (.ref p) (upd H1 p (.tup xs))) : tTup t σ H Q := h
/-! statements -/
theorem i_seq (h : s1 { D with nx := s2 D } σ H) : tSeq s1 s2 D σ H := h
theorem i_nx {nx : L2.St → Hp → Prop} {rt : VK} {bk ct : L2.St → Hp → Prop} (h : nx σ H) : (Ends.mk nx rt bk ct).nx σ H := h
theorem i_rt {nx : L2.St → Hp → Prop} {rt : VK} {bk ct : L2.St → Hp → Prop} (h : rt v H) : (Ends.mk nx rt bk ct).rt v H := h
theorem i_next (h : D.nx σ H) : tNext D σ H := h
theorem i_asg {g : TG} (h : te σ H fun x H1 => g x σ H1 D.nx) : tAsg te g D σ H := h
theorem i_gname {i : Nat} {Q : L2.St → Hp → Prop} (q : Q (σ.set i (some v)) H) : gName i v σ H Q := q
theorem i_gsub {to ti : TE} {ts : TSet} {Q : L2.St → Hp → Prop} (h : to σ H fun o H1 => ti σ H1 fun i H2 => ts o i v H2 fun H3 => Q σ H3) : gSub to ti ts v σ H Q := h
theorem i_ret (h : te σ H D.rt) : tRet te D σ H := h
theorem i_drop (h : te σ H fun _ H1 => D.nx σ H1) : tDrop te D σ H := h
theorem i_if {c : TT} (h : c σ H fun b H1 => if b = true then s1 D σ H1 else s2 D σ H1) : tIfS c s1 s2 D σ H := h
theorem i_itet (h : A) : if true = true then A else B := by rw [if_pos rfl]; exact h
theorem i_itef (h : B) : if false = true then A else B := by rw [if_neg Bool.false_ne_true]; exact h
theorem i_dec {c : Prop} [Decidable c] (h1 : c → A) (h2 : ¬ c → B) : if decide c = true then A else B := by
  by_cases h : c
  · rw [decide_eq_true h, if_pos rfl]; exact h1 h
  · rw [decide_eq_false h, if_neg Bool.false_ne_true]; exact h2 h
theorem i_ndec {c : Prop} [Decidable c] (h1 : c → B) (h2 : ¬ c → A) : if (!decide c) = true then A else B := by
  by_cases h : c
  · rw [decide_eq_true h]; exact i_itef (h1 h)
  · rw [decide_eq_false h]; exact i_itet (h2 h)
theorem i_bool {b : Bool} (h1 : b = true → A) (h2 : b = false → B) : if b = true then A else B := by
  cases b
  · exact i_itef (h2 rfl)
  · exact i_itet (h1 rfl)
/-! values -/
theorem i_setL {p : Addr} {xs : List V} {i : Int} {j : Nat} {Q : Hp → Prop} (h : H p = some (.lst xs)) (hj : ixN xs.length i = some j) (q : Q (upd H p (.lst (xs.set j v)))) : rSetL (.ref p) (.int i) v H Q := ⟨p, xs, i, j, rfl, rfl, h, hj, q⟩
theorem c_mulL {i j : Int} (h1 : -(2 ^ 64) < i) (h2 : i < 2 ^ 64) : CMul i j := .inl ⟨h1, h2⟩
theorem c_mulR {i j : Int} (h1 : -(2 ^ 64) < j) (h2 : j < 2 ^ 64) : CMul i j := .inr ⟨h1, h2⟩
theorem c_pow {i j : Int} (h1 : 0 ≤ j) (h2 : j ≤ 1000000) (h3 : -(2 ^ 64) < i) (h4 : i < 2 ^ 64) : CPow i j := ⟨h1, h2, by omega⟩
theorem c_divN {i j : Int} (h1 : 0 < j) (h2 : j < 1073741824) : CDivN i j := ⟨by omega, by omega⟩
/-! lists of ints as data -/
theorem dp_ints {p : Addr} {ns : List Int} (h : H p = some (.lst (ns.map V.int))) : Dp K H (.ref p) (.list (ns.map .int)) := by
  refine .lst (SqL.of h) ?_
  clear h
  induction ns with
  | nil => exact .nil
  | cons n ns ih => exact .cons (.int n) ih
end
/-! data -/
theorem canLayAll_ints : ∀ ns : List Int, PyData.canLayAll0 (ns.map .int) = true
  | [] => by simp [PyData.canLayAll0]
  | n :: ns => by simp [PyData.canLayAll0, PyData.canLay0]; exact canLayAll_ints ns
theorem depthAll_ints : ∀ ns : List Int, PyData.depthAll (ns.map .int) = 0
  | [] => by simp [PyData.depthAll]
  | n :: ns => by simp [PyData.depthAll, PyData.depth]; exact depthAll_ints ns
theorem shaped_ints (ns : List Int) : SeqAt.shaped (.list (ns.map .int)) = true := by
  unfold SeqAt.shaped
  rw [Bool.and_eq_true]
  refine ⟨?_, ?_⟩
  · show PyData.canLay0 (.list _) = true
    rw [PyData.canLay0]; exact canLayAll_ints ns
  · rw [PyData.depth, depthAll_ints]; rfl
theorem dp_nil {K : PySem.W.Frag} {H : Hp} {p : Addr} (h : H p = some (.lst [])) : Dp K H (.ref p) (.list []) := .lst (SqL.of h) .nil
section
variable {K : PySem.W.Frag} {H : Hp} {Q : VK} {x y : V} {d e : PyData} {b : Bool} {R : Addr → Prop} {xs : List V}
theorem i_neD (hd : Dp K H x d) (he : Dp K H y e) (sd : SeqAt.shaped d = true) (se : SeqAt.shaped e = true) (hb : (!PyData.eqv d e) = b) (q : Q (.bl b) H) : rNeD K x y H Q := ⟨d, e, hd, he, sd, se, by rw [hb]; exact q⟩
theorem i_eqD (hd : Dp K H x d) (he : Dp K H y e) (sd : SeqAt.shaped d = true) (se : SeqAt.shaped e = true) (hb : PyData.eqv d e = b) (q : Q (.bl b) H) : rEqD K x y H Q := ⟨d, e, hd, he, sd, se, by rw [hb]; exact q⟩
theorem i_new (hl : xs.length ≤ sizeLine) (h : ∀ p, H p = none → R p) : xs.length ≤ sizeLine ∧ ∀ p, H p = none → R p := ⟨hl, h⟩
end
theorem atI_of {α : Type} {xs : List α} {i : Int} (h0 : 0 ≤ i) (h1 : i < xs.length) : atI xs i = some (xs[i.toNat]'(by omega)) := by
  unfold atI ixN
  rw [if_pos h0, if_pos h1]
  simp only [Option.bind_some]
  exact List.getElem?_eq_getElem (by omega)

/-! ### rules by names, whatever the values are -/
section
variable {X : Cx}
theorem orO {f : Value → Value → Sem Value} {r r' : R2} (h : OpR X f r) (h' : OpR X f r') : OpR X f (fun x y H Q => r x y H Q ∨ r' x y H Q) := fun pins s σ H x y v u Q I rx ry q =>
  q.elim (fun q => h pins s σ H x y v u Q I rx ry q) fun q => h' pins s σ H x y v u Q I rx ry q
theorem orE {e : Expr} {t t' : TE} (h : PE X e t) (h' : PE X e t') : PE X e (fun σ H Q => t σ H Q ∨ t' σ H Q) := ⟨fun pins s σ H Q I q =>
  q.elim (fun q => h.run pins s σ H Q I q) fun q => h'.run pins s σ H Q I q⟩
def aAdd (K : PySem.W.Frag) : R2 := fun x y H Q => (rI0 (fun i j => .int (i + j)) x y H Q ∨ ∃ i j, x = .str i ∧ y = .str j ∧ i.length + j.length ≤ sizeLine ∧ Q (.str (i ++ j)) H) ∨ (rCat x y H Q ∨ rCatA K x y H Q)
theorem o_add : OpR X (binaryOp .Add) (aAdd X.K) := orO (orO op_add op_add_str) (orO op_cat op_catA)
def aSub : R2 := rI0 fun i j => .int (i - j)
theorem o_sub : OpR X (binaryOp .Sub) aSub := op_sub
def aMul : R2 := fun x y H Q => rI CMul (fun i j => .int (i * j)) x y H Q ∨ rRep x y H Q
theorem o_mul : OpR X (binaryOp .Mult) aMul := orO op_mul op_rep
def aMod : R2 := rI (fun _ j => 0 < j) fun i j => .int (i % j)
theorem o_mod : OpR X (binaryOp .Mod) aMod := op_mod
def aDiv : R2 := rI CDivN fun i j => .int (i.fdiv j)
theorem o_div : OpR X (binaryOp .FloorDiv) aDiv := op_fdivN
def aPow : R2 := rI CPow fun i j => .int (i ^ j.toNat)
theorem o_pow : OpR X (binaryOp .Pow) aPow := op_pow
def aEq (K : PySem.W.Frag) : R2 := fun x y H Q => rEq x y H Q ∨ rEqD K x y H Q
theorem o_eq (hu : X.A.units + 64 < cLine) : OpR X (compareOp .Eq) (aEq X.K) := orO op_eq (op_eqD hu)
def aNe (K : PySem.W.Frag) : R2 := fun x y H Q => rNe x y H Q ∨ rNeD K x y H Q
theorem o_ne (hu : X.A.units + 64 < cLine) : OpR X (compareOp .NotEq) (aNe X.K) := orO op_ne (op_neD hu)
def aLt : R2 := fun x y H Q => rI0 (fun i j => .bl (decide (i < j))) x y H Q ∨ ∃ i j, x = .str i ∧ y = .str j ∧ Q (.bl (decide (i.cps.toList < j.cps.toList))) H
theorem o_lt : OpR X (compareOp .Lt) aLt := orO op_lt op_lt_str
def aLe : R2 := rI0 fun i j => .bl (decide (i ≤ j))
theorem o_le : OpR X (compareOp .LtE) aLe := op_le
def aGt : R2 := rI0 fun i j => .bl (decide (j < i))
theorem o_gt : OpR X (compareOp .Gt) aGt := op_gt
def aGe : R2 := rI0 fun i j => .bl (decide (j ≤ i))
theorem o_ge : OpR X (compareOp .GtE) aGe := op_ge
def aIn (K : PySem.W.Frag) : R2 := fun x y H Q => (∃ (c : Nat) (z : Str), x = .str ⟨#[c]⟩ ∧ y = .str z ∧ Q (.bl (decide (c ∈ z.cps.toList))) H) ∨ rIn K false x y H Q
theorem o_in : OpR X (compareOp .In) (aIn X.K) := orO op_in_sign op_in_seq
def aNin (K : PySem.W.Frag) : R2 := fun x y H Q => (∃ (c : Nat) (z : Str), x = .str ⟨#[c]⟩ ∧ y = .str z ∧ Q (.bl (!decide (c ∈ z.cps.toList))) H) ∨ rIn K true x y H Q
theorem o_nin : OpR X (compareOp .NotIn) (aNin X.K) := orO op_notIn_sign op_notIn_seq
def aIs : R2 := fun x y H Q => y = .non ∧ Q (.bl (decide (x = .non))) H
theorem o_is : OpR X (compareOp .Is) aIs := op_isN
def aIsnt : R2 := fun x y H Q => y = .non ∧ Q (.bl (!decide (x = .non))) H
theorem o_isnt : OpR X (compareOp .IsNot) aIsnt := op_notN
def aNeg : V → Hp → VK → Prop := fun x H Q => ∃ i, x = .int i ∧ Q (.int (-i)) H
theorem u_neg : UnR X (unaryOp .USub) aNeg := un_neg
def aIx (K : PySem.W.Frag) : R2 := rIx K
theorem x_ix : IxR X (aIx X.K) := ix_seq
def aSl (K : PySem.W.Frag) : V → Option Int → Option Int → Hp → VK → Prop := fun x lo hi H Q => rSlL K x lo hi H Q ∨ (rSlS x lo hi H Q ∨ rSlA K x lo hi H Q)
theorem x_sl : SlR X (aSl X.K) := SlR.or sl_list (SlR.or sl_str sl_tupA)
abbrev RC := List V → Hp → VK → Prop
def aInt : RC := fun xs H Q => ((∃ i, xs = [.int i] ∧ Q (.int i) H) ∨ ∃ k, xs = [.bl k] ∧ Q (.int (if k then 1 else 0)) H) ∨ ∃ a n, xs = [.str a] ∧ PySem.intText? a = some n ∧ a.length ≤ 640 ∧ Q (.int n) H
theorem c_int : CallR X (.type "int") aInt := CallR.or call_int1 call_int_str
def aAbs : RC := fun xs H Q => ∃ i, xs = [.int i] ∧ Q (.int (if i < 0 then -i else i)) H
theorem c_abs : CallR X (.builtin "abs") aAbs := call_abs
def aLen (K : PySem.W.Frag) : RC := fun xs H Q => (∃ x n, xs = [x] ∧ LenV K x H n ∧ Q (.int n) H) ∨ ∃ a kvs, xs = [V.ref a] ∧ H a = some (.dK kvs) ∧ Q (.int kvs.length) H
theorem c_len : CallR X (.builtin "len") (aLen X.K) := CallR.or call_len call_lenD
def aStr : RC := fun xs H Q => ∃ i, xs = [.int i] ∧ i.natAbs.log2 < 1920 ∧ Q (.str (toString i)) H
theorem c_str : CallR X (.type "str") aStr := call_str_int
def aList (K : PySem.W.Frag) : RC := fun xs H Q => ∃ p ys, xs = [.ref p] ∧ (SqL K H p ys ∨ SqT K H p ys) ∧ ∀ l, H l = none → Q (.ref l) (upd H l (.lst ys))
theorem c_list : CallR X (.type "list") (aList X.K) := call_list_of
def aTuple (K : PySem.W.Frag) : RC := fun xs H Q => ∃ p ys, xs = [.ref p] ∧ ((SqL K H p ys ∧ ∀ l, H l = none → Q (.ref l) (upd H l (.tup ys))) ∨ (SqT K H p ys ∧ Q (.ref p) H))
theorem c_tuple : CallR X (.type "tuple") (aTuple X.K) := call_tuple_of
def aIsi (K : PySem.W.Frag) : RC := fun xs H Q => rIsi K xs H Q ∨ rIsiT K xs H Q
theorem c_isinstance : CallR X (.builtin "isinstance") (aIsi X.K) := CallR.or call_isi call_isiT
def aAll (K : PySem.W.Frag) : RC := rAll K
theorem c_all (hc : X.calm = true) : CallR X (.builtin "all") (aAll X.K) := cr_all hc
def aAny (K : PySem.W.Frag) : RC := rAny K
theorem c_any (hc : X.calm = true) : CallR X (.builtin "any") (aAny X.K) := cr_any hc
/-- a test by truth -/
def tTr (K : PySem.W.Frag) (ta : TE) : TT := fun σ H Q => ta σ H fun x H' => ∃ k, TruV K x H' k ∧ Q k H'
theorem pt_tr {a : Expr} {ta : TE} (ha : PE X a ta) (he : ∀ whole, isTrue a X.env whole = (do let v ← whole; standAt a.pos; holding [v] (truthy v))) : PT X a (tTr X.K ta) := pt_truth ha he
/-- e.f: a field of an instance -/
def aFld (K : PySem.W.Frag) (f : Str) : V → Hp → VK → Prop := fun x H Q => ∃ a C dx fs v, x = .ref a ∧ H a = some (.ins C dx fs) ∧ Cls K C ∧ NoAttr K C f ∧ fs.lookup f = some v ∧ Q v H
def tAtt (r : V → Hp → VK → Prop) (ta : TE) : TE := fun σ H Q => ta σ H fun x H1 => r x H1 Q
theorem pe_att {e : Expr} {f : Str} {ta : TE} {pos : Pos} (he : PE X e ta) (hb : attributeBase e f X.env (eval e X.env) = eval e X.env := by rfl) : PE X (.Attribute e f pos) (tAtt (aFld X.K f) ta) := pe_fld he hb
end
section
variable {K : PySem.W.Frag} {σ : L2.St} {H : Hp} {Q : VK} {p l : Addr} {i j : Int} {a b : Str} {v x y : V} {xs ys : List V}
theorem i_add (q : Q (.int (i + j)) H) : aAdd K (.int i) (.int j) H Q := .inl (.inl ⟨i, j, rfl, rfl, q⟩)
theorem i_addS (h : a.length + b.length ≤ sizeLine) (q : Q (.str (a ++ b)) H) : aAdd K (.str a) (.str b) H Q := .inl (.inr ⟨a, b, rfl, rfl, h, q⟩)
theorem i_addL (h1 : H p = some (.lst xs)) (h2 : H l = some (.lst ys)) (h : xs.length + ys.length ≤ sizeLine) (q : ∀ r, H r = none → Q (.ref r) (upd H r (.lst (xs ++ ys)))) : aAdd K (.ref p) (.ref l) H Q := .inr (.inl ⟨p, l, xs, ys, rfl, rfl, h1, h2, h, q⟩)
theorem i_addT (h1 : H p = some (.tup xs)) (h2 : H l = some (.tup ys)) (hx : xs ≠ []) (hy : ys ≠ []) (h : xs.length + ys.length ≤ sizeLine) (q : ∀ r, H r = none → Q (.ref r) (upd H r (.tup (xs ++ ys)))) : aAdd K (.ref p) (.ref l) H Q :=
  .inr (.inr ⟨p, l, xs, ys, rfl, rfl, SqT.of h1, SqT.of h2, h, fun z => absurd z hx, fun _ z => absurd z hy, fun _ _ => q⟩)
theorem i_sub (q : Q (.int (i - j)) H) : aSub (.int i) (.int j) H Q := ⟨i, j, rfl, rfl, q⟩
theorem i_mul (hc : CMul i j) (q : Q (.int (i * j)) H) : aMul (.int i) (.int j) H Q := .inl ⟨i, j, rfl, rfl, hc, q⟩
theorem i_mulL (h1 : H p = some (.lst xs)) (hj : 0 ≤ j ∧ j < 1000000) (h : xs.length * j.toNat ≤ sizeLine) (q : ∀ r, H r = none → Q (.ref r) (upd H r (.lst (List.replicate j.toNat xs).flatten))) : aMul (.ref p) (.int j) H Q :=
  .inr ⟨p, j, xs, rfl, rfl, h1, by omega, by omega, h, q⟩
theorem i_mod (hc : 0 < j) (q : Q (.int (i % j)) H) : aMod (.int i) (.int j) H Q := ⟨i, j, rfl, rfl, hc, q⟩
theorem i_div (hc : CDivN i j) (q : Q (.int (i.fdiv j)) H) : aDiv (.int i) (.int j) H Q := ⟨i, j, rfl, rfl, hc, q⟩
theorem i_pow (hc : CPow i j) (q : Q (.int (i ^ j.toNat)) H) : aPow (.int i) (.int j) H Q := ⟨i, j, rfl, rfl, hc, q⟩
theorem i_lt (q : Q (.bl (decide (i < j))) H) : aLt (.int i) (.int j) H Q := .inl ⟨i, j, rfl, rfl, q⟩
theorem i_le (q : Q (.bl (decide (i ≤ j))) H) : aLe (.int i) (.int j) H Q := ⟨i, j, rfl, rfl, q⟩
theorem i_gt (q : Q (.bl (decide (j < i))) H) : aGt (.int i) (.int j) H Q := ⟨i, j, rfl, rfl, q⟩
theorem i_ge (q : Q (.bl (decide (j ≤ i))) H) : aGe (.int i) (.int j) H Q := ⟨i, j, rfl, rfl, q⟩
theorem i_eq (q : Q (.bl (decide (i = j))) H) : aEq K (.int i) (.int j) H Q := .inl ⟨rfl, by rw [show decide (V.int i = V.int j) = decide (i = j) from decide_eq_decide.mpr ⟨fun z => V.int.inj z, fun z => by rw [z]⟩]; exact q⟩
theorem i_eqS (q : Q (.bl (decide (a = b))) H) : aEq K (.str a) (.str b) H Q := .inl ⟨rfl, by rw [show decide (V.str a = V.str b) = decide (a = b) from decide_eq_decide.mpr ⟨fun z => V.str.inj z, fun z => by rw [z]⟩]; exact q⟩
theorem i_eqX {c : Bool} (hs : scal x y = true) (hc : decide (x = y) = c) (q : Q (.bl c) H) : aEq K x y H Q := .inl ⟨hs, by rw [hc]; exact q⟩
theorem i_eqDt {d e : PyData} {c : Bool} (hd : Dp K H x d) (he : Dp K H y e) (sd : SeqAt.shaped d = true) (se : SeqAt.shaped e = true) (hb : PyData.eqv d e = c) (q : Q (.bl c) H) : aEq K x y H Q := .inr (i_eqD hd he sd se hb q)
theorem i_ne (q : Q (.bl (!decide (i = j))) H) : aNe K (.int i) (.int j) H Q := .inl ⟨rfl, by rw [show decide (V.int i = V.int j) = decide (i = j) from decide_eq_decide.mpr ⟨fun z => V.int.inj z, fun z => by rw [z]⟩]; exact q⟩
theorem i_neS (q : Q (.bl (!decide (a = b))) H) : aNe K (.str a) (.str b) H Q := .inl ⟨rfl, by rw [show decide (V.str a = V.str b) = decide (a = b) from decide_eq_decide.mpr ⟨fun z => V.str.inj z, fun z => by rw [z]⟩]; exact q⟩
theorem i_neX {c : Bool} (hs : scal x y = true) (hc : (!decide (x = y)) = c) (q : Q (.bl c) H) : aNe K x y H Q := .inl ⟨hs, by rw [hc]; exact q⟩
theorem i_neDt {d e : PyData} {c : Bool} (hd : Dp K H x d) (he : Dp K H y e) (sd : SeqAt.shaped d = true) (se : SeqAt.shaped e = true) (hb : (!PyData.eqv d e) = c) (q : Q (.bl c) H) : aNe K x y H Q := .inr (i_neD hd he sd se hb q)
theorem i_inC {c : Nat} (q : Q (.bl (decide (c ∈ a.cps.toList))) H) : aIn K (.str ⟨#[c]⟩) (.str a) H Q := .inl ⟨c, a, rfl, rfl, q⟩
theorem i_ninC {c : Nat} (q : Q (.bl (!decide (c ∈ a.cps.toList))) H) : aNin K (.str ⟨#[c]⟩) (.str a) H Q := .inl ⟨c, a, rfl, rfl, q⟩
theorem i_inL (h : H p = some (.lst xs)) (hx : flatV x = true) (ha : xs.all flatV = true) (q : Q (.bl (inV x xs)) H) : aIn K x (.ref p) H Q := .inr ⟨p, xs, rfl, .inl (SqL.of h), hx, ha, by rw [if_neg Bool.false_ne_true]; exact q⟩
theorem i_inT (h : H p = some (.tup xs)) (hx : flatV x = true) (ha : xs.all flatV = true) (q : Q (.bl (inV x xs)) H) : aIn K x (.ref p) H Q := .inr ⟨p, xs, rfl, .inr (SqT.of h), hx, ha, by rw [if_neg Bool.false_ne_true]; exact q⟩
theorem i_inTK (h : SqT K H p xs) (hx : flatV x = true) (ha : xs.all flatV = true) (q : Q (.bl (inV x xs)) H) : aIn K x (.ref p) H Q := .inr ⟨p, xs, rfl, .inr h, hx, ha, by rw [if_neg Bool.false_ne_true]; exact q⟩
theorem i_ninL (h : H p = some (.lst xs)) (hx : flatV x = true) (ha : xs.all flatV = true) (q : Q (.bl (!inV x xs)) H) : aNin K x (.ref p) H Q := .inr ⟨p, xs, rfl, .inl (SqL.of h), hx, ha, by rw [if_pos rfl]; exact q⟩
theorem i_ninT (h : H p = some (.tup xs)) (hx : flatV x = true) (ha : xs.all flatV = true) (q : Q (.bl (!inV x xs)) H) : aNin K x (.ref p) H Q := .inr ⟨p, xs, rfl, .inr (SqT.of h), hx, ha, by rw [if_pos rfl]; exact q⟩
theorem i_ninTK (h : SqT K H p xs) (hx : flatV x = true) (ha : xs.all flatV = true) (q : Q (.bl (!inV x xs)) H) : aNin K x (.ref p) H Q := .inr ⟨p, xs, rfl, .inr h, hx, ha, by rw [if_pos rfl]; exact q⟩
theorem i_is (q : Q (.bl (decide (x = .non))) H) : aIs x .non H Q := ⟨rfl, q⟩
theorem i_isnt (q : Q (.bl (!decide (x = .non))) H) : aIsnt x .non H Q := ⟨rfl, q⟩
theorem i_neg (q : Q (.int (-i)) H) : aNeg (.int i) H Q := ⟨i, rfl, q⟩
theorem i_ixL (h : H p = some (.lst xs)) (ha : atI xs i = some v) (q : Q v H) : aIx K (.ref p) (.int i) H Q := .inl ⟨p, xs, i, v, rfl, rfl, SqL.of h, ha, q⟩
theorem i_ixT (h : H p = some (.tup xs)) (ha : atI xs i = some v) (q : Q v H) : aIx K (.ref p) (.int i) H Q := .inr (.inl ⟨p, xs, i, v, rfl, rfl, SqT.of h, ha, q⟩)
theorem i_ixS {c : Nat} (hz : a.length ≤ sizeLine) (ha : atI a.cps.toList i = some c) (q : Q (.str ⟨#[c]⟩) H) : aIx K (.str a) (.int i) H Q := .inr (.inr ⟨a, i, c, rfl, rfl, hz, ha, q⟩)
theorem i_slL {lo hi : Option Int} (h : SqL K H p xs) (q : ∀ r, H r = none → Q (.ref r) (upd H r (.lst (cutV xs lo hi)))) : aSl K (.ref p) lo hi H Q := .inl ⟨p, xs, rfl, h, q⟩
theorem i_int (q : Q (.int i) H) : aInt [.int i] H Q := .inl (.inl ⟨i, rfl, q⟩)
theorem i_intB {c : Bool} (q : Q (.int (if c then 1 else 0)) H) : aInt [.bl c] H Q := .inl (.inr ⟨c, rfl, q⟩)
theorem i_abs (q : Q (.int (if i < 0 then -i else i)) H) : aAbs [.int i] H Q := ⟨i, rfl, q⟩
theorem i_lenL (h : H p = some (.lst xs)) (q : Q (.int xs.length) H) : aLen K [.ref p] H Q := .inl ⟨.ref p, xs.length, rfl, .inl ⟨xs, SqL.of h, rfl⟩, q⟩
theorem i_lenT (h : H p = some (.tup xs)) (q : Q (.int xs.length) H) : aLen K [.ref p] H Q := .inl ⟨.ref p, xs.length, rfl, .inr ⟨xs, SqT.of h, rfl⟩, q⟩
theorem i_lenS (h : a.length ≤ sizeLine) (q : Q (.int a.length) H) : aLen K [.str a] H Q := .inl ⟨.str a, a.length, rfl, ⟨h, rfl⟩, q⟩
theorem i_listL (h : H p = some (.lst xs)) (q : ∀ r, H r = none → Q (.ref r) (upd H r (.lst xs))) : aList K [.ref p] H Q := ⟨p, xs, rfl, .inl (SqL.of h), q⟩
theorem i_listT (h : H p = some (.tup xs)) (q : ∀ r, H r = none → Q (.ref r) (upd H r (.lst xs))) : aList K [.ref p] H Q := ⟨p, xs, rfl, .inr (SqT.of h), q⟩
theorem i_isi {t u : Value} {c : Bool} (hc : ClsV y u) (ht : TyX K H x t) (hk : PySem.W.kitOne K t u = some c) (q : Q (.bl c) H) : aIsi K [x, y] H Q := .inl ⟨x, y, t, u, c, rfl, hc, ht, hk, q⟩
theorem i_allL {bs : List Bool} (h : H p = some (.lst (bs.map V.bl))) (q : Q (.bl (bs.all id)) H) : aAll K [.ref p] H Q := ⟨p, bs, rfl, SqL.of h, q⟩
theorem i_tr {Q : Bool → Hp → Prop} {ta : TE} (h : ta σ H fun x H' => ∃ k, TruV K x H' k ∧ Q k H') : tTr K ta σ H Q := h
theorem i_trB {Q : Bool → Prop} {c : Bool} (q : Q c) : ∃ k, TruV K (.bl c) H k ∧ Q k := ⟨c, rfl, q⟩
theorem i_att {r : V → Hp → VK → Prop} {ta : TE} (h : ta σ H fun x H1 => r x H1 Q) : tAtt r ta σ H Q := h
theorem i_fld {f : Str} {C dx : Addr} {fs : List (Str × V)} (h : H p = some (.ins C dx fs)) (hc : Cls K C) (hn : NoAttr K C f) (hl : fs.lookup f = some v) (q : Q v H) : aFld K f (.ref p) H Q := ⟨p, C, dx, fs, v, rfl, h, hc, hn, hl, q⟩
theorem i_sl {r : V → Option Int → Option Int → Hp → VK → Prop} {te : TE} {tl th : TO} (h : te σ H fun x H1 => tl σ H1 fun lo H2 => th σ H2 fun hi H3 => r x lo hi H3 Q) : tSl r te tl th σ H Q := h
theorem i_noPart {Q : Option Int → Hp → Prop} (q : Q none H) : tNoPart σ H Q := q
theorem i_part {Q : Option Int → Hp → Prop} {te : TE} (h : te σ H fun x H1 => ∃ i, x = .int i ∧ Q (some i) H1) : tPart te σ H Q := h
theorem i_intv {Q : Int → Prop} (q : Q i) : ∃ k, V.int i = .int k ∧ Q k := ⟨i, rfl, q⟩
theorem i_andT {ta tb : TE} (h : ta σ H fun x H1 => ∃ k, TruV K x H1 k ∧ if k = true then tb σ H1 Q else Q x H1) : tAndT K ta tb σ H Q := h
theorem i_orT {ta tb : TE} (h : ta σ H fun x H1 => ∃ k, TruV K x H1 k ∧ if k = true then Q x H1 else tb σ H1 Q) : tOrT K ta tb σ H Q := h
theorem i_notT {ta : TE} (h : ta σ H fun x H1 => ∃ k, TruV K x H1 k ∧ Q (.bl (!k)) H1) : tNotT K ta σ H Q := h
end

theorem c_powM {a t k c e j : Int} (ha : 0 ≤ a) (ha2 : a < 2147483648) (h0 : 0 ≤ t) (h1 : t ≤ 1000000) (hk : 0 ≤ k) (hk2 : k ≤ 1000000) (hc : 0 ≤ c) (hc2 : c ≤ 1000000) (he : 0 ≤ e) (he2 : e ≤ 1000000) (hj : 0 ≤ j) (hj2 : j ≤ 1000) : CPow (a * (2 * t + k) + c * t * t + e) j := by
  have b1 : 0 ≤ a * (2 * t + k) := Int.mul_nonneg ha (by omega)
  have b2 : a * (2 * t + k) ≤ 2147483648 * 3000000 := Int.mul_le_mul (by omega) (by omega) (by omega) (by omega)
  have b3 : 0 ≤ c * t := Int.mul_nonneg hc h0
  have b4 : c * t ≤ 1000000 * 1000000 := Int.mul_le_mul hc2 h1 h0 (by omega)
  have b5 : 0 ≤ c * t * t := Int.mul_nonneg b3 h0
  have b6 : c * t * t ≤ 1000000000000 * 1000000 := Int.mul_le_mul (by omega) h1 h0 (by omega)
  exact c_pow hj (by omega) (by omega) (by omega)
theorem atI_ints {ns : List Int} {i : Int} (h0 : 0 ≤ i) (h1 : i < ns.length) : ∃ c, atI (ns.map V.int) i = some (.int c) := by
  refine ⟨ns[i.toNat]'(by omega), ?_⟩
  rw [atI_of h0 (by rw [List.length_map]; exact h1), List.getElem_map]
end Z
end

section
namespace Z
open PySem PySem.Spec PyProof.Rows L2
/-! ### readings walked by instances: Stp g n: n is enough for g -/
class Stp (g : Prop) (n : outParam Prop) : Prop where imp : n → g
class Run (g : Prop) (n : outParam Prop) : Prop where imp : n → g
class Run1 (g : Prop) (n : outParam Prop) : Prop where imp : n → g
instance (priority := low) Run.here (g : Prop) : Run g g := ⟨id⟩
instance Run.next {g h n : Prop} [s : Stp g h] [r : Run h n] : Run g n := ⟨fun x => s.imp (r.imp x)⟩
instance Run1.next {g h n : Prop} [s : Stp g h] [r : Run h n] : Run1 g n := ⟨fun x => s.imp (r.imp x)⟩
/-- slots -/
class Lk (σ : L2.St) (i : Nat) (v : outParam V) : Prop where h : σ[i]? = some (some v)
instance {σ : L2.St} {v : V} : Lk (some v :: σ) 0 v := ⟨rfl⟩
instance {σ : L2.St} {x : Option V} {v : V} {n : Nat} [l : Lk σ n v] : Lk (x :: σ) (n + 1) v := ⟨by rw [List.getElem?_cons_succ]; exact l.h⟩
class SetAt (σ : L2.St) (i : Nat) (v : Option V) (σ' : outParam L2.St) : Prop where h : σ.set i v = σ'
instance {σ : L2.St} {x v : Option V} : SetAt (x :: σ) 0 v (v :: σ) := ⟨rfl⟩
instance {σ σ' : L2.St} {x v : Option V} {n : Nat} [l : SetAt σ n v σ'] : SetAt (x :: σ) (n + 1) v (x :: σ') := ⟨by rw [List.set_cons_succ, l.h]⟩
/-- heaps -/
class At (H : Hp) (p : Addr) (o : outParam HO) : Prop where h : H p = some o
class Nw (H : Hp) (p : Addr) : Prop where h : H p = none
class Dif (p q : Addr) : Prop where h : p ≠ q
class Sm (H : outParam Hp) (H' : Hp) : Prop where h : Same H H'
class Xp (p : outParam Addr) (H : outParam Hp) (H' : Hp) : Prop where h : ExtP p H H'
section
variable {H H' : Hp} {p q r : Addr} {o o' u : HO}
instance (priority := high) At.here : At (upd H p o) p o := ⟨upd_same⟩
instance At.old [n : Nw H r] [a : At H p o] : At (upd H r o') p o := ⟨h_old n.h a.h⟩
instance (priority := low) At.mut [n : Dif p r] [a : At H p o] : At (upd H r o') p o := ⟨h_mut n.h a.h⟩
instance (priority := low) At.sm [s : Sm H H'] [a : At H p o] : At H' p o := ⟨h_same s.h a.h⟩
instance (priority := low) At.xp [s : Xp q H H'] [n : Dif p q] [a : At H p o] : At H' p o := ⟨h_extP s.h n.h a.h⟩
theorem Dif.symm [d : Dif p q] : Dif q p := ⟨d.h.symm⟩
theorem difN [a : At H p o] [n : Nw H r] : Dif p r := ⟨ne_of_none a.h n.h⟩
end
section
variable {K : PySem.W.Frag} {σ σ' : L2.St} {H : Hp} {Q : VK} {D : Ends} {ta tb te tc : TE} {t u : TT} {x y v : V} {r r' : R2} {s1 s2 : TS} {A B : Prop} {p l : Addr} {i j : Int} {a b : Str} {xs ys : List V}
instance {n : Nat} [l : Lk σ n v] : Stp (tVar n σ H Q) (Q v H) := ⟨i_var l.h⟩
instance : Stp (tC v σ H Q) (Q v H) := ⟨i_c⟩
instance : Stp (tOp r ta tb σ H Q) (ta σ H fun x H1 => tb σ H1 fun y H2 => r x y H2 Q) := ⟨i_op⟩
instance {r : V → Hp → VK → Prop} : Stp (tUn r ta σ H Q) (ta σ H fun x H1 => r x H1 Q) := ⟨i_un⟩
instance {r : RC} {t : TA} : Stp (tCB r t σ H Q) (t σ H fun vs H1 => r vs H1 Q) := ⟨i_cb⟩
instance {Q : List V → Hp → Prop} : Stp (tNil σ H Q) (Q [] H) := ⟨i_nil⟩
instance {Q : List V → Hp → Prop} {tr : TA} : Stp (tCons ta tr σ H Q) (ta σ H fun x H1 => tr σ H1 fun xs H2 => Q (x :: xs) H2) := ⟨i_cons⟩
instance {Q : Bool → Hp → Prop} : Stp (tTest te σ H Q) (te σ H fun x H' => ∃ k, x = .bl k ∧ Q k H') := ⟨i_test⟩
instance {Q : Bool → Hp → Prop} : Stp (tB te σ H Q) (te σ H fun x H' => ∃ k, x = .bl k ∧ Q k H') := ⟨i_tB⟩
instance {Q : Bool → Prop} {b : Bool} : Stp (∃ k, V.bl b = .bl k ∧ Q k) (Q b) := ⟨i_blv⟩
instance {Q : Int → Prop} : Stp (∃ k, V.int i = .int k ∧ Q k) (Q i) := ⟨i_intv⟩
instance {Q : Bool → Hp → Prop} : Stp (tAnd t u σ H Q) (t σ H fun c H1 => if c = true then u σ H1 Q else Q false H1) := ⟨i_and⟩
instance {Q : Bool → Hp → Prop} : Stp (tOr t u σ H Q) (t σ H fun c H1 => if c = true then Q true H1 else u σ H1 Q) := ⟨i_or⟩
instance {Q : Bool → Hp → Prop} : Stp (tNot t σ H Q) (t σ H fun c H1 => Q (!c) H1) := ⟨i_not⟩
instance : Stp (tIf t ta tb σ H Q) (t σ H fun c H1 => if c = true then ta σ H1 Q else tb σ H1 Q) := ⟨i_ifx⟩
instance : Stp (tChain r r' ta tb tc σ H Q) (ta σ H fun x H1 => tb σ H1 fun y H2 => r x y H2 fun z H3 => ∃ k, z = .bl k ∧ (if k = true then tc σ H3 fun w' H4 => r' y w' H4 Q else Q (.bl false) H3)) := ⟨i_chain⟩
/-- a new object -/
def New (H : Hp) (o : HO) (Q : VK) : Prop := ∀ p, H p = none → Q (.ref p) (upd H p o)
theorem New.mk {o : HO} (h : ∀ p, [Nw H p] → Q (.ref p) (upd H p o)) : New H o Q := fun p hp => @h p ⟨hp⟩
instance {t : TA} : Stp (tLst t σ H Q) (t σ H fun xs H1 => xs.length ≤ sizeLine ∧ New H1 (.lst xs) Q) := ⟨i_lst⟩
instance {t : TA} : Stp (tTup t σ H Q) (t σ H fun xs H1 => xs.length ≤ sizeLine ∧ New H1 (.tup xs) Q) := ⟨i_tup⟩
/-! statements -/
instance : Stp (tSeq s1 s2 D σ H) (s1 { D with nx := s2 D } σ H) := ⟨i_seq⟩
instance : Stp (tNext D σ H) (D.nx σ H) := ⟨i_next⟩
instance {g : TG} : Stp (tAsg te g D σ H) (te σ H fun x H1 => g x σ H1 D.nx) := ⟨i_asg⟩
instance {n : Nat} {Q : L2.St → Hp → Prop} [s : SetAt σ n (some v) σ'] : Stp (gName n v σ H Q) (Q σ' H) := ⟨fun q => i_gname (by rw [s.h]; exact q)⟩
instance {to ti : TE} {ts : TSet} {Q : L2.St → Hp → Prop} : Stp (gSub to ti ts v σ H Q) (to σ H fun o H1 => ti σ H1 fun i H2 => ts o i v H2 fun H3 => Q σ H3) := ⟨i_gsub⟩
instance : Stp (tRet te D σ H) (te σ H D.rt) := ⟨i_ret⟩
instance : Stp (tDrop te D σ H) (te σ H fun _ H1 => D.nx σ H1) := ⟨i_drop⟩
instance {c : TT} : Stp (tIfS c s1 s2 D σ H) (c σ H fun b H1 => if b = true then s1 D σ H1 else s2 D σ H1) := ⟨i_if⟩
instance : Stp (if true = true then A else B) A := ⟨i_itet⟩
instance : Stp (if false = true then A else B) B := ⟨i_itef⟩
/-! values -/
instance : Stp (aAdd K (.int i) (.int j) H Q) (Q (.int (i + j)) H) := ⟨i_add⟩
instance : Stp (aAdd K (.str a) (.str b) H Q) (a.length + b.length ≤ sizeLine ∧ Q (.str (a ++ b)) H) := ⟨fun h => i_addS h.1 h.2⟩
instance [h1 : At H p (.lst xs)] [h2 : At H l (.lst ys)] : Stp (aAdd K (.ref p) (.ref l) H Q) (xs.length + ys.length ≤ sizeLine ∧ New H (.lst (xs ++ ys)) Q) := ⟨fun h => i_addL h1.h h2.h h.1 h.2⟩
instance {x y : V} [h1 : At H p (.tup (x :: xs))] [h2 : At H l (.tup (y :: ys))] : Stp (aAdd K (.ref p) (.ref l) H Q) ((x :: xs).length + (y :: ys).length ≤ sizeLine ∧ New H (.tup ((x :: xs) ++ (y :: ys))) Q) := ⟨fun h => i_addT h1.h h2.h (fun z => nomatch z) (fun z => nomatch z) h.1 h.2⟩
instance : Stp (aSub (.int i) (.int j) H Q) (Q (.int (i - j)) H) := ⟨i_sub⟩
instance : Stp (aMul (.int i) (.int j) H Q) (CMul i j ∧ Q (.int (i * j)) H) := ⟨fun h => i_mul h.1 h.2⟩
instance [h1 : At H p (.lst xs)] : Stp (aMul (.ref p) (.int j) H Q) ((0 ≤ j ∧ j < 1000000) ∧ xs.length * j.toNat ≤ sizeLine ∧ New H (.lst (List.replicate j.toNat xs).flatten) Q) := ⟨fun h => i_mulL h1.h h.1 h.2.1 h.2.2⟩
instance : Stp (aMod (.int i) (.int j) H Q) (0 < j ∧ Q (.int (i % j)) H) := ⟨fun h => i_mod h.1 h.2⟩
instance : Stp (aDiv (.int i) (.int j) H Q) (CDivN i j ∧ Q (.int (i.fdiv j)) H) := ⟨fun h => i_div h.1 h.2⟩
instance : Stp (aPow (.int i) (.int j) H Q) (CPow i j ∧ Q (.int (i ^ j.toNat)) H) := ⟨fun h => i_pow h.1 h.2⟩
instance : Stp (aLt (.int i) (.int j) H Q) (Q (.bl (decide (i < j))) H) := ⟨i_lt⟩
instance : Stp (aLe (.int i) (.int j) H Q) (Q (.bl (decide (i ≤ j))) H) := ⟨i_le⟩
instance : Stp (aGt (.int i) (.int j) H Q) (Q (.bl (decide (j < i))) H) := ⟨i_gt⟩
instance : Stp (aGe (.int i) (.int j) H Q) (Q (.bl (decide (j ≤ i))) H) := ⟨i_ge⟩
instance : Stp (aEq K (.int i) (.int j) H Q) (Q (.bl (decide (i = j))) H) := ⟨i_eq⟩
instance : Stp (aEq K (.str a) (.str b) H Q) (Q (.bl (decide (a = b))) H) := ⟨i_eqS⟩
instance : Stp (aNe K (.int i) (.int j) H Q) (Q (.bl (!decide (i = j))) H) := ⟨i_ne⟩
instance : Stp (aNe K (.str a) (.str b) H Q) (Q (.bl (!decide (a = b))) H) := ⟨i_neS⟩
instance {c : Nat} : Stp (aIn K (.str ⟨#[c]⟩) (.str a) H Q) (Q (.bl (decide (c ∈ a.cps.toList))) H) := ⟨i_inC⟩
instance {c : Nat} : Stp (aNin K (.str ⟨#[c]⟩) (.str a) H Q) (Q (.bl (!decide (c ∈ a.cps.toList))) H) := ⟨i_ninC⟩
instance : Stp (aIs .non .non H Q) (Q (.bl true) H) := ⟨fun q => i_is (by rw [decide_eq_true rfl]; exact q)⟩
instance : Stp (aIs (.ref p) .non H Q) (Q (.bl false) H) := ⟨fun q => i_is (by rw [decide_eq_false (fun z => nomatch z)]; exact q)⟩
instance : Stp (aIs (.int i) .non H Q) (Q (.bl false) H) := ⟨fun q => i_is (by rw [decide_eq_false (fun z => nomatch z)]; exact q)⟩
instance : Stp (aIs (.str a) .non H Q) (Q (.bl false) H) := ⟨fun q => i_is (by rw [decide_eq_false (fun z => nomatch z)]; exact q)⟩
instance : Stp (aIsnt .non .non H Q) (Q (.bl false) H) := ⟨fun q => i_isnt (by rw [decide_eq_true rfl]; exact q)⟩
instance : Stp (aIsnt (.ref p) .non H Q) (Q (.bl true) H) := ⟨fun q => i_isnt (by rw [decide_eq_false (fun z => nomatch z)]; exact q)⟩
instance : Stp (aNeg (.int i) H Q) (Q (.int (-i)) H) := ⟨i_neg⟩
class IntNat (i : Int) (n : outParam Nat) : Prop where h : i = (n : Int)
instance : IntNat 0 0 := ⟨rfl⟩
instance : IntNat 1 1 := ⟨rfl⟩
instance : IntNat 2 2 := ⟨rfl⟩
instance : IntNat 3 3 := ⟨rfl⟩
instance : IntNat 4 4 := ⟨rfl⟩
instance : IntNat 5 5 := ⟨rfl⟩
instance : IntNat 6 6 := ⟨rfl⟩
instance : IntNat 7 7 := ⟨rfl⟩
instance : IntNat 8 8 := ⟨rfl⟩
instance : IntNat 9 9 := ⟨rfl⟩
instance : IntNat 10 10 := ⟨rfl⟩
instance : IntNat 11 11 := ⟨rfl⟩
instance : IntNat 12 12 := ⟨rfl⟩
instance : IntNat 13 13 := ⟨rfl⟩
instance : IntNat 14 14 := ⟨rfl⟩
instance : IntNat 15 15 := ⟨rfl⟩
instance : IntNat 16 16 := ⟨rfl⟩
instance : IntNat 17 17 := ⟨rfl⟩
instance : IntNat 18 18 := ⟨rfl⟩
instance : IntNat 19 19 := ⟨rfl⟩
instance : IntNat 20 20 := ⟨rfl⟩
instance : IntNat 21 21 := ⟨rfl⟩
instance : IntNat 22 22 := ⟨rfl⟩
instance : IntNat 23 23 := ⟨rfl⟩
instance : IntNat 24 24 := ⟨rfl⟩
instance : IntNat 25 25 := ⟨rfl⟩
instance : IntNat 26 26 := ⟨rfl⟩
instance : IntNat 27 27 := ⟨rfl⟩
instance : IntNat 28 28 := ⟨rfl⟩
instance : IntNat 29 29 := ⟨rfl⟩
instance : IntNat 30 30 := ⟨rfl⟩
instance {n : Nat} : IntNat (n : Int) n := ⟨rfl⟩
class Ith {α : Type} (xs : List α) (i : Int) (v : outParam α) : Prop where h : atI xs i = some v
class Jth {α : Type} (xs : List α) (i : Nat) (v : outParam α) : Prop where h : xs[i]? = some v
instance {α : Type} {v : α} {xs : List α} : Jth (v :: xs) 0 v := ⟨rfl⟩
instance {α : Type} {v x : α} {xs : List α} {n : Nat} [l : Jth xs n v] : Jth (x :: xs) (n + 1) v := ⟨by rw [List.getElem?_cons_succ]; exact l.h⟩
theorem ith_of {α : Type} {xs : List α} {n : Nat} {v : α} (h : xs[n]? = some v) : atI xs (n : Int) = some v := by
  have hn : n < xs.length := by
    rcases Nat.lt_or_ge n xs.length with q | q
    · exact q
    · rw [List.getElem?_eq_none q] at h; cases h
  unfold atI ixN
  rw [if_pos (by omega), if_pos (by omega)]
  simpa using h
instance {α : Type} {v : α} {xs : List α} {i : Int} {n : Nat} [e : IntNat i n] [l : Jth xs n v] : Ith xs i v := ⟨by rw [e.h]; exact ith_of l.h⟩
instance {α : Type} {v : α} : Ith [v] (-1) v := ⟨rfl⟩
instance {α : Type} {u v : α} : Ith [u, v] (-1) v := ⟨rfl⟩
instance {α : Type} {u v z : α} : Ith [u, v, z] (-1) z := ⟨rfl⟩
instance [h1 : At H p (.lst xs)] [h2 : Ith xs i v] : Stp (aIx K (.ref p) (.int i) H Q) (Q v H) := ⟨fun q => i_ixL h1.h h2.h q⟩
instance [h1 : At H p (.tup xs)] [h2 : Ith xs i v] : Stp (aIx K (.ref p) (.int i) H Q) (Q v H) := ⟨fun q => i_ixT h1.h h2.h q⟩
class PutAt {α : Type} (xs : List α) (i : Nat) (v : α) (ys : outParam (List α)) : Prop where h : i < xs.length ∧ xs.set i v = ys
instance {α : Type} {v x : α} {xs : List α} : PutAt (x :: xs) 0 v (v :: xs) := ⟨by simp, rfl⟩
instance {α : Type} {v x : α} {xs ys : List α} {n : Nat} [l : PutAt xs n v ys] : PutAt (x :: xs) (n + 1) v (x :: ys) := ⟨by simp; exact l.h.1, by rw [List.set_cons_succ, l.h.2]⟩
theorem ixN_nat {n k : Nat} (h : k < n) : ixN n (k : Int) = some k := by
  unfold ixN
  rw [if_pos (by omega), if_pos (by omega)]; simp
instance {n : Nat} {Q : Hp → Prop} [h1 : At H p (.lst xs)] [e : IntNat i n] [h2 : PutAt xs n v ys] : Stp (rSetL (.ref p) (.int i) v H Q) (Q (upd H p (.lst ys))) := ⟨fun q => i_setL h1.h (by rw [e.h]; exact ixN_nat (k := n) h2.h.1) (by rw [show xs.set n v = ys from h2.h.2]; exact q)⟩
instance : Stp (aInt [.int i] H Q) (Q (.int i) H) := ⟨i_int⟩
instance {c : Bool} : Stp (aInt [.bl c] H Q) (Q (.int (if c then 1 else 0)) H) := ⟨i_intB⟩
instance : Stp (aAbs [.int i] H Q) (Q (.int (if i < 0 then -i else i)) H) := ⟨i_abs⟩
instance [h1 : At H p (.lst xs)] : Stp (aLen K [.ref p] H Q) (Q (.int xs.length) H) := ⟨i_lenL h1.h⟩
instance [h1 : At H p (.tup xs)] : Stp (aLen K [.ref p] H Q) (Q (.int xs.length) H) := ⟨i_lenT h1.h⟩
instance : Stp (aLen K [.str a] H Q) (a.length ≤ sizeLine ∧ Q (.int a.length) H) := ⟨fun h => i_lenS h.1 h.2⟩
instance [h1 : At H p (.lst xs)] : Stp (aList K [.ref p] H Q) (New H (.lst xs) Q) := ⟨i_listL h1.h⟩
instance [h1 : At H p (.tup xs)] : Stp (aList K [.ref p] H Q) (New H (.lst xs) Q) := ⟨i_listT h1.h⟩
instance {Q : Bool → Hp → Prop} {ta : TE} : Stp (tTr K ta σ H Q) (ta σ H fun x H' => ∃ k, TruV K x H' k ∧ Q k H') := ⟨i_tr⟩
instance {Q : Bool → Prop} {c : Bool} : Stp (∃ k, TruV K (.bl c) H k ∧ Q k) (Q c) := ⟨i_trB⟩
instance {r : V → Hp → VK → Prop} {ta : TE} : Stp (tAtt r ta σ H Q) (ta σ H fun x H1 => r x H1 Q) := ⟨i_att⟩
instance {r : V → Option Int → Option Int → Hp → VK → Prop} {tl th : TO} : Stp (tSl r te tl th σ H Q) (te σ H fun x H1 => tl σ H1 fun lo H2 => th σ H2 fun hi H3 => r x lo hi H3 Q) := ⟨i_sl⟩
instance {Q : Option Int → Hp → Prop} : Stp (tNoPart σ H Q) (Q none H) := ⟨i_noPart⟩
instance {Q : Option Int → Hp → Prop} : Stp (tPart te σ H Q) (te σ H fun x H1 => ∃ i, x = .int i ∧ Q (some i) H1) := ⟨i_part⟩
instance : Stp (tAndT K ta tb σ H Q) (ta σ H fun x H1 => ∃ k, TruV K x H1 k ∧ if k = true then tb σ H1 Q else Q x H1) := ⟨i_andT⟩
instance : Stp (tOrT K ta tb σ H Q) (ta σ H fun x H1 => ∃ k, TruV K x H1 k ∧ if k = true then Q x H1 else tb σ H1 Q) := ⟨i_orT⟩
instance : Stp (tNotT K ta σ H Q) (ta σ H fun x H1 => ∃ k, TruV K x H1 k ∧ Q (.bl (!k)) H1) := ⟨i_notT⟩
end
theorem at_start {t : TS} {D : Ends} {σ σ' : L2.St} {H : Hp} (e : σ = σ') (h : t D σ' H) : t D σ H := by rw [e]; exact h
end Z
end

section
namespace Z
open PySem PySem.Spec PyProof.Rows L2
/-! ### an exception that was caught, kept as a value -/
def ExV (cls : Value) (d : Option Addr) (a : Addr) : HO := .ext fun h => ∃ (oe : Obj) (fv : Array Value), h.get? a = some oe ∧ Zc cls d oe ∧ oe.data = .fields fv
theorem exV_ok {P : Program} {w : World} {H : Hp} {h : Heap} {a : Addr} {cls : Value} {d : Option Addr} {oe : Obj} {fv : Array Value} (g : h.get? a = some oe) (z : Zc cls d oe) (hd : oe.data = .fields fv) : ObjOk P w H h a (ExV cls d a) :=
  ⟨⟨oe, fv, g, z, hd⟩, ⟨oe, g⟩, fun _ _ ⟨o1, f1, b1, b2, b3⟩ st => ⟨o1, f1, st _ b1, b2, b3⟩⟩
section
variable {X : Cx} {pins : List (Addr × Obj)} {σ : L2.St} {H : Hp} {s : Shared}
/-- an object that came behind the entry is tracked from now on -/
theorem track {a : Addr} {o : HO} (I : Inv X pins σ H s) (hn : H a = none) (h0 : X.s_0.heap.get? a = none) (nL : a ≠ X.env.locals) (nC : ∀ y c, X.env.cells.lookup y = some c → c ≠ a)
    (nP : ∀ p ∈ X.pn ++ pins, p.1 ≠ a) (ok : ObjOk X.prog X.w (upd H a o) s.heap a o) : Inv X pins σ (upd H a o) s := by
  have ne0 : ∀ b ob, X.s_0.heap.get? b = some ob → b ≠ a := fun b ob g z => by
    rw [z, h0] at g
    cases g
  have neH : ∀ b u, H b = some u → b ≠ a := fun b u g z => by
    rw [z, hn] at g
    cases g
  have U := I.base
  constructor
  · exact I.ok
  · exact I.os
  · exact I.bare
  · constructor
    · exact U.keep
    · exact U.slot
    · intro b ob g n hx
      rw [upd_ne (ne0 b ob g)]
      exact U.free b ob g n hx
    · exact U.there
    · intro b xs g
      have g' := U.tups b xs g
      rw [upd_ne (neH b _ g')]
      exact g'
    · intro b ob u g
      have g' := U.frzs b ob u g
      rw [upd_ne (neH b _ g')]
      exact g'
    · intro b ps g
      obtain ⟨m, g'⟩ := U.tbls b ps g
      exact ⟨m, by rw [upd_ne (neH b _ g')]; exact g'⟩
  · exact I.loc
  · exact I.cell
  · rw [upd_ne nL.symm]
    exact I.free
  · intro y c g
    rw [upd_ne (nC y c g)]
    exact I.freeC y c g
  · intro p hp
    obtain ⟨g1, g2, g3⟩ := I.pin p hp
    exact ⟨g1, by rw [upd_ne (nP p hp)]; exact g2, g3⟩
  · intro b u g
    by_cases hb : b = a
    · rw [hb, upd_same] at g
      rw [hb, ← Option.some.inj g]
      exact ok
    · rw [upd_ne hb] at g
      refine (I.hok b u g).stay (fun _ _ _ q => q) (fun c q => ?_) (fun c xs q => ?_)
      · rw [upd_ne (neH c _ q)]; exact q
      · rw [upd_ne (neH c _ q)]; exact q
  · exact I.len
/-- out of a suite, the exception's object still known -/
theorem unsuiteK {a : Addr} {oe : Obj} {pn' : List (Addr × Obj)} (I : Inv (X.suite a ((a, oe) :: (X.pn ++ pins))) pn' σ H s) (ok : X.Ok) : Inv X ((a, oe) :: pins) σ H s := by
  refine ⟨ok, I.os, I.bare, I.base, I.loc, I.cell, I.free, I.freeC, fun p hp => ?_, I.hok, I.len⟩
  refine I.pin p (List.mem_append_left _ ?_)
  rcases List.mem_append.mp hp with h | h
  · exact List.mem_cons_of_mem _ (List.mem_append_left _ h)
  · rcases List.mem_cons.mp h with h | h
    · rw [h]; exact List.mem_cons_self
    · exact List.mem_cons_of_mem _ (List.mem_append_right _ h)
/-- it is tracked: from the pin to the abstract heap -/
theorem pin_track {a : Addr} {oe : Obj} {fv : Array Value} {cls : Value} {d : Option Addr} (J : Inv X ((a, oe) :: pins) σ H s) (hz : Zc cls d oe) (hf : oe.data = .fields fv) (h0 : X.s_0.heap.get? a = none) (nP : ∀ p ∈ X.pn ++ pins, p.1 ≠ a) :
    Inv X pins σ (upd H a (ExV cls d a)) s := by
  obtain ⟨g, hn, nL, nF, _⟩ := J.pin (a, oe) (List.mem_append_right _ List.mem_cons_self)
  have J0 : Inv X pins σ H s := J.pins_of fun p hp => J.pin p (List.mem_append_right _ (List.mem_cons_of_mem _ hp))
  refine track J0 hn h0 nL (fun y c q z => ?_) nP (exV_ok g hz hf)
  obtain ⟨v, ob, ho, hd⟩ := J.cell y c q
  rw [z] at ho
  have e : ob = oe := Option.some.inj (ho.symm.trans g)
  rw [e, hf] at hd
  cases hd
end

/-! ### try: body / except x as n: suite, the exception kept behind the suite -/
/-- what is wished of an exception of the body -/
def wKp (n : Nat) (K : PySem.W.Frag) (c : Value) (i : Nat) (ts : Addr → Value → Option Addr → TS) (Wo : WX) (D : Ends) : WX := fun cls d σ H => σ.length = n → ∃ b, PySem.W.exmOne K cls c = some b ∧ (b = false → Wo cls d σ H) ∧
  (b = true → ∀ a, H a = none → ts a cls d { nx := fun σ' H' => D.nx (σ'.set i none) (upd H' a (ExV cls d a)), rt := fun _ _ => False } (σ.set i (some (.ref a))) H)
end Z
end

section
namespace Z
open PySem PySem.Spec PyProof.Rows L2
/-! ### what a caught exception is asked -/
/-- its dict stands -/
def XdOk (H : Hp) (d : Option Addr) : Prop := d = none ∨ ∃ dd fs, d = some dd ∧ H dd = some (.xd fs)
section
variable {X : Cx} {pins : List (Addr × Obj)} {σ : L2.St} {H : Hp} {s : Shared}
theorem exV_at {cls : Value} {d : Option Addr} {a : Addr} (I : Inv X pins σ H s) (h : H a = some (ExV cls d a)) : ∃ (oe : Obj) (fv : Array Value), s.heap.get? a = some oe ∧ Zc cls d oe ∧ oe.data = .fields fv := (I.hok a _ h).1
theorem exV_inst {C : Addr} {d : Option Addr} {a : Addr} (I : Inv X pins σ H s) (h : H a = some (ExV (.ref C) d a)) (hd : XdOk H d) : ∃ oe od, PySem.W.InstAt s.heap a oe C od := by
  obtain ⟨oe, fv, g, z, q⟩ := exV_at I h
  have no : PySem.W.notCls oe = true := by unfold PySem.W.notCls; rw [q] <;> rfl
  rcases hd with e | ⟨dd, fs, e, hx⟩
  · subst e
    exact ⟨oe, none, g, z.1, no, by rw [z.2] <;> trivial⟩
  · subst e
    obtain ⟨mA, hns, _⟩ := (show ObjOk X.prog X.w H s.heap dd (.xd fs) from I.hok dd _ hx)
    obtain ⟨od, ho, _⟩ := lookIn_ns hns
    exact ⟨oe, some od, g, z.1, no, by rw [z.2]; exact ho⟩
/-- isinstance(e, c), e a caught exception -/
def rIsV (K : PySem.W.Frag) : RC := fun xs H Q => ∃ (a C : Addr) (d : Option Addr) (c : V) (u : Value) (b : Bool), xs = [.ref a, c] ∧ H a = some (ExV (.ref C) d a) ∧ XdOk H d ∧ ClsV c u ∧ ExcC K C ∧ PySem.W.kitOne K (.ref C) u = some b ∧ Q (.bl b) H
theorem clsV_rel {c : V} {u w : Value} (h : ClsV c u) (r : RelV c w) : w = u := by
  cases h <;> exact r
theorem call_isV : CallR X (.builtin "isinstance") (rIsV X.K) := by
  intro pins s σ H xs us Q I r h
  obtain ⟨a, C, d, c, u, b, rfl, ha, hd, hc, T, hk, q⟩ := h
  cases r with
  | cons rx rr =>
    cases rr with
    | cons rt rr =>
      cases rr
      cases rx
      have e := clsV_rel hc rt
      subst e
      obtain ⟨oe, od, J⟩ := exV_inst I ha hd
      have hcl : (PySem.W.clsIn X.K C).isSome = true := by
        obtain ⟨cd, h1, _⟩ := PySem.W.any_some T.hd
        rw [h1] <;> rfl
      exact PySem.W.kia_one (PySem.W.kitx_exc hcl T.hg T.hk T.hs T.ha T.hn T.ht T.hm) I.kIn J hk (fun z => nomatch z) fun tk => ⟨.bl b, H, I.kept (t' := tk) fun _ _ z => z, rfl, q⟩
def rIsVT (K : PySem.W.Frag) : RC := fun xs H Q => ∃ (a C : Addr) (d : Option Addr) (tp : Addr) (cs : List V) (us : List Value) (b : Bool), xs = [.ref a, .ref tp] ∧ H a = some (ExV (.ref C) d a) ∧ XdOk H d ∧ H tp = some (.tup cs) ∧ Paired ClsV cs us ∧ ExcC K C ∧ PySem.W.kitAny K (.ref C) us = some b ∧ Q (.bl b) H
theorem clsV_all : ∀ {cs : List V} {us ws : List Value}, Paired ClsV cs us → Vals cs ws → ws = us
  | _, _, _, .nil, .nil => rfl
  | _, _, _, .cons h t, .cons r q => by rw [clsV_rel h r, clsV_all t q]
theorem call_isVT : CallR X (.builtin "isinstance") (rIsVT X.K) := by
  intro pins s σ H xs us Q I r h
  obtain ⟨a, C, d, tp, cs, ws, b, rfl, ha, hd, ht, hc, T, hk, q⟩ := h
  cases r with
  | cons rx rr =>
    cases rr with
    | cons rt rr =>
      cases rr
      cases rx
      cases rt
      obtain ⟨oe, od, J⟩ := exV_inst I ha hd
      have hcl : (PySem.W.clsIn X.K C).isSome = true := by
        obtain ⟨cd, h1, _⟩ := PySem.W.any_some T.hd
        rw [h1] <;> rfl
      obtain ⟨_, its, rv, ⟨cl0, dd, dt, sl⟩, ho, e1, n, e2⟩ := (show ObjOk X.prog X.w H s.heap tp (.tup cs) from I.hok tp _ ht)
      simp only at e1 e2
      subst e1 e2
      have e3 := clsV_all hc rv
      subst e3
      exact PySem.W.kia_tup (PySem.W.kitx_exc hcl T.hg T.hk T.hs T.ha T.hn T.ht T.hm) I.kIn J ho hk (fun z => nomatch z) fun tk => ⟨.bl b, H, I.kept (t' := tk) fun _ _ z => z, rfl, q⟩
/-- e.n, e a caught exception -/
def aXf (K : PySem.W.Frag) (n : Str) : V → Hp → VK → Prop := fun x H Q => ∃ (a C dd : Addr) (fs : List (Str × V)) (v : V), x = .ref a ∧ H a = some (ExV (.ref C) (some dd) a) ∧ H dd = some (.xd fs) ∧ XfC K C ∧ PySem.W.findIn K (.ref C) n = some none ∧ fs.lookup n = some v ∧ Q v H
theorem pe_xfV {e : Expr} {te : TE} {n : Str} {pos : Pos} (he : PE X e te) (hb : attributeBase e n X.env (eval e X.env) = eval e X.env := by rfl) : PE X (.Attribute e n pos) (tAtt (aXf X.K n) te) := by
  constructor
  intro pins s σ H Q I h
  refine attr_of hb (thn (he.run pins s σ H _ I h) fun u s1 hh => ?_)
  obtain ⟨x, H1, I1, rx, a, C, dd, fs, v, ex, ea, ed, T, hno, l, q⟩ := hh
  subst ex
  obtain rfl : u = Value.ref a := rx
  obtain ⟨oe, fv, g, z, hd⟩ := exV_at I1 ea
  obtain ⟨mA, hns, hr⟩ := (show ObjOk X.prog X.w H1 s1.heap dd (.xd fs) from I1.hok dd _ ed)
  obtain ⟨od, ho, hl⟩ := lookIn_ns hns
  obtain ⟨u, hu, ru⟩ := RelO.some_of (v := v) (o := mA n) (by rw [← l]; exact hr n)
  have no : PySem.W.notCls oe = true := by unfold PySem.W.notCls; rw [hd] <;> rfl
  have J : PySem.W.InstAt s1.heap a oe C (some od) := ⟨g, z.1, no, by rw [z.2]; exact ho⟩
  have found := PySem.W.findObj_own T.hdC hno rfl (show PySem.W.lookIn n od = some (some u) by rw [hl, hu])
  exact HandSPX.exc_get I1.kIn J T.ga T.gg T.exC found (handed_of ru) ⟨v, H1, I1.tok _, ru, q⟩
end
end Z
end

section
namespace Z
open PySem PySem.Spec PyProof.Rows L2
/-! ### repr of data: it asks that nothing is being shown around; so the defs that show are promised where that is so -/
def NoG (A : Around) : Prop := A.guards = some []
structure FnG (P : Program) (w : World) (K : PySem.W.Frag) (mg : Str → Option Value) (base : Heap) (CX : CXT) (k : Nat) (f : Addr) (fd : FuncData) (ps : List Str) (sp : Sp) : Prop where
  len : ∀ vs H Q E, sp vs H Q E → vs.length = ps.length
  run : ∀ (A : Around) (outer : List Env) (s : Shared) (H : Hp) (args : Args) (us : List Value) (vs : List V) (Q : VK) (E : XK), NoG A → Room k A → Env0 P w K mg base A outer s H → BindsTo s fd args (ps.zip us) → Vals vs us → sp vs H Q E →
    codeAny (model P w) A (.call (.ref f) args) (CR CX outer P w H s Q E) s
section
variable {P : Program} {w : World} {K : PySem.W.Frag} {mg : Str → Option Value} {base : Heap}
/-- a def by its body -/
theorem okG {x qual : Str} {st : Stmt} {f : Addr} {fd : FuncData} {N ps : List Str} {k : Nat} {sp : Sp} (F : Fun K x qual st f fd) (S : FnScope N ps (defScope st)) (len : ∀ vs H Q E, sp vs H Q E → vs.length = ps.length)
    (hbody : ∀ (cdv : Value) (A : Around) (outer : List Env) (s : Shared) (H : Hp) (vs : List V) (Q : VK) (E : XK), NoG A → Room k (A.deeper (envOfC qual (defScope st) s.heap.objs.size f cdv)) → sp vs H Q E →
      ∃ t, PSs (cxOf (L2.CX P w) P w K mg base N qual (defScope st) f cdv A outer s H E) (defBody st) t ∧ t { nx := fun _ H' => Q .non H', rt := Q } (start N vs) H) : FnG P w K mg base (L2.CX P w) (k + 1) f fd ps sp := by
  obtain ⟨oc, od, kV, doc, pm, an, cdv, ct, osl, rfl, lk, hcd⟩ := F.ex
  refine ⟨len, fun A outer s H args us vs Q E g hr e0 hb r h => ?_⟩
  exact LamX.run_ofS lk hcd S hr e0 hb r (len _ _ _ _ h) fun hr' => hbody cdv A outer s H vs Q E g hr' h
theorem FnG.of {CX : CXT} {k : Nat} {f : Addr} {fd : FuncData} {ps : List Str} {sp : Sp} (F : FnOk P w K mg base CX k f fd ps sp) : FnG P w K mg base CX k f fd ps sp := ⟨F.len, fun A outer s H args us vs Q E _ => F.run A outer s H args us vs Q E⟩
end
section
variable {X : Cx} {CX : CXT} {k : Nat} {f C : Addr} {fd : FuncData} {ps : List Str} {sp : Sp} {E : XK} {x m : Str} {p pos apos : Pos} {e o : Expr} {es : List Expr} {ta : TE} {t : TA}
theorem run_G {pins : List (Addr × Obj)} {σ : L2.St} {H : Hp} {s : Shared} {Q : VK} {us : List Value} {vs : List V} (F : FnG X.prog X.w X.K X.mg X.base CX k f fd ps sp) (g : NoG X.A) (hr : Room k X.A) (hb : Binds X.K fd ps []) (hx : Passes CX X E)
    (I : Inv X pins σ H s) (r : Vals vs us) (h : sp vs H Q E) : wpAny (model X.prog X.w) X.A (call (.ref f) us) (EP X pins σ Q) X.xe s := by
  have hl : us.length = ps.length := r.length.symm.trans (F.len _ _ _ _ h)
  have hb' : BindsTo s fd ⟨us, []⟩ (ps.zip us) := by
    have q := hb s us I.kIn (by rw [List.append_nil]; exact hl)
    rwa [List.append_nil] at q
  refine wpAny_call (codeAny_mono (F.run X.A X.stack s H ⟨us, []⟩ us vs Q E g hr I.env0 hb' r h) fun res s' hq => ?_)
  match res, hq with
  | .error er, hq => exact hx pins σ H s er s' I hq
  | .ok (.ret u), hq => exact I.after hq
  | .ok .next, hq => exact hq.elim
  | .ok .brk, hq => exact hq.elim
  | .ok .cont, hq => exact hq.elim
/-- f(e, ..) -/
theorem pe_callG (F : FnG X.prog X.w X.K X.mg X.base CX k f fd ps sp) (g : NoG X.A) (hr : Room k X.A) (hg : Gl X x) (hm : X.mg x = some (.ref f)) (hk : PySem.W.keepIn X.K (.ref f) = true) (hb : Binds X.K fd ps []) (hx : Passes CX X E)
    (ha : PA X (e :: es) t) (hdb : (x == ("__debug__" : Str)) = false := by decide) (he : starEach (e :: es) X.env = (false, eval e X.env) :: starEach es X.env := by rfl) (hpl : (backTo pos (starEach es X.env)).any (·.1) = false := by rfl) :
    PE X (.Call (.Name x p) (e :: es) [] pos) (tCall sp [] E t) := by
  constructor
  intro pins s σ H Q I h
  refine wpAny_Call_Name_kw (ld_glob I hg hm ?_ hdb)
  refine PySem.W.callWith_K (h₀ := X.base) I.ok.mod.kin hk (thn (ha.run pos pins s σ H _ I h) fun us s1 hh => ?_) he hpl
  obtain ⟨vs, H1, I1, r, q⟩ := hh
  rw [List.append_nil] at q
  exact ⟨I1.kIn, run_G F g hr hb hx I1 r q⟩
end
/-! ### repr -/
def aRepr (K : PySem.W.Frag) : RC := fun xs H Q => ∃ a d, xs = [.ref a] ∧ Dp K H (.ref a) d ∧ d.showable = true ∧ d.hasDict = false ∧ d.depth ≤ 60 ∧ d.shown.length ≤ sizeLine ∧ Q (.str d.shown) H
theorem c_repr {X : Cx} (g : NoG X.A) (hu : X.A.units + 64 < cLine) : CallR X (.builtin "repr") (aRepr X.K) := by
  intro pins s σ H xs us Q I r h
  obtain ⟨a, d, rfl, hd, sh, nd, dp, sz, q⟩ := h
  cases r with
  | cons rx rr =>
    cases rr
    cases rx
    obtain ⟨as, rd⟩ := Dp.reads I d (.ref a) (.ref a) hd rfl
    refine repr_of_reads' rd sh (fun z => ?_) g (by omega) (fun _ _ z => z) (fun h' u tk hk => ?_) sz
    · rw [nd] at z
      cases z
    · exact ⟨.str d.shown, H, I.kept (t' := tk) hk, ⟨u, rfl⟩, q⟩
end Z
end

section
namespace Z
open PySem PySem.Spec PyProof.Rows L2
open PySem.W (Frag findIn isFn selfFirst subIn InstAt Looks clsIn)
theorem lk_int_add : typeLookup (.type "int") "__add__" = pure (some (.builtin "int.__add__")) := by rw [typeLookup_type, builtinLookup_eq_fast]; kernel_rfl
theorem lk_int_radd : typeLookup (.type "int") "__radd__" = pure (some (.builtin "int.__radd__")) := by rw [typeLookup_type, builtinLookup_eq_fast]; kernel_rfl
theorem lk_int_sub : typeLookup (.type "int") "__sub__" = pure (some (.builtin "int.__sub__")) := by rw [typeLookup_type, builtinLookup_eq_fast]; kernel_rfl
theorem lk_int_rsub : typeLookup (.type "int") "__rsub__" = pure (some (.builtin "int.__rsub__")) := by rw [typeLookup_type, builtinLookup_eq_fast]; kernel_rfl
theorem lk_int_radd' : typeLookup (.type "int") (dunderR "add") = pure (some (.builtin "int.__radd__")) := by rw [typeLookup_type, builtinLookup_eq_fast]; kernel_rfl
theorem lk_int_rsub' : typeLookup (.type "int") (dunderR "sub") = pure (some (.builtin "int.__rsub__")) := by rw [typeLookup_type, builtinLookup_eq_fast]; kernel_rfl
theorem lk_obj_iadd : typeLookup (.type "object") (dunderI "add") = pure none := by rw [typeLookup_type, builtinLookup_eq_fast]; kernel_rfl
theorem fills_int_add : fillsNumberSlot (.type "int") "add" = pure true := by
  unfold fillsNumberSlot
  simp only [show PySem.dunder "add" = ("__add__" : Str) from by rfl, show dunderR "add" = ("__radd__" : Str) from by rfl, lk_int_add, lk_int_radd]
  rfl
theorem ty_int {M : Model} {h : Heap} {n : Int} {t : Tok} : Looks M h (typeOf (.int n t)) (.type "int") := fun _ _ _ _ _ q => wpAny_pure q
theorem fills_int_sub : fillsNumberSlot (.type "int") "sub" = pure true := by
  unfold fillsNumberSlot
  simp only [show PySem.dunder "sub" = ("__sub__" : Str) from by rfl, show dunderR "sub" = ("__rsub__" : Str) from by rfl, lk_int_sub, lk_int_rsub]
  rfl
section
variable {prog : Program} {w : World} {A : Around} {E : Value → Shared → Prop} {s : Shared} {K : Frag} {x C f : Addr} {ox : Obj} {od : Option Obj} {n : Int} {t : Tok} {Q : Value → Shared → Prop}
theorem mro_first {K : Frag} {C : Addr} (hc : selfFirst K C = true) : ∃ cd rest, clsIn K C = some cd ∧ cd.mro = .ref C :: rest := by
  obtain ⟨cd, hcd, hm⟩ := PySem.W.any_some hc
  cases q : cd.mro with
  | nil => rw [q] at hm; cases hm
  | cons a r => rw [q] at hm; exact ⟨cd, r, hcd, by rw [q]; rw [List.head?_cons] at hm; cases (beq_iff_eq.mp hm); rfl⟩
/-- ref + n, ref - n by an own method -/
theorem binop1_ref {nm : String} {ro : Option Value} {rb : Value} {Q : Option Value → Shared → Prop} (X : K.In s.heap) (I : InstAt s.heap x ox C od) (hc : selfFirst K C = true) (hs : findIn K (.ref C) (PySem.dunder nm) = some (some (.ref f))) (hf : isFn K (.ref f) = true)
    (hr : findIn K (.ref C) (dunderR nm) = some ro) (hro : ro = none ∨ ∃ g, ro = some (.ref g)) (fi : fillsNumberSlot (.type "int") nm = pure true) (li : typeLookup (.type "int") (dunderR nm) = pure (some rb)) (hsub : subIn K (.type "int") (.ref C) = some false)
    (h : wpAny (model prog w) A (call (.ref f) [.ref x, .int n t]) (PySem.W.CmpBack fun v => Q (some v)) E s) : wpAny (model prog w) A (binaryOp1 nm (.ref x) (.int n t)) Q E s := by
  obtain ⟨cd, rest, hcd, hm⟩ := mro_first hc
  unfold binaryOp1
  refine wpAny_bind (I.type.here (wpAny_bind (ty_int.here (wpAny_bind ((PySem.W.fills_K X hcd hm hs).here ?_)))))
  rw [if_neg (show ¬ ((Value.ref C == Value.type "int") = true) from by simp), fi]
  refine wpAny_bind (wpAny_pure ?_)
  dsimp only
  rw [if_pos (show (true && true) = true from rfl)]
  refine wpAny_bind ((PySem.W.looks_subIn X hsub).here ?_)
  rw [if_neg Bool.false_ne_true, if_neg Bool.false_ne_true, if_pos (show (true && true && !false) = true from rfl)]
  have slot : ∀ {Q' : Bool → Shared → Prop}, Q' true s → wpAny (model prog w) A (numberSlotInPython (.ref C) nm) Q' E s := fun {Q'} q => by
    unfold numberSlotInPython
    refine wpAny_bind ((PySem.W.looks_findIn X hs).here (wpAny_bind (wpAny_pure (wpAny_bind ((PySem.W.looks_findIn X hr).here ?_)))))
    rcases hro with e | ⟨g, e⟩
    · subst e
      exact wpAny_bind (wpAny_pure (wpAny_pure q))
    · subst e
      exact wpAny_bind (wpAny_pure (wpAny_pure q))
  refine wpAny_bind (slot ?_)
  rw [if_pos rfl]
  refine wpAny_bind (m := numberSlotInPython (.type "int") nm) (wpAny_pure ?_)
  rw [if_pos (show (!false) = true from rfl), li]
  refine wpAny_bind (wpAny_pure ?_)
  rw [if_pos rfl]
  refine wpAny_bind (m := tryMethod (.ref x) _ _) ?_
  unfold tryMethod
  refine wpAny_bind (PySem.W.special_fn X I hs (beq_iff_eq.mp hf) (wpAny_mono h (fun v s' hv => ?_) fun _ _ e => e))
  cases v <;> first | exact hv.elim | exact wpAny_pure (wpAny_pure hv)
/-- n + ref, n - ref by an own reflected method -/
theorem binop1_int {nm : String} {Q : Option Value → Shared → Prop} (X : K.In s.heap) (I : InstAt s.heap x ox C od) (hc : selfFirst K C = true) (hs0 : ∃ g, findIn K (.ref C) (PySem.dunder nm) = some (some (.ref g))) (hs : findIn K (.ref C) (dunderR nm) = some (some (.ref f))) (hf : isFn K (.ref f) = true)
    (fi : fillsNumberSlot (.type "int") nm = pure true) (hsub : subIn K (.ref C) (.type "int") = some false)
    (hl : ∀ Q' : Option Value → Shared → Prop, Q' none s → wpAny (model prog w) A (tryMethod (.int n t) (PySem.dunder nm) (.ref x)) Q' E s)
    (h : wpAny (model prog w) A (call (.ref f) [.ref x, .int n t]) (PySem.W.CmpBack fun v => Q (some v)) E s) : wpAny (model prog w) A (binaryOp1 nm (.int n t) (.ref x)) Q E s := by
  obtain ⟨cd, rest, hcd, hm⟩ := mro_first hc
  obtain ⟨g, hs0⟩ := hs0
  unfold binaryOp1
  refine wpAny_bind (ty_int.here (wpAny_bind (I.type.here ?_)))
  rw [fi]
  refine wpAny_bind (wpAny_pure ?_)
  rw [if_neg (show ¬ ((Value.type "int" == Value.ref C) = true) from by simp)]
  refine wpAny_bind ((PySem.W.fills_K X hcd hm hs0).here ?_)
  dsimp only
  rw [if_pos (show (true && true) = true from rfl)]
  refine wpAny_bind ((PySem.W.looks_subIn X hsub).here ?_)
  rw [if_neg Bool.false_ne_true, if_neg Bool.false_ne_true, if_pos (show (true && true && !false) = true from rfl)]
  refine wpAny_bind (m := numberSlotInPython (.type "int") nm) (wpAny_pure ?_)
  rw [if_neg Bool.false_ne_true, if_pos rfl]
  refine wpAny_bind (hl _ ?_)
  dsimp only
  rw [if_neg Bool.false_ne_true, if_pos (show (true && !false) = true from rfl)]
  refine wpAny_bind (m := tryMethod (.ref x) _ _) ?_
  unfold tryMethod
  refine wpAny_bind (PySem.W.special_fn X I hs (beq_iff_eq.mp hf) (wpAny_mono h (fun v s' hv => ?_) fun _ _ e => e))
  cases v <;> first | exact hv.elim | exact wpAny_pure (wpAny_bind (wpAny_rule (wpAny_pure hv)))
theorem binop_of {op : Operator} {a b : Value} (h : wpAny (model prog w) A (binaryOp1 op.info.2 a b) (fun o s' => ∃ v, o = some v ∧ Q v s') E s) : wpAny (model prog w) A (binaryOp op a b) Q E s := by
  unfold binaryOp
  refine wpAny_holding (wpAny_bind (wpAny_mono h (fun o s' z => ?_) fun _ _ e => e))
  obtain ⟨v, rfl, q⟩ := z
  exact wpAny_pure q
/-- ref += n, no own __iadd__ -/
theorem inplace_of {a : Value} (X : K.In s.heap) (I : InstAt s.heap x ox C od) (hm : ∃ cd, clsIn K C = some cd ∧ cd.mro = [.ref C, .type "object"]) (hi : findIn K (.ref C) (dunderI "add") = some none)
    (h : wpAny (model prog w) A (binaryOp1 "add" (.ref x) a) (fun o s' => ∃ v, o = some v ∧ Q v s') E s) : wpAny (model prog w) A (inplaceOp .Add (.ref x) a) Q E s := by
  obtain ⟨cd, hcd, hm⟩ := hm
  unfold inplaceOp
  refine wpAny_holding (wpAny_bind (I.type.here ?_))
  have slot : ∀ {Q' : Bool → Shared → Prop}, Q' false s → wpAny (model prog w) A (fillsInplaceSlot (.ref C) "add" true) Q' E s := fun {Q'} q => by
    unfold fillsInplaceSlot
    refine wpAny_bind ((PySem.W.looks_clsIn X hcd).andThen (f := fun cd => pure cd.mro) .now A _ E s (fun _ _ z => z) ?_)
    rw [hm, List.anyM_cons]
    refine wpAny_bind (wpAny_bind ((PySem.W.looks_findIn X hi).here (wpAny_pure ?_)))
    rw [if_neg Bool.false_ne_true, List.anyM_cons]
    refine wpAny_bind (wpAny_bind ?_)
    rw [lk_obj_iadd]
    refine wpAny_pure (wpAny_pure ?_)
    rw [if_neg Bool.false_ne_true, List.anyM_nil]
    exact wpAny_pure q
  refine wpAny_bind (slot ?_)
  rw [if_neg Bool.false_ne_true]
  refine wpAny_bind (wpAny_mono h (fun o s' z => ?_) fun _ _ e => e)
  obtain ⟨v, rfl, q⟩ := z
  exact wpAny_pure q
/-- int.__add__(n, ref) declines -/
theorem decl_add {nm : Str} (e : nm = PySem.dunder "add") {Q' : Option Value → Shared → Prop} (hx : s.heap.get? x = some ox) (hp : ox.data = .plain) (q : Q' none s) : wpAny (model prog w) A (tryMethod (.int n t) nm (.ref x)) Q' E s := by
  have sl : Slot "int" nm "int.__add__" := by rw [e]; exact F.slot_int_add
  refine wpAny_tryMethod_declines (typeIs_int s n t) sl (GQ.call_here sl (typeIs_int s n t) F.entry_int_add (F.args_int_add_2 _ _) ?_)
  unfold Builtin.«int.__add__» Builtin.Int.intBinary
  have e1 : slotArgs "__add__" 1 ⟨[.int n t, .ref x], []⟩ = pure (.int n t, [.ref x]) := by
    unfold slotArgs
    rw [if_neg (show ¬ ((!([] : List (Str × Value)).isEmpty) = true) from Bool.false_ne_true)]
    dsimp only
    rw [if_neg (show ¬ (([Value.ref x].length != 1) = true) from Bool.false_ne_true)]
  have e2 : Builtin.Int.intOfSelf (.int n t) = pure n := rfl
  rw [e1]
  refine wpAny_bind (wpAny_pure ?_)
  dsimp only
  rw [e2]
  refine wpAny_bind (wpAny_pure (wpAny_bind ?_))
  dsimp only [List.headD]
  unfold asInt?
  refine wpAny_bind (wpAny_load hx ?_)
  rw [hp]
  refine wpAny_pure ?_
  exact wpAny_bind (wpAny_rule (wpAny_pure ⟨rfl, q⟩))
end
end Z
end

section
namespace Z
open PySem PySem.Spec PyProof.Rows L2
/-! ### operators of an own class, as rules -/
/-- what of the text the class must have for op -/
structure OwnOp (K : PySem.W.Frag) (C f : Addr) (nm : String) : Prop where
  sf : PySem.W.selfFirst K C = true
  at_ : PySem.W.findIn K (.ref C) (PySem.dunder nm) = some (some (.ref f))
  fn : PySem.W.isFn K (.ref f) = true
  rr : ∃ ro, PySem.W.findIn K (.ref C) (dunderR nm) = some ro ∧ (ro = none ∨ ∃ g, ro = some (.ref g))
  sub : PySem.W.subIn K (.type "int") (.ref C) = some false
structure OwnR (K : PySem.W.Frag) (C f : Addr) (nm : String) : Prop where
  sf : PySem.W.selfFirst K C = true
  at0 : ∃ g, PySem.W.findIn K (.ref C) (PySem.dunder nm) = some (some (.ref g))
  at_ : PySem.W.findIn K (.ref C) (dunderR nm) = some (some (.ref f))
  fn : PySem.W.isFn K (.ref f) = true
  sub : PySem.W.subIn K (.ref C) (.type "int") = some false
structure OwnU (K : PySem.W.Frag) (C f : Addr) (nm : Str) : Prop where
  at_ : PySem.W.findIn K (.ref C) nm = some (some (.ref f))
  fn : PySem.W.isFn K (.ref f) = true
theorem back_of {Q : Value → Shared → Prop} {u : Value} {s' : Shared} {v : V} (r : RelV v u) (q : Q u s') : PySem.W.CmpBack Q u s' := by
  cases v with
  | non => cases (show u = Value.none from r); exact q
  | bl b => cases (show u = Value.bool b from r); exact q
  | int i => obtain ⟨t, e⟩ := (show ∃ t, u = Value.int i t from r); cases e; exact q
  | str z => obtain ⟨t, e⟩ := (show ∃ t, u = Value.str z t from r); cases e; exact q
  | byt z => obtain ⟨t, e⟩ := (show ∃ t, u = Value.bytes z t from r); cases e; exact q
  | flt z => obtain ⟨t, e⟩ := (show ∃ t, u = Value.float z t from r); cases e; exact q
  | ref a => cases (show u = Value.ref a from r); exact q
  | ty n => cases (show u = Value.type n from r); exact q
section
variable {X : Cx} {CX : CXT} {k : Nat} {f C : Addr} {fd : FuncData} {ps : List Str} {sp : Sp} {E : XK}
theorem inst_of {pins : List (Addr × Obj)} {σ : L2.St} {H : Hp} {s : Shared} {a dx : Addr} {fs : List (Str × V)} (I : Inv X pins σ H s) (h : H a = some (.ins C dx fs)) : ∃ od, PySem.W.InstAt s.heap a (PySem.W.instObj C dx) C od := by
  obtain ⟨mA, J, _⟩ := ins_get I.hok h
  obtain ⟨od, J', _⟩ := J.look
  exact ⟨_, J'⟩
def aOwnL (C : Addr) (sp : Sp) (E : XK) : R2 := fun x y H Q => ∃ a dx fs n, x = .ref a ∧ y = .int n ∧ H a = some (.ins C dx fs) ∧ sp [.ref a, .int n] H Q E
def aOwnR (C : Addr) (sp : Sp) (E : XK) : R2 := fun x y H Q => ∃ a dx fs n, x = .int n ∧ y = .ref a ∧ H a = some (.ins C dx fs) ∧ sp [.ref a, .int n] H Q E
def aOwnU (C : Addr) (sp : Sp) (E : XK) : V → Hp → VK → Prop := fun x H Q => ∃ a dx fs, x = .ref a ∧ H a = some (.ins C dx fs) ∧ sp [.ref a] H Q E
theorem own1L {nm : String} {rb : Value} (O : OwnOp X.K C f nm) (F : FnOk X.prog X.w X.K X.mg X.base CX k f fd ps sp) (hr : Room k X.A) (hb : Binds X.K fd ps []) (hx : Passes CX X E) (fi : fillsNumberSlot (.type "int") nm = pure true) (li : typeLookup (.type "int") (dunderR nm) = pure (some rb))
    {pins : List (Addr × Obj)} {σ : L2.St} {H : Hp} {s : Shared} {a dx : Addr} {fs : List (Str × V)} {n : Int} {t : Tok} {Q : VK} (I : Inv X pins σ H s) (ha : H a = some (.ins C dx fs)) (h : sp [.ref a, .int n] H Q E) :
    wpAny (model X.prog X.w) X.A (binaryOp1 nm (.ref a) (.int n t)) (fun o s' => ∃ v, o = some v ∧ EP X pins σ Q v s') X.xe s := by
  obtain ⟨od, J⟩ := inst_of I ha
  obtain ⟨ro, e1, e2⟩ := O.rr
  refine binop1_ref I.kIn J O.sf O.at_ O.fn e1 e2 fi li O.sub ?_
  refine wpAny_mono (run_fn (dvs := []) (ds := []) (us := [.ref a, .int n t]) (vs := [.ref a, .int n]) F hr hb .nil hx I (.cons rfl (.cons ⟨t, rfl⟩ .nil)) h) (fun u s' q => ?_) fun _ _ z => z
  obtain ⟨v, H', I', r, q⟩ := q
  exact back_of r ⟨u, rfl, v, H', I', r, q⟩
theorem o_ownAdd (O : OwnOp X.K C f "add") (F : FnOk X.prog X.w X.K X.mg X.base CX k f fd ps sp) (hr : Room k X.A) (hb : Binds X.K fd ps []) (hx : Passes CX X E) : OpR X (binaryOp .Add) (aOwnL C sp E) := by
  intro pins s σ H x y v u Q I rx ry h
  obtain ⟨a, dx, fs, n, rfl, rfl, ha, h⟩ := h
  cases rx
  obtain ⟨t, rfl⟩ := ry
  exact binop_of (own1L O F hr hb hx fills_int_add lk_int_radd' I ha h)
theorem o_ownSub (O : OwnOp X.K C f "sub") (F : FnOk X.prog X.w X.K X.mg X.base CX k f fd ps sp) (hr : Room k X.A) (hb : Binds X.K fd ps []) (hx : Passes CX X E) : OpR X (binaryOp .Sub) (aOwnL C sp E) := by
  intro pins s σ H x y v u Q I rx ry h
  obtain ⟨a, dx, fs, n, rfl, rfl, ha, h⟩ := h
  cases rx
  obtain ⟨t, rfl⟩ := ry
  exact binop_of (own1L O F hr hb hx fills_int_sub lk_int_rsub' I ha h)
theorem o_ownRadd (O : OwnR X.K C f "add") (F : FnOk X.prog X.w X.K X.mg X.base CX k f fd ps sp) (hr : Room k X.A) (hb : Binds X.K fd ps []) (hx : Passes CX X E) : OpR X (binaryOp .Add) (aOwnR C sp E) := by
  intro pins s σ H x y v u Q I rx ry h
  obtain ⟨a, dx, fs, n, rfl, rfl, ha, h⟩ := h
  obtain ⟨t, rfl⟩ := rx
  cases ry
  obtain ⟨od, J⟩ := inst_of I ha
  refine binop_of (op := .Add) (binop1_int I.kIn J O.sf O.at0 O.at_ O.fn fills_int_add O.sub (fun Q' q => decl_add rfl J.at_ rfl q) ?_)
  refine wpAny_mono (run_fn (dvs := []) (ds := []) (us := [.ref a, .int n t]) (vs := [.ref a, .int n]) F hr hb .nil hx I (.cons rfl (.cons ⟨t, rfl⟩ .nil)) h) (fun u s' q => ?_) fun _ _ z => z
  obtain ⟨v, H', I', r, q⟩ := q
  exact back_of r ⟨u, rfl, v, H', I', r, q⟩
/-- x += n by an own __add__ -/
theorem ip_ownAdd (O : OwnOp X.K C f "add") (hm : ∃ cd, PySem.W.clsIn X.K C = some cd ∧ cd.mro = [.ref C, .type "object"]) (hi : PySem.W.findIn X.K (.ref C) (dunderI "add") = some none) (F : FnOk X.prog X.w X.K X.mg X.base CX k f fd ps sp) (hr : Room k X.A) (hb : Binds X.K fd ps []) (hx : Passes CX X E) : PIp X .Add (aOwnL C sp E) := by
  intro pins s σ H x y v u Q I rx ry h
  obtain ⟨a, dx, fs, n, rfl, rfl, ha, h⟩ := h
  cases rx
  obtain ⟨t, rfl⟩ := ry
  obtain ⟨od, J⟩ := inst_of I ha
  exact inplace_of I.kIn J hm hi (own1L O F hr hb hx fills_int_add lk_int_radd' I ha h)
theorem special_run {nm : Str} (O : OwnU X.K C f nm) (F : FnOk X.prog X.w X.K X.mg X.base CX k f fd ps sp) {A : Around} (hA : ∀ {t : Sem Value} {Q : Value → Shared → Prop} {s : Shared}, wpAny (model X.prog X.w) X.A t Q X.xe s → wpAny (model X.prog X.w) A t Q X.xe s) (hr : Room k X.A) (hb : Binds X.K fd ps []) (hx : Passes CX X E)
    {pins : List (Addr × Obj)} {σ : L2.St} {H : Hp} {s : Shared} {a dx : Addr} {fs : List (Str × V)} {Q : VK} (I : Inv X pins σ H s) (ha : H a = some (.ins C dx fs)) (h : sp [.ref a] H Q E) :
    wpAny (model X.prog X.w) A (callSpecial? (.ref a) nm []) (fun o s' => ∃ v, o = some v ∧ EP X pins σ Q v s') X.xe s := by
  obtain ⟨od, J⟩ := inst_of I ha
  refine PySem.W.special_fn I.kIn J O.at_ (beq_iff_eq.mp O.fn) (hA ?_)
  exact wpAny_mono (run_fn (dvs := []) (ds := []) (us := [.ref a]) (vs := [.ref a]) F hr hb .nil hx I (.cons rfl .nil) h) (fun u s' q => ⟨u, rfl, q⟩) fun _ _ z => z
theorem u_ownNeg (O : OwnU X.K C f "__neg__") (F : FnOk X.prog X.w X.K X.mg X.base CX k f fd ps sp) (hr : Room k X.A) (hb : Binds X.K fd ps []) (hx : Passes CX X E) : UnR X (unaryOp .USub) (aOwnU C sp E) := by
  intro pins s σ H x v Q I rx h
  obtain ⟨a, dx, fs, rfl, ha, h⟩ := h
  cases rx
  unfold unaryOp
  refine wpAny_holding ?_
  dsimp only
  rw [if_neg (show ¬ ((UnaryOp.USub == UnaryOp.Not) = true) from by decide)]
  refine wpAny_bind (wpAny_mono (special_run O F (fun z => z) hr hb hx I ha h) (fun o s' z => ?_) fun _ _ z => z)
  obtain ⟨v, rfl, q⟩ := z
  exact wpAny_pure q
theorem run_in1 {pins : List (Addr × Obj)} {σ : L2.St} {H : Hp} {s : Shared} {Q : VK} {us : List Value} {vs : List V} (F : FnOk X.prog X.w X.K X.mg X.base CX k f fd ps sp) (hr : Room (k + 1) X.A) (hb : Binds X.K fd ps []) (hx : Passes CX X E)
    (I : Inv X pins σ H s) (r : Vals vs us) (h : sp vs H Q E) : wpAny (model X.prog X.w) X.A.in1 (call (.ref f) us) (EP X pins σ Q) X.xe s := by
  have hl : us.length = ps.length := r.length.symm.trans (F.len _ _ _ _ h)
  have hb' : BindsTo s fd ⟨us, []⟩ (ps.zip us) := by
    have q := hb s us I.kIn (by rw [List.append_nil]; exact hl)
    rwa [List.append_nil] at q
  refine wpAny_call (codeAny_mono (F.run X.A.in1 X.stack s H ⟨us, []⟩ us vs Q E hr.in1 I.env0.in1 hb' r h) fun res s' hq => ?_)
  match res, hq with
  | .error er, hq => exact hx pins σ H s er s' I hq
  | .ok (.ret u), hq => exact I.after hq
  | .ok .next, hq => exact hq.elim
  | .ok .brk, hq => exact hq.elim
  | .ok .cont, hq => exact hq.elim
/-- abs(x), x of an own class -/
def aAbsO (C : Addr) (sp : Sp) (E : XK) : RC := fun xs H Q => ∃ a dx fs, xs = [.ref a] ∧ H a = some (.ins C dx fs) ∧ sp [.ref a] H Q E
theorem c_absO (O : OwnU X.K C f "__abs__") (F : FnOk X.prog X.w X.K X.mg X.base CX k f fd ps sp) (hr : Room (k + 1) X.A) (hb : Binds X.K fd ps []) (hx : Passes CX X E) : CallR X (.builtin "abs") (aAbsO C sp E) := by
  intro pins s σ H xs us Q I r h
  obtain ⟨a, dx, fs, rfl, ha, h⟩ := h
  obtain ⟨u, rfl, rx⟩ := vals1 r
  cases rx
  obtain ⟨od, J⟩ := inst_of I ha
  refine Calls.call_function_entry kind_abs plain_abs entry_abs (args_abs _) ?_
  unfold Builtin.«abs»
  refine wpAny_bind (m := oneArg "abs" _) (wpAny_pure ?_)
  refine wpAny_bind (m := callSpecial? (.ref a) (Str.ofString "__abs__")) (PySem.W.special_fn I.kIn J O.at_ (beq_iff_eq.mp O.fn) (wpAny_mono (run_in1 (us := [.ref a]) (vs := [.ref a]) F hr hb hx I (.cons rfl .nil) h) (fun u s' q => ?_) fun _ _ z => z))
  exact wpAny_pure ⟨u, rfl, q⟩
end
end Z
end

section
namespace Z
open PySem PySem.Spec PyProof.Rows L2
/-! ### o.m(k = v): one keyword, one parameter behind self -/
def tMethK1 (C : Addr) (m : Str) (sp : Sp) (E : XK) (ta tb : TE) : TE := fun σ H Q => ta σ H fun x H1 => ∃ a dx fs, x = .ref a ∧ H1 a = some (.ins C dx fs) ∧ fs.lookup m = none ∧ tb σ H1 fun x H2 => ∃ v, [x] = [v] ∧ sp [.ref a, v] H2 Q E
instance {x : V} {R : V → Prop} : Stp (∃ v, [x] = [v] ∧ R v) (R x) := ⟨fun q => ⟨x, rfl, q⟩⟩
section
variable {X : Cx} {CX : CXT} {k : Nat} {f C : Addr} {fd : FuncData} {p1 p2 : Str} {sp : Sp} {E : XK} {m : Str} {pos apos kpos : Pos} {e o : Expr} {ta te : TE}
theorem pe_methK1 {pl : Sem Bool} (he : PE X o ta) (c : Cls X.K C) (hm : Meth X.K C m f) (F : FnOk X.prog X.w X.K X.mg X.base CX k f fd [p1, p2] sp) (hr : Room k X.A)
    (hb : ∀ (s : Shared) (u v : Value), X.K.In s.heap → BindsTo s fd ⟨[u], [(p2, v)]⟩ [(p1, u), (p2, v)]) (hx : Passes CX X E) (hv : PE X e te)
    (hall : (backToKw pos (keywordEach [⟨some p2, e, kpos⟩] X.env)).all (·.1.isSome) = true := by rfl) (hks : (backToKw pos (keywordEach [⟨some p2, e, kpos⟩] X.env)).filterMap (·.1) = [p2] := by rfl)
    (hpl : ((backTo pos (starEach [] X.env)).any (·.1) || (backToKw pos (keywordEach [⟨some p2, e, kpos⟩] X.env)).any (·.1.isNone)) = false := by rfl)
    (ht : eval (.Call (.Attribute o m apos) [] [⟨some p2, e, kpos⟩] pos) X.env = (do
      let ov ← eval o X.env
      standAt apos.atName
      let (f, first) ← holding [ov] (getMethod ov m pl)
      callWith pos f first (backTo pos (starEach [] X.env)) (backToKw pos (keywordEach [⟨some p2, e, kpos⟩] X.env))) := by rfl) :
    PE X (.Call (.Attribute o m apos) [] [⟨some p2, e, kpos⟩] pos) (tMethK1 C m sp E ta te) := by
  constructor
  intro pins s σ H Q I h
  refine PySem.W.methodCall_KW (pl := pl) (thn (he.run pins s σ H _ I h) fun u s1 hh => ?_) ht
  obtain ⟨x, H1, I1, rx, a, dx, fs, ex, ea, l, q⟩ := hh
  subst ex
  obtain rfl : u = Value.ref a := rx
  refine getmeth_ok I1 ea c hm l ?_
  refine PySem.W.callWith_KW0 (h₀ := X.base) I1.ok.mod.kin hm.kp hall ?_ hpl
  have pk : PK X [⟨some p2, e, kpos⟩] (tCons te tNil) := pk_cons hv pk_nil
  refine thn (pk.run pos pins s1 σ H1 (fun zs H2 => ∃ v, zs = [v] ∧ sp [.ref a, v] H2 Q E) I1 q) fun ws s2 hw => ?_
  obtain ⟨zs, H2, I2, rz, v, rfl, q2⟩ := hw
  refine ⟨I2.kIn, ?_⟩
  rw [hks]
  obtain ⟨u2, rfl, rv⟩ := vals1 rz
  refine wpAny_call (codeAny_mono (F.run X.A X.stack s2 H2 ⟨[.ref a], [(p2, u2)]⟩ [.ref a, u2] [.ref a, v] Q E hr I2.env0 (hb s2 (.ref a) u2 I2.kIn) (.cons rfl (.cons rv .nil)) q2) fun res s' hq => ?_)
  match res, hq with
  | .error er, hq => exact hx pins σ H2 s2 er s' I2 hq
  | .ok (.ret u), hq => exact I2.after hq
  | .ok .next, hq => exact hq.elim
  | .ok .brk, hq => exact hq.elim
  | .ok .cont, hq => exact hq.elim
end
/-! ### exceptions with one field -/
/-- __init__(self, v): self.n = v -/
def spX1 (C : Addr) (n : Str) : Sp := fun vs H Q _ => ∃ (a : Addr) (v : V), vs = [.ref a, v] ∧ H a = some (exo a C none) ∧ ∀ dx, H dx = none → dx ≠ a → Q .non (upd (upd H dx (exd dx [(n, v)])) a (exo a C (some dx)))
/-- X(e): the class, a new dict with the field -/
def tX1 (C : Addr) (n : Str) (te : TE) : L2.St → Hp → XK → Prop := fun σ H Q => te σ H fun x H1 => ∃ v, [x] = [v] ∧ ∀ d, H1 d = none → Q (.ref C) (some d) (upd H1 d (.xd [(n, v)]))
structure XcT (K : PySem.W.Frag) (mg : Str → Option Value) (x : Str) (C fI : Addr) : Prop where
  ox : OexC K C
  iC : PySem.W.findIn K (.ref C) "__init__" = some (some (.ref fI))
  tI : PySem.W.typeIn K (.ref fI) = some (.type "function")
  g : mg x = some (.ref C)
section
variable {X : Cx} {CX : CXT} {k : Nat} {C fI : Addr} {fd : FuncData} {x n q1 q2 : Str} {p pos : Pos} {e : Expr} {te : TE}
theorem upd_back {H : Hp} {a d : Addr} {o1 o2 o3 : HO} {fs : List (Str × V)} (ha : H a = none) (ne : d ≠ a) : upd (del (upd (upd (upd H a o1) d o2) a o3) a) d (.xd fs) = upd H d (.xd fs) := by
  funext b
  by_cases hb : b = d
  · rw [hb, upd_same, upd_same]
  · rw [upd_ne hb, upd_ne hb]
    by_cases hb2 : b = a
    · rw [hb2, del_same, ha]
    · rw [del_ne hb2, upd_ne hb2, upd_ne hb, upd_ne hb2]
def mo (te : TE) : TE := fun σ H Q => ∃ Q0 : VK, te σ H Q0 ∧ ∀ v H', Q0 v H' → Q v H'
theorem moE (he : PE X e te) : PE X e (mo te) := ⟨fun pins s σ H Q I h => by
  obtain ⟨Q0, h0, hq⟩ := h
  refine thn (he.run pins s σ H Q0 I h0) fun u s1 z => ?_
  obtain ⟨v, H', I', r, q⟩ := z
  exact ⟨v, H', I', r, hq v H' q⟩⟩
theorem pmk_x1 (T : XcT X.K X.mg x C fI) (F : FnOk X.prog X.w X.K X.mg X.base (L2.CX X.prog X.w) k fI fd [q1, q2] (spX1 C n)) (hr : Room (k + 1) X.A) (hb : Binds X.K fd [q1, q2] []) (hg : Gl X x) (he : PE X e te)
    (hdb : (x == ("__debug__" : Str)) = false := by decide) (hst : starEach (e :: []) X.env = (false, eval e X.env) :: starEach [] X.env := by rfl) (hpl : (backTo pos (starEach [] X.env)).any (·.1) = false := by rfl) :
    PMk X (.Call (.Name x p) [e] [] pos) (tX1 C n te) := by
  have P := pmk_oex (x := x) (p := p) (pos := pos) (es := []) (dvs := []) (ds := []) T.ox T.iC T.tI F hr hb .nil passL hg T.g (pa_cons (moE he) pa_nil hst) hdb hst hpl
  intro pins s σ H Q I h
  refine P pins s σ H Q I ⟨_, h, fun v H1 hq => ?_⟩
  obtain ⟨v', e1, hq⟩ := hq
  obtain rfl : v = v' := by injection e1
  refine ⟨by show 1 ≤ 1000; omega, fun a ha => ⟨a, v, rfl, upd_same, fun dx hdx ne => ⟨rfl, dx, [(n, v)], upd_same, ?_, ?_, ?_⟩⟩⟩
  · rw [upd_ne ne, upd_same]
  · rw [upd_ne ne] at hdx
    exact hdx
  · rw [upd_ne ne] at hdx
    rw [upd_back ha ne]
    exact hq dx hdx
end
end Z
end

section
namespace Z
open PySem PySem.Spec PyProof.Rows L2 LamX
/-! ### the end of a law whose defs show things (FnG), with tables of code objects -/
section
variable {P : Program} {w : World} {K : PySem.W.Frag} {mg mb : Str → Option Value} {k : Nat} {fa a : Addr} {cs : List (Addr × Addr)} {fd : FuncData} {x : Str} {sp : Sp} {s1 : Shared} {vs : List Value} {ns : List Int}
abbrev scriptO (vs : List Value) : Obj := { cls := .type "list", data := .seq vs.toArray }
abbrev tabO : Obj := { cls := .none, data := .fields #[] }
/-- what is tracked at the law's entry -/
def H0 (K : PySem.W.Frag) (cs : List (Addr × Addr)) (a : Addr) (vs : List Value) (ns : List Int) : Hp := fun b =>
  if b = a ∧ K.lookup a = none then some (.frz (scriptO vs) (.lst (ns.map V.int))) else if b ∈ cs.map (·.2) then some (.tbl #[]) else none
theorem H0_cases {b : Addr} {u : HO} (h : H0 K cs a vs ns b = some u) : (b = a ∧ K.lookup a = none ∧ u = .frz (scriptO vs) (.lst (ns.map V.int))) ∨ (b ∈ cs.map (·.2) ∧ u = .tbl #[]) := by
  unfold H0 at h
  by_cases h1 : b = a ∧ K.lookup a = none
  · rw [if_pos h1] at h
    exact .inl ⟨h1.1, h1.2, (Option.some.inj h).symm⟩
  · rw [if_neg h1] at h
    by_cases h2 : b ∈ cs.map (·.2)
    · rw [if_pos h2] at h
      exact .inr ⟨h2, (Option.some.inj h).symm⟩
    · rw [if_neg h2] at h
      cases h
theorem law_callG (KX : K.In s1.heap) (hns : s1.heap.Ns mainGlobals mg) (hbn : s1.heap.Ns builtinsNs mb) (hbb : ∀ y : Str, y ≠ "__name__" → mb y = bootBuiltins y) (hlim : s1.heap.NoLimit) (hgen : s1.gens = #[])
    (hT : ∀ p ∈ cs, s1.heap.get? p.2 = some tabO) (nT : ∀ p ∈ cs, K.lookup p.2 = none) (hC : ∀ p ∈ cs, PySem.W.CodeHd s1.heap p.1 p.2)
    (hbm : ∃ (bm : Addr) (ob : Obj), mg "__builtins__" = some (.ref bm) ∧ bm ≠ builtinsNs ∧ s1.heap.get? bm = some ob ∧ ob.cls = .type "module" ∧ ob.dict = some builtinsNs ∧ ob.data = .plain)
    (ha : s1.heap.get? a = some (scriptO vs)) (hi : IntsAre vs ns) (hl : ns.length ≤ sizeLine) (hr : Room k callerA)
    {Z : Heap → Prop} (hZ : (∀ {b : Addr} {m : Str → Option Value}, s1.heap.Ns b m → (hidT s1.heap (H0 K cs a vs ns)).Ns b m) → Z (hidT s1.heap (H0 K cs a vs ns)))
    (F : ∀ base : Heap, K.In base → base.Ns mainGlobals mg → Z base → (∀ p ∈ cs, TabB base mg p.1 p.2) → FnG P w K mg base (L2.CX P w) k fa fd [x] sp) (hbind : ∀ (s : Shared) (u : Value), BindsTo s fd ⟨[u], []⟩ [(x, u)])
    (hsp : ∀ H : Hp, (∀ p ∈ cs, H p.2 = some (.tbl #[])) → SqL K H a (ns.map V.int) → sp [.ref a] H (fun v _ => v = .bl true) fun _ _ _ => False) :
    codeAny (model P w) callerA (.call (.ref fa) ⟨[.ref a], []⟩) (fun r s' => r = .ok (.ret (.bool true)) ∧ OldK s1.heap s'.heap ∧ s'.os = s1.os ∧ AllBare s'.gens) s1 := by
  have rv := vals_ints hi
  have lenV := hi.length
  have isTab : ∀ b, b ∈ cs.map (·.2) → s1.heap.get? b = some tabO := by
    intro b hb
    obtain ⟨p, hp, rfl⟩ := List.mem_map.mp hb
    exact hT p hp
  have aT : ¬ a ∈ cs.map (·.2) := by
    intro mem
    have := congrArg Obj.data (Option.some.inj (ha.symm.trans (isTab a mem)))
    simp at this
  have inTab : ∀ p ∈ cs, p.2 ∈ cs.map (·.2) := fun p hp => List.mem_map.mpr ⟨p, hp, rfl⟩
  have tabH : ∀ p ∈ cs, H0 K cs a vs ns p.2 = some (.tbl #[]) := by
    intro p hp
    unfold H0
    rw [if_neg (show ¬ (p.2 = a ∧ K.lookup a = none) from fun z => aT (z.1 ▸ inTab p hp)), if_pos (inTab p hp)]
  have hok : HOk P w (H0 K cs a vs ns) s1.heap := by
    intro b u hb
    rcases H0_cases hb with ⟨rfl, hk, rfl⟩ | ⟨hm, rfl⟩
    · exact ⟨ha, by rw [List.length_map]; exact hl, vs, _, rv, ha⟩
    · exact isTab b hm
  have hS : SqL K (H0 K cs a vs ns) a (ns.map V.int) := by
    cases hk : K.lookup a with
    | none => exact .inl (.inr ⟨scriptO vs, if_pos ⟨rfl, hk⟩⟩)
    | some o =>
      have e : o = scriptO vs := Option.some.inj ((KX a o hk).symm.trans ha)
      subst e
      exact .inr ⟨_, vs.toArray, _, hk, rfl, rfl, rfl, by rw [List.size_toArray, lenV]; exact hl, by simpa using rv⟩
  -- the ground
  have gnd : ∀ {b : Addr} {o : Obj}, s1.heap.get? b = some o → H0 K cs a vs ns b = none → (hidT s1.heap (H0 K cs a vs ns)).get? b = some o := fun e1 e2 => hidT_get e1 e2
  have out : ∀ {b : Addr} {o : Obj}, s1.heap.get? b = some o → (∀ us m, o.data ≠ .seq us m) → o.data ≠ .fields #[] → H0 K cs a vs ns b = none := by
    intro b o e1 e2 e3
    cases q : H0 K cs a vs ns b with
    | none => rfl
    | some u =>
      rcases H0_cases q with ⟨rfl, _, _⟩ | ⟨hm, _⟩
      · rw [ha] at e1
        cases e1
        exact absurd rfl (e2 _ _)
      · rw [isTab b hm] at e1
        cases e1
        exact absurd rfl e3
  have nsG : ∀ {b : Addr} {m : Str → Option Value}, s1.heap.Ns b m → (hidT s1.heap (H0 K cs a vs ns)).Ns b m := by
    intro b m ⟨o, es, ep, e1, e2, e3⟩
    refine ⟨o, es, ep, gnd e1 (out e1 (fun us m z => ?_) fun z => ?_), e2, e3⟩
    · rw [e2] at z; cases z
    · rw [e2] at z; cases z
  have KG : K.In (hidT s1.heap (H0 K cs a vs ns)) := by
    intro b o hb
    refine gnd (KX b o hb) ?_
    cases q : H0 K cs a vs ns b with
    | none => rfl
    | some u =>
      rcases H0_cases q with ⟨rfl, hk, _⟩ | ⟨hm, _⟩
      · rw [hk] at hb; cases hb
      · obtain ⟨p, hp, rfl⟩ := List.mem_map.mp hm
        rw [nT p hp] at hb; cases hb
  have limG : (hidT s1.heap (H0 K cs a vs ns)).NoLimit := by
    obtain ⟨mc, e1, e2⟩ := hlim
    exact ⟨mc, nsG e1, e2⟩
  have modG : L2.Mod K mg (hidT s1.heap (H0 K cs a vs ns)) := ⟨KG, nsG hns, ⟨mb, nsG hbn, hbb⟩, limG⟩
  have TB : ∀ p ∈ cs, TabB (hidT s1.heap (H0 K cs a vs ns)) mg p.1 p.2 := by
    intro p hp
    refine ⟨?_, ?_, ?_⟩
    · obtain ⟨o, us, file, tf, flags, tg, inF, text, tt, e1, r1, r2, rest⟩ := hC p hp
      refine ⟨o, us, file, tf, flags, tg, inF, text, tt, gnd e1 (out e1 (fun us' m z => ?_) fun z => ?_), r1, r2, rest⟩
      · rw [r2] at z; cases z
      · rw [r2] at z
        cases z
        simp at rest
    · obtain ⟨bm, ob, b1, b2, b3, b4, b5, b6⟩ := hbm
      have nG : bm ≠ mainGlobals := by
        rintro rfl
        obtain ⟨o, es, ep, e1, e2, _⟩ := hns
        rw [b3] at e1
        cases e1
        rw [b6] at e2
        cases e2
      have nP : bm ≠ p.2 := by
        rintro rfl
        rw [hT p hp] at b3
        cases b3
        cases b6
      refine ⟨bm, ob, b1, b2, nG, nP, gnd b3 (out b3 (fun us m z => ?_) fun z => ?_), b4, b5, b6⟩
      · rw [b6] at z; cases z
      · rw [b6] at z; cases z
    · intro z
      obtain ⟨o, es, ep, e1, e2, _⟩ := hns
      rw [z, hT p hp] at e1
      cases e1
      cases e2
  have nil0 : ∀ b, b ∉ frs ([] : List Env) := fun b hb => nomatch (show b ∈ ([] : List Addr) from hb)
  have e0 : Env0 P w K mg (hidT s1.heap (H0 K cs a vs ns)) callerA [] s1 (H0 K cs a vs ns) :=
    ⟨rfl, modG, fun b o q => of_hidT q, Nat.le_of_eq (hidT_size _ _), trivial, fun b hb => absurd hb (nil0 b), hok, .of_eq hgen⟩
  have go := (F _ KG (nsG hns) (hZ nsG) TB).run callerA [] s1 (H0 K cs a vs ns) ⟨[.ref a], []⟩ [.ref a] [.ref a] _ _ rfl hr e0 (hbind s1 (.ref a)) (.cons rfl .nil) (hsp _ tabH hS)
  refine codeAny_mono go fun r s' h => ?_
  match r, h with
  | .error _, ⟨_, _, _, _, _, _, _, _, _, _, _, _, no⟩ => exact no.elim
  | .ok .next, h => exact h.elim
  | .ok .brk, h => exact h.elim
  | .ok .cont, h => exact h.elim
  | .ok (.ret u), ⟨v, H', os, bare, un, after, rel, is⟩ =>
    -- each object of the head stands, or is a table that has grown
    have stay : ∀ b o, s1.heap.get? b = some o → s'.heap.get? b = some o ∨ ∃ p ∈ cs, b = p.2 ∧ ∃ more : Array Value, s'.heap.get? b = some { cls := .none, data := .fields more } := by
      intro b o g
      cases q0 : H0 K cs a vs ns b with
      | none => exact .inl (un.keep b o g q0 (nil0 b) (by simp))
      | some t =>
        rcases H0_cases q0 with ⟨_, _, kind⟩ | ⟨mem, kind⟩ <;> subst kind
        · have now := (after b _ (un.frzs b _ _ q0)).1
          have was := (hok b _ q0).1
          exact .inl (Option.some.inj (was.symm.trans g) ▸ now)
        · have ⟨p, hp, e⟩ := List.mem_map.mp mem
          have ⟨_, z⟩ := un.tbls b #[] q0
          exact .inr ⟨p, hp, e.symm, _, after b _ z⟩
    subst is
    obtain rfl : u = .bool true := rel
    refine ⟨rfl, ⟨fun b o g => ?_, fun b o g => (stay b o g).elim (fun z => ⟨o, z⟩) fun ⟨_, _, _, _, z⟩ => ⟨_, z⟩⟩, os, bare⟩
    rcases stay b o g with z | ⟨p, hp, rfl, more, z⟩
    · exact .inl z
    · obtain rfl : o = tabO := Option.some.inj (g.symm.trans (hT p hp))
      exact .inr (.inl ⟨((hC p hp).tab (hT p hp)).isCodeTable, rfl, #[], more, rfl, by simpa using z⟩)
end
/-- what is known of the law at the head's heap -/
def LawG (l : PySem.W.OpenLaw) (w : World) (K : PySem.W.Frag) (k n : Nat) (x : Str) (mg : Str → Option Value) (fa : Addr) (h : Heap) : Prop :=
  ∃ (fd : FuncData) (cs : List (Addr × Addr)) (sp : Sp), (∀ p ∈ cs, h.get? p.2 = some tabO) ∧ (∀ p ∈ cs, K.lookup p.2 = none) ∧ (∀ p ∈ cs, PySem.W.CodeHd h p.1 p.2) ∧ (∀ (s : Shared) (u : Value), BindsTo s fd ⟨[u], []⟩ [(x, u)]) ∧
    (∀ (H : Hp) (a : Addr) (ns : List Int), ns.length ≤ n → (∀ p ∈ cs, H p.2 = some (.tbl #[])) → SqL K H a (ns.map V.int) → sp [.ref a] H (fun v _ => v = .bl true) fun _ _ _ => False) ∧
    ∀ base : Heap, K.In base → base.Ns mainGlobals mg → (∀ p ∈ cs, TabB base mg p.1 p.2) → FnG l.prog w K mg base (L2.CX l.prog w) k fa fd [x] sp
theorem walk_G {l : PySem.W.OpenLaw} {n k : Nat} {q : Program} {loose : List Str} {XP : (Str → Option Value) → Heap → Prop} {YP : World → Heap → Prop} {d : DefRec} {K : Params → PySem.W.Frag} {x : Str}
    (hn : l.most = some n) (hn2 : n ≤ sizeLine) (hdf : d.params.defaults = []) (hr : Room k callerA) (hY : ∀ (w : World) (h : Heap), YP w h → (K w.params).In h)
    (F : ∀ (w : World) (mg : Str → Option Value) (fa : Addr) (h : Heap), YP w h → (K w.params).In h → h.Ns mainGlobals mg → mg d.name = some (.ref fa) → LawG l w (K w.params) k n x mg fa h) :
    PySem.W.WalkO q loose XP YP l.row.toRowW d [] (fun f vs => PySem.call f vs) := by
  refine Att.attach_callB hn hdf fun w s0 s1 mg mb fa o pm cd doc a vs ns G Y ho hd hcd hmg hobj hints hlen hbits hg => ?_
  have KX := hY w _ Y
  obtain ⟨fd, cs, sp, h1, h2, h3, h4, h5, h6⟩ := F w mg fa _ Y KX G.T.g hmg
  exact law_callG KX G.T.g G.T.b G.T.builtins G.T.nolimit hg h1 h2 h3 G.T.bmain hobj hints (Nat.le_trans hlen hn2) hr (Z := fun _ => True) (fun _ => trivial) (fun base b1 b2 _ b3 => h6 base b1 b2 b3) h4 fun H t1 t2 => h5 H a ns hlen t1 t2
end Z
end

section
namespace Z
open PySem PySem.Spec PyProof.Rows L2 LamX
/-! ### all but the tables stay -/
class Xn (H : outParam Hp) (H' : Hp) : Prop where h : ExtN H H'
section
variable {H H' : Hp} {p : Addr}
instance (priority := low) At.xnL {xs : List V} [s : Xn H H'] [a : At H p (.lst xs)] : At H' p (.lst xs) := ⟨s.h _ _ a.h (fun _ z => by cases z)⟩
instance (priority := low) At.xnT {xs : List V} [s : Xn H H'] [a : At H p (.tup xs)] : At H' p (.tup xs) := ⟨s.h _ _ a.h (fun _ z => by cases z)⟩
instance (priority := low) At.xnI {C dx : Addr} {fs : List (Str × V)} [s : Xn H H'] [a : At H p (.ins C dx fs)] : At H' p (.ins C dx fs) := ⟨s.h _ _ a.h (fun _ z => by cases z)⟩
instance (priority := low) At.xnX {fs : List (Str × V)} [s : Xn H H'] [a : At H p (.xd fs)] : At H' p (.xd fs) := ⟨s.h _ _ a.h (fun _ z => by cases z)⟩
instance (priority := low) At.xnD {kvs : List (Key × V)} [s : Xn H H'] [a : At H p (.dK kvs)] : At H' p (.dK kvs) := ⟨s.h _ _ a.h (fun _ z => by cases z)⟩
end
theorem Tabs.same {T : List (Addr × Str)} {H H' : Hp} (t : Tabs T H) (e : Same H H') : Tabs T H' := t.ext e
theorem Tabs.extP {T : List (Addr × Str)} {H H' : Hp} {p : Addr} {xs : List V} (t : Tabs T H) (e : ExtP p H H') (hp : H p = some (.lst xs)) : Tabs T H' := by
  intro q hq
  obtain ⟨ps, h1, h2, h3⟩ := t q hq
  have ne : ∀ b o, H b = some o → (∀ ys, o ≠ .lst ys) → b ≠ p := fun b o g n z => by
    rw [z, hp] at g
    exact n xs (Option.some.inj g).symm
  refine ⟨ps, e _ _ (ne _ _ h1 (fun _ z => by cases z)) h1, h2, fun pos cv hc => ?_⟩
  obtain ⟨c, e1, e2⟩ := h3 pos cv hc
  refine ⟨c, e1, e _ _ (ne _ _ e2 (fun _ z => ?_)) e2⟩
  unfold CodeO at z
  cases z
/-! ### x(lambda: body) by what stands of x -/
section
variable {X : Cx}
theorem pe_lam {T : List (Addr × Str)} {TT : (XK → Hp → VK → Prop) → Hp → VK → Prop} {x a : Str} {g c P : Addr} {k : Nat} {st : Stmt} {fd : FuncData} {Ng : List Str} {params : Arguments} {body : Expr} {scope : Scope} {t : XK → TE} {p lpos pos : Pos}
    (hg : Gl X x) (hm : X.mg x = some (.ref g)) (F : Fun X.K x x st g fd) (hb : L2.Binds X.K fd [a] []) (Sg : FnScope Ng [a] (defScope st)) (hNg : Ng[0]? = some a) (hva : Vis (defScope st) a)
    (hG : ∀ cdv, GivesTo X Ng x (defScope st) g cdv (defBody st) a (X.env.qual ++ "<lambda>") TT) (TB : TabB X.base X.mg c P) (hcode : X.env.code = .ref c) (hmT : (P, X.env.qual ++ "<lambda>") ∈ T) (hu : ∀ p ∈ T, p.1 = P → p.2 = X.env.qual ++ "<lambda>")
    (hr : Room (k + 2) X.A) (L : LamS X.env.scope scope) (hdef : defaultsOf params X.env = ([], [])) (hbind : ∀ (q : Str) (cl : List (Str × Addr)) (pm cv ctv : Value), bindArgs (PySem.W.kla_fn "<lambda>" q params body scope cl pm cv ctv) ⟨[], []⟩ = pure [])
    (hbody : ∀ (A : Around) (outer : List Env) (s : Shared) (H : Hp) (E : XK) (f c' : Addr), Room k (A.deeper (lamEnv X scope s.heap.objs.size f c')) → PE (lamCx X A outer s H E scope f c') body (t E))
    (hdb : (x == ("__debug__" : Str)) = false := by decide) (hd : (a == ("__debug__" : Str)) = false := by decide) (hcd : (a == ("__classdict__" : Str)) = false := by decide) :
    PE X (.Call (.Name x p) [.Lambda params body scope lpos] [] pos) (tLam T TT t) := by
  obtain ⟨oc, od, kV, doc, pm, an, cdv, ct, osl, rfl, lk, hc⟩ := F.ex
  exact pe_lamcall hg hm F.kp lk hc hb Sg hNg hva (hG cdv) TB hcode hmT hu hr L hdef hbind hbody hdb hd hcd
end
/-! ### a def that makes lambdas: its code object is known -/
theorem okGc {P : Program} {w : World} {K : PySem.W.Frag} {mg : Str → Option Value} {base : Heap} {x qual : Str} {st : Stmt} {f : Addr} {fd : FuncData} {N ps : List Str} {k : Nat} {sp : Sp} (F : Fun K x qual st f fd) (S : FnScope N ps (defScope st)) (len : ∀ vs H Q E, sp vs H Q E → vs.length = ps.length)
    (hbody : ∀ (cdv : Value) (A : Around) (outer : List Env) (s : Shared) (H : Hp) (vs : List V) (Q : VK) (E : XK), fd.code = cdv → NoG A → Room k (A.deeper (envOfC qual (defScope st) s.heap.objs.size f cdv)) → sp vs H Q E →
      ∃ t, PSs (cxOf (L2.CX P w) P w K mg base N qual (defScope st) f cdv A outer s H E) (defBody st) t ∧ t { nx := fun _ H' => Q .non H', rt := Q } (start N vs) H) : FnG P w K mg base (L2.CX P w) (k + 1) f fd ps sp := by
  obtain ⟨oc, od, kV, doc, pm, an, cdv, ct, osl, rfl, lk, hcd⟩ := F.ex
  refine ⟨len, fun A outer s H args us vs Q E g hr e0 hb r h => ?_⟩
  exact LamX.run_ofS lk hcd S hr e0 hb r (len _ _ _ _ h) fun hr' => hbody cdv A outer s H vs Q E rfl g hr' h
end Z
end

section
namespace Z
open PySem PySem.Spec PyProof.Rows L2
/-! ### kinds of values, isinstance -/
inductive AV (H : Hp) : V → Prop where
  | non : AV H .non
  | bl (b : Bool) : AV H (.bl b)
  | int (i : Int) : AV H (.int i)
  | str (x : Str) : AV H (.str x)
  | lst {a : Addr} {xs : List V} (h : H a = some (.lst xs)) : AV H (.ref a)
  | tup {a : Addr} {xs : List V} (h : H a = some (.tup xs)) : AV H (.ref a)
  | dK {a : Addr} {kvs : List (Key × V)} (h : H a = some (.dK kvs)) : AV H (.ref a)
theorem AV.same {H H' : Hp} {v : V} (h : AV H v) (e : Same H H') : AV H' v := by
  cases h with
  | non => exact .non
  | bl b => exact .bl b
  | int i => exact .int i
  | str x => exact .str x
  | lst h => exact .lst (e _ _ h)
  | tup h => exact .tup (e _ _ h)
  | dK h => exact .dK (e _ _ h)
class TyC (K : PySem.W.Frag) (H : Hp) (x : V) (t : outParam Value) : Prop where h : TyX K H x t
section
variable {K : PySem.W.Frag} {H : Hp} {a : Addr}
instance : TyC K H .non (.type "NoneType") := ⟨.base .non⟩
instance {b : Bool} : TyC K H (.bl b) (.type "bool") := ⟨.base (.bl b)⟩
instance {i : Int} : TyC K H (.int i) (.type "int") := ⟨.base (.int i)⟩
instance {x : Str} : TyC K H (.str x) (.type "str") := ⟨.base (.str x)⟩
instance {xs : List V} [h : At H a (.lst xs)] : TyC K H (.ref a) (.type "list") := ⟨.base (.lst h.h)⟩
instance {xs : List V} [h : At H a (.tup xs)] : TyC K H (.ref a) (.type "tuple") := ⟨.base (.tup h.h)⟩
instance {kvs : List (Key × V)} [h : At H a (.dK kvs)] : TyC K H (.ref a) (.type "dict") := ⟨.base (.dK h.h)⟩
/-- the library's InsC, found by instances -/
class InsT (K : PySem.W.Frag) (C : Addr) : Prop where
  c : C8.InsC K C
instance {C dx : Addr} {fs : List (Str × V)} [h : At H a (.ins C dx fs)] [i : InsT K C] : TyC K H (.ref a) (.ref C) := ⟨.base (.ins h.h i.c.cl i.c.ha i.c.hn i.c.htk i.c.hm)⟩
class Kit (K : PySem.W.Frag) (t u : Value) (b : outParam Bool) : Prop where h : PySem.W.kitOne K t u = some b
end
section
variable {K : PySem.W.Frag}
instance : Kit K (.type "NoneType") (.type "int") false := ⟨kit_ty (by decide +kernel)⟩
instance : Kit K (.type "NoneType") (.type "bool") false := ⟨kit_ty (by decide +kernel)⟩
instance : Kit K (.type "NoneType") (.type "str") false := ⟨kit_ty (by decide +kernel)⟩
instance : Kit K (.type "NoneType") (.type "list") false := ⟨kit_ty (by decide +kernel)⟩
instance : Kit K (.type "NoneType") (.type "tuple") false := ⟨kit_ty (by decide +kernel)⟩
instance : Kit K (.type "NoneType") (.type "dict") false := ⟨kit_ty (by decide +kernel)⟩
instance : Kit K (.type "bool") (.type "int") true := ⟨kit_ty (by decide +kernel)⟩
instance : Kit K (.type "bool") (.type "bool") true := ⟨kit_ty (by decide +kernel)⟩
instance : Kit K (.type "bool") (.type "str") false := ⟨kit_ty (by decide +kernel)⟩
instance : Kit K (.type "bool") (.type "list") false := ⟨kit_ty (by decide +kernel)⟩
instance : Kit K (.type "bool") (.type "tuple") false := ⟨kit_ty (by decide +kernel)⟩
instance : Kit K (.type "bool") (.type "dict") false := ⟨kit_ty (by decide +kernel)⟩
instance : Kit K (.type "int") (.type "int") true := ⟨kit_ty (by decide +kernel)⟩
instance : Kit K (.type "int") (.type "bool") false := ⟨kit_ty (by decide +kernel)⟩
instance : Kit K (.type "int") (.type "str") false := ⟨kit_ty (by decide +kernel)⟩
instance : Kit K (.type "int") (.type "list") false := ⟨kit_ty (by decide +kernel)⟩
instance : Kit K (.type "int") (.type "tuple") false := ⟨kit_ty (by decide +kernel)⟩
instance : Kit K (.type "int") (.type "dict") false := ⟨kit_ty (by decide +kernel)⟩
instance : Kit K (.type "str") (.type "int") false := ⟨kit_ty (by decide +kernel)⟩
instance : Kit K (.type "str") (.type "bool") false := ⟨kit_ty (by decide +kernel)⟩
instance : Kit K (.type "str") (.type "str") true := ⟨kit_ty (by decide +kernel)⟩
instance : Kit K (.type "str") (.type "list") false := ⟨kit_ty (by decide +kernel)⟩
instance : Kit K (.type "str") (.type "tuple") false := ⟨kit_ty (by decide +kernel)⟩
instance : Kit K (.type "str") (.type "dict") false := ⟨kit_ty (by decide +kernel)⟩
instance : Kit K (.type "list") (.type "int") false := ⟨kit_ty (by decide +kernel)⟩
instance : Kit K (.type "list") (.type "bool") false := ⟨kit_ty (by decide +kernel)⟩
instance : Kit K (.type "list") (.type "str") false := ⟨kit_ty (by decide +kernel)⟩
instance : Kit K (.type "list") (.type "list") true := ⟨kit_ty (by decide +kernel)⟩
instance : Kit K (.type "list") (.type "tuple") false := ⟨kit_ty (by decide +kernel)⟩
instance : Kit K (.type "list") (.type "dict") false := ⟨kit_ty (by decide +kernel)⟩
instance : Kit K (.type "tuple") (.type "int") false := ⟨kit_ty (by decide +kernel)⟩
instance : Kit K (.type "tuple") (.type "bool") false := ⟨kit_ty (by decide +kernel)⟩
instance : Kit K (.type "tuple") (.type "str") false := ⟨kit_ty (by decide +kernel)⟩
instance : Kit K (.type "tuple") (.type "list") false := ⟨kit_ty (by decide +kernel)⟩
instance : Kit K (.type "tuple") (.type "tuple") true := ⟨kit_ty (by decide +kernel)⟩
instance : Kit K (.type "tuple") (.type "dict") false := ⟨kit_ty (by decide +kernel)⟩
instance : Kit K (.type "dict") (.type "int") false := ⟨kit_ty (by decide +kernel)⟩
instance : Kit K (.type "dict") (.type "bool") false := ⟨kit_ty (by decide +kernel)⟩
instance : Kit K (.type "dict") (.type "str") false := ⟨kit_ty (by decide +kernel)⟩
instance : Kit K (.type "dict") (.type "list") false := ⟨kit_ty (by decide +kernel)⟩
instance : Kit K (.type "dict") (.type "tuple") false := ⟨kit_ty (by decide +kernel)⟩
instance : Kit K (.type "dict") (.type "dict") true := ⟨kit_ty (by decide +kernel)⟩
end
section
variable {K : PySem.W.Frag} {σ : L2.St} {H : Hp} {Q : VK} {x : V} {t : Value} {b : Bool}
instance {T : String} [h1 : TyC K H x t] [h2 : Kit K t (.type T) b] : Stp (aIsi K [x, .ty T] H Q) (Q (.bl b) H) := ⟨i_isi (.ty T) h1.h h2.h⟩
instance {C : Addr} [h1 : TyC K H x t] [h2 : Kit K t (.ref C) b] : Stp (aIsi K [x, .ref C] H Q) (Q (.bl b) H) := ⟨i_isi (.own C) h1.h h2.h⟩
end
end Z
end

section
namespace Z
open PySem PySem.Spec PyProof.Rows L2
section
variable {K : PySem.W.Frag} {σ : L2.St} {H : Hp} {Q : VK} {E : XK} {D : Ends} {sp : Sp} {t : TA} {ta te : TE} {C dx p : Addr} {m f : Str} {fs : List (Str × V)} {v : V} {xs : List V}
theorem app_nil {R : List V → Hp → Prop} (h : t σ H R) : t σ H fun vs H1 => R (vs ++ []) H1 := by
  have e : (fun vs H1 => R (vs ++ []) H1) = R := by funext vs H1; rw [List.append_nil]
  rw [e]; exact h
instance : Stp (tCall sp [] E t σ H Q) (t σ H fun vs H1 => sp vs H1 Q E) := ⟨fun h => app_nil (R := fun vs H1 => sp vs H1 Q E) h⟩
def iMeth (C : Addr) (m : Str) (sp : Sp) (E : XK) (t : TA) (σ : L2.St) (Q : VK) (x : V) (H1 : Hp) : Prop := ∃ a dx fs, x = .ref a ∧ H1 a = some (.ins C dx fs) ∧ fs.lookup m = none ∧ t σ H1 fun vs H2 => sp (x :: (vs ++ [])) H2 Q E
instance : Stp (tMeth C m sp [] E ta t σ H Q) (ta σ H fun x H1 => iMeth C m sp E t σ Q x H1) := ⟨id⟩
instance [h : At H p (.ins C dx fs)] : Stp (iMeth C m sp E t σ Q (.ref p) H) (fs.lookup m = none ∧ t σ H fun vs H2 => sp (.ref p :: vs) H2 Q E) := ⟨fun q => ⟨p, dx, fs, rfl, h.h, q.1, app_nil (R := fun vs H2 => sp (.ref p :: vs) H2 Q E) q.2⟩⟩
def iMethK (C : Addr) (m : Str) (sp : Sp) (E : XK) (t : TE) (σ : L2.St) (Q : VK) (x : V) (H1 : Hp) : Prop := ∃ a dx fs, x = .ref a ∧ H1 a = some (.ins C dx fs) ∧ fs.lookup m = none ∧ t σ H1 fun x H2 => ∃ v, [x] = [v] ∧ sp [.ref a, v] H2 Q E
instance : Stp (tMethK1 C m sp E ta te σ H Q) (ta σ H fun x H1 => iMethK C m sp E te σ Q x H1) := ⟨id⟩
instance [h : At H p (.ins C dx fs)] : Stp (iMethK C m sp E te σ Q (.ref p) H) (fs.lookup m = none ∧ te σ H fun x H2 => ∃ v, [x] = [v] ∧ sp [.ref p, v] H2 Q E) := ⟨fun q => ⟨p, dx, fs, rfl, h.h, q.1, q.2⟩⟩
def NewI (C : Addr) (sp : Sp) (E : XK) (Q : VK) (vs : List V) (H1 : Hp) : Prop := ∀ x dx, H1 x = none → H1 dx = none → dx ≠ x → sp (.ref x :: vs) (upd (upd H1 dx (.own x)) x (.ins C dx [])) (fun v H2 => v = .non ∧ Q (.ref x) H2) E
instance : Stp (tMake C sp [] E t σ H Q) (t σ H fun vs H1 => NewI C sp E Q vs H1) := ⟨fun h => by
  have e : (fun vs H1 => ∀ x dx, H1 x = none → H1 dx = none → dx ≠ x → sp (.ref x :: (vs ++ [])) (upd (upd H1 dx (.own x)) x (.ins C dx [])) (fun v H2 => v = .non ∧ Q (.ref x) H2) E) = fun vs H1 => NewI C sp E Q vs H1 := by
    funext vs H1; rw [List.append_nil]; rfl
  show t σ H _
  rw [e]; exact h⟩
instance : Stp (tX1 C m te σ H E) (te σ H fun x H1 => ∃ v, [x] = [v] ∧ ∀ d, H1 d = none → E (.ref C) (some d) (upd H1 d (.xd [(m, v)]))) := ⟨id⟩
/-- fields -/
class Fl (K : PySem.W.Frag) (C : Addr) (f : Str) : Prop where
  c : Cls K C
  n : NoAttr K C f
class Lkp (fs : List (Str × V)) (f : Str) (v : outParam V) : Prop where h : fs.lookup f = some v
instance [h : At H p (.ins C dx fs)] [g : Fl K C f] [l : Lkp fs f v] : Stp (aFld K f (.ref p) H Q) (Q v H) := ⟨fun q => i_fld h.h g.c g.n l.h q⟩
def iSetF (K : PySem.W.Frag) (f : Str) (D : Ends) (σ : L2.St) (y x : V) (H2 : Hp) : Prop := ∃ a C dx fs, x = .ref a ∧ H2 a = some (.ins C dx fs) ∧ Cls K C ∧ NoAttr K C f ∧ fs.length < 1000 ∧ D.nx σ (upd H2 a (.ins C dx (putF f y fs)))
instance {tv : TE} : Stp (sFld K ta tv f D σ H) (tv σ H fun y H1 => ta σ H1 fun x H2 => iSetF K f D σ y x H2) := ⟨id⟩
instance [h : At H p (.ins C dx fs)] [g : Fl K C f] : Stp (iSetF K f D σ v (.ref p) H) (fs.length < 1000 ∧ D.nx σ (upd H p (.ins C dx (putF f v fs)))) := ⟨fun q => ⟨p, C, dx, fs, rfl, h.h, g.c, g.n, q.1, q.2⟩⟩
/-- targets -/
instance {Q : L2.St → Hp → Prop} : Stp (gNil [] σ H Q) (Q σ H) := ⟨fun q => ⟨rfl, q⟩⟩
instance {Q : L2.St → Hp → Prop} {g : TG} {u : TGs} : Stp (gCons g u (v :: xs) σ H Q) (g v σ H fun σ' H' => u xs σ' H' Q) := ⟨fun q => ⟨v, xs, rfl, q⟩⟩
instance {Q : L2.St → Hp → Prop} {n : Nat} {u : TGs} [h : At H p (.tup xs)] : Stp (gTup K n u (.ref p) σ H Q) (xs.length = n ∧ u xs σ H Q) := ⟨fun q => ⟨p, xs, rfl, SqT.of h.h, q.1, q.2⟩⟩
/-- texts -/
theorem i_ixS0 {a : Str} {c : Nat} {cs : List Nat} (hz : a.length ≤ sizeLine) (ha : a.cps.toList = c :: cs) (q : Q (.str ⟨#[c]⟩) H) : aIx K (.str a) (.int 0) H Q := i_ixS hz (by rw [ha]; exact ith_of (n := 0) rfl) q
/-- [e for x in text if t], t and e pure -/
theorem i_lcS {a : Str} {i n : Nat} {tt : TT} {vs : List Nat} [l : Lk σ n (.str a)] (b : Nat → Bool) (y : Nat → V) (hl : a.cps.size ≤ sizeLine) (hw : ∀ v, wipe ((wipe σ vs).set i v) vs = wipe σ vs)
    (ht : ∀ c H' (R : Bool → Hp → Prop), c ∈ a.cps.toList → R (b c) H' → tt ((wipe σ vs).set i (some (.str ⟨#[c]⟩))) H' R)
    (he : ∀ c H' (R : VK), c ∈ a.cps.toList → b c = true → R (y c) H' → te ((wipe σ vs).set i (some (.str ⟨#[c]⟩))) H' R)
    (q : New H (.lst ((a.cps.toList.filter b).map y)) Q) : tLc (iStr (tVar n)) (gName i) tt te vs σ H Q := by
  refine ⟨.str a, l.h, a, rfl, fun D hD => ?_⟩
  refine lc_it (walk_str (z := a)) (fun j H' => H' = upd H D (.lst (((a.cps.toList.take j).filter b).map y))) (by simp) (fun _ _ _ _ => trivial) (fun j x H1 H2 hj hp hy => ?_) (fun H1 hp => ?_)
  · obtain ⟨rfl, c, hc, rfl⟩ := hy
    have hc' : a.cps.toList[j]? = some c := by rw [Array.getElem?_toList]; exact hc
    have hm : c ∈ a.cps.toList := List.mem_of_getElem? hc'
    have htk : a.cps.toList.take (j + 1) = a.cps.toList.take j ++ [c] := by
      rw [List.take_add_one, hc']; rfl
    refine ⟨hw _, ht c _ _ hm ?_⟩
    cases hb : b c with
    | false =>
      refine i_itef ?_
      rw [hp, htk, List.filter_append]
      simp [hb]
    | true =>
      refine i_itet (he c _ _ hm hb ⟨_, by rw [hp, upd_same], ?_, ?_⟩)
      · have h1 : (((a.cps.toList.take j).filter b).map y).length ≤ j := by
          rw [List.length_map]
          exact Nat.le_trans (List.length_filter_le _ _) (by rw [List.length_take]; omega)
        omega
      · rw [hp, htk, List.filter_append]
        funext d
        by_cases hd : d = D
        · subst hd
          rw [upd_same, upd_same]
          simp [hb]
        · rw [upd_ne hd, upd_ne hd, upd_ne hd]
  · rw [hp, List.take_of_length_le (by simp)]
    exact q D hD
end
section
variable {A B : Prop}
instance : Stp (if (!true) = true then A else B) B := ⟨fun h => by rw [Bool.not_true, if_neg Bool.false_ne_true]; exact h⟩
instance : Stp (if (!false) = true then A else B) A := ⟨fun h => by rw [Bool.not_false, if_pos rfl]; exact h⟩
end
/-! ### the rules with K told -/
section
variable {X : Cx}
theorem k_add (K : PySem.W.Frag) (h : X.K = K := by rfl) : OpR X (binaryOp .Add) (aAdd K) := h ▸ o_add
theorem k_in (K : PySem.W.Frag) (h : X.K = K := by rfl) : OpR X (compareOp .In) (aIn K) := h ▸ o_in
theorem k_nin (K : PySem.W.Frag) (h : X.K = K := by rfl) : OpR X (compareOp .NotIn) (aNin K) := h ▸ o_nin
theorem k_ix (K : PySem.W.Frag) (h : X.K = K := by rfl) : IxR X (aIx K) := h ▸ x_ix
theorem k_sl (K : PySem.W.Frag) (h : X.K = K := by rfl) : SlR X (aSl K) := h ▸ x_sl
theorem k_eq (K : PySem.W.Frag) (hu : X.A.units + 64 < cLine) (h : X.K = K := by rfl) : OpR X (compareOp .Eq) (aEq K) := h ▸ o_eq hu
theorem k_ne (K : PySem.W.Frag) (hu : X.A.units + 64 < cLine) (h : X.K = K := by rfl) : OpR X (compareOp .NotEq) (aNe K) := h ▸ o_ne hu
theorem k_len (K : PySem.W.Frag) (h : X.K = K := by rfl) : CallR X (.builtin "len") (aLen K) := h ▸ c_len
theorem k_list (K : PySem.W.Frag) (h : X.K = K := by rfl) : CallR X (.type "list") (aList K) := h ▸ c_list
theorem k_tuple (K : PySem.W.Frag) (h : X.K = K := by rfl) : CallR X (.type "tuple") (aTuple K) := h ▸ c_tuple
theorem k_isinstance (K : PySem.W.Frag) (h : X.K = K := by rfl) : CallR X (.builtin "isinstance") (aIsi K) := h ▸ c_isinstance
theorem k_all (K : PySem.W.Frag) (hc : X.calm = true) (h : X.K = K := by rfl) : CallR X (.builtin "all") (aAll K) := h ▸ c_all hc
theorem k_any (K : PySem.W.Frag) (hc : X.calm = true) (h : X.K = K := by rfl) : CallR X (.builtin "any") (aAny K) := h ▸ c_any hc
theorem k_repr (K : PySem.W.Frag) (g : NoG X.A) (hu : X.A.units + 64 < cLine) (h : X.K = K := by rfl) : CallR X (.builtin "repr") (aRepr K) := h ▸ c_repr g hu
theorem pt_trK (K : PySem.W.Frag) {a : Expr} {ta : TE} (ha : PE X a ta) (he : ∀ whole, isTrue a X.env whole = (do let v ← whole; standAt a.pos; holding [v] (truthy v))) (h : X.K = K := by rfl) : PT X a (tTr K ta) := h ▸ pt_tr ha he
theorem pe_orK (K : PySem.W.Frag) {a b : Expr} {rest : List Expr} {pos : Pos} {ta tb : TE} (ha : PE X a ta) (hb : PE X (.BoolOp .Or (b :: rest) pos) tb) (h : X.K = K := by rfl) : PE X (.BoolOp .Or (a :: b :: rest) pos) (tOrT K ta tb) := h ▸ pe_orT ha hb
theorem pe_andK (K : PySem.W.Frag) {a b : Expr} {rest : List Expr} {pos : Pos} {ta tb : TE} (ha : PE X a ta) (hb : PE X (.BoolOp .And (b :: rest) pos) tb) (h : X.K = K := by rfl) : PE X (.BoolOp .And (a :: b :: rest) pos) (tAndT K ta tb) := h ▸ pe_andT ha hb
theorem pe_notK (K : PySem.W.Frag) {a : Expr} {pos : Pos} {ta : TE} (ha : PE X a ta) (h : X.K = K := by rfl) : PE X (.UnaryOp .Not a pos) (tNotT K ta) := h ▸ pe_notT ha
theorem ps_fldK (K : PySem.W.Frag) {o value : Expr} {f : Str} {pos pos' : Pos} {ta tv : TE} (ha : PE X o ta) (hv : PE X value tv) (hs : swapsWith value (some (.Attribute o f pos')) pos.line X.env = pure false) (h : X.K = K := by rfl) : PS X (.Assign [.Attribute o f pos'] value pos) (sFld K ta tv f) := h ▸ ps_fld ha hv hs
theorem pe_attK (K : PySem.W.Frag) {e : Expr} {f : Str} {ta : TE} {pos : Pos} (he : PE X e ta) (hb : attributeBase e f X.env (eval e X.env) = eval e X.env := by rfl) (h : X.K = K := by rfl) : PE X (.Attribute e f pos) (tAtt (aFld K f) ta) := h ▸ pe_att he hb
end
/-! ### lists of texts as data -/
theorem dp_strs {K : PySem.W.Frag} {H : Hp} {p : Addr} {ns : List Str} (h : H p = some (.lst (ns.map V.str))) : Dp K H (.ref p) (.list (ns.map .str)) := by
  refine .lst (SqL.of h) ?_
  clear h
  induction ns with
  | nil => exact .nil
  | cons n ns ih => exact .cons (.str n) ih
theorem canLayAll_strs : ∀ ns : List Str, ns.all PyData.strOk = true → PyData.canLayAll0 (ns.map .str) = true
  | [], _ => by simp [PyData.canLayAll0]
  | n :: ns, h => by
    rw [List.all_cons, Bool.and_eq_true] at h
    simp [PyData.canLayAll0, PyData.canLay0]; exact ⟨h.1, canLayAll_strs ns h.2⟩
theorem depthAll_strs : ∀ ns : List Str, PyData.depthAll (ns.map .str) = 0
  | [] => by simp [PyData.depthAll]
  | n :: ns => by simp [PyData.depthAll, PyData.depth]; exact depthAll_strs ns
theorem shaped_strs (ns : List Str) (h : ns.all PyData.strOk = true) : SeqAt.shaped (.list (ns.map .str)) = true := by
  unfold SeqAt.shaped
  rw [Bool.and_eq_true]
  refine ⟨?_, ?_⟩
  · show PyData.canLay0 (.list _) = true
    rw [PyData.canLay0]; exact canLayAll_strs ns h
  · rw [PyData.depth, depthAll_strs]; rfl
/-! ### constants of classes, methods of lists, membership -/
def aCVal (K : PySem.W.Frag) (f : Str) : V → Hp → VK → Prop := fun x H1 Q => ∃ C mc v u, x = .ref C ∧ ClX.CRead K C mc ∧ ClX.CVal K C mc f v u ∧ Q v H1
theorem pe_cvalK {X : Cx} (K : PySem.W.Frag) {e : Expr} {f : Str} {ta : TE} {pos : Pos} (he : PE X e ta) (hb : attributeBase e f X.env (eval e X.env) = eval e X.env := by rfl) (h : X.K = K := by rfl) : PE X (.Attribute e f pos) (tAtt (aCVal K f) ta) := h ▸ ClX.pe_cval he hb
class CV (K : PySem.W.Frag) (C : Addr) (f : Str) (v : outParam V) : Prop where h : ∃ mc u, ClX.CRead K C mc ∧ ClX.CVal K C mc f v u
class TupK (K : PySem.W.Frag) (p : Addr) (xs : outParam (List V)) : Prop where h : ∀ H, SqT K H p xs
section
variable {K : PySem.W.Frag} {σ : L2.St} {H : Hp} {Q : VK} {to : TE} {t : TA} {C p : Addr} {f k : Str} {v : V} {xs : List V} {T : String} {r : V → List V → Hp → VK → Prop}
instance [h : CV K C f v] : Stp (aCVal K f (.ref C) H Q) (Q v H) := ⟨fun q => by obtain ⟨mc, u, h1, h2⟩ := h.h; exact ⟨C, mc, v, u, rfl, h1, h2, q⟩⟩
instance [h : TupK K p xs] : Stp (aNin K (.str k) (.ref p) H Q) (xs.all flatV = true ∧ Q (.bl (!inV (.str k) xs)) H) := ⟨fun q => i_ninTK (h.h H) rfl q.1 q.2⟩
instance [h : TupK K p xs] : Stp (aIn K (.str k) (.ref p) H Q) (xs.all flatV = true ∧ Q (.bl (inV (.str k) xs)) H) := ⟨fun q => i_inTK (h.h H) rfl q.1 q.2⟩
instance [h : At H p (.tup xs)] : Stp (aNin K (.str k) (.ref p) H Q) (xs.all flatV = true ∧ Q (.bl (!inV (.str k) xs)) H) := ⟨fun q => i_ninT h.h rfl q.1 q.2⟩
instance [h : At H p (.tup xs)] : Stp (aIn K (.str k) (.ref p) H Q) (xs.all flatV = true ∧ Q (.bl (inV (.str k) xs)) H) := ⟨fun q => i_inT h.h rfl q.1 q.2⟩
def iBM (K : PySem.W.Frag) (T : String) (r : V → List V → Hp → VK → Prop) (t : TA) (σ : L2.St) (Q : VK) (x : V) (H1 : Hp) : Prop := tyV K T x H1 ∧ t σ H1 fun xs H2 => r x xs H2 Q
instance : Stp (tBM K T r to t σ H Q) (to σ H fun x H1 => iBM K T r t σ Q x H1) := ⟨id⟩
instance [h : At H p (.lst xs)] : Stp (iBM K "list" r t σ Q (.ref p) H) (t σ H fun xs H2 => r (.ref p) xs H2 Q) := ⟨fun q => ⟨.inl ⟨rfl, xs, SqL.of h.h⟩, q⟩⟩
instance [h : At H p (.lst xs)] : Stp (rAppend (.ref p) [v] H Q) (xs.length < sizeLine ∧ Q .non (upd H p (.lst (xs ++ [v])))) := ⟨fun q => ⟨p, xs, v, rfl, rfl, h.h, q.1, q.2⟩⟩
end
theorem inV_strs {k : Str} : ∀ {ks : List Str}, inV (.str k) (ks.map .str) = decide (k ∈ ks)
  | [] => by simp [inV]
  | x :: ks => by
    have ih := inV_strs (k := k) (ks := ks)
    unfold inV at ih ⊢
    rw [List.map_cons, List.any_cons, ih]
    show ((x == k) || _) = _
    by_cases e : x = k
    · subst e; simp
    · have e2 : ¬ k = x := fun z => e z.symm
      simp [e, e2]
/-- what stood stands, found by instances -/
class Sc (H H' : Hp) : Prop where h : Same H H'
instance (priority := high) Sc.refl {H : Hp} : Sc H H := ⟨fun _ _ z => z⟩
instance Sc.new {H H' : Hp} {r : Addr} {o : HO} [n : Nw H' r] [s : Sc H H'] : Sc H (upd H' r o) := ⟨Same.new s.h n.h⟩
instance (priority := low) Sc.sm {H H1 H2 : Hp} [n : Sm H1 H2] [s : Sc H H1] : Sc H H2 := ⟨fun _ _ z => n.h _ _ (s.h _ _ z)⟩
/-- a list stands there; what is new is not it -/
class Ps (H : Hp) (p : Addr) : Prop where h : ∃ o, H p = some o
instance Ps.old {H : Hp} {p r : Addr} {o : HO} [n : Nw H r] [a : Ps H p] : Ps (upd H r o) p := ⟨by obtain ⟨u, h⟩ := a.h; exact ⟨u, h_old n.h h⟩⟩
instance (priority := high) Ps.here {H : Hp} {p : Addr} {o : HO} : Ps (upd H p o) p := ⟨o, upd_same⟩
set_option synthInstance.checkSynthOrder false in
instance difNew {H : Hp} {p r : Addr} [n : Nw H r] [a : Ps H p] : Dif r p := ⟨fun z => by obtain ⟨u, h⟩ := a.h; rw [← z, n.h] at h; cases h⟩
/-- all but p stay, found by instances -/
class Pc (p : Addr) (H H' : Hp) : Prop where h : ExtP p H H'
instance (priority := high) Pc.refl {p : Addr} {H : Hp} : Pc p H H := ⟨ExtP.refl H⟩
instance Pc.new {p : Addr} {H H' : Hp} {r : Addr} {o : HO} [n : Nw H' r] [s : Pc p H H'] : Pc p H (upd H' r o) := ⟨ExtP.new s.h n.h⟩
instance (priority := low) Pc.xp {p : Addr} {H H1 H2 : Hp} [n : Xp p H1 H2] [s : Pc p H H1] : Pc p H H2 := ⟨ExtP.trans s.h n.h⟩
instance (priority := low) Pc.sm {p : Addr} {H H1 H2 : Hp} [n : Sm H1 H2] [s : Pc p H H1] : Pc p H H2 := ⟨ExtP.trans s.h (ExtP.of n.h)⟩
def iAug (i : Nat) (ti : TIp) (D : Ends) (σ : L2.St) (x y : V) (H1 : Hp) : Prop := ti x y H1 fun z H2 => D.nx (σ.set i (some z)) H2
instance {i : Nat} {te : TE} {ti : TIp} {D : Ends} {σ : L2.St} {H : Hp} {x : V} [l : Lk σ i x] : Stp (tAug i te ti D σ H) (te σ H fun y H1 => iAug i ti D σ x y H1) := ⟨fun h => ⟨x, l.h, h⟩⟩
def ForW (J : It) (g : TG) (tb : TS) (D : Ends) (σ : L2.St) (H1 : Hp) : Prop := ∃ W : Nat → Nat → L2.St → Hp → Prop, (∃ m, W 0 m σ H1) ∧ ∀ i m σ H, W i m σ H →
  (J.stop i H ∧ D.nx σ H) ∨ (J.go i H ∧ ∃ N : L2.St → Hp → Prop, (∀ σ' H', N σ' H' → ∃ m', m' < m ∧ W (i + 1) m' σ' H') ∧ ∀ x H', J.yld i H x H' → g x σ H' fun σ2 H2 => tb { D with nx := N, ct := N, bk := D.nx } σ2 H2)
instance {wi : TI} {g : TG} {tb : TS} {D : Ends} {σ : L2.St} {H : Hp} : Stp (tFor wi g tb D σ H) (wi σ H fun J H1 => ForW J g tb D σ H1) := ⟨id⟩
def iRg (R : It → Hp → Prop) (vs : List V) (H1 : Hp) : Prop := ∃ j : Int, vs = [.int j] ∧ -(2 ^ 62) ≤ j ∧ j < 2 ^ 62 ∧ R (Itr 0 j.toNat) H1
instance {ta : TA} {σ : L2.St} {H : Hp} {R : It → Hp → Prop} : Stp (iRng1 ta σ H R) (ta σ H fun vs H1 => iRg R vs H1) := ⟨id⟩
instance {H : Hp} {R : It → Hp → Prop} {j : Int} : Stp (iRg R [.int j] H) ((-4611686018427387904 ≤ j ∧ j < 4611686018427387904) ∧ R (Itr 0 j.toNat) H) := ⟨fun h => ⟨j, rfl, by have := h.1.1; omega, by have := h.1.2; omega, h.2⟩⟩
instance Lk.set {σ σ' : L2.St} {i n : Nat} {x : Option V} {v : V} [s : SetAt σ i x σ'] [l : Lk σ' n v] : Lk (List.set σ i x) n v := ⟨by rw [s.h]; exact l.h⟩
instance SetAt.set {σ σ1 σ2 : L2.St} {i n : Nat} {x v : Option V} [s : SetAt σ i x σ1] [t : SetAt σ1 n v σ2] : SetAt (List.set σ i x) n v σ2 := ⟨by rw [s.h]; exact t.h⟩
instance (priority := low) Ps.at {H : Hp} {p : Addr} {o : HO} [a : At H p o] : Ps H p := ⟨o, a.h⟩
set_option synthInstance.checkSynthOrder false in
instance difNew' {H : Hp} {p r : Addr} [n : Nw H r] [a : Ps H p] : Dif p r := ⟨fun z => by obtain ⟨u, h⟩ := a.h; rw [z, n.h] at h; cases h⟩
end Z
end

section
namespace Z
open PySem PySem.Spec PyProof.Rows L2
/-! ### match by values -/
structure PMc (X : Cx) (cs : List MatchCase) (tc : V → TS) : Prop where
  run : ∀ (pins : List (Addr × Obj)) (s : Shared) (σ : L2.St) (H : Hp) (D : Ends) (x : V) (v : Value) (first : Bool), Inv X pins σ H s → RelV x v → tc x D σ H → wpAny (model X.prog X.w) X.A (matchCases cs X.env v first) (SP X pins D) X.xe s
def mNil : V → TS := fun _ D σ H => D.nx σ H
def mVal (r : R2) (tv : TE) (tb : TS) (tr : V → TS) : V → TS := fun x D σ H => tv σ H fun y H1 => r x y H1 fun z H2 => ∃ b, z = .bl b ∧ if b = true then tb D σ H2 else tr x D σ H2
def tMatch (te : TE) (tc : V → TS) : TS := fun D σ H => te σ H fun x H1 => tc x D σ H1
section
variable {X : Cx}
theorem mc_nil : PMc X [] mNil := ⟨fun pins s σ H D x v first I r h => wpAny_matchCases_nil ⟨σ, H, I, h⟩⟩
theorem mc_val {value : Expr} {vp : Pos} {body : List Stmt} {rest : List MatchCase} {r : R2} {tv : TE} {tb : TS} {tr : V → TS} (ho : OpR X (compareOp .Eq) r) (hv : PE X value tv) (hb : PSs X body tb) (hr : PMc X rest tr) : PMc X (⟨.MatchValue value vp, none, body⟩ :: rest) (mVal r tv tb tr) := by
  refine ⟨fun pins s σ H D x v first I rx h => ?_⟩
  refine wpAny_matchCases_cons (wpAny_matchPattern_Value (thn (hv.run pins s σ H _ I h) fun y s1 hy => ?_))
  obtain ⟨y', H1, I1, ry, q⟩ := hy
  refine thn (ho pins s1 σ H1 x y' v y _ I1 rx ry q) fun c s2 hc => ?_
  obtain ⟨z, H2, I2, rz, b, rfl, q⟩ := hc
  obtain rfl : c = Value.bool b := rz
  refine wpAny_truthy_bool ?_
  cases b with
  | true =>
    rw [if_pos rfl] at q
    exact wpAny_assignInOrder_none (hb.run pins s2 σ H2 D I2 q)
  | false =>
    rw [if_neg Bool.false_ne_true] at q
    exact hr.run pins s2 σ H2 D x v false I2 rx q
theorem ps_match {e : Expr} {cs : List MatchCase} {pos : Pos} {te : TE} {tc : V → TS} (he : PE X e te) (hc : PMc X cs tc) : PS X (.Match e cs pos) (tMatch te tc) := by
  refine ⟨fun pins s σ H D I h => ?_⟩
  refine wpAny_Match (thn (he.run pins s σ H _ I h) fun v s1 hv => ?_)
  obtain ⟨x, H1, I1, rx, q⟩ := hv
  exact hc.run pins s1 σ H1 D x v true I1 rx q
end
section
variable {σ : L2.St} {H : Hp} {D : Ends} {te tv : TE} {tc tr : V → TS} {tb : TS} {r : R2} {x : V}
instance : Stp (tMatch te tc D σ H) (te σ H fun x H1 => tc x D σ H1) := ⟨id⟩
instance : Stp (mNil x D σ H) (D.nx σ H) := ⟨id⟩
instance : Stp (mVal r tv tb tr x D σ H) (tv σ H fun y H1 => r x y H1 fun z H2 => ∃ b, z = .bl b ∧ if b = true then tb D σ H2 else tr x D σ H2) := ⟨id⟩
end
end Z
end

section
namespace Z
open PySem PySem.Spec PyProof.Rows L2
/-! ### {n:+d} -/
def plusF : Builtin.Float.FormatSpec := { align := 62, sign := some 43, type := some 100 }
theorem plus_parse : Builtin.Float.parseFormatSpec ("+d" : Str).cps.toList "int" 62 = .ok plusF := by kernel_rfl
theorem log_lt {a : Int} (h : a.natAbs < 1000000) : a.natAbs.log2 < 1920 := by
  rcases Nat.eq_zero_or_pos a.natAbs with e | e
  · rw [e]; decide
  · have := (Nat.log2_lt (n := a.natAbs) (k := 20) (by omega)).mpr (by omega)
    omega
def plusT (a : Int) : Str := intField' plusF (decide (a < 0)) [] ((Nat.toDigits 10 a.natAbs).map fun c => (if (100 : Nat) == 88 then c.toUpper else c).toNat) [] 3
theorem plusT_len {a : Int} (h : a.natAbs < 1000000) : (plusT a).length ≤ 10 := by
  have h1 := digits10_le (k := 6) (n := a.natAbs) (by decide) (by omega)
  unfold plusT intField' plusF Str.length
  by_cases hn : a < 0
  · simp [hn]; omega
  · simp [hn]; omega
section
variable {prog : Program} {w : World} {A : Around} {E : Value → Shared → Prop} {s : Shared}
theorem gives_plus {a : Int} (ha : a.natAbs < 1000000) (t u : Tok) : Gives (Builtin.«int.__format__» ⟨[.int a t, .str "+d" u], []⟩) (.str (plusT a)) := by
  intro prog w A R s hq
  unfold Builtin.«int.__format__»
  simp only [selfAndOne, noKeywords, Builtin.Int.intOfSelf, asInt?, asStr?, List.isEmpty_nil, if_true, pure_bind, bind_pure, bind_assoc, Bool.false_eq_true, if_false,
    show (Value.str "+d" u == Value.none) = false from rfl, show (("+d" : Str).length == 0) = false from by decide +kernel]
  refine wpAny_bind (wpAny_typeNameOf (T := "str") (typeIs_str _ _ _) (by decide) fun _ => ?_)
  rw [if_neg (by decide +kernel)]
  refine wpAny_bind (wpAny_typeNameOfCut_int ?_)
  simp only [plus_parse]
  rw [if_pos (by decide +kernel)]
  show wpAny _ _ (do let r ← Builtin.overDigitLimit? a; _) _ _ _
  rw [PySem.overDigitLimit_small (log_lt ha)]
  have g : Gives (retStr (plusT a)) (.str (plusT a)) := .of_eq rfl
  exact g prog w A R s hq
end
/-- {e:+d} -/
def tFmtP (te : TE) : TE := fun σ H Q => te σ H fun x H1 => ∃ i : Int, x = .int i ∧ i.natAbs < 1000000 ∧ Q (.str (plusT i)) H1
theorem pe_fmtP {X : Cx} {e : Expr} {te : TE} {j : Nat} {p1 p2 pos : Pos} (he : PE X e te) : PE X (.FormattedValue e (-1) (some (.JoinedStr [.Constant (.str "+d") j p1] p2)) pos) (tFmtP te) := by
  refine ⟨fun pins s σ H Q I h => ?_⟩
  refine wpAny_FormattedValue_spec (thn (he.run pins s σ H _ I h) fun v s1 hv => ?_)
  obtain ⟨x, H1, I1, r1, i, rfl, hi, q⟩ := hv
  obtain ⟨t, rfl⟩ := r1
  have pc : PE X (.JoinedStr [.Constant (.str "+d") j p1] p2) (tC (.str "+d")) := pe_joined1 pe_str
  refine thn (pc.run pins s1 σ H1 (fun y H2 => y = .str "+d" ∧ H2 = H1) I1 ⟨rfl, rfl⟩) fun r s2 hr => ?_
  obtain ⟨y, H2, I2, r2, rfl, rfl⟩ := hr
  obtain ⟨t2, rfl⟩ := r2
  exact ⟨_, _, rfl, wpAny_formatField_spec (by decide +kernel) (fun s' => typeIs_int s' i t) F.slot_int_format F.entry_int_format F.args_int_format_2 (fun u => gives_plus hi t u) ⟨.str (plusT i), _, I2.tok _, ⟨_, rfl⟩, q⟩ (by decide +kernel) (Nat.le_trans (plusT_len hi) (by decide))⟩
section
variable {σ : L2.St} {H : Hp} {Q : VK} {te : TE} {i : Int}
def iFmtP (Q : VK) (x : V) (H1 : Hp) : Prop := ∃ i : Int, x = .int i ∧ i.natAbs < 1000000 ∧ Q (.str (plusT i)) H1
instance : Stp (tFmtP te σ H Q) (te σ H fun x H1 => iFmtP Q x H1) := ⟨id⟩
instance : Stp (iFmtP Q (.int i) H) (i.natAbs < 1000000 ∧ Q (.str (plusT i)) H) := ⟨fun h => ⟨i, rfl, h.1, h.2⟩⟩
end
end Z
end

section
namespace Z
open PySem PySem.Spec PyProof.Rows L2
section
variable {X : Cx} {CX : CXT} {k : Nat} {f C : Addr} {fd : FuncData} {ps : List Str} {sp : Sp} {E : XK}
theorem run_in2 {pins : List (Addr × Obj)} {σ : L2.St} {H : Hp} {s : Shared} {Q : VK} {us : List Value} {vs : List V} (F : FnOk X.prog X.w X.K X.mg X.base CX k f fd ps sp) (hr : Room (k + 2) X.A) (hb : Binds X.K fd ps []) (hx : Passes CX X E)
    (I : Inv X pins σ H s) (r : Vals vs us) (h : sp vs H Q E) : wpAny (model X.prog X.w) X.A.in1.in1 (call (.ref f) us) (EP X pins σ Q) X.xe s := by
  have hl : us.length = ps.length := r.length.symm.trans (F.len _ _ _ _ h)
  have hb' : BindsTo s fd ⟨us, []⟩ (ps.zip us) := by
    have q := hb s us I.kIn (by rw [List.append_nil]; exact hl)
    rwa [List.append_nil] at q
  refine wpAny_call (codeAny_mono (F.run X.A.in1.in1 X.stack s H ⟨us, []⟩ us vs Q E hr.in1.in1 I.env0.in1.in1 hb' r h) fun res s' hq => ?_)
  match res, hq with
  | .error er, hq => exact hx pins σ H s er s' I hq
  | .ok (.ret u), hq => exact I.after hq
  | .ok .next, hq => exact hq.elim
  | .ok .brk, hq => exact hq.elim
  | .ok .cont, hq => exact hq.elim
/-- str(x), x of an own class with __str__ -/
def aStrO (C : Addr) (sp : Sp) (E : XK) : RC := fun xs H Q => ∃ a dx fs, xs = [.ref a] ∧ H a = some (.ins C dx fs) ∧ sp [.ref a] H (fun v H' => ∃ z, v = .str z ∧ Q v H') E
theorem c_strO (O : OwnU X.K C f "__str__") (F : FnOk X.prog X.w X.K X.mg X.base CX k f fd ps sp) (hr : Room (k + 2) X.A) (hb : Binds X.K fd ps []) (hx : Passes CX X E) : CallR X (.type "str") (aStrO C sp E) := by
  intro pins s σ H xs us Q I r h
  obtain ⟨a, dx, fs, rfl, ha, h⟩ := h
  obtain ⟨u, rfl, rx⟩ := vals1 r
  cases rx
  obtain ⟨od, J⟩ := inst_of I ha
  refine PySem.W.kso_call ?_ I.kIn J O.at_ O.fn (thn (run_in2 (us := [.ref a]) (vs := [.ref a]) F hr hb hx I (.cons rfl .nil) h) fun v s1 hv => ?_)
  · have := hr.in1.in1.units
    omega
  · obtain ⟨x, H1, I1, r1, z, rfl, q⟩ := hv
    obtain ⟨t, rfl⟩ := r1
    exact ⟨.str z, H1, I1, ⟨t, rfl⟩, q⟩
/-- truth of x, x of an own class with __bool__ -/
theorem truth_O {A : Around} {Q : Bool → Shared → Prop} {pins : List (Addr × Obj)} {σ : L2.St} {H : Hp} {s : Shared} {a dx : Addr} {fs : List (Str × V)} (O : OwnU X.K C f "__bool__") (I : Inv X pins σ H s) (ha : H a = some (.ins C dx fs))
    (h : wpAny (model X.prog X.w) A (call (.ref f) [.ref a]) (fun v s' => ∃ b, v = .bool b ∧ Q b s') X.xe s) : wpAny (model X.prog X.w) A (truthy (.ref a)) Q X.xe s := by
  obtain ⟨od, J⟩ := inst_of I ha
  unfold truthy
  refine wpAny_bind (m := callSpecial? (.ref a) (Str.ofString "__bool__")) (PySem.W.special_fn I.kIn J O.at_ (beq_iff_eq.mp O.fn) (thn h fun v s1 hv => ?_))
  obtain ⟨b, rfl, q⟩ := hv
  exact wpAny_pure q
/-- bool(x) -/
def aBoolO (C : Addr) (sp : Sp) (E : XK) : RC := fun xs H Q => ∃ a dx fs, xs = [.ref a] ∧ H a = some (.ins C dx fs) ∧ sp [.ref a] H (fun v H' => ∃ b, v = .bl b ∧ Q v H') E
theorem c_boolO (O : OwnU X.K C f "__bool__") (F : FnOk X.prog X.w X.K X.mg X.base CX k f fd ps sp) (hr : Room (k + 2) X.A) (hb : Binds X.K fd ps []) (hx : Passes CX X E) : CallR X (.type "bool") (aBoolO C sp E) := by
  intro pins s σ H xs us Q I r h
  obtain ⟨a, dx, fs, rfl, ha, h⟩ := h
  obtain ⟨u, rfl, rx⟩ := vals1 r
  cases rx
  refine callType_codes (T := "bool") (Bi := Builtin.«object.__init__») (Q₁ := fun r s₁ => ∃ y, r = .bool y ∧ EP X pins σ Q r s₁) PySem.F.called_bool (PySem.F.typeCall_bool_1 _) PySem.F.entry_object_init ?_ ?_
  · refine codeAny_of_tree ?_
    show wpAny _ X.A.in1.in1 (do checkBuiltinCall "bool.__new__" ⟨[.type "bool", .ref a], []⟩; again (.builtin "bool.__new__" ⟨[.type "bool", .ref a], []⟩)) _ _ s
    refine wpAny_bind (wpAny_of_eq (PySem.F.newCall_bool_1 _) (wpAny_pure ⟨plainId_quiet (by decide +kernel) _, codeAny_builtin PySem.F.entry_bool_new ?_⟩))
    rw [Around.under_plainId (by decide +kernel) _]
    unfold Builtin.«bool.__new__»
    refine wpAny_bind (m := isType _) (wpAny_pure ?_)
    simp only [Bool.not_true, Bool.false_eq_true, if_false]
    refine wpAny_bind (m := isSubtype _ _) (wpAny_of_eq PySem.F.conv_sub_bool ?_)
    simp only [Bool.not_true, Bool.false_eq_true, if_false]
    refine wpAny_bind (m := someArgs _ _ _ _) (wpAny_pure ?_)
    dsimp only
    refine wpAny_bind (truth_O O I ha (thn (run_in2 (us := [.ref a]) (vs := [.ref a]) F hr hb hx I (.cons rfl .nil) h) fun v s1 hv => ?_))
    obtain ⟨x, H1, I1, r1, b, rfl, q⟩ := hv
    obtain rfl : v = Value.bool b := r1
    exact ⟨b, rfl, wpAny_pure ⟨b, rfl, .bl b, H1, I1, rfl, q⟩⟩
  · rintro obj s₁ ⟨y, rfl, hq⟩
    exact ⟨rfl, PySem.F.args_object_init_2 _ _, object_init_meets PySem.F.called_bool.init.lookup PySem.F.called_bool.made (by decide) X.prog X.w X.A.in1 _ s₁ ⟨rfl, rfl, hq⟩⟩
end
end Z
end

section
namespace Z
open PySem PySem.Spec PyProof.Rows L2 ClX
/-! ### a class in a local name is called; a staticmethod by its class -/
def tMakeL (i : Nat) (C : Addr) (sp : Sp) (E : XK) (t : TA) : TE := fun σ H Q => σ[i]? = some (some (.ref C)) ∧ tMake C sp [] E t σ H Q
/-- C.m is a staticmethod: its record at p, its def at g -/
structure SMet (K : PySem.W.Frag) (C : Addr) (mc : Value) (m : Str) (p g : Addr) : Prop where
  at_ : PySem.W.findCls K (.ref C) mc m = some (.get (.builtin "staticmethod.__get__") (.ref p) .none (.ref C))
  rc : ∃ rest, PySem.W.recIn K p "staticmethod" = some (.ref g :: rest)
  kp : PySem.W.keepIn K (.ref g) = true
def tSMeth0 (C : Addr) (sp : Sp) (E : XK) (ta : TE) : TE := fun σ H Q => ta σ H fun x H1 => x = .ref C ∧ sp [] H1 Q E
section
variable {X : Cx} {CX : CXT} {k i : Nat} {f C p0 g : Addr} {mc : Value} {fd : FuncData} {ps : List Str} {sp : Sp} {E : XK} {x m : Str} {p pos apos : Pos} {e o : Expr} {es : List Expr} {t : TA} {ta : TE} {pl : Sem Bool}
theorem pe_makeL (M : Mk X.K C f) (F : FnOk X.prog X.w X.K X.mg X.base CX k f fd ps sp) (hr : Room (k + 1) X.A) (hb : Binds X.K fd ps []) (hx : Passes CX X E) (i : Nat) (ha : PA X (e :: es) t) (hN : X.N[i]? = some x := by rfl)
    (hv : Vis X.env.scope x := by first | exact Or.inl rfl | exact Or.inr (Or.inl rfl) | exact Or.inr (Or.inr rfl)) (hdb : (x == ("__debug__" : Str)) = false := by decide) (hcd : (x == ("__classdict__" : Str)) = false := by decide)
    (he : starEach (e :: es) X.env = (false, eval e X.env) :: starEach es X.env := by rfl) (hpl : (backTo pos (starEach es X.env)).any (·.1) = false := by rfl) : PE X (.Call (.Name x p) (e :: es) [] pos) (tMakeL i C sp E t) := by
  constructor
  intro pins s σ H Q I h
  obtain ⟨hs, ht⟩ := h
  have rv := (pe_var (pos := p) hN hv hdb hcd).run pins s σ H (fun v H1 => v = .ref C ∧ H1 = H) I ⟨.ref C, hs, rfl, rfl⟩
  refine wpAny_Call_Name_kw (thn rv fun u s1 hu => ?_)
  obtain ⟨v, H1, I1, r1, rfl, rfl⟩ := hu
  cases r1
  refine PySem.W.callWith_K (h₀ := X.base) I.ok.mod.kin M.kp (thn (ha.run pos pins s1 σ _ _ I1 ht) fun us s2 hw => ?_) he hpl
  obtain ⟨vs, H2, I2, r, q⟩ := hw
  exact ⟨I2.kIn, run_make M F hr hb .nil hx I2 r q⟩
theorem getsm_ok {pins : List (Addr × Obj)} {σ : L2.St} {H : Hp} {s : Shared} {b : Bool} {A : Around} {E' : Value → Shared → Prop} {Q : Value → Shared → Prop} (I : Inv X pins σ H s) (r : CRead X.K C mc) (c : SMet X.K C mc m p0 g) (h : ∀ s', Inv X pins σ H s' → Q (.ref g) s') : wpAny (model X.prog X.w) A (getAttr (.ref C) m b) Q E' s := by
  obtain ⟨rest, hp⟩ := c.rc
  refine PySem.W.cls_bind I.kIn r.rd c.at_ ?_
  refine wpAny_call (PySem.W.sm_get (s := { s with toks := s.toks + 1 }) I.kIn hp (PySem.W.handed_on rfl ?_))
  exact h _ (I.tok _)
theorem pe_sm0 (he : PE X o ta) (r : CRead X.K C mc) (c : SMet X.K C mc m p0 g) (F : FnOk X.prog X.w X.K X.mg X.base CX k g fd [] sp) (hr : Room k X.A) (hb : Binds X.K fd [] []) (hx : Passes CX X E)
    (ht : eval (.Call (.Attribute o m apos) [] [] pos) X.env = (do
      let ov ← eval o X.env
      standAt apos.atName
      let (f, first) ← holding [ov] (getMethod ov m pl)
      callWith pos f first (backTo pos (starEach [] X.env)) (backToKw pos (keywordEach [] X.env))) := by rfl) :
    PE X (.Call (.Attribute o m apos) [] [] pos) (tSMeth0 C sp E ta) := by
  constructor
  intro pins s σ H Q I h
  refine PySem.W.methodCall_KW (pl := pl) (thn (he.run pins s σ H _ I h) fun u s1 hu => ?_) ht
  obtain ⟨x, H1, I1, rx, rfl, q⟩ := hu
  obtain rfl : u = Value.ref C := rx
  refine PySem.W.method_cls I1.kIn r.ga (getsm_ok I1 r c fun s2 I2 => ?_)
  exact PySem.W.callWith_K0 I2.kIn c.kp (run_fn (dvs := []) (ds := []) (us := []) (vs := []) F hr hb .nil hx I2 .nil q)
end
section
variable {K : PySem.W.Frag} {σ : L2.St} {H : Hp} {Q : VK} {E : XK} {sp : Sp} {t : TA} {C : Addr} {i : Nat} {ta : TE}
instance [l : Lk σ i (.ref C)] : Stp (tMakeL i C sp E t σ H Q) (tMake C sp [] E t σ H Q) := ⟨fun h => ⟨l.h, h⟩⟩
def iSM (C : Addr) (sp : Sp) (E : XK) (Q : VK) (x : V) (H1 : Hp) : Prop := x = .ref C ∧ sp [] H1 Q E
instance : Stp (tSMeth0 C sp E ta σ H Q) (ta σ H fun x H1 => iSM C sp E Q x H1) := ⟨id⟩
instance : Stp (iSM C sp E Q (.ref C) H) (sp [] H Q E) := ⟨fun h => ⟨rfl, h⟩⟩
def iCM (C : Addr) (sp : Sp) (E : XK) (t : TA) (σ : L2.St) (Q : VK) (x : V) (H1 : Hp) : Prop := x = .ref C ∧ t σ H1 fun vs H2 => sp (.ref C :: vs) H2 Q E
instance : Stp (tCMeth C sp E ta t σ H Q) (ta σ H fun x H1 => iCM C sp E t σ Q x H1) := ⟨id⟩
instance : Stp (iCM C sp E t σ Q (.ref C) H) (t σ H fun vs H2 => sp (.ref C :: vs) H2 Q E) := ⟨fun h => ⟨rfl, h⟩⟩
def iPr (C : Addr) (sp : Sp) (E : XK) (Q : VK) (x : V) (H1 : Hp) : Prop := ∃ a dx fs, x = .ref a ∧ H1 a = some (.ins C dx fs) ∧ sp [.ref a] H1 Q E
instance : Stp (tProp C sp [] E ta σ H Q) (ta σ H fun x H1 => iPr C sp E Q x H1) := ⟨id⟩
instance {p dx : Addr} {fs : List (Str × V)} [h : At H p (.ins C dx fs)] : Stp (iPr C sp E Q (.ref p) H) (sp [.ref p] H Q E) := ⟨fun q => ⟨p, dx, fs, rfl, h.h, q⟩⟩
end
end Z
end

section
namespace Z
open PySem PySem.Spec PyProof.Rows L2
/-! ### f-strings by instances, bool(x), str(x) -/
def tJn (ts : List TE) : TE := fun σ H Q => tJs ts Str.empty σ H fun out H1 => Q (.str out) H1
theorem pe_joinedN {X : Cx} {v1 v2 : Expr} {rest : List Expr} {ts : List TE} {pos : Pos} (h : PJ X (v1 :: v2 :: rest) ts) : PE X (.JoinedStr (v1 :: v2 :: rest) pos) (tJn ts) := pe_joined h
def iJ (ts : List TE) (acc : Str) (σ : L2.St) (R : Str → Hp → Prop) (x : V) (H1 : Hp) : Prop := ∃ y : Str, x = .str y ∧ (acc ++ y).length ≤ sizeLine ∧ tJs ts (acc ++ y) σ H1 R
def iFm (Q : VK) (x : V) (H1 : Hp) : Prop := (∃ y : Str, x = .str y ∧ y.length ≤ sizeLine ∧ Q (.str y) H1) ∨ ∃ i : Int, x = .int i ∧ i.natAbs.log2 < 1920 ∧ Q (.str (toString i)) H1
section
variable {σ : L2.St} {H : Hp} {Q : VK} {te : TE} {ts : List TE} {acc y : Str} {R : Str → Hp → Prop} {i : Int} {b : Bool}
instance : Stp (tJn ts σ H Q) (tJs ts Str.empty σ H fun out H1 => Q (.str out) H1) := ⟨id⟩
instance : Stp (tJs [] acc σ H R) (R acc H) := ⟨id⟩
instance : Stp (tJs (te :: ts) acc σ H R) (te σ H fun x H1 => iJ ts acc σ R x H1) := ⟨id⟩
instance : Stp (iJ ts acc σ R (.str y) H) ((acc ++ y).length ≤ sizeLine ∧ tJs ts (acc ++ y) σ H R) := ⟨fun h => ⟨y, rfl, h.1, h.2⟩⟩
instance : Stp (tFmt te σ H Q) (te σ H fun x H1 => iFm Q x H1) := ⟨id⟩
instance : Stp (iFm Q (.str y) H) (y.length ≤ sizeLine ∧ Q (.str y) H) := ⟨fun h => .inl ⟨y, rfl, h.1, h.2⟩⟩
instance : Stp (iFm Q (.int i) H) (i.natAbs.log2 < 1920 ∧ Q (.str (toString i)) H) := ⟨fun h => .inr ⟨i, rfl, h.1, h.2⟩⟩
def aBool : RC := fun xs H Q => (∃ i, xs = [.int i] ∧ Q (.bl (i != 0)) H) ∨ ∃ k, xs = [.bl k] ∧ Q (.bl k) H
theorem c_bool {X : Cx} : CallR X (.type "bool") aBool := call_bool1
instance : Stp (aBool [.bl b] H Q) (Q (.bl b) H) := ⟨fun h => .inr ⟨b, rfl, h⟩⟩
instance : Stp (aBool [.int i] H Q) (Q (.bl (i != 0)) H) := ⟨fun h => .inl ⟨i, rfl, h⟩⟩
instance : Stp (aStr [.int i] H Q) (i.natAbs.log2 < 1920 ∧ Q (.str (toString i)) H) := ⟨fun h => ⟨i, rfl, h.1, h.2⟩⟩
end
end Z
end

section
namespace S
open PySem PySem.Spec PyProof.Rows L2 Z LamX
/-! ### data, values, the mutable heap, results -/
inductive D where
  | non | bl (b : Bool) | int (i : Int) | str (x : Str) | ty (n : String) | cls (C : String)
  | tup (xs : List D) | lst (xs : List D) | scr (xs : List D)
  | dic (ks : List Key) (xs : List D)
  | obj (C : String) (ns : List Str) (xs : List D)
  | exc (C : String) (ns : List Str) (xs : List D)
inductive W where
  | dat (d : D) | ref (n : Nat) | fn (n : Nat)
inductive O where
  | lst (xs : List W) | dic (ks : List Key) (xs : List W) | ins (C : String) (ns : List Str) (xs : List W) | dead
abbrev MH := List O
abbrev En := List (Option W)
inductive Res (α : Type) where
  | ok (a : α) (h : MH) | exc (C : String) (ns : List Str) (xs : List D) (h : MH) | stuck
def Res.bind {α β : Type} (r : Res α) (k : α → MH → Res β) : Res β := match r with
  | .ok a h => k a h
  | .exc C ns xs h => .exc C ns xs h
  | .stuck => .stuck
inductive SRes where
  | nx (s : En) (h : MH) | rt (w : W) (h : MH) | bk (s : En) (h : MH) | ct (s : En) (h : MH) | exc (C : String) (ns : List Str) (xs : List D) (h : MH) | stuck
def Res.bindS {α : Type} (r : Res α) (k : α → MH → SRes) : SRes := match r with
  | .ok a h => k a h
  | .exc C ns xs h => .exc C ns xs h
  | .stuck => .stuck
def SRes.bind (r : SRes) (k : En → MH → SRes) : SRes := match r with
  | .nx s h => k s h
  | r => r
@[simp] theorem bind_ok {α β : Type} {a : α} {h : MH} {k : α → MH → Res β} : (Res.ok a h).bind k = k a h := rfl
@[simp] theorem bind_exc {α β : Type} {C : String} {ns : List Str} {xs : List D} {h : MH} {k : α → MH → Res β} : (Res.exc C ns xs h : Res α).bind k = .exc C ns xs h := rfl
@[simp] theorem bind_stuck {α β : Type} {k : α → MH → Res β} : (Res.stuck : Res α).bind k = .stuck := rfl
@[simp] theorem bindS_ok {α : Type} {a : α} {h : MH} {k : α → MH → SRes} : (Res.ok a h).bindS k = k a h := rfl
@[simp] theorem bindS_exc {α : Type} {C : String} {ns : List Str} {xs : List D} {h : MH} {k : α → MH → SRes} : (Res.exc C ns xs h : Res α).bindS k = .exc C ns xs h := rfl
@[simp] theorem bindS_stuck {α : Type} {k : α → MH → SRes} : (Res.stuck : Res α).bindS k = .stuck := rfl
@[simp] theorem sbind_nx {s : En} {h : MH} {k : En → MH → SRes} : (SRes.nx s h).bind k = k s h := rfl
@[simp] theorem sbind_rt {w : W} {h : MH} {k : En → MH → SRes} : (SRes.rt w h).bind k = .rt w h := rfl
@[simp] theorem sbind_bk {s : En} {h : MH} {k : En → MH → SRes} : (SRes.bk s h).bind k = .bk s h := rfl
@[simp] theorem sbind_ct {s : En} {h : MH} {k : En → MH → SRes} : (SRes.ct s h).bind k = .ct s h := rfl
@[simp] theorem sbind_exc {C : String} {ns : List Str} {xs : List D} {h : MH} {k : En → MH → SRes} : (SRes.exc C ns xs h).bind k = .exc C ns xs h := rfl
@[simp] theorem sbind_stuck {k : En → MH → SRes} : (SRes.stuck).bind k = .stuck := rfl

/-! ### what stands for what -/
structure Wd where
  K : PySem.W.Frag
  cl : String → Addr
  T : List (Addr × Str)
  /-- classes that may have instances -/
  ok : String → Prop
  /-- classes that are used as values -/
  tg : String → Prop
  fa : Nat → Addr
/-- built-in exceptions by their names -/
def bltX (C : String) : Bool := C ∈ ["KeyError", "TypeError", "ValueError", "IndexError", "ZeroDivisionError", "AttributeError"]
def xvOf (Γ : Wd) (C : String) : Value := if bltX C = true then .type C else .ref (Γ.cl C)
/-- the dict of an exception, if it has one -/
def XD (H : Hp) (dd : Option Addr) (ns : List Str) (vs : List V) : Prop := match dd with
  | none => ns = [] ∧ vs = []
  | some d => H d = some (.xd (ns.zip vs)) ∧ ns.length = vs.length
abbrev Br := Addr → Prop
mutual
def rep (Γ : Wd) (B : Br) (H : Hp) : D → V → Prop
  | .non, v => v = .non
  | .bl b, v => v = .bl b
  | .int i, v => v = .int i
  | .str x, v => v = .str x
  | .ty n, v => v = .ty n
  | .cls C, v => v = .ref (Γ.cl C) ∧ Γ.tg C
  | .tup ds, v => ∃ p vs, v = .ref p ∧ SqT Γ.K H p vs ∧ reps Γ B H ds vs
  | .lst ds, v => ∃ p vs, v = .ref p ∧ H p = some (.lst vs) ∧ ¬ B p ∧ reps Γ B H ds vs
  | .scr ds, v => ∃ p vs, v = .ref p ∧ ((H p = some (.lst vs) ∧ ¬ B p) ∨ (∃ o, H p = some (.frz o (.lst vs))) ∨ SqL Γ.K (fun _ => none) p vs) ∧ reps Γ B H ds vs
  | .dic ks ds, v => ∃ p vs, v = .ref p ∧ H p = some (.dK (ks.zip vs)) ∧ ks.length = vs.length ∧ ¬ B p ∧ reps Γ B H ds vs
  | .obj C ns ds, v => ∃ p dx vs, v = .ref p ∧ H p = some (.ins (Γ.cl C) dx (ns.zip vs)) ∧ ns.length = vs.length ∧ ¬ B p ∧ reps Γ B H ds vs ∧ Γ.ok C
  | .exc C ns ds, v => ∃ p dd vs, v = .ref p ∧ H p = some (ExV (xvOf Γ C) dd p) ∧ XD H dd ns vs ∧ Γ.ok C ∧ reps Γ B H ds vs
def reps (Γ : Wd) (B : Br) (H : Hp) : List D → List V → Prop
  | [], vs => vs = []
  | d :: ds, vs => ∃ v r, vs = v :: r ∧ rep Γ B H d v ∧ reps Γ B H ds r
end
def repW (Γ : Wd) (B : Br) (m : List Addr) (H : Hp) : W → V → Prop
  | .dat d, v => rep Γ B H d v
  | .ref n, v => ∃ p, m[n]? = some p ∧ v = .ref p
  | .fn n, v => v = .ref (Γ.fa n)
def repWs (Γ : Wd) (B : Br) (m : List Addr) (H : Hp) : List W → List V → Prop
  | [], vs => vs = []
  | d :: ds, vs => ∃ v r, vs = v :: r ∧ repW Γ B m H d v ∧ repWs Γ B m H ds r
/-- an object that may be changed -/
def Mu : HO → Prop
  | .lst _ => True
  | .dK _ => True
  | .ins _ _ _ => True
  | _ => False
def repO (Γ : Wd) (B : Br) (m : List Addr) (H : Hp) : O → Addr → Prop
  | .lst ws, p => ∃ vs, H p = some (.lst vs) ∧ repWs Γ B m H ws vs
  | .dic ks ws, p => ∃ vs, H p = some (.dK (ks.zip vs)) ∧ ks.length = vs.length ∧ repWs Γ B m H ws vs
  | .ins C ns ws, p => ∃ dx vs, H p = some (.ins (Γ.cl C) dx (ns.zip vs)) ∧ ns.length = vs.length ∧ repWs Γ B m H ws vs ∧ Γ.ok C
  | .dead, p => ∃ o, H p = some o ∧ Mu o
def live (m : List Addr) (h : MH) (p : Addr) : Prop := ∃ (i : Nat) (o : O), m[i]? = some p ∧ h[i]? = some o ∧ o ≠ .dead
def Bar (B0 : Br) (m : List Addr) (h : MH) : Br := fun p => B0 p ∨ live m h p
structure Rm (Γ : Wd) (B0 : Br) (m : List Addr) (h : MH) (H : Hp) : Prop where
  len : m.length = h.length
  nd : ∀ (i j : Nat) (p : Addr), m[i]? = some p → m[j]? = some p → i = j
  nb : ∀ (i : Nat) (p : Addr), m[i]? = some p → ¬ B0 p
  ob : ∀ (i : Nat) (p : Addr) (o : O), m[i]? = some p → h[i]? = some o → repO Γ (Bar B0 m h) m H o p
  tb : Tabs Γ.T H
  b0 : ∀ p, B0 p → ∃ o, H p = some o ∧ Mu o
structure Ex (m : List Addr) (h : MH) (H : Hp) (m' : List Addr) (h' : MH) (H' : Hp) : Prop where
  pre : ∀ (i : Nat) (p : Addr), m[i]? = some p → m'[i]? = some p
  kp : ∀ p o, H p = some o → (∀ ps, o ≠ .tbl ps) → ¬ live m h p → H' p = some o ∧ ¬ live m' h' p
section
variable {Γ : Wd} {B0 B B' : Br} {m m' m1 m2 : List Addr} {h h' h1 h2 : MH} {H H' H1 H2 : Hp} {p : Addr} {o : O} {u : HO}
theorem Ex.refl : Ex m h H m h H := ⟨fun _ _ z => z, fun _ _ g _ n => ⟨g, n⟩⟩
theorem Ex.trans (a : Ex m h H m1 h1 H1) (b : Ex m1 h1 H1 m2 h2 H2) : Ex m h H m2 h2 H2 := ⟨fun i p z => b.pre i p (a.pre i p z), fun p o g nt n => by
  obtain ⟨g1, n1⟩ := a.kp p o g nt n
  exact b.kp p o g1 nt n1⟩
theorem Mu.nt (h : Mu u) : ∀ ps, u ≠ .tbl ps := fun ps e => by subst e; exact h
theorem repO.mu (h : repO Γ B m H o p) : ∃ u, H p = some u ∧ Mu u := by
  cases o with
  | lst ws => obtain ⟨vs, h, _⟩ := h; exact ⟨_, h, trivial⟩
  | dic ks ws => obtain ⟨vs, h, _⟩ := h; exact ⟨_, h, trivial⟩
  | ins C ns ws => obtain ⟨dx, vs, h, _⟩ := h; exact ⟨_, h, trivial⟩
  | dead => exact h
theorem Rm.at (R : Rm Γ B0 m h H) {i : Nat} (g : m[i]? = some p) : ∃ o, h[i]? = some o := by
  have hi : i < m.length := by
    rcases Nat.lt_or_ge i m.length with q | q
    · exact q
    · rw [List.getElem?_eq_none q] at g; cases g
  rw [R.len] at hi
  exact ⟨_, List.getElem?_eq_getElem hi⟩
theorem Rm.mu (R : Rm Γ B0 m h H) {i : Nat} (g : m[i]? = some p) : ∃ u, H p = some u ∧ Mu u := by
  obtain ⟨o, ho⟩ := R.at g
  exact (R.ob i p o g ho).mu
theorem Rm.bar_mu (R : Rm Γ B0 m h H) (b : Bar B0 m h p) : ∃ u, H p = some u ∧ Mu u := by
  rcases b with b | ⟨i, o, g, _, _⟩
  · exact R.b0 p b
  · exact R.mu g
theorem Rm.live_mu (R : Rm Γ B0 m h H) (b : live m h p) : ∃ u, H p = some u ∧ Mu u := R.bar_mu (.inr b)
theorem Rm.not_live (R : Rm Γ B0 m h H) (g : H p = some u) (n : ¬ Mu u) : ¬ live m h p := fun b => by
  obtain ⟨u', g', q⟩ := R.live_mu b
  rw [g] at g'
  cases g'
  exact n q
theorem Rm.new_not (R : Rm Γ B0 m h H) (g : H p = none) : ¬ Bar B0 m h p := fun b => by
  obtain ⟨u', g', q⟩ := R.bar_mu b
  rw [g] at g'
  cases g'
theorem keep_lst {vs : List V} (x : Ex m h H m' h' H') (g : H p = some (.lst vs)) (n : ¬ Bar B0 m h p) : H' p = some (.lst vs) ∧ ¬ Bar B0 m' h' p := by
  obtain ⟨a, b⟩ := x.kp p _ g (fun _ z => by cases z) (fun z => n (.inr z))
  exact ⟨a, fun z => z.elim (fun z => n (.inl z)) b⟩
theorem keep_any (x : Ex m h H m' h' H') (g : H p = some u) (nt : ∀ ps, u ≠ .tbl ps) (n : ¬ Bar B0 m h p) : H' p = some u ∧ ¬ Bar B0 m' h' p := by
  obtain ⟨a, b⟩ := x.kp p _ g nt (fun z => n (.inr z))
  exact ⟨a, fun z => z.elim (fun z => n (.inl z)) b⟩
theorem keep_im (R : Rm Γ B0 m h H) (x : Ex m h H m' h' H') (g : H p = some u) (nt : ∀ ps, u ≠ .tbl ps) (n : ¬ Mu u) : H' p = some u := (x.kp p _ g nt (R.not_live g n)).1
theorem keep_sqT {vs : List V} (R : Rm Γ B0 m h H) (x : Ex m h H m' h' H') (g : SqT Γ.K H p vs) : SqT Γ.K H' p vs := by
  rcases g with g | g
  · refine .inl ?_
    rcases g with g | ⟨o, g⟩
    · exact .inl (keep_im R x g (fun _ z => by cases z) id)
    · exact .inr ⟨o, keep_im R x g (fun _ z => by cases z) id⟩
  · exact .inr g
/-- nothing more is barred, all that is not barred stays: what stands for data stands for it behind -/
structure Kp (Γ : Wd) (B : Br) (H : Hp) (B' : Br) (H' : Hp) : Prop where
  im : ∀ p u, H p = some u → (∀ ps, u ≠ .tbl ps) → ¬ Mu u → H' p = some u
  mu : ∀ p u, H p = some u → Mu u → ¬ B p → H' p = some u ∧ ¬ B' p
theorem Kp.sqT {vs : List V} (k : Kp Γ B H B' H') (g : SqT Γ.K H p vs) : SqT Γ.K H' p vs := by
  rcases g with g | g
  · refine .inl ?_
    rcases g with g | ⟨o, g⟩
    · exact .inl (k.im _ _ g (fun _ z => by cases z) id)
    · exact .inr ⟨o, k.im _ _ g (fun _ z => by cases z) id⟩
  · exact .inr g
theorem exv_nt {c : Value} {d : Option Addr} : ∀ ps, ExV c d p ≠ .tbl ps := fun _ z => by unfold ExV at z; cases z
theorem exv_nm {c : Value} {d : Option Addr} : ¬ Mu (ExV c d p) := fun z => by unfold ExV at z; exact z
theorem XD.kp {dd : Option Addr} {ns : List Str} {vs : List V} (k : Kp Γ B H B' H') (x : XD H dd ns vs) : XD H' dd ns vs := by
  cases dd with
  | none => exact x
  | some d => exact ⟨k.im _ _ x.1 (fun _ z => by cases z) id, x.2⟩
mutual
theorem Kp.rep (k : Kp Γ B H B' H') : ∀ (d : D) (v : V), rep Γ B H d v → rep Γ B' H' d v
  | .non, _, h => by unfold S.rep at h ⊢; exact h
  | .bl _, _, h => by unfold S.rep at h ⊢; exact h
  | .int _, _, h => by unfold S.rep at h ⊢; exact h
  | .str _, _, h => by unfold S.rep at h ⊢; exact h
  | .ty _, _, h => by unfold S.rep at h ⊢; exact h
  | .cls _, _, h => by unfold S.rep at h ⊢; exact h
  | .tup ds, _, h => by
    unfold S.rep at h ⊢
    obtain ⟨p, vs, e, g, r⟩ := h
    exact ⟨p, vs, e, k.sqT g, Kp.reps k ds vs r⟩
  | .lst ds, _, h => by
    unfold S.rep at h ⊢
    obtain ⟨p, vs, e, g, n, r⟩ := h
    exact ⟨p, vs, e, (k.mu _ _ g trivial n).1, (k.mu _ _ g trivial n).2, Kp.reps k ds vs r⟩
  | .scr ds, _, h => by
    unfold S.rep at h ⊢
    obtain ⟨p, vs, e, g, r⟩ := h
    refine ⟨p, vs, e, ?_, Kp.reps k ds vs r⟩
    rcases g with ⟨g, n⟩ | ⟨o, g⟩ | g
    · exact .inl (k.mu _ _ g trivial n)
    · exact .inr (.inl ⟨o, k.im _ _ g (fun _ z => by cases z) id⟩)
    · exact .inr (.inr g)
  | .dic ks ds, _, h => by
    unfold S.rep at h ⊢
    obtain ⟨p, vs, e, g, l, n, r⟩ := h
    exact ⟨p, vs, e, (k.mu _ _ g trivial n).1, l, (k.mu _ _ g trivial n).2, Kp.reps k ds vs r⟩
  | .obj C ns ds, _, h => by
    unfold S.rep at h ⊢
    obtain ⟨p, dx, vs, e, g, l, n, r, o⟩ := h
    exact ⟨p, dx, vs, e, (k.mu _ _ g trivial n).1, l, (k.mu _ _ g trivial n).2, Kp.reps k ds vs r, o⟩
  | .exc C ns ds, _, h => by
    unfold S.rep at h ⊢
    obtain ⟨p, d, vs, e, g, g2, l, r⟩ := h
    exact ⟨p, d, vs, e, k.im _ _ g exv_nt exv_nm, XD.kp k g2, l, Kp.reps k ds vs r⟩
theorem Kp.reps (k : Kp Γ B H B' H') : ∀ (ds : List D) (vs : List V), reps Γ B H ds vs → reps Γ B' H' ds vs
  | [], _, h => by unfold S.reps at h ⊢; exact h
  | d :: ds, _, h => by
    unfold S.reps at h ⊢
    obtain ⟨v, r, e, a, b⟩ := h
    exact ⟨v, r, e, Kp.rep k d v a, Kp.reps k ds r b⟩
end
theorem Ex.kpp (R : Rm Γ B0 m h H) (x : Ex m h H m' h' H') : Kp Γ (Bar B0 m h) H (Bar B0 m' h') H' := ⟨fun p u g nt n => keep_im R x g nt n, fun p u g q n => keep_any x g q.nt n⟩
theorem repW.mono (R : Rm Γ B0 m h H) (x : Ex m h H m' h' H') {w : W} {v : V} (r : repW Γ (Bar B0 m h) m H w v) : repW Γ (Bar B0 m' h') m' H' w v := by
  cases w with
  | dat d => exact (x.kpp R).rep d v r
  | ref n => obtain ⟨p, g, e⟩ := r; exact ⟨p, x.pre _ _ g, e⟩
  | fn n => exact r
theorem repWs.mono (R : Rm Γ B0 m h H) (x : Ex m h H m' h' H') : ∀ {ws : List W} {vs : List V}, repWs Γ (Bar B0 m h) m H ws vs → repWs Γ (Bar B0 m' h') m' H' ws vs
  | [], _, r => r
  | w :: ws, _, ⟨v, q, e, a, b⟩ => ⟨v, q, e, a.mono R x, repWs.mono R x b⟩
/-- slots -/
def repE (Γ : Wd) (B : Br) (m : List Addr) (H : Hp) (s : En) (σ : L2.St) : Prop := s.length = σ.length ∧ ∀ (i : Nat) (w : W), s[i]? = some (some w) → ∃ v, σ[i]? = some (some v) ∧ repW Γ B m H w v
theorem repE.mono (R : Rm Γ B0 m h H) (x : Ex m h H m' h' H') {s : En} {σ : L2.St} (r : repE Γ (Bar B0 m h) m H s σ) : repE Γ (Bar B0 m' h') m' H' s σ := ⟨r.1, fun i w g => by
  obtain ⟨v, a, b⟩ := r.2 i w g
  exact ⟨v, a, b.mono R x⟩⟩
end
/-! ### what is wished of a result -/
abbrev Rl (α β : Type) := Wd → Br → List Addr → Hp → α → β → Prop
def post {α β : Type} (rl : Rl α β) (Γ : Wd) (B0 : Br) (m : List Addr) (h : MH) (H : Hp) (Q : β → Hp → Prop) (E : XK) : Res α → Prop
  | .ok w h' => ∀ m' H' v, Rm Γ B0 m' h' H' → Ex m h H m' h' H' → rl Γ (Bar B0 m' h') m' H' w v → Q v H'
  | .exc C ns xs h' => ∀ m' H' dd vs, Γ.ok C → Rm Γ B0 m' h' H' → Ex m h H m' h' H' → XD H' dd ns vs → reps Γ (Bar B0 m' h') H' xs vs → E (xvOf Γ C) dd H'
  | .stuck => False
class Ev {α β : Type} (rl : Rl α β) (Γ : Wd) (E : XK) (t : L2.St → Hp → (β → Hp → Prop) → Prop) (e : En → MH → Res α) : Prop where
  run : ∀ {B0 : Br} {m : List Addr} {h : MH} {H : Hp} {s : En} {σ : L2.St} {Q : β → Hp → Prop}, Rm Γ B0 m h H → repE Γ (Bar B0 m h) m H s σ → post rl Γ B0 m h H Q E (e s h) → t σ H Q
def eqR (α : Type) : Rl α α := fun _ _ _ _ a b => b = a
abbrev EvE := Ev (fun Γ B m H => repW Γ B m H)
abbrev EvA := Ev (fun Γ B m H => repWs Γ B m H)
abbrev EvT := Ev (eqR Bool)
abbrev EvO := Ev (eqR (Option Int))
section
variable {Γ : Wd} {B0 B : Br} {m m' m1 m2 : List Addr} {h h' h1 h2 : MH} {H H' H1 H2 : Hp} {p : Addr} {E : XK}
theorem post.mono {α β : Type} {rl : Rl α β} {Q : β → Hp → Prop} {r : Res α} (x : Ex m h H m1 h1 H1) (q : post rl Γ B0 m h H Q E r) : post rl Γ B0 m1 h1 H1 Q E r := by
  cases r with
  | ok w h' => exact fun m' H' v a b c => q m' H' v a (x.trans b) c
  | exc C ns xs h' => exact fun m' H' d vs o a b c e => q m' H' d vs o a (x.trans b) c e
  | stuck => exact q
theorem post.bind {α β α' β' : Type} {rl : Rl α β} {rl' : Rl α' β'} {Q : β' → Hp → Prop} {Q' : β → Hp → Prop} {r : Res α} {k : α → MH → Res α'} (q : post rl' Γ B0 m h H Q E (r.bind k))
    (f : ∀ w h1 m1 H1 v, Rm Γ B0 m1 h1 H1 → Ex m h H m1 h1 H1 → rl Γ (Bar B0 m1 h1) m1 H1 w v → post rl' Γ B0 m1 h1 H1 Q E (k w h1) → Q' v H1) : post rl Γ B0 m h H Q' E r := by
  cases r with
  | ok w h' => exact fun m' H' v a b c => f w h' m' H' v a b c (post.mono b q)
  | exc C ns xs h' => exact q
  | stuck => exact q
theorem post.cons {α β : Type} {rl : Rl α β} {Q Q' : β → Hp → Prop} {r : Res α} (q : post rl Γ B0 m h H Q E r) (f : ∀ v H', Q v H' → Q' v H') : post rl Γ B0 m h H Q' E r := by
  cases r with
  | ok w h' => exact fun m' H' v a b c => f _ _ (q m' H' v a b c)
  | exc C ns xs h' => exact q
  | stuck => exact q
end
/-! ### statements -/
def postS (Γ : Wd) (B0 : Br) (m : List Addr) (h : MH) (H : Hp) (Dn : Ends) (E : XK) : SRes → Prop
  | .nx s' h' => ∀ m' H' σ', Rm Γ B0 m' h' H' → Ex m h H m' h' H' → repE Γ (Bar B0 m' h') m' H' s' σ' → Dn.nx σ' H'
  | .bk s' h' => ∀ m' H' σ', Rm Γ B0 m' h' H' → Ex m h H m' h' H' → repE Γ (Bar B0 m' h') m' H' s' σ' → Dn.bk σ' H'
  | .ct s' h' => ∀ m' H' σ', Rm Γ B0 m' h' H' → Ex m h H m' h' H' → repE Γ (Bar B0 m' h') m' H' s' σ' → Dn.ct σ' H'
  | .rt w h' => ∀ m' H' v, Rm Γ B0 m' h' H' → Ex m h H m' h' H' → repW Γ (Bar B0 m' h') m' H' w v → Dn.rt v H'
  | .exc C ns xs h' => ∀ m' H' dd vs, Γ.ok C → Rm Γ B0 m' h' H' → Ex m h H m' h' H' → XD H' dd ns vs → reps Γ (Bar B0 m' h') H' xs vs → E (xvOf Γ C) dd H'
  | .stuck => False
class EvS (Γ : Wd) (E : XK) (t : TS) (e : En → MH → SRes) : Prop where
  run : ∀ {B0 : Br} {m : List Addr} {h : MH} {H : Hp} {s : En} {σ : L2.St} {Dn : Ends}, Rm Γ B0 m h H → repE Γ (Bar B0 m h) m H s σ → postS Γ B0 m h H Dn E (e s h) → t Dn σ H
section
variable {Γ : Wd} {B0 B : Br} {m m' m1 m2 : List Addr} {h h' h1 h2 : MH} {H H' H1 H2 : Hp} {p : Addr} {E : XK} {Dn Dn' : Ends}
theorem postS.mono {r : SRes} (x : Ex m h H m1 h1 H1) (q : postS Γ B0 m h H Dn E r) : postS Γ B0 m1 h1 H1 Dn E r := by
  cases r with
  | nx s' h' => exact fun m' H' v a b c => q m' H' v a (x.trans b) c
  | bk s' h' => exact fun m' H' v a b c => q m' H' v a (x.trans b) c
  | ct s' h' => exact fun m' H' v a b c => q m' H' v a (x.trans b) c
  | rt s' h' => exact fun m' H' v a b c => q m' H' v a (x.trans b) c
  | exc C ns xs h' => exact fun m' H' d vs o a b c e => q m' H' d vs o a (x.trans b) c e
  | stuck => exact q
theorem post.bindS {α β : Type} {rl : Rl α β} {Q' : β → Hp → Prop} {r : Res α} {k : α → MH → SRes} (q : postS Γ B0 m h H Dn E (r.bindS k))
    (f : ∀ w h1 m1 H1 v, Rm Γ B0 m1 h1 H1 → Ex m h H m1 h1 H1 → rl Γ (Bar B0 m1 h1) m1 H1 w v → postS Γ B0 m1 h1 H1 Dn E (k w h1) → Q' v H1) : post rl Γ B0 m h H Q' E r := by
  cases r with
  | ok w h' => exact fun m' H' v a b c => f w h' m' H' v a b c (postS.mono b q)
  | exc C ns xs h' => exact q
  | stuck => exact q
theorem postS.bind {r : SRes} {k : En → MH → SRes} {N : L2.St → Hp → Prop} (q : postS Γ B0 m h H Dn E (r.bind k))
    (f : ∀ s h1 m1 H1 σ, Rm Γ B0 m1 h1 H1 → Ex m h H m1 h1 H1 → repE Γ (Bar B0 m1 h1) m1 H1 s σ → postS Γ B0 m1 h1 H1 Dn E (k s h1) → N σ H1) : postS Γ B0 m h H { Dn with nx := N } E r := by
  cases r with
  | nx s' h' => exact fun m' H' v a b c => f s' h' m' H' v a b c (postS.mono b q)
  | bk s' h' => exact q
  | ct s' h' => exact q
  | rt s' h' => exact q
  | exc C ns xs h' => exact q
  | stuck => exact q
end
end S
end

section
namespace S
open PySem PySem.Spec PyProof.Rows L2 Z LamX
/-! ### heaps grow and change -/
section
variable {Γ : Wd} {B0 B : Br} {m m' m1 m2 : List Addr} {h h' h1 h2 : MH} {H H' H1 H2 : Hp} {p : Addr} {E : XK} {u : HO}
theorem repO.mono {o : O} (R : Rm Γ B0 m h H) (x : Ex m h H m' h' H') {q : Addr} (e : ∀ u, H q = some u → H' q = some u) (r : repO Γ (Bar B0 m h) m H o q) : repO Γ (Bar B0 m' h') m' H' o q := by
  cases o with
  | lst ws => obtain ⟨vs, g, a⟩ := r; exact ⟨vs, e _ g, a.mono R x⟩
  | dic ks ws => obtain ⟨vs, g, l, a⟩ := r; exact ⟨vs, e _ g, l, a.mono R x⟩
  | ins C ns ws => obtain ⟨dx, vs, g, l, a, k⟩ := r; exact ⟨dx, vs, e _ g, l, a.mono R x, k⟩
  | dead => obtain ⟨u, g, a⟩ := r; exact ⟨u, e _ g, a⟩
theorem Rm.extN (R : Rm Γ B0 m h H) (e : ExtN H H') (t : Tabs Γ.T H') : Rm Γ B0 m h H' ∧ Ex m h H m h H' := by
  have x : Ex m h H m h H' := ⟨fun _ _ z => z, fun p o g nt n => ⟨e p o g nt, n⟩⟩
  refine ⟨⟨R.len, R.nd, R.nb, fun i p o g1 g2 => ?_, t, fun p b => ?_⟩, x⟩
  · obtain ⟨u, g3, q⟩ := R.mu g1
    exact (R.ob i p o g1 g2).mono R x fun u' g => by
      rw [g3] at g; cases g
      exact e _ _ g3 q.nt
  · obtain ⟨u, g, q⟩ := R.b0 p b
    exact ⟨u, e _ _ g q.nt, q⟩
theorem Rm.same (R : Rm Γ B0 m h H) (e : L2.Same H H') : Rm Γ B0 m h H' ∧ Ex m h H m h H' := R.extN (fun b o g _ => e b o g) (Tabs.same R.tb e)
theorem same_new {u : HO} (g : H p = none) : L2.Same H (upd H p u) := Same.new (fun _ _ z => z) g
/-- data that stand in H stand in a larger heap, at the same bars -/
theorem rep.same (R : Rm Γ B0 m h H) (e : L2.Same H H') {d : D} {v : V} (r : rep Γ (Bar B0 m h) H d v) : rep Γ (Bar B0 m h) H' d v := ((R.same e).2.kpp R).rep d v r
theorem reps.same (R : Rm Γ B0 m h H) (e : L2.Same H H') {d : List D} {v : List V} (r : reps Γ (Bar B0 m h) H d v) : reps Γ (Bar B0 m h) H' d v := ((R.same e).2.kpp R).reps d v r
theorem getElem?_app_last {α : Type} {xs : List α} {a b : α} {i : Nat} (g : (xs ++ [a])[i]? = some b) : xs[i]? = some b ∨ (i = xs.length ∧ b = a) := by
  rcases Nat.lt_or_ge i xs.length with q | q
  · rw [List.getElem?_append_left q] at g; exact .inl g
  · rw [List.getElem?_append_right q] at g
    have : i - xs.length = 0 := by
      rcases Nat.eq_zero_or_pos (i - xs.length) with z | z
      · exact z
      · rw [List.getElem?_eq_none (by simp; omega)] at g; cases g
    rw [this] at g
    simp at g
    exact .inr ⟨by omega, g.symm⟩
theorem app_left {α : Type} {xs ys : List α} {i : Nat} {a : α} (g : xs[i]? = some a) : (xs ++ ys)[i]? = some a := by
  have hi : i < xs.length := by
    rcases Nat.lt_or_ge i xs.length with q | q
    · exact q
    · rw [List.getElem?_eq_none q] at g; cases g
  rw [List.getElem?_append_left hi]; exact g
/-- a new object that may be changed -/
theorem Rm.alloc {o : O} (R : Rm Γ B0 m h H) (e : L2.Same H H') (g : H p = none) (hm : ∃ u, H' p = some u ∧ Mu u) (ho : Ex m h H (m ++ [p]) (h ++ [o]) H' → repO Γ (Bar B0 (m ++ [p]) (h ++ [o])) (m ++ [p]) H' o p) : Rm Γ B0 (m ++ [p]) (h ++ [o]) H' ∧ Ex m h H (m ++ [p]) (h ++ [o]) H' := by
  have x : Ex m h H (m ++ [p]) (h ++ [o]) H' := by
    refine ⟨fun i q z => app_left z, fun q u gq nt n => ⟨e _ _ gq, ?_⟩⟩
    rintro ⟨i, o', g1, g2, g3⟩
    rcases getElem?_app_last g1 with g1 | ⟨rfl, rfl⟩
    · rcases getElem?_app_last g2 with g2 | ⟨rfl, rfl⟩
      · exact n ⟨i, o', g1, g2, g3⟩
      · rw [← R.len, List.getElem?_eq_none (Nat.le_refl _)] at g1; cases g1
    · rw [g] at gq; cases gq
  have nm : ∀ i, m[i]? ≠ some p := fun i z => by
    obtain ⟨u, gu, _⟩ := R.mu z
    rw [g] at gu; cases gu
  refine ⟨⟨by simp [R.len], fun i j q g1 g2 => ?_, fun i q g1 => ?_, fun i q o' g1 g2 => ?_, Tabs.same R.tb e, fun q b => ?_⟩, x⟩
  · rcases getElem?_app_last g1 with g1 | ⟨rfl, rfl⟩
    · rcases getElem?_app_last g2 with g2 | ⟨rfl, rfl⟩
      · exact R.nd i j q g1 g2
      · exact absurd (by assumption) (nm i)
    · rcases getElem?_app_last g2 with g2 | ⟨rfl, _⟩
      · exact absurd (by assumption) (nm j)
      · rfl
  · rcases getElem?_app_last g1 with g1 | ⟨rfl, rfl⟩
    · exact R.nb i q g1
    · exact fun b => by
        obtain ⟨u, gu, _⟩ := R.b0 _ b
        rw [g] at gu; cases gu
  · rcases getElem?_app_last g1 with g1 | ⟨rfl, rfl⟩
    · rcases getElem?_app_last g2 with g2 | ⟨rfl, rfl⟩
      · exact (R.ob i q o' g1 g2).mono R x fun u gu => e _ _ gu
      · rw [← R.len, List.getElem?_eq_none (Nat.le_refl _)] at g1; cases g1
    · rcases getElem?_app_last g2 with g2 | ⟨_, rfl⟩
      · rw [R.len, List.getElem?_eq_none (Nat.le_refl _)] at g2; cases g2
      · exact ho x
  · obtain ⟨u, gu, q⟩ := R.b0 q b
    exact ⟨u, e _ _ gu, q⟩
theorem getElem?_set' {α : Type} {xs : List α} {i j : Nat} {a b : α} (g : (xs.set i a)[j]? = some b) : (j = i ∧ b = a) ∨ (j ≠ i ∧ xs[j]? = some b) := by
  rw [List.getElem?_set] at g
  split at g
  · next e =>
    split at g
    · cases g; exact .inl ⟨e.symm, rfl⟩
    · cases g
  · next e => exact .inr ⟨fun z => e z.symm, g⟩
/-- an object changes -/
theorem Rm.put {o o' : O} {i : Nat} {u : HO} (R : Rm Γ B0 m h H) (gi : m[i]? = some p) (go : h[i]? = some o) (nd : o ≠ .dead) (mu : Mu u)
    (ho : Ex m h H m (h.set i o') (upd H p u) → repO Γ (Bar B0 m (h.set i o')) m (upd H p u) o' p) : Rm Γ B0 m (h.set i o') (upd H p u) ∧ Ex m h H m (h.set i o') (upd H p u) := by
  have lv : live m h p := ⟨i, o, gi, go, nd⟩
  have x : Ex m h H m (h.set i o') (upd H p u) := by
    refine ⟨fun _ _ z => z, fun q w gq nt n => ⟨?_, ?_⟩⟩
    · rw [upd_ne (fun (z : q = p) => n (by rw [z]; exact lv))]; exact gq
    · rintro ⟨j, o2, g1, g2, g3⟩
      rcases getElem?_set' g2 with ⟨rfl, _⟩ | ⟨_, g2⟩
      · rw [gi] at g1; cases g1; exact n lv
      · exact n ⟨j, o2, g1, g2, g3⟩
  have tabs : Tabs Γ.T (upd H p u) := by
    intro q hq
    obtain ⟨ps, g1, g2, g3⟩ := R.tb q hq
    obtain ⟨w, gw, mw⟩ := R.live_mu lv
    have ne : ∀ b o, H b = some o → ¬ Mu o → b ≠ p := fun b o g n z => by
      rw [z, gw] at g; cases g; exact n mw
    refine ⟨ps, by rw [upd_ne (ne _ _ g1 id)]; exact g1, g2, fun pos cv hc => ?_⟩
    obtain ⟨c, e1, e2⟩ := g3 pos cv hc
    refine ⟨c, e1, ?_⟩
    rw [upd_ne (ne _ _ e2 (fun z => by unfold CodeO at z; exact z))]; exact e2
  refine ⟨⟨by simp [R.len], R.nd, R.nb, fun j q o2 g1 g2 => ?_, tabs, fun q b => ?_⟩, x⟩
  · rcases getElem?_set' g2 with ⟨rfl, rfl⟩ | ⟨n, g2⟩
    · rw [gi] at g1; cases g1; exact ho x
    · refine (R.ob j q o2 g1 g2).mono R x fun w gw => ?_
      rw [upd_ne (fun (z : q = p) => n (R.nd j i p (by rw [← z]; exact g1) gi))]; exact gw
  · obtain ⟨w, gw, mw⟩ := R.b0 q b
    refine ⟨w, ?_, mw⟩
    rw [upd_ne (fun (z : q = p) => R.nb i p gi (by rw [← z]; exact b))]; exact gw
end
/-! ### reading data, mutable or not -/
def datAll : List W → Option (List D)
  | [] => some []
  | .dat d :: r => (datAll r).map (d :: ·)
  | .ref _ :: _ => none
  | .fn _ :: _ => none
def vw (h : MH) : W → Option D
  | .dat d => some d
  | .ref n => match h[n]? with
    | some (.lst ws) => (datAll ws).map .lst
    | some (.dic ks ws) => (datAll ws).map (.dic ks)
    | some (.ins C ns ws) => (datAll ws).map (.obj C ns)
    | _ => none
  | .fn _ => none
@[simp] theorem vw_dat {h : MH} {d : D} : vw h (.dat d) = some d := rfl
/-- stands for, whether it may change or not -/
def repV (Γ : Wd) (B : Br) (H : Hp) : D → V → Prop
  | .lst ds, v => ∃ p vs, v = .ref p ∧ H p = some (.lst vs) ∧ reps Γ B H ds vs
  | .dic ks ds, v => ∃ p vs, v = .ref p ∧ H p = some (.dK (ks.zip vs)) ∧ ks.length = vs.length ∧ reps Γ B H ds vs
  | .obj C ns ds, v => ∃ p dx vs, v = .ref p ∧ H p = some (.ins (Γ.cl C) dx (ns.zip vs)) ∧ ns.length = vs.length ∧ reps Γ B H ds vs ∧ Γ.ok C
  | .non, v => v = .non
  | .bl b, v => v = .bl b
  | .int i, v => v = .int i
  | .str x, v => v = .str x
  | .ty n, v => v = .ty n
  | .cls C, v => v = .ref (Γ.cl C) ∧ Γ.tg C
  | .tup ds, v => ∃ p vs, v = .ref p ∧ SqT Γ.K H p vs ∧ reps Γ B H ds vs
  | .scr ds, v => ∃ p vs, v = .ref p ∧ SqL Γ.K H p vs ∧ reps Γ B H ds vs
  | .exc C ns ds, v => ∃ p dd vs, v = .ref p ∧ H p = some (ExV (xvOf Γ C) dd p) ∧ XD H dd ns vs ∧ Γ.ok C ∧ reps Γ B H ds vs
section
variable {Γ : Wd} {B0 B : Br} {m m' m1 m2 : List Addr} {h h' h1 h2 : MH} {H H' H1 H2 : Hp} {p : Addr} {E : XK} {u : HO} {v : V} {d : D}
theorem sqL_up {vs : List V} (g : SqL Γ.K (fun _ => none) p vs) : SqL Γ.K H p vs := by
  rcases g with g | g
  · rcases g with g | ⟨o, g⟩ <;> cases g
  · exact .inr g
theorem rep_v (r : rep Γ B H d v) : repV Γ B H d v := by
  cases d with
  | lst ds => unfold rep at r; obtain ⟨p, vs, e, g, _, a⟩ := r; exact ⟨p, vs, e, g, a⟩
  | dic ks ds => unfold rep at r; obtain ⟨p, vs, e, g, l, _, a⟩ := r; exact ⟨p, vs, e, g, l, a⟩
  | obj C ns ds => unfold rep at r; obtain ⟨p, dx, vs, e, g, l, _, a, k⟩ := r; exact ⟨p, dx, vs, e, g, l, a, k⟩
  | scr ds =>
    unfold rep at r; obtain ⟨p, vs, e, g, a⟩ := r
    refine ⟨p, vs, e, ?_, a⟩
    rcases g with ⟨g, _⟩ | ⟨o, g⟩ | g
    · exact SqL.of g
    · exact .inl (.inr ⟨o, g⟩)
    · exact sqL_up g
  | _ => unfold rep at r; exact r
theorem datAll_reps : ∀ {ws : List W} {ds : List D} {vs : List V}, datAll ws = some ds → repWs Γ B m H ws vs → reps Γ B H ds vs
  | [], _, _, e, r => by cases e; unfold reps; exact r
  | .dat d :: ws, ds, vs, e, ⟨v, q, e2, a, b⟩ => by
    unfold datAll at e
    cases e3 : datAll ws with
    | none => rw [e3] at e; cases e
    | some ds' =>
      rw [e3] at e; cases e
      unfold reps
      exact ⟨v, q, e2, a, datAll_reps e3 b⟩
  | .ref _ :: ws, _, _, e, _ => by cases e
  | .fn _ :: ws, _, _, e, _ => by cases e
theorem vw_rep (R : Rm Γ B0 m h H) {w : W} (r : repW Γ (Bar B0 m h) m H w v) (e : vw h w = some d) : repV Γ (Bar B0 m h) H d v := by
  cases w with
  | fn n => cases e
  | dat d' => cases e; exact rep_v r
  | ref n =>
    obtain ⟨p, g, rfl⟩ := r
    obtain ⟨o, ho⟩ := R.at g
    have ob := R.ob n p o g ho
    unfold vw at e
    simp only [ho] at e
    cases o with
    | lst ws =>
      obtain ⟨vs, g1, a⟩ := ob
      cases e3 : datAll ws with
      | none => simp only [e3] at e; cases e
      | some ds => simp only [e3, Option.map_some] at e; cases e; exact ⟨p, vs, rfl, g1, datAll_reps e3 a⟩
    | dic ks ws =>
      obtain ⟨vs, g1, l, a⟩ := ob
      cases e3 : datAll ws with
      | none => simp only [e3] at e; cases e
      | some ds => simp only [e3, Option.map_some] at e; cases e; exact ⟨p, vs, rfl, g1, l, datAll_reps e3 a⟩
    | ins C ns ws =>
      obtain ⟨dx, vs, g1, l, a, k⟩ := ob
      cases e3 : datAll ws with
      | none => simp only [e3] at e; cases e
      | some ds => simp only [e3, Option.map_some] at e; cases e; exact ⟨p, dx, vs, rfl, g1, l, datAll_reps e3 a, k⟩
    | dead => cases e
end
end S
end

section
namespace S
open PySem PySem.Spec PyProof.Rows L2 Z LamX
abbrev EE := En → MH → Res W
abbrev EA := En → MH → Res (List W)
abbrev ET := En → MH → Res Bool
abbrev EO := En → MH → Res (Option Int)
abbrev SS := En → MH → SRes
/-! ### expressions -/
@[simp] def eVar (i : Nat) : EE := fun s h => match s[i]? with
  | some (some w) => .ok w h
  | _ => .stuck
@[simp] def eC (d : D) : EE := fun _ h => .ok (.dat d) h
@[simp] def eOp (f : W → W → MH → Res W) (a b : EE) : EE := fun s h => (a s h).bind fun x h1 => (b s h1).bind fun y h2 => f x y h2
@[simp] def eUn (f : W → MH → Res W) (a : EE) : EE := fun s h => (a s h).bind fun x h1 => f x h1
@[simp] def eCB (f : List W → MH → Res W) (a : EA) : EE := fun s h => (a s h).bind fun x h1 => f x h1
@[simp] def eNil : EA := fun _ h => .ok [] h
@[simp] def eCons (a : EE) (r : EA) : EA := fun s h => (a s h).bind fun x h1 => (r s h1).bind fun xs h2 => .ok (x :: xs) h2
@[simp] def asB (w : W) (h : MH) : Res Bool := match w with
  | .dat (.bl b) => .ok b h
  | _ => .stuck
@[simp] def eTest (a : EE) : ET := fun s h => (a s h).bind asB
@[simp] def eAnd (t u : ET) : ET := fun s h => (t s h).bind fun c h1 => if c = true then u s h1 else .ok false h1
@[simp] def eOr (t u : ET) : ET := fun s h => (t s h).bind fun c h1 => if c = true then .ok true h1 else u s h1
@[simp] def eNot (t : ET) : ET := fun s h => (t s h).bind fun c h1 => .ok (!c) h1
@[simp] def eIf (t : ET) (a b : EE) : EE := fun s h => (t s h).bind fun c h1 => if c = true then a s h1 else b s h1
@[simp] def eChain (f g : W → W → MH → Res W) (a b c : EE) : EE := fun s h => (a s h).bind fun x h1 => (b s h1).bind fun y h2 => (f x y h2).bind fun z h3 => (asB z h3).bind fun k h4 => if k = true then (c s h4).bind fun w h5 => g y w h5 else .ok (.dat (.bl false)) h4
@[simp] def eNoPart : EO := fun _ h => .ok none h
@[simp] def asI (w : W) (h : MH) : Res (Option Int) := match w with
  | .dat (.int i) => .ok (some i) h
  | _ => .stuck
@[simp] def ePart (a : EE) : EO := fun s h => (a s h).bind asI
@[simp] def eSl (f : W → Option Int → Option Int → MH → Res W) (a : EE) (l u : EO) : EE := fun s h => (a s h).bind fun x h1 => (l s h1).bind fun lo h2 => (u s h2).bind fun hi h3 => f x lo hi h3
/-! truth -/
def truD : D → Option Bool
  | .non => some false
  | .bl b => some b
  | .int i => some (i != 0)
  | .str y => if y.length ≤ sizeLine then some ((y.length : Int) != 0) else none
  | .lst xs => some (!xs.isEmpty)
  | .tup xs => some (!xs.isEmpty)
  | .dic ks xs => if ks.length = xs.length then some (!ks.isEmpty) else none
  | _ => none
@[simp] theorem truD_non : truD .non = some false := rfl
@[simp] theorem truD_bl {b : Bool} : truD (.bl b) = some b := rfl
@[simp] theorem truD_int {i : Int} : truD (.int i) = some (i != 0) := rfl
@[simp] theorem truD_lst {xs : List D} : truD (.lst xs) = some (!xs.isEmpty) := rfl
@[simp] theorem truD_tup {xs : List D} : truD (.tup xs) = some (!xs.isEmpty) := rfl
@[simp] def truW (w : W) (h : MH) : Res Bool := match vw h w with
  | some d => (match truD d with
    | some b => .ok b h
    | none => .stuck)
  | none => .stuck
@[simp] def eTr (a : EE) : ET := fun s h => (a s h).bind truW
@[simp] def eAndT (a b : EE) : EE := fun s h => (a s h).bind fun x h1 => (truW x h1).bind fun k h2 => if k = true then b s h2 else .ok x h2
@[simp] def eOrT (a b : EE) : EE := fun s h => (a s h).bind fun x h1 => (truW x h1).bind fun k h2 => if k = true then .ok x h2 else b s h2
@[simp] def eNotT (a : EE) : EE := fun s h => (a s h).bind fun x h1 => (truW x h1).bind fun k h2 => .ok (.dat (.bl (!k))) h2
/-! displays -/
@[simp] def dats (f : List D → D) (ws : List W) (h : MH) : Res W := match datAll ws with
  | some ds => if ds.length ≤ sizeLine then .ok (.dat (f ds)) h else .stuck
  | none => .stuck
@[simp] def eLst (a : EA) : EE := fun s h => (a s h).bind (dats .lst)
@[simp] def eTup (a : EA) : EE := fun s h => (a s h).bind (dats .tup)
@[simp] def eLstM (a : EA) : EE := fun s h => (a s h).bind fun ws h1 => if ws.length ≤ sizeLine then .ok (.ref h1.length) (h1 ++ [.lst ws]) else .stuck
@[simp] theorem datAll_nil : datAll [] = some [] := rfl
@[simp] theorem datAll_cons {d : D} {ws : List W} : datAll (.dat d :: ws) = (datAll ws).map (d :: ·) := rfl
/-! statements -/
@[simp] def sNext : SS := fun s h => .nx s h
@[simp] def sSeq (a b : SS) : SS := fun s h => (a s h).bind b
@[simp] def sRet (a : EE) : SS := fun s h => (a s h).bindS fun w h1 => .rt w h1
@[simp] def sRetN : SS := fun _ h => .rt (.dat .non) h
@[simp] def sDrop (a : EE) : SS := fun s h => (a s h).bindS fun _ h1 => .nx s h1
@[simp] def sIf (c : ET) (a b : SS) : SS := fun s h => (c s h).bindS fun k h1 => if k = true then a s h1 else b s h1
abbrev GG := W → SS
@[simp] def gSet (i : Nat) : GG := fun w s h => .nx (s.set i (some w)) h
@[simp] def sAsg (a : EE) (g : GG) : SS := fun s h => (a s h).bindS fun w h1 => g w s h1
@[simp] def sPar (i j : Nat) (a : EA) : SS := fun s h => (a s h).bindS fun ws h1 => match ws with
  | [v, w] => .nx ((s.set i (some v)).set j (some w)) h1
  | _ => .stuck
abbrev GGs := List W → SS
@[simp] def gNilS : GGs := fun ws s h => match ws with
  | [] => .nx s h
  | _ => .stuck
@[simp] def gConsS (g : GG) (u : GGs) : GGs := fun ws s h => match ws with
  | w :: r => (g w s h).bind fun s' h' => u r s' h'
  | _ => .stuck
@[simp] def gTupS (n : Nat) (u : GGs) : GG := fun w s h => match w with
  | .dat (.tup ds) => if ds.length = n then u (ds.map .dat) s h else .stuck
  | _ => .stuck
@[simp] def sBreak : SS := fun s h => .bk s h
@[simp] def sCont : SS := fun s h => .ct s h

/-! ### they are right -/
section
variable {Γ : Wd} {E : XK} {t u : TT} {ta tb te tc : TE} {tr tt : TA} {e ea eb ec : EE} {et eu : ET} {er : EA} {r r' : R2}
class Op2 (Γ : Wd) (E : XK) (r : R2) (f : W → W → MH → Res W) : Prop where
  run : ∀ {B0 : Br} {m : List Addr} {h : MH} {H : Hp} {x y : W} {v u : V} {Q : VK}, Rm Γ B0 m h H → repW Γ (Bar B0 m h) m H x v → repW Γ (Bar B0 m h) m H y u → post (fun Γ B m H => repW Γ B m H) Γ B0 m h H Q E (f x y h) → r v u H Q
class Op1 (Γ : Wd) (E : XK) (r : V → Hp → VK → Prop) (f : W → MH → Res W) : Prop where
  run : ∀ {B0 : Br} {m : List Addr} {h : MH} {H : Hp} {x : W} {v : V} {Q : VK}, Rm Γ B0 m h H → repW Γ (Bar B0 m h) m H x v → post (fun Γ B m H => repW Γ B m H) Γ B0 m h H Q E (f x h) → r v H Q
class OpN (Γ : Wd) (E : XK) (r : RC) (f : List W → MH → Res W) : Prop where
  run : ∀ {B0 : Br} {m : List Addr} {h : MH} {H : Hp} {x : List W} {v : List V} {Q : VK}, Rm Γ B0 m h H → repWs Γ (Bar B0 m h) m H x v → post (fun Γ B m H => repW Γ B m H) Γ B0 m h H Q E (f x h) → r v H Q
class OpS (Γ : Wd) (E : XK) (r : V → Option Int → Option Int → Hp → VK → Prop) (f : W → Option Int → Option Int → MH → Res W) : Prop where
  run : ∀ {B0 : Br} {m : List Addr} {h : MH} {H : Hp} {x : W} {v : V} {lo hi : Option Int} {Q : VK}, Rm Γ B0 m h H → repW Γ (Bar B0 m h) m H x v → post (fun Γ B m H => repW Γ B m H) Γ B0 m h H Q E (f x lo hi h) → r v lo hi H Q
instance {i : Nat} : EvE Γ E (tVar i) (eVar i) := ⟨fun {B0 m h H s σ Q} R es q => by
  unfold eVar at q
  cases g : s[i]? with
  | none => simp only [g] at q; exact q.elim
  | some o =>
    cases o with
    | none => simp only [g] at q; exact q.elim
    | some w =>
      simp only [g] at q
      obtain ⟨v, g1, r⟩ := es.2 i w g
      exact ⟨v, g1, q m H v R Ex.refl r⟩⟩
class RepC (Γ : Wd) (d : D) (v : V) : Prop where
  h : ∀ B H, rep Γ B H d v
instance : RepC Γ .non .non := ⟨fun _ _ => by unfold rep; rfl⟩
instance {b : Bool} : RepC Γ (.bl b) (.bl b) := ⟨fun _ _ => by unfold rep; rfl⟩
instance {b : Int} : RepC Γ (.int b) (.int b) := ⟨fun _ _ => by unfold rep; rfl⟩
instance {b : Str} : RepC Γ (.str b) (.str b) := ⟨fun _ _ => by unfold rep; rfl⟩
instance {b : String} : RepC Γ (.ty b) (.ty b) := ⟨fun _ _ => by unfold rep; rfl⟩
instance {d : D} {v : V} [c : RepC Γ d v] : EvE Γ E (tC v) (eC d) := ⟨fun {B0 m h H s σ Q} R es q => q m H v R Ex.refl (c.h _ _)⟩
instance {f : W → W → MH → Res W} [ha : EvE Γ E ta ea] [hb : EvE Γ E tb eb] [o : Op2 Γ E r f] : EvE Γ E (tOp r ta tb) (eOp f ea eb) := ⟨fun {B0 m h H s σ Q} R es q => by
  refine ha.run R es (q.bind fun w h1 m1 H1 v R1 x1 r1 q1 => ?_)
  refine hb.run R1 (es.mono R x1) (q1.bind fun w2 h2 m2 H2 v2 R2 x2 r2 q2 => ?_)
  exact o.run R2 (r1.mono R1 x2) r2 q2⟩
instance {r : V → Hp → VK → Prop} {f : W → MH → Res W} [ha : EvE Γ E ta ea] [o : Op1 Γ E r f] : EvE Γ E (tUn r ta) (eUn f ea) := ⟨fun {B0 m h H s σ Q} R es q => by
  refine ha.run R es (q.bind fun w h1 m1 H1 v R1 x1 r1 q1 => ?_)
  exact o.run R1 r1 q1⟩
instance {r : V → Hp → VK → Prop} {f : W → MH → Res W} [ha : EvE Γ E ta ea] [o : Op1 Γ E r f] : EvE Γ E (tAtt r ta) (eUn f ea) := ⟨fun {B0 m h H s σ Q} R es q => by
  refine ha.run R es (q.bind fun w h1 m1 H1 v R1 x1 r1 q1 => ?_)
  exact o.run R1 r1 q1⟩
instance {r : RC} {f : List W → MH → Res W} [ha : EvA Γ E tr er] [o : OpN Γ E r f] : EvE Γ E (tCB r tr) (eCB f er) := ⟨fun {B0 m h H s σ Q} R es q => by
  refine ha.run R es (q.bind fun w h1 m1 H1 v R1 x1 r1 q1 => ?_)
  exact o.run R1 r1 q1⟩
instance : EvA Γ E tNil eNil := ⟨fun {B0 m h H s σ Q} R es q => q m H [] R Ex.refl rfl⟩
instance [ha : EvE Γ E ta ea] [hr : EvA Γ E tr er] : EvA Γ E (tCons ta tr) (eCons ea er) := ⟨fun {B0 m h H s σ Q} R es q => by
  refine ha.run R es (q.bind fun w h1 m1 H1 v R1 x1 r1 q1 => ?_)
  refine hr.run R1 (es.mono R x1) (q1.bind fun ws h2 m2 H2 vs R2 x2 r2 q2 => ?_)
  exact q2 m2 H2 _ R2 Ex.refl ⟨v, vs, rfl, r1.mono R1 x2, r2⟩⟩
theorem asB_run {B0 : Br} {m : List Addr} {h : MH} {H : Hp} {w : W} {v : V} {Q : Bool → Hp → Prop} (R : Rm Γ B0 m h H) (r : repW Γ (Bar B0 m h) m H w v) (q : post (eqR Bool) Γ B0 m h H Q E (asB w h)) : ∃ k, v = .bl k ∧ Q k H := by
  cases w with
  | ref n => exact q.elim
  | fn n => exact q.elim
  | dat d =>
    cases d with
    | bl b =>
      have e : v = .bl b := by have z : rep Γ (Bar B0 m h) H (.bl b) v := r; unfold rep at z; exact z
      exact ⟨b, e, q m H b R Ex.refl rfl⟩
    | _ => exact q.elim
instance [ha : EvE Γ E ta ea] : EvT Γ E (tTest ta) (eTest ea) := ⟨fun {B0 m h H s σ Q} R es q => by
  refine ha.run R es (q.bind fun w h1 m1 H1 v R1 x1 r1 q1 => ?_)
  exact asB_run R1 r1 q1⟩
instance [ha : EvE Γ E ta ea] : EvT Γ E (tB ta) (eTest ea) := ⟨fun {B0 m h H s σ Q} R es q => by
  refine ha.run R es (q.bind fun w h1 m1 H1 v R1 x1 r1 q1 => ?_)
  exact asB_run R1 r1 q1⟩
instance [ht : EvT Γ E t et] [hu : EvT Γ E u eu] : EvT Γ E (tAnd t u) (eAnd et eu) := ⟨fun {B0 m h H s σ Q} R es q => by
  refine ht.run R es (q.bind fun c h1 m1 H1 v R1 x1 r1 q1 => ?_)
  cases (show v = c from r1)
  cases c with
  | true => exact hu.run R1 (es.mono R x1) q1
  | false => exact q1 m1 H1 false R1 Ex.refl rfl⟩
instance [ht : EvT Γ E t et] [hu : EvT Γ E u eu] : EvT Γ E (tOr t u) (eOr et eu) := ⟨fun {B0 m h H s σ Q} R es q => by
  refine ht.run R es (q.bind fun c h1 m1 H1 v R1 x1 r1 q1 => ?_)
  cases (show v = c from r1)
  cases c with
  | true => exact q1 m1 H1 true R1 Ex.refl rfl
  | false => exact hu.run R1 (es.mono R x1) q1⟩
instance [ht : EvT Γ E t et] : EvT Γ E (tNot t) (eNot et) := ⟨fun {B0 m h H s σ Q} R es q => by
  refine ht.run R es (q.bind fun c h1 m1 H1 v R1 x1 r1 q1 => ?_)
  cases (show v = c from r1)
  exact q1 m1 H1 _ R1 Ex.refl rfl⟩
instance [ht : EvT Γ E t et] [ha : EvE Γ E ta ea] [hb : EvE Γ E tb eb] : EvE Γ E (tIf t ta tb) (eIf et ea eb) := ⟨fun {B0 m h H s σ Q} R es q => by
  refine ht.run R es (q.bind fun c h1 m1 H1 v R1 x1 r1 q1 => ?_)
  cases (show v = c from r1)
  cases c with
  | true => exact ha.run R1 (es.mono R x1) q1
  | false => exact hb.run R1 (es.mono R x1) q1⟩
instance {f g : W → W → MH → Res W} [ha : EvE Γ E ta ea] [hb : EvE Γ E tb eb] [hc : EvE Γ E tc ec] [o : Op2 Γ E r f] [o' : Op2 Γ E r' g] : EvE Γ E (tChain r r' ta tb tc) (eChain f g ea eb ec) := ⟨fun {B0 m h H s σ Q} R es q => by
  refine ha.run R es (q.bind fun w h1 m1 H1 v R1 x1 r1 q1 => ?_)
  refine hb.run R1 (es.mono R x1) (q1.bind fun w2 h2 m2 H2 v2 R2 x2 r2 q2 => ?_)
  refine o.run R2 (r1.mono R1 x2) r2 (q2.bind fun w3 h3 m3 H3 v3 R3 x3 r3 q3 => ?_)
  refine asB_run (Q := fun k H3 => if k = true then tc σ H3 fun w' H4 => r' v2 w' H4 Q else Q (.bl false) H3) R3 r3 (q3.bind (rl := eqR Bool) fun k h4 m4 H4 k' R4 x4 r4 q4 => ?_)
  cases (show k' = k from r4)
  have es4 := (((es.mono R x1).mono R1 x2).mono R2 x3).mono R3 x4
  cases k with
  | true => exact hc.run R4 es4 (q4.bind fun w5 h5 m5 H5 v5 R5 x5 r5 q5 => o'.run R5 (((r2.mono R2 x3).mono R3 x4).mono R4 x5) r5 q5)
  | false => exact q4 m4 H4 _ R4 Ex.refl (by show rep _ _ _ _ _; unfold rep; rfl)⟩
instance : EvO Γ E tNoPart eNoPart := ⟨fun {B0 m h H s σ Q} R es q => q m H none R Ex.refl rfl⟩
instance [ha : EvE Γ E ta ea] : EvO Γ E (tPart ta) (ePart ea) := ⟨fun {B0 m h H s σ Q} R es q => by
  refine ha.run R es (q.bind fun w h1 m1 H1 v R1 x1 r1 q1 => ?_)
  cases w with
  | ref n => exact q1.elim
  | fn n => exact q1.elim
  | dat d =>
    cases d with
    | int b =>
      have e : v = .int b := by have z : rep Γ (Bar B0 m1 h1) H1 (.int b) v := r1; unfold rep at z; exact z
      exact ⟨b, e, q1 m1 H1 _ R1 Ex.refl rfl⟩
    | _ => exact q1.elim⟩
instance {tl th : TO} {el eh : EO} {r : V → Option Int → Option Int → Hp → VK → Prop} {f : W → Option Int → Option Int → MH → Res W} [ha : EvE Γ E ta ea] [hl : EvO Γ E tl el] [hh : EvO Γ E th eh] [o : OpS Γ E r f] : EvE Γ E (tSl r ta tl th) (eSl f ea el eh) := ⟨fun {B0 m h H s σ Q} R es q => by
  refine ha.run R es (q.bind fun w h1 m1 H1 v R1 x1 r1 q1 => ?_)
  refine hl.run R1 (es.mono R x1) (q1.bind fun lo h2 m2 H2 v2 R2 x2 r2 q2 => ?_)
  refine hh.run R2 ((es.mono R x1).mono R1 x2) (q2.bind fun hi h3 m3 H3 v3 R3 x3 r3 q3 => ?_)
  cases (show v2 = lo from r2)
  cases (show v3 = hi from r3)
  exact o.run R3 ((r1.mono R1 x2).mono R2 x3) q3⟩
/-! truth -/
theorem reps_len {B : Br} {H : Hp} : ∀ {ds : List D} {vs : List V}, reps Γ B H ds vs → ds.length = vs.length
  | [], _, r => by unfold reps at r; rw [r]; rfl
  | d :: ds, _, r => by
    unfold reps at r
    obtain ⟨v, q, rfl, _, b⟩ := r
    simp [reps_len b]
theorem reps_empty {B : Br} {H : Hp} {ds : List D} {vs : List V} (r : reps Γ B H ds vs) : (!ds.isEmpty) = !vs.isEmpty := by
  have l := reps_len r
  cases ds <;> cases vs <;> simp_all
theorem truW_run {B0 : Br} {m : List Addr} {h : MH} {H : Hp} {w : W} {v : V} {Q : Bool → Hp → Prop} (R : Rm Γ B0 m h H) (r : repW Γ (Bar B0 m h) m H w v) (q : post (eqR Bool) Γ B0 m h H Q E (truW w h)) : ∃ k, TruV Γ.K v H k ∧ Q k H := by
  unfold truW at q
  cases e : vw h w with
  | none => simp only [e] at q; exact q.elim
  | some d =>
    simp only [e] at q
    have rv := vw_rep R r e
    cases e2 : truD d with
    | none => simp only [e2] at q; exact q.elim
    | some b =>
      simp only [e2] at q
      refine ⟨b, ?_, q m H b R Ex.refl rfl⟩
      cases d with
      | non => cases rv; cases e2; rfl
      | bl c => cases rv; cases e2; rfl
      | int i => cases rv; cases e2; rfl
      | str y =>
        cases rv
        simp only [truD] at e2
        split at e2
        · cases e2; exact ⟨by assumption, rfl⟩
        · cases e2
      | lst xs => obtain ⟨p, vs, rfl, g, a⟩ := rv; cases e2; exact .inl ⟨vs, SqL.of g, reps_empty a⟩
      | tup xs => obtain ⟨p, vs, rfl, g, a⟩ := rv; cases e2; exact .inr (.inl ⟨vs, g, reps_empty a⟩)
      | dic ks xs =>
        obtain ⟨p, vs, rfl, g, l, a⟩ := rv
        simp only [truD] at e2
        split at e2
        · cases e2
          refine .inr (.inr ⟨_, g, ?_⟩)
          cases ks with
          | nil => simp
          | cons k ks =>
            cases vs with
            | nil => simp at l
            | cons => simp
        · cases e2
      | _ => cases e2
instance [ha : EvE Γ E ta ea] : EvT Γ E (tTr Γ.K ta) (eTr ea) := ⟨fun {B0 m h H s σ Q} R es q => by
  refine ha.run R es (q.bind fun w h1 m1 H1 v R1 x1 r1 q1 => ?_)
  exact truW_run R1 r1 q1⟩
theorem truW_ok {w : W} {h h1 : MH} {k : Bool} (e : truW w h = .ok k h1) : h1 = h := by
  unfold truW at e
  split at e
  · split at e
    · cases e; rfl
    · cases e
  · cases e
instance [ha : EvE Γ E ta ea] [hb : EvE Γ E tb eb] : EvE Γ E (tAndT Γ.K ta tb) (eAndT ea eb) := ⟨fun {B0 m h H s σ Q} R es q => by
  refine ha.run R es (q.bind fun w h1 m1 H1 v R1 x1 r1 q1 => ?_)
  refine truW_run (Q := fun k H1 => if k = true then tb σ H1 Q else Q v H1) R1 r1 (q1.bind (rl := eqR Bool) fun k h2 m2 H2 k' R2 x2 r2 q2 => ?_)
  cases (show k' = k from r2)
  cases k with
  | true => exact hb.run R2 ((es.mono R x1).mono R1 x2) q2
  | false => exact q2 m2 H2 _ R2 Ex.refl (r1.mono R1 x2)⟩
instance [ha : EvE Γ E ta ea] [hb : EvE Γ E tb eb] : EvE Γ E (tOrT Γ.K ta tb) (eOrT ea eb) := ⟨fun {B0 m h H s σ Q} R es q => by
  refine ha.run R es (q.bind fun w h1 m1 H1 v R1 x1 r1 q1 => ?_)
  refine truW_run (Q := fun k H1 => if k = true then Q v H1 else tb σ H1 Q) R1 r1 (q1.bind (rl := eqR Bool) fun k h2 m2 H2 k' R2 x2 r2 q2 => ?_)
  cases (show k' = k from r2)
  cases k with
  | true => exact q2 m2 H2 _ R2 Ex.refl (r1.mono R1 x2)
  | false => exact hb.run R2 ((es.mono R x1).mono R1 x2) q2⟩
instance [ha : EvE Γ E ta ea] : EvE Γ E (tNotT Γ.K ta) (eNotT ea) := ⟨fun {B0 m h H s σ Q} R es q => by
  refine ha.run R es (q.bind fun w h1 m1 H1 v R1 x1 r1 q1 => ?_)
  refine truW_run R1 r1 (q1.bind (rl := eqR Bool) fun k h2 m2 H2 k' R2 x2 r2 q2 => ?_)
  cases (show k' = k from r2)
  exact q2 m2 H2 _ R2 Ex.refl (by show rep _ _ _ _ _; unfold rep; rfl)⟩
/-! displays -/
theorem repWs_len {B : Br} {m : List Addr} {H : Hp} : ∀ {ws : List W} {vs : List V}, repWs Γ B m H ws vs → ws.length = vs.length
  | [], _, r => by rw [show _ = [] from r]; rfl
  | w :: ws, _, ⟨v, q, e, _, b⟩ => by rw [e]; simp [repWs_len b]
instance [ha : EvA Γ E tr er] : EvE Γ E (tLst tr) (eLst er) := ⟨fun {B0 m h H s σ Q} R es q => by
  refine ha.run R es (q.bind fun ws h1 m1 H1 vs R1 x1 r1 q1 => ?_)
  unfold dats at q1
  cases e : datAll ws with
  | none => simp only [e] at q1; exact q1.elim
  | some ds =>
    simp only [e] at q1
    have rr := datAll_reps e r1
    split at q1
    · next l =>
      refine ⟨by rw [← reps_len rr]; exact l, fun p hp => ?_⟩
      obtain ⟨R2, x2⟩ := R1.same (same_new (u := .lst vs) hp)
      exact q1 m1 _ _ R2 x2 (by show rep _ _ _ _ _; unfold rep; exact ⟨p, vs, rfl, upd_same, R1.new_not hp, reps.same R1 (same_new hp) rr⟩)
    · exact q1.elim⟩
instance [ha : EvA Γ E tr er] : EvE Γ E (tTup tr) (eTup er) := ⟨fun {B0 m h H s σ Q} R es q => by
  refine ha.run R es (q.bind fun ws h1 m1 H1 vs R1 x1 r1 q1 => ?_)
  unfold dats at q1
  cases e : datAll ws with
  | none => simp only [e] at q1; exact q1.elim
  | some ds =>
    simp only [e] at q1
    have rr := datAll_reps e r1
    split at q1
    · next l =>
      refine ⟨by rw [← reps_len rr]; exact l, fun p hp => ?_⟩
      obtain ⟨R2, x2⟩ := R1.same (same_new (u := .tup vs) hp)
      exact q1 m1 _ _ R2 x2 (by show rep _ _ _ _ _; unfold rep; exact ⟨p, vs, rfl, SqT.of upd_same, reps.same R1 (same_new hp) rr⟩)
    · exact q1.elim⟩
instance [ha : EvA Γ E tr er] : EvE Γ E (tLst tr) (eLstM er) := ⟨fun {B0 m h H s σ Q} R es q => by
  refine ha.run R es (q.bind fun ws h1 m1 H1 vs R1 x1 r1 q1 => ?_)
  split at q1
  · next l =>
    refine ⟨by rw [← repWs_len r1]; exact l, fun p hp => ?_⟩
    obtain ⟨R2, x2⟩ := R1.alloc (o := .lst ws) (same_new (u := .lst vs) hp) hp ⟨_, upd_same, trivial⟩ fun x => ⟨vs, upd_same, r1.mono R1 x⟩
    exact q1 _ _ _ R2 x2 ⟨p, by rw [← R1.len]; simp, rfl⟩
  · exact q1.elim⟩
end
/-! ### statements -/
section
variable {Γ : Wd} {E : XK} {t : TT} {ta te : TE} {tr : TA} {ea : EE} {et : ET} {er : EA} {t1 t2 : TS} {s1 s2 : SS}
class EvG (Γ : Wd) (E : XK) (g : TG) (e : GG) : Prop where
  run : ∀ {B0 : Br} {m : List Addr} {h : MH} {H : Hp} {s : En} {σ : L2.St} {w : W} {v : V} {Dn : Ends}, Rm Γ B0 m h H → repE Γ (Bar B0 m h) m H s σ → repW Γ (Bar B0 m h) m H w v → postS Γ B0 m h H Dn E (e w s h) → g v σ H Dn.nx
class EvGs (Γ : Wd) (E : XK) (g : TGs) (e : GGs) : Prop where
  run : ∀ {B0 : Br} {m : List Addr} {h : MH} {H : Hp} {s : En} {σ : L2.St} {w : List W} {v : List V} {Dn : Ends}, Rm Γ B0 m h H → repE Γ (Bar B0 m h) m H s σ → repWs Γ (Bar B0 m h) m H w v → postS Γ B0 m h H Dn E (e w s h) → g v σ H Dn.nx
theorem repE_set {B : Br} {m : List Addr} {H : Hp} {s : En} {σ : L2.St} {i : Nat} {w : W} {v : V} (es : repE Γ B m H s σ) (r : repW Γ B m H w v) : repE Γ B m H (s.set i (some w)) (σ.set i (some v)) := by
  refine ⟨by simp [es.1], fun j w' g => ?_⟩
  rcases getElem?_set' g with ⟨rfl, e⟩ | ⟨n, g⟩
  · cases e
    refine ⟨v, ?_, r⟩
    rw [List.getElem?_set_self]
    rw [← es.1]
    rcases Nat.lt_or_ge j s.length with q | q
    · exact q
    · rw [List.set_eq_of_length_le q, List.getElem?_eq_none q] at g; cases g
  · obtain ⟨v', g1, r1⟩ := es.2 j w' g
    exact ⟨v', by rw [List.getElem?_set_ne (fun z => n z.symm)]; exact g1, r1⟩
instance {i : Nat} : EvG Γ E (gName i) (gSet i) := ⟨fun {B0 m h H s σ w v Dn} R es r q => q m H _ R Ex.refl (repE_set es r)⟩
instance : EvGs Γ E gNil gNilS := ⟨fun {B0 m h H s σ w v Dn} R es r q => by
  cases w with
  | nil => exact ⟨r, q m H _ R Ex.refl es⟩
  | cons => exact q.elim⟩
instance {g : TG} {u : TGs} {eg : GG} {eu : GGs} [hg : EvG Γ E g eg] [hu : EvGs Γ E u eu] : EvGs Γ E (gCons g u) (gConsS eg eu) := ⟨fun {B0 m h H s σ w v Dn} R es r q => by
  cases w with
  | nil => exact q.elim
  | cons w ws =>
    obtain ⟨v1, vs, rfl, a, b⟩ := r
    refine ⟨v1, vs, rfl, ?_⟩
    exact hg.run (Dn := { Dn with nx := _ }) R es a (postS.bind q fun s' h1 m1 H1 σ' R1 x1 e1 q1 => hu.run R1 e1 (b.mono R x1) q1)⟩
theorem reps_dat {B : Br} {m : List Addr} {H : Hp} : ∀ {ds : List D} {vs : List V}, reps Γ B H ds vs → repWs Γ B m H (ds.map .dat) vs
  | [], _, r => by unfold reps at r; exact r
  | d :: ds, _, r => by
    unfold reps at r
    obtain ⟨v, q, e, a, b⟩ := r
    exact ⟨v, q, e, a, reps_dat b⟩
instance {n : Nat} {u : TGs} {eu : GGs} [hu : EvGs Γ E u eu] : EvG Γ E (gTup Γ.K n u) (gTupS n eu) := ⟨fun {B0 m h H s σ w v Dn} R es r q => by
  cases w with
  | ref k => exact q.elim
  | fn k => exact q.elim
  | dat d =>
    cases d with
    | tup ds =>
      have z : rep Γ (Bar B0 m h) H (.tup ds) v := r
      unfold rep at z
      obtain ⟨p, vs, rfl, g, a⟩ := z
      unfold gTupS at q
      simp only at q
      split at q
      · next l => exact ⟨p, vs, rfl, g, by rw [← reps_len a]; exact l, hu.run R es (reps_dat a) q⟩
      · exact q.elim
    | _ => exact q.elim⟩
instance : EvS Γ E tNext sNext := ⟨fun {B0 m h H s σ Dn} R es q => q m H σ R Ex.refl es⟩
instance : EvS Γ E tBreak sBreak := ⟨fun {B0 m h H s σ Dn} R es q => q m H σ R Ex.refl es⟩
instance : EvS Γ E tCont sCont := ⟨fun {B0 m h H s σ Dn} R es q => q m H σ R Ex.refl es⟩
instance [h1 : EvS Γ E t1 s1] [h2 : EvS Γ E t2 s2] : EvS Γ E (tSeq t1 t2) (sSeq s1 s2) := ⟨fun {B0 m h H s σ Dn} R es q => by
  refine h1.run R es (postS.bind q fun s' h' m1 H1 σ' R1 x1 e1 q1 => ?_)
  exact h2.run R1 e1 q1⟩
instance [ha : EvE Γ E ta ea] : EvS Γ E (tRet ta) (sRet ea) := ⟨fun {B0 m h H s σ Dn} R es q => by
  refine ha.run R es (post.bindS q fun w h1 m1 H1 v R1 x1 r1 q1 => ?_)
  exact q1 m1 H1 v R1 Ex.refl r1⟩
instance : EvS Γ E tRetN sRetN := ⟨fun {B0 m h H s σ Dn} R es q => q m H _ R Ex.refl (by show rep _ _ _ _ _; unfold rep; rfl)⟩
instance [ha : EvE Γ E ta ea] : EvS Γ E (tDrop ta) (sDrop ea) := ⟨fun {B0 m h H s σ Dn} R es q => by
  refine ha.run R es (post.bindS q fun w h1 m1 H1 v R1 x1 r1 q1 => ?_)
  exact q1 m1 H1 σ R1 Ex.refl (es.mono R x1)⟩
instance [ht : EvT Γ E t et] [h1 : EvS Γ E t1 s1] [h2 : EvS Γ E t2 s2] : EvS Γ E (tIfS t t1 t2) (sIf et s1 s2) := ⟨fun {B0 m h H s σ Dn} R es q => by
  refine ht.run R es (post.bindS q fun c h' m1 H1 v R1 x1 r1 q1 => ?_)
  cases (show v = c from r1)
  cases c with
  | true => exact h1.run R1 (es.mono R x1) q1
  | false => exact h2.run R1 (es.mono R x1) q1⟩
instance {g : TG} {eg : GG} [ha : EvE Γ E ta ea] [hg : EvG Γ E g eg] : EvS Γ E (tAsg ta g) (sAsg ea eg) := ⟨fun {B0 m h H s σ Dn} R es q => by
  refine ha.run R es (post.bindS q fun w h1 m1 H1 v R1 x1 r1 q1 => ?_)
  exact hg.run R1 (es.mono R x1) r1 q1⟩
instance {i j : Nat} [ha : EvA Γ E tr er] : EvS Γ E (tPar i j tr) (sPar i j er) := ⟨fun {B0 m h H s σ Dn} R es q => by
  refine ha.run R es (post.bindS q fun ws h1 m1 H1 vs R1 x1 r1 q1 => ?_)
  match ws, r1, q1 with
  | [w1, w2], ⟨v1, r, e1, a1, v2, r', e2, a2, e3⟩, q1 =>
    have e3 : r' = [] := e3
    subst e3 e2 e1
    exact ⟨v1, v2, rfl, q1 m1 H1 _ R1 Ex.refl (repE_set (repE_set (es.mono R x1) a1) a2)⟩
  | [], _, q1 => exact q1.elim
  | [_], _, q1 => exact q1.elim
  | _ :: _ :: _ :: _, _, q1 => exact q1.elim⟩
end
end S
end

section
namespace S
open PySem PySem.Spec PyProof.Rows L2 Z LamX
/-! ### operators on data -/
@[simp] def ofO (o : Option D) (h : MH) : Res W := match o with
  | some d => .ok (.dat d) h
  | none => .stuck
def op2 (g : D → D → Option D) : W → W → MH → Res W := fun x y h => match vw h x, vw h y with
  | some a, some b => ofO (g a b) h
  | _, _ => .stuck
def op1 (g : D → Option D) : W → MH → Res W := fun x h => match vw h x with
  | some a => ofO (g a) h
  | _ => .stuck
def vws (h : MH) : List W → Option (List D)
  | [] => some []
  | w :: ws => match vw h w, vws h ws with
    | some d, some ds => some (d :: ds)
    | _, _ => none
@[simp] theorem vws_nil {h : MH} : vws h [] = some [] := rfl
@[simp] theorem vws_cons {h : MH} {w : W} {ws : List W} : vws h (w :: ws) = (match vw h w, vws h ws with
    | some d, some ds => some (d :: ds)
    | _, _ => none) := rfl
def opN (g : List D → Option D) : List W → MH → Res W := fun ws h => match vws h ws with
  | some ds => ofO (g ds) h
  | none => .stuck
def opS (g : D → Option Int → Option Int → Option D) : W → Option Int → Option Int → MH → Res W := fun x lo hi h => match vw h x with
  | some a => ofO (g a lo hi) h
  | none => .stuck
@[simp] theorem op2_dat {g : D → D → Option D} {a b : D} {h : MH} : op2 g (.dat a) (.dat b) h = ofO (g a b) h := rfl
@[simp] theorem op1_dat {g : D → Option D} {a : D} {h : MH} : op1 g (.dat a) h = ofO (g a) h := rfl
@[simp] theorem opS_dat {g : D → Option Int → Option Int → Option D} {a : D} {lo hi : Option Int} {h : MH} : opS g (.dat a) lo hi h = ofO (g a lo hi) h := rfl
@[simp] theorem opN_1 {g : List D → Option D} {a : D} {h : MH} : opN g [.dat a] h = ofO (g [a]) h := rfl
@[simp] theorem opN_2 {g : List D → Option D} {a b : D} {h : MH} : opN g [.dat a, .dat b] h = ofO (g [a, b]) h := rfl
@[simp] theorem opN_3 {g : List D → Option D} {a b c : D} {h : MH} : opN g [.dat a, .dat b, .dat c] h = ofO (g [a, b, c]) h := rfl
@[simp] theorem opN_0 {g : List D → Option D} {h : MH} : opN g [] h = ofO (g []) h := rfl
class G2 (Γ : Wd) (r : R2) (g : D → D → Option D) : Prop where
  run : ∀ {B0 : Br} {m : List Addr} {h : MH} {H : Hp} {x y d : D} {v u : V} {Q : VK}, Rm Γ B0 m h H → repV Γ (Bar B0 m h) H x v → repV Γ (Bar B0 m h) H y u → g x y = some d → (∀ H' v', L2.Same H H' → rep Γ (Bar B0 m h) H' d v' → Q v' H') → r v u H Q
class G1 (Γ : Wd) (r : V → Hp → VK → Prop) (g : D → Option D) : Prop where
  run : ∀ {B0 : Br} {m : List Addr} {h : MH} {H : Hp} {x d : D} {v : V} {Q : VK}, Rm Γ B0 m h H → repV Γ (Bar B0 m h) H x v → g x = some d → (∀ H' v', L2.Same H H' → rep Γ (Bar B0 m h) H' d v' → Q v' H') → r v H Q
class GS (Γ : Wd) (r : V → Option Int → Option Int → Hp → VK → Prop) (g : D → Option Int → Option Int → Option D) : Prop where
  run : ∀ {B0 : Br} {m : List Addr} {h : MH} {H : Hp} {x d : D} {v : V} {lo hi : Option Int} {Q : VK}, Rm Γ B0 m h H → repV Γ (Bar B0 m h) H x v → g x lo hi = some d → (∀ H' v', L2.Same H H' → rep Γ (Bar B0 m h) H' d v' → Q v' H') → r v lo hi H Q
def repVs (Γ : Wd) (B : Br) (H : Hp) : List D → List V → Prop
  | [], vs => vs = []
  | d :: ds, vs => ∃ v r, vs = v :: r ∧ repV Γ B H d v ∧ repVs Γ B H ds r
class GN (Γ : Wd) (r : RC) (g : List D → Option D) : Prop where
  run : ∀ {B0 : Br} {m : List Addr} {h : MH} {H : Hp} {x : List D} {d : D} {v : List V} {Q : VK}, Rm Γ B0 m h H → repVs Γ (Bar B0 m h) H x v → g x = some d → (∀ H' v', L2.Same H H' → rep Γ (Bar B0 m h) H' d v' → Q v' H') → r v H Q
section
variable {Γ : Wd} {E : XK} {B0 B : Br} {m : List Addr} {h : MH} {H : Hp}
theorem ofO_run {o : Option D} {Q : VK} (R : Rm Γ B0 m h H) (q : post (fun Γ B m H => repW Γ B m H) Γ B0 m h H Q E (ofO o h)) : ∃ d, o = some d ∧ ∀ H' v', L2.Same H H' → rep Γ (Bar B0 m h) H' d v' → Q v' H' := by
  cases o with
  | none => exact q.elim
  | some d => exact ⟨d, rfl, fun H' v' s r => q m H' v' (R.same s).1 (R.same s).2 r⟩
instance {r : R2} {g : D → D → Option D} [o : G2 Γ r g] : Op2 Γ E r (op2 g) := ⟨fun {B0 m h H x y v u Q} R rx ry q => by
  unfold op2 at q
  cases e1 : vw h x with
  | none => simp only [e1] at q; exact q.elim
  | some a =>
    cases e2 : vw h y with
    | none => simp only [e1, e2] at q; exact q.elim
    | some b =>
      simp only [e1, e2] at q
      obtain ⟨d, e, k⟩ := ofO_run R q
      exact o.run R (vw_rep R rx e1) (vw_rep R ry e2) e k⟩
instance {r : V → Hp → VK → Prop} {g : D → Option D} [o : G1 Γ r g] : Op1 Γ E r (op1 g) := ⟨fun {B0 m h H x v Q} R rx q => by
  unfold op1 at q
  cases e1 : vw h x with
  | none => simp only [e1] at q; exact q.elim
  | some a =>
    simp only [e1] at q
    obtain ⟨d, e, k⟩ := ofO_run R q
    exact o.run R (vw_rep R rx e1) e k⟩
instance {r : V → Option Int → Option Int → Hp → VK → Prop} {g : D → Option Int → Option Int → Option D} [o : GS Γ r g] : OpS Γ E r (opS g) := ⟨fun {B0 m h H x v lo hi Q} R rx q => by
  unfold opS at q
  cases e1 : vw h x with
  | none => simp only [e1] at q; exact q.elim
  | some a =>
    simp only [e1] at q
    obtain ⟨d, e, k⟩ := ofO_run R q
    exact o.run R (vw_rep R rx e1) e k⟩
theorem vws_rep (R : Rm Γ B0 m h H) : ∀ {ws : List W} {vs : List V} {ds : List D}, repWs Γ (Bar B0 m h) m H ws vs → vws h ws = some ds → repVs Γ (Bar B0 m h) H ds vs
  | [], _, _, r, e => by cases e; exact r
  | w :: ws, _, ds, ⟨v, q, e2, a, b⟩, e => by
    unfold vws at e
    cases e3 : vw h w with
    | none => simp only [e3] at e; cases e
    | some d =>
      cases e4 : vws h ws with
      | none => simp only [e3, e4] at e; cases e
      | some ds' =>
        simp only [e3, e4] at e
        cases e
        exact ⟨v, q, e2, vw_rep R a e3, vws_rep R b e4⟩
instance {r : RC} {g : List D → Option D} [o : GN Γ r g] : OpN Γ E r (opN g) := ⟨fun {B0 m h H x v Q} R rx q => by
  unfold opN at q
  cases e1 : vws h x with
  | none => simp only [e1] at q; exact q.elim
  | some a =>
    simp only [e1] at q
    obtain ⟨d, e, k⟩ := ofO_run R q
    exact o.run R (vws_rep R rx e1) e k⟩
/-! scalars -/
theorem rep_int {i : Int} : rep Γ B H (.int i) (.int i) := by unfold rep; rfl
theorem rep_str {i : Str} : rep Γ B H (.str i) (.str i) := by unfold rep; rfl
theorem rep_bl {i : Bool} : rep Γ B H (.bl i) (.bl i) := by unfold rep; rfl
theorem rep_non : rep Γ B H .non .non := by unfold rep; rfl
theorem same_rfl : L2.Same H H := fun _ _ z => z
theorem rep_newL {ds : List D} {vs : List V} {p : Addr} (R : Rm Γ B0 m h H) (r : reps Γ (Bar B0 m h) H ds vs) (hp : H p = none) : rep Γ (Bar B0 m h) (upd H p (.lst vs)) (.lst ds) (.ref p) := by
  unfold rep; exact ⟨p, vs, rfl, upd_same, R.new_not hp, reps.same R (same_new hp) r⟩
theorem rep_newT {ds : List D} {vs : List V} {p : Addr} (R : Rm Γ B0 m h H) (r : reps Γ (Bar B0 m h) H ds vs) (hp : H p = none) : rep Γ (Bar B0 m h) (upd H p (.tup vs)) (.tup ds) (.ref p) := by
  unfold rep; exact ⟨p, vs, rfl, SqT.of upd_same, reps.same R (same_new hp) r⟩
theorem rep_T {ds : List D} {vs : List V} {p : Addr} (g : SqT Γ.K H p vs) (r : reps Γ B H ds vs) : rep Γ B H (.tup ds) (.ref p) := by
  unfold rep; exact ⟨p, vs, rfl, g, r⟩
theorem reps_app {xs ys : List D} {vs us : List V} (a : reps Γ B H xs vs) (b : reps Γ B H ys us) : reps Γ B H (xs ++ ys) (vs ++ us) := by
  induction xs generalizing vs with
  | nil => unfold reps at a; subst a; exact b
  | cons x xs ih =>
    unfold reps at a
    obtain ⟨v, q, rfl, a1, a2⟩ := a
    rw [List.cons_append, List.cons_append]
    unfold reps
    exact ⟨v, _, rfl, a1, ih a2⟩
theorem reps_get {xs : List D} {vs : List V} (a : reps Γ B H xs vs) {i : Nat} {d : D} (g : xs[i]? = some d) : ∃ v, vs[i]? = some v ∧ rep Γ B H d v := by
  induction xs generalizing vs i with
  | nil => simp at g
  | cons x xs ih =>
    unfold reps at a
    obtain ⟨v, q, rfl, a1, a2⟩ := a
    cases i with
    | zero => simp at g; subst g; exact ⟨v, rfl, a1⟩
    | succ i => simp at g; obtain ⟨v', g1, r⟩ := ih a2 g; exact ⟨v', by simpa using g1, r⟩
theorem reps_at {xs : List D} {vs : List V} (a : reps Γ B H xs vs) {i : Int} {d : D} (g : atI xs i = some d) : ∃ v, atI vs i = some v ∧ rep Γ B H d v := by
  unfold atI at g ⊢
  rw [← reps_len a]
  cases e : ixN xs.length i with
  | none => rw [e] at g; cases g
  | some j =>
    rw [e] at g
    exact reps_get a g
theorem reps_drop {xs : List D} {vs : List V} (a : reps Γ B H xs vs) (n : Nat) : reps Γ B H (xs.drop n) (vs.drop n) := by
  induction xs generalizing vs n with
  | nil => unfold reps at a; subst a; simp [reps]
  | cons x xs ih =>
    cases n with
    | zero => exact a
    | succ n =>
      unfold reps at a
      obtain ⟨v, q, rfl, a1, a2⟩ := a
      exact ih a2 n
theorem reps_take {xs : List D} {vs : List V} (a : reps Γ B H xs vs) (n : Nat) : reps Γ B H (xs.take n) (vs.take n) := by
  induction xs generalizing vs n with
  | nil => unfold reps at a; subst a; simp [reps]
  | cons x xs ih =>
    cases n with
    | zero => simp [reps]
    | succ n =>
      unfold reps at a
      obtain ⟨v, q, rfl, a1, a2⟩ := a
      rw [List.take_succ_cons, List.take_succ_cons]
      unfold reps
      exact ⟨v, _, rfl, a1, ih a2 n⟩
def cutD (xs : List D) (lo hi : Option Int) : List D := (xs.drop (HT.sIx xs.length 0 lo)).take (HT.sIx xs.length xs.length hi - HT.sIx xs.length 0 lo)
theorem reps_cut {xs : List D} {vs : List V} (a : reps Γ B H xs vs) (lo hi : Option Int) : reps Γ B H (cutD xs lo hi) (cutV vs lo hi) := by
  unfold cutD cutV
  rw [reps_len a]
  exact reps_take (reps_drop a _) _
end
/-! arithmetic -/
def gAdd : D → D → Option D
  | .int i, .int j => some (.int (i + j))
  | .str a, .str b => if a.length + b.length ≤ sizeLine then some (.str (a ++ b)) else none
  | .lst a, .lst b => if a.length + b.length ≤ sizeLine then some (.lst (a ++ b)) else none
  | .tup a, .tup b => if a.length + b.length ≤ sizeLine then some (.tup (a ++ b)) else none
  | _, _ => none
@[simp] theorem gAdd_int {i j : Int} : gAdd (.int i) (.int j) = some (.int (i + j)) := rfl
@[simp] theorem gAdd_str {a b : Str} : gAdd (.str a) (.str b) = if a.length + b.length ≤ sizeLine then some (.str (a ++ b)) else none := rfl
@[simp] theorem gAdd_lst {a b : List D} : gAdd (.lst a) (.lst b) = if a.length + b.length ≤ sizeLine then some (.lst (a ++ b)) else none := rfl
@[simp] theorem gAdd_tup {a b : List D} : gAdd (.tup a) (.tup b) = if a.length + b.length ≤ sizeLine then some (.tup (a ++ b)) else none := rfl
def gSub : D → D → Option D
  | .int i, .int j => some (.int (i - j))
  | _, _ => none
@[simp] theorem gSub_int {i j : Int} : gSub (.int i) (.int j) = some (.int (i - j)) := rfl
instance (i j : Int) : Decidable (CMul i j) := by unfold CMul; infer_instance
instance (i j : Int) : Decidable (CDivN i j) := by unfold CDivN; infer_instance
instance (i j : Int) : Decidable (CPow i j) := by unfold CPow; infer_instance
def gMul : D → D → Option D
  | .int i, .int j => if CMul i j then some (.int (i * j)) else none
  | .lst xs, .int j => if 0 ≤ j ∧ j < 1000000 ∧ xs.length * j.toNat ≤ sizeLine then some (.lst (List.replicate j.toNat xs).flatten) else none
  | _, _ => none
@[simp] theorem gMul_int {i j : Int} : gMul (.int i) (.int j) = if CMul i j then some (.int (i * j)) else none := rfl
def gMod : D → D → Option D
  | .int i, .int j => if 0 < j then some (.int (i % j)) else none
  | _, _ => none
@[simp] theorem gMod_int {i j : Int} : gMod (.int i) (.int j) = if 0 < j then some (.int (i % j)) else none := rfl
def gDiv : D → D → Option D
  | .int i, .int j => if CDivN i j then some (.int (i.fdiv j)) else none
  | _, _ => none
@[simp] theorem gDiv_int {i j : Int} : gDiv (.int i) (.int j) = if CDivN i j then some (.int (i.fdiv j)) else none := rfl
def gPow : D → D → Option D
  | .int i, .int j => if CPow i j then some (.int (i ^ j.toNat)) else none
  | _, _ => none
@[simp] theorem gPow_int {i j : Int} : gPow (.int i) (.int j) = if CPow i j then some (.int (i ^ j.toNat)) else none := rfl
def gLt : D → D → Option D
  | .int i, .int j => some (.bl (decide (i < j)))
  | .str i, .str j => some (.bl (decide (i.cps.toList < j.cps.toList)))
  | _, _ => none
@[simp] theorem gLt_int {i j : Int} : gLt (.int i) (.int j) = some (.bl (decide (i < j))) := rfl
def gLe : D → D → Option D
  | .int i, .int j => some (.bl (decide (i ≤ j)))
  | _, _ => none
@[simp] theorem gLe_int {i j : Int} : gLe (.int i) (.int j) = some (.bl (decide (i ≤ j))) := rfl
def gGt : D → D → Option D
  | .int i, .int j => some (.bl (decide (j < i)))
  | _, _ => none
@[simp] theorem gGt_int {i j : Int} : gGt (.int i) (.int j) = some (.bl (decide (j < i))) := rfl
def gGe : D → D → Option D
  | .int i, .int j => some (.bl (decide (j ≤ i)))
  | _, _ => none
@[simp] theorem gGe_int {i j : Int} : gGe (.int i) (.int j) = some (.bl (decide (j ≤ i))) := rfl
def isNon : D → Bool
  | .non => true
  | _ => false
def gIs : D → D → Option D
  | x, .non => some (.bl (isNon x))
  | _, _ => none
@[simp] theorem gIs_non {x : D} : gIs x .non = some (.bl (isNon x)) := by cases x <;> rfl
def gIsnt : D → D → Option D
  | x, .non => some (.bl (!isNon x))
  | _, _ => none
@[simp] theorem gIsnt_non {x : D} : gIsnt x .non = some (.bl (!isNon x)) := by cases x <;> rfl
@[simp] theorem isNon_non : isNon .non = true := rfl
@[simp] theorem isNon_bl {b : Bool} : isNon (.bl b) = false := rfl
@[simp] theorem isNon_int {b : Int} : isNon (.int b) = false := rfl
@[simp] theorem isNon_str {b : Str} : isNon (.str b) = false := rfl
@[simp] theorem isNon_lst {b : List D} : isNon (.lst b) = false := rfl
@[simp] theorem isNon_tup {b : List D} : isNon (.tup b) = false := rfl
@[simp] theorem isNon_obj {C : String} {ns : List Str} {b : List D} : isNon (.obj C ns b) = false := rfl
@[simp] theorem isNon_exc {C : String} {ns : List Str} {b : List D} : isNon (.exc C ns b) = false := rfl
def gNeg : D → Option D
  | .int i => some (.int (-i))
  | _ => none
@[simp] theorem gNeg_int {i : Int} : gNeg (.int i) = some (.int (-i)) := rfl
def gIx : D → D → Option D
  | .lst xs, .int i => atI xs i
  | .tup xs, .int i => atI xs i
  | .str z, .int i => if z.length ≤ sizeLine then (atI z.cps.toList i).map fun c => .str ⟨#[c]⟩ else none
  | _, _ => none
@[simp] theorem gIx_lst {xs : List D} {i : Int} : gIx (.lst xs) (.int i) = atI xs i := rfl
@[simp] theorem gIx_tup {xs : List D} {i : Int} : gIx (.tup xs) (.int i) = atI xs i := rfl
@[simp] theorem gIx_str {z : Str} {i : Int} : gIx (.str z) (.int i) = if z.length ≤ sizeLine then (atI z.cps.toList i).map fun c => .str ⟨#[c]⟩ else none := rfl
def gSl : D → Option Int → Option Int → Option D
  | .lst xs, lo, hi => some (.lst (cutD xs lo hi))
  | .scr xs, lo, hi => some (.lst (cutD xs lo hi))
  | .tup xs, lo, hi => if HT.sIx xs.length 0 lo = 0 ∧ HT.sIx xs.length xs.length hi = xs.length then some (.tup xs) else some (.tup (cutD xs lo hi))
  | .str z, lo, hi => if z.length ≤ sizeLine then some (.str (cutS z lo hi)) else none
  | _, _, _ => none
@[simp] theorem gSl_lst {xs : List D} {lo hi : Option Int} : gSl (.lst xs) lo hi = some (.lst (cutD xs lo hi)) := rfl
@[simp] theorem gSl_scr {xs : List D} {lo hi : Option Int} : gSl (.scr xs) lo hi = some (.lst (cutD xs lo hi)) := rfl
@[simp] theorem gSl_str {z : Str} {lo hi : Option Int} : gSl (.str z) lo hi = if z.length ≤ sizeLine then some (.str (cutS z lo hi)) else none := rfl
section
variable {Γ : Wd}
instance : G2 Γ (aAdd Γ.K) gAdd := ⟨fun {B0 m h H x y d v u Q} R rx ry e q => by
  cases x with
  | int i => cases y with
    | int j => cases rx; cases ry; cases e; exact i_add (q _ _ same_rfl rep_int)
    | _ => cases e
  | str i => cases y with
    | str j =>
      cases rx; cases ry
      simp only [gAdd_str] at e
      split at e
      · cases e; exact i_addS (by assumption) (q _ _ same_rfl rep_str)
      · cases e
    | _ => cases e
  | lst i => cases y with
    | lst j =>
      obtain ⟨p1, v1, rfl, g1, a1⟩ := rx
      obtain ⟨p2, v2, rfl, g2, a2⟩ := ry
      simp only [gAdd_lst] at e
      split at e
      · next l => cases e; exact i_addL g1 g2 (by rw [← reps_len a1, ← reps_len a2]; exact l) fun r hr => q _ _ (same_new hr) (rep_newL R (reps_app a1 a2) hr)
      · cases e
    | _ => cases e
  | tup i => cases y with
    | tup j =>
      obtain ⟨p1, v1, rfl, g1, a1⟩ := rx
      obtain ⟨p2, v2, rfl, g2, a2⟩ := ry
      simp only [gAdd_tup] at e
      split at e
      · next l =>
        cases e
        refine .inr (.inr ⟨p1, p2, v1, v2, rfl, rfl, g1, g2, by rw [← reps_len a1, ← reps_len a2]; exact l, fun z => ?_, fun _ z => ?_, fun _ _ r hr => q _ _ (same_new hr) (rep_newT R (reps_app a1 a2) hr)⟩)
        · refine q _ _ same_rfl (rep_T g2 ?_)
          have := reps_app a1 a2
          rw [z] at this; exact this
        · refine q _ _ same_rfl (rep_T g1 ?_)
          have := reps_app a1 a2
          rw [z, List.append_nil] at this; exact this
      · cases e
    | _ => cases e
  | _ => cases y <;> cases e⟩
instance : G2 Γ aSub gSub := ⟨fun {B0 m h H x y d v u Q} R rx ry e q => by
  cases x with
  | int i => cases y with
    | int j => cases rx; cases ry; cases e; exact i_sub (q _ _ same_rfl rep_int)
    | _ => cases e
  | _ => cases y <;> cases e⟩
instance : G2 Γ aMul gMul := ⟨fun {B0 m h H x y d v u Q} R rx ry e q => by
  cases x with
  | int i => cases y with
    | int j =>
      cases rx; cases ry
      simp only [gMul_int] at e
      split at e
      · cases e; exact i_mul (by assumption) (q _ _ same_rfl rep_int)
      · cases e
    | _ => cases e
  | lst xs => cases y with
    | int j =>
      obtain ⟨p1, v1, rfl, g1, a1⟩ := rx
      cases ry
      simp only [gMul] at e
      split at e
      · next l =>
        cases e
        refine i_mulL g1 ⟨l.1, l.2.1⟩ (by rw [← reps_len a1]; exact l.2.2) fun r hr => q _ _ (same_new hr) (rep_newL R ?_ hr)
        induction j.toNat with
        | zero => simp [reps]
        | succ n ih => rw [List.replicate_succ, List.replicate_succ, List.flatten_cons, List.flatten_cons]; exact reps_app a1 ih
      · cases e
    | _ => cases e
  | _ => cases y <;> cases e⟩
instance : G2 Γ aMod gMod := ⟨fun {B0 m h H x y d v u Q} R rx ry e q => by
  cases x with
  | int i => cases y with
    | int j =>
      cases rx; cases ry
      simp only [gMod_int] at e
      split at e
      · cases e; exact i_mod (by assumption) (q _ _ same_rfl rep_int)
      · cases e
    | _ => cases e
  | _ => cases y <;> cases e⟩
instance : G2 Γ aDiv gDiv := ⟨fun {B0 m h H x y d v u Q} R rx ry e q => by
  cases x with
  | int i => cases y with
    | int j =>
      cases rx; cases ry
      simp only [gDiv_int] at e
      split at e
      · cases e; exact i_div (by assumption) (q _ _ same_rfl rep_int)
      · cases e
    | _ => cases e
  | _ => cases y <;> cases e⟩
instance : G2 Γ aPow gPow := ⟨fun {B0 m h H x y d v u Q} R rx ry e q => by
  cases x with
  | int i => cases y with
    | int j =>
      cases rx; cases ry
      simp only [gPow_int] at e
      split at e
      · cases e; exact i_pow (by assumption) (q _ _ same_rfl rep_int)
      · cases e
    | _ => cases e
  | _ => cases y <;> cases e⟩
instance : G2 Γ aLt gLt := ⟨fun {B0 m h H x y d v u Q} R rx ry e q => by
  cases x with
  | int i => cases y with
    | int j => cases rx; cases ry; cases e; exact i_lt (q _ _ same_rfl rep_bl)
    | _ => cases e
  | str i => cases y with
    | str j => cases rx; cases ry; cases e; exact .inr ⟨i, j, rfl, rfl, q _ _ same_rfl rep_bl⟩
    | _ => cases e
  | _ => cases y <;> cases e⟩
instance : G2 Γ aLe gLe := ⟨fun {B0 m h H x y d v u Q} R rx ry e q => by
  cases x with
  | int i => cases y with
    | int j => cases rx; cases ry; cases e; exact i_le (q _ _ same_rfl rep_bl)
    | _ => cases e
  | _ => cases y <;> cases e⟩
instance : G2 Γ aGt gGt := ⟨fun {B0 m h H x y d v u Q} R rx ry e q => by
  cases x with
  | int i => cases y with
    | int j => cases rx; cases ry; cases e; exact i_gt (q _ _ same_rfl rep_bl)
    | _ => cases e
  | _ => cases y <;> cases e⟩
instance : G2 Γ aGe gGe := ⟨fun {B0 m h H x y d v u Q} R rx ry e q => by
  cases x with
  | int i => cases y with
    | int j => cases rx; cases ry; cases e; exact i_ge (q _ _ same_rfl rep_bl)
    | _ => cases e
  | _ => cases y <;> cases e⟩
theorem isNon_rep {B : Br} {H : Hp} {x : D} {v : V} (r : repV Γ B H x v) : decide (v = .non) = isNon x := by
  cases x with
  | non => cases r; rfl
  | bl _ => cases r; rfl
  | int _ => cases r; rfl
  | str _ => cases r; rfl
  | ty _ => cases r; rfl
  | cls _ => obtain ⟨rfl, _⟩ := r; rfl
  | obj C ns ds => obtain ⟨p, dx, vs, rfl, _⟩ := r; rfl
  | exc C ns ds => obtain ⟨p, dx, vs, rfl, _⟩ := r; rfl
  | _ => obtain ⟨p, vs, rfl, _⟩ := r; rfl
instance : G2 Γ aIs gIs := ⟨fun {B0 m h H x y d v u Q} R rx ry e q => by
  cases y with
  | non =>
    cases ry
    rw [gIs_non] at e; cases e
    exact i_is (by rw [isNon_rep rx]; exact q _ _ same_rfl rep_bl)
  | _ => cases x <;> cases e⟩
instance : G2 Γ aIsnt gIsnt := ⟨fun {B0 m h H x y d v u Q} R rx ry e q => by
  cases y with
  | non =>
    cases ry
    rw [gIsnt_non] at e; cases e
    exact i_isnt (by rw [isNon_rep rx]; exact q _ _ same_rfl rep_bl)
  | _ => cases x <;> cases e⟩
instance : G1 Γ aNeg gNeg := ⟨fun {B0 m h H x d v Q} R rx e q => by
  cases x with
  | int i => cases rx; cases e; exact i_neg (q _ _ same_rfl rep_int)
  | _ => cases e⟩
instance : G2 Γ (aIx Γ.K) gIx := ⟨fun {B0 m h H x y d v u Q} R rx ry e q => by
  cases x with
  | lst xs => cases y with
    | int i =>
      obtain ⟨p1, v1, rfl, g1, a1⟩ := rx
      cases ry
      obtain ⟨v', g, r⟩ := reps_at a1 e
      exact i_ixL g1 g (q _ _ same_rfl r)
    | _ => cases e
  | tup xs => cases y with
    | int i =>
      obtain ⟨p1, v1, rfl, g1, a1⟩ := rx
      cases ry
      obtain ⟨v', g, r⟩ := reps_at a1 e
      exact .inr (.inl ⟨p1, v1, i, v', rfl, rfl, g1, g, q _ _ same_rfl r⟩)
    | _ => cases e
  | str z => cases y with
    | int i =>
      cases rx; cases ry
      simp only [gIx_str] at e
      split at e
      · cases e2 : atI z.cps.toList i with
        | none => rw [e2] at e; cases e
        | some c => rw [e2] at e; cases e; exact i_ixS (by assumption) e2 (q _ _ same_rfl rep_str)
      · cases e
    | _ => cases e
  | _ => cases y <;> cases e⟩
instance : GS Γ (aSl Γ.K) gSl := ⟨fun {B0 m h H x d v lo hi Q} R rx e q => by
  cases x with
  | lst xs =>
    obtain ⟨p1, v1, rfl, g1, a1⟩ := rx
    cases e
    exact i_slL (SqL.of g1) fun r hr => q _ _ (same_new hr) (rep_newL R (reps_cut a1 lo hi) hr)
  | scr xs =>
    obtain ⟨p1, v1, rfl, g1, a1⟩ := rx
    cases e
    exact i_slL g1 fun r hr => q _ _ (same_new hr) (rep_newL R (reps_cut a1 lo hi) hr)
  | tup xs =>
    obtain ⟨p1, v1, rfl, g1, a1⟩ := rx
    simp only [gSl] at e
    have l := reps_len a1
    refine .inr (.inr ⟨p1, v1, rfl, g1, fun z => ?_, fun z r hr => ?_⟩)
    · rw [← l] at z
      rw [if_pos z] at e; cases e
      exact q _ _ same_rfl (rep_T g1 a1)
    · rw [← l] at z
      rw [if_neg z] at e; cases e
      exact q _ _ (same_new hr) (rep_newT R (reps_cut a1 lo hi) hr)
  | str z =>
    cases rx
    simp only [gSl_str] at e
    split at e
    · cases e; exact .inr (.inl ⟨z, rfl, by assumption, q _ _ same_rfl rep_str⟩)
    · cases e
  | _ => cases e⟩
end
end S
end

section
namespace S
open PySem PySem.Spec PyProof.Rows L2 Z LamX
/-! ### data as PyData -/
mutual
def toP : D → Option PyData
  | .non => some .none
  | .bl b => some (.bool b)
  | .int i => some (.int i)
  | .str x => some (.str x)
  | .lst ds => (toPs ds).map .list
  | .tup ds => (toPs ds).map .tuple
  | _ => none
def toPs : List D → Option (List PyData)
  | [] => some []
  | d :: ds => match toP d, toPs ds with
    | some x, some xs => some (x :: xs)
    | _, _ => none
end
section
variable {Γ : Wd} {B : Br} {H : Hp}
mutual
theorem toP_rep : ∀ (d : D) (v : V) (x : PyData), rep Γ B H d v → toP d = some x → Dp Γ.K H v x
  | .non, _, _, r, e => by unfold rep at r; unfold toP at e; cases e; subst r; exact .non
  | .bl b, _, _, r, e => by unfold rep at r; unfold toP at e; cases e; subst r; exact .bl b
  | .int b, _, _, r, e => by unfold rep at r; unfold toP at e; cases e; subst r; exact .int b
  | .str b, _, _, r, e => by unfold rep at r; unfold toP at e; cases e; subst r; exact .str b
  | .lst ds, _, _, r, e => by
    unfold rep at r; unfold toP at e
    obtain ⟨p, vs, rfl, g, _, a⟩ := r
    cases e2 : toPs ds with
    | none => rw [e2] at e; cases e
    | some xs => rw [e2] at e; cases e; exact .lst (SqL.of g) (toPs_rep ds vs xs a e2)
  | .tup ds, _, _, r, e => by
    unfold rep at r; unfold toP at e
    obtain ⟨p, vs, rfl, g, a⟩ := r
    cases e2 : toPs ds with
    | none => rw [e2] at e; cases e
    | some xs => rw [e2] at e; cases e; exact .tup g (toPs_rep ds vs xs a e2)
  | .ty _, _, _, _, e => by unfold toP at e; cases e
  | .cls _, _, _, _, e => by unfold toP at e; cases e
  | .scr _, _, _, _, e => by unfold toP at e; cases e
  | .dic _ _, _, _, _, e => by unfold toP at e; cases e
  | .obj _ _ _, _, _, _, e => by unfold toP at e; cases e
  | .exc _ _ _, _, _, _, e => by unfold toP at e; cases e
theorem toPs_rep : ∀ (ds : List D) (vs : List V) (xs : List PyData), reps Γ B H ds vs → toPs ds = some xs → DpAll Γ.K H vs xs
  | [], _, _, r, e => by unfold reps at r; unfold toPs at e; cases e; subst r; exact .nil
  | d :: ds, _, _, r, e => by
    unfold reps at r; unfold toPs at e
    obtain ⟨v, q, rfl, a, b⟩ := r
    cases e1 : toP d with
    | none => simp only [e1] at e; cases e
    | some x =>
      cases e2 : toPs ds with
      | none => simp only [e1, e2] at e; cases e
      | some xs => simp only [e1, e2] at e; cases e; exact .cons (toP_rep d v x a e1) (toPs_rep ds q xs b e2)
end
theorem toP_repV {d : D} {v : V} {x : PyData} (r : repV Γ B H d v) (e : toP d = some x) : Dp Γ.K H v x := by
  cases d with
  | non => unfold toP at e; cases e; cases r; exact .non
  | bl b => unfold toP at e; cases e; cases r; exact .bl b
  | int b => unfold toP at e; cases e; cases r; exact .int b
  | str b => unfold toP at e; cases e; cases r; exact .str b
  | lst ds =>
    unfold toP at e
    obtain ⟨p, vs, rfl, g, a⟩ := r
    cases e2 : toPs ds with
    | none => rw [e2] at e; cases e
    | some xs => rw [e2] at e; cases e; exact .lst (SqL.of g) (toPs_rep ds vs xs a e2)
  | tup ds =>
    unfold toP at e
    obtain ⟨p, vs, rfl, g, a⟩ := r
    cases e2 : toPs ds with
    | none => rw [e2] at e; cases e
    | some xs => rw [e2] at e; cases e; exact .tup g (toPs_rep ds vs xs a e2)
  | _ => unfold toP at e; cases e
end
/-! ### == -/
def deq (x y : D) : Option Bool := match toP x, toP y with
  | some a, some b => if SeqAt.shaped a = true ∧ SeqAt.shaped b = true then some (PyData.eqv a b) else none
  | _, _ => none
def peq : D → D → Option Bool
  | .str a, .str b => some (decide (a = b))
  | .int i, .int j => some (decide (i = j))
  | .bl a, .bl b => some (decide (a = b))
  | .non, .non => some true
  | .non, .int _ => some false
  | .non, .bl _ => some false
  | .non, .str _ => some false
  | .int _, .non => some false
  | .bl _, .non => some false
  | .str _, .non => some false
  | .int _, .str _ => some false
  | .bl _, .str _ => some false
  | .str _, .int _ => some false
  | .str _, .bl _ => some false
  | x, y => deq x y
@[simp] theorem peq_str {a b : Str} : peq (.str a) (.str b) = some (decide (a = b)) := rfl
@[simp] theorem peq_int {a b : Int} : peq (.int a) (.int b) = some (decide (a = b)) := rfl
@[simp] theorem peq_bl {a b : Bool} : peq (.bl a) (.bl b) = some (decide (a = b)) := rfl
@[simp] theorem peq_nn : peq .non .non = some true := rfl
@[simp] theorem peq_ni {b : Int} : peq .non (.int b) = some false := rfl
@[simp] theorem peq_nb {b : Bool} : peq .non (.bl b) = some false := rfl
@[simp] theorem peq_ns {b : Str} : peq .non (.str b) = some false := rfl
@[simp] theorem peq_in {b : Int} : peq (.int b) .non = some false := rfl
@[simp] theorem peq_bn {b : Bool} : peq (.bl b) .non = some false := rfl
@[simp] theorem peq_sn {b : Str} : peq (.str b) .non = some false := rfl
@[simp] theorem peq_is {i : Int} {b : Str} : peq (.int i) (.str b) = some false := rfl
@[simp] theorem peq_bs {i : Bool} {b : Str} : peq (.bl i) (.str b) = some false := rfl
@[simp] theorem peq_si {i : Int} {b : Str} : peq (.str b) (.int i) = some false := rfl
@[simp] theorem peq_sb {i : Bool} {b : Str} : peq (.str b) (.bl i) = some false := rfl
@[simp] theorem peq_lst {a : List D} {y : D} : peq (.lst a) y = deq (.lst a) y := rfl
@[simp] theorem peq_tup {a : List D} {y : D} : peq (.tup a) y = deq (.tup a) y := rfl
@[simp] theorem peq_lst' {a : List D} {x : D} : peq x (.lst a) = deq x (.lst a) := by cases x <;> rfl
@[simp] theorem peq_tup' {a : List D} {x : D} : peq x (.tup a) = deq x (.tup a) := by cases x <;> rfl
def gEq : D → D → Option D := fun x y => (peq x y).map .bl
def gNe : D → D → Option D := fun x y => (peq x y).map fun b => .bl (!b)
/-! in -/
def flatD : D → Option V
  | .non => some .non
  | .bl b => some (.bl b)
  | .int i => some (.int i)
  | .str x => some (.str x)
  | _ => none
def flatDs : List D → Option (List V)
  | [] => some []
  | d :: ds => match flatD d, flatDs ds with
    | some v, some vs => some (v :: vs)
    | _, _ => none
def pin : D → D → Option Bool
  | .str a, .str z => match a.cps.toList with
    | [c] => some (decide (c ∈ z.cps.toList))
    | _ => none
  | x, .lst ys => match flatD x, flatDs ys with
    | some v, some vs => some (inV v vs)
    | _, _ => none
  | x, .tup ys => match flatD x, flatDs ys with
    | some v, some vs => some (inV v vs)
    | _, _ => none
  | _, _ => none
def gIn : D → D → Option D := fun x y => (pin x y).map .bl
def gNin : D → D → Option D := fun x y => (pin x y).map fun b => .bl (!b)
section
variable {Γ : Wd} {B : Br} {H : Hp}
theorem deq_run {x y : D} {v u : V} {b : Bool} (rx : repV Γ B H x v) (ry : repV Γ B H y u) (e : deq x y = some b) : ∃ d e, Dp Γ.K H v d ∧ Dp Γ.K H u e ∧ SeqAt.shaped d = true ∧ SeqAt.shaped e = true ∧ PyData.eqv d e = b := by
  unfold deq at e
  cases e1 : toP x with
  | none => simp only [e1] at e; cases e
  | some a =>
    cases e2 : toP y with
    | none => simp only [e1, e2] at e; cases e
    | some c =>
      simp only [e1, e2] at e
      split at e
      · next l => cases e; exact ⟨a, c, toP_repV rx e1, toP_repV ry e2, l.1, l.2, rfl⟩
      · cases e
theorem peq_run {x y : D} {v u : V} {b : Bool} (rx : repV Γ B H x v) (ry : repV Γ B H y u) (e : peq x y = some b) : (scal v u = true ∧ decide (v = u) = b) ∨ ∃ d e, Dp Γ.K H v d ∧ Dp Γ.K H u e ∧ SeqAt.shaped d = true ∧ SeqAt.shaped e = true ∧ PyData.eqv d e = b := by
  unfold peq at e
  split at e
  case h_15 => exact .inr (deq_run rx ry e)
  all_goals
    cases rx; cases ry; cases e
    refine .inl ⟨rfl, ?_⟩
    first
    | rfl
    | (refine decide_eq_decide.mpr ⟨fun z => ?_, fun z => by rw [z]⟩; cases z; rfl)
instance : G2 Γ (aEq Γ.K) gEq := ⟨fun {B0 m h H x y d v u Q} R rx ry e q => by
  unfold gEq at e
  cases e1 : peq x y with
  | none => rw [e1] at e; cases e
  | some b =>
    rw [e1] at e; cases e
    rcases peq_run rx ry e1 with ⟨a1, a2⟩ | ⟨d, e, a1, a2, a3, a4, a5⟩
    · exact i_eqX a1 a2 (q _ _ same_rfl rep_bl)
    · exact i_eqDt a1 a2 a3 a4 a5 (q _ _ same_rfl rep_bl)⟩
instance : G2 Γ (aNe Γ.K) gNe := ⟨fun {B0 m h H x y d v u Q} R rx ry e q => by
  unfold gNe at e
  cases e1 : peq x y with
  | none => rw [e1] at e; cases e
  | some b =>
    rw [e1] at e; cases e
    rcases peq_run rx ry e1 with ⟨a1, a2⟩ | ⟨d, e, a1, a2, a3, a4, a5⟩
    · exact i_neX a1 (by rw [a2]) (q _ _ same_rfl rep_bl)
    · exact i_neDt a1 a2 a3 a4 (by rw [a5]) (q _ _ same_rfl rep_bl)⟩
theorem flatD_run {x : D} {v v' : V} (rx : repV Γ B H x v) (e : flatD x = some v') : v = v' ∧ flatV v = true := by
  cases x with
  | non => cases rx; cases e; exact ⟨rfl, rfl⟩
  | bl _ => cases rx; cases e; exact ⟨rfl, rfl⟩
  | int _ => cases rx; cases e; exact ⟨rfl, rfl⟩
  | str _ => cases rx; cases e; exact ⟨rfl, rfl⟩
  | _ => cases e
theorem flatDs_run : ∀ {xs : List D} {vs vs' : List V}, reps Γ B H xs vs → flatDs xs = some vs' → vs = vs' ∧ vs.all flatV = true
  | [], _, _, r, e => by unfold reps at r; cases e; subst r; exact ⟨rfl, rfl⟩
  | x :: xs, _, _, r, e => by
    unfold reps at r
    obtain ⟨v, q, rfl, a, b⟩ := r
    unfold flatDs at e
    cases e1 : flatD x with
    | none => simp only [e1] at e; cases e
    | some v' =>
      cases e2 : flatDs xs with
      | none => simp only [e1, e2] at e; cases e
      | some vs' =>
        simp only [e1, e2] at e
        cases e
        obtain ⟨rfl, f1⟩ := flatD_run (rep_v a) e1
        obtain ⟨rfl, f2⟩ := flatDs_run b e2
        exact ⟨rfl, by simp [f1, f2]⟩
theorem str_one {a : Str} {c : Nat} (e : a.cps.toList = [c]) : a = ⟨#[c]⟩ := by
  cases a with
  | mk cps =>
    congr 1
    apply Array.toList_inj.mp
    exact e
theorem pin_run {x y : D} {v u : V} {b : Bool} (rx : repV Γ B H x v) (ry : repV Γ B H y u) (e : pin x y = some b) : (∃ (c : Nat) (z : Str), v = .str ⟨#[c]⟩ ∧ u = .str z ∧ decide (c ∈ z.cps.toList) = b) ∨ ∃ p xs, u = .ref p ∧ (SqL Γ.K H p xs ∨ SqT Γ.K H p xs) ∧ flatV v = true ∧ xs.all flatV = true ∧ inV v xs = b := by
  unfold pin at e
  split at e
  · cases rx; cases ry
    split at e
    · next c e1 => cases e; exact .inl ⟨c, _, by rw [str_one e1], rfl, rfl⟩
    · cases e
  · obtain ⟨p, vs, rfl, g, a⟩ := ry
    split at e
    · next v' vs' e1 e2 =>
      obtain ⟨rfl, f1⟩ := flatD_run rx e1
      obtain ⟨rfl, f2⟩ := flatDs_run a e2
      cases e
      exact .inr ⟨p, _, rfl, .inl (SqL.of g), f1, f2, rfl⟩
    · cases e
  · obtain ⟨p, vs, rfl, g, a⟩ := ry
    split at e
    · next v' vs' e1 e2 =>
      obtain ⟨rfl, f1⟩ := flatD_run rx e1
      obtain ⟨rfl, f2⟩ := flatDs_run a e2
      cases e
      exact .inr ⟨p, _, rfl, .inr g, f1, f2, rfl⟩
    · cases e
  · cases e
instance : G2 Γ (aIn Γ.K) gIn := ⟨fun {B0 m h H x y d v u Q} R rx ry e q => by
  unfold gIn at e
  cases e1 : pin x y with
  | none => rw [e1] at e; cases e
  | some b =>
    rw [e1] at e; cases e
    rcases pin_run rx ry e1 with ⟨c, z, rfl, rfl, rfl⟩ | ⟨p, xs, rfl, g, f1, f2, rfl⟩
    · exact .inl ⟨c, z, rfl, rfl, q _ _ same_rfl rep_bl⟩
    · exact .inr ⟨p, xs, rfl, g, f1, f2, q _ _ same_rfl rep_bl⟩⟩
instance : G2 Γ (aNin Γ.K) gNin := ⟨fun {B0 m h H x y d v u Q} R rx ry e q => by
  unfold gNin at e
  cases e1 : pin x y with
  | none => rw [e1] at e; cases e
  | some b =>
    rw [e1] at e; cases e
    rcases pin_run rx ry e1 with ⟨c, z, rfl, rfl, rfl⟩ | ⟨p, xs, rfl, g, f1, f2, rfl⟩
    · exact .inl ⟨c, z, rfl, rfl, q _ _ same_rfl rep_bl⟩
    · exact .inr ⟨p, xs, rfl, g, f1, f2, q _ _ same_rfl rep_bl⟩⟩
end
/-! ### calls of built-ins -/
def gInt : List D → Option D
  | [.int i] => some (.int i)
  | [.bl b] => some (.int (if b then 1 else 0))
  | [.str a] => match PySem.intText? a with
    | some n => if a.length ≤ 640 then some (.int n) else none
    | none => none
  | _ => none
@[simp] theorem gInt_int {i : Int} : gInt [.int i] = some (.int i) := rfl
@[simp] theorem gInt_bl {i : Bool} : gInt [.bl i] = some (.int (if i then 1 else 0)) := rfl
def gAbs : List D → Option D
  | [.int i] => some (.int (if i < 0 then -i else i))
  | _ => none
@[simp] theorem gAbs_int {i : Int} : gAbs [.int i] = some (.int (if i < 0 then -i else i)) := rfl
def gLen : List D → Option D
  | [.str a] => if a.length ≤ sizeLine then some (.int a.length) else none
  | [.lst xs] => some (.int xs.length)
  | [.tup xs] => some (.int xs.length)
  | [.dic ks xs] => some (.int ks.length)
  | _ => none
@[simp] theorem gLen_str {a : Str} : gLen [.str a] = if a.length ≤ sizeLine then some (.int a.length) else none := rfl
@[simp] theorem gLen_lst {xs : List D} : gLen [.lst xs] = some (.int xs.length) := rfl
@[simp] theorem gLen_tup {xs : List D} : gLen [.tup xs] = some (.int xs.length) := rfl
def gStr : List D → Option D
  | [.int i] => if i.natAbs.log2 < 1920 then some (.str (toString i)) else none
  | _ => none
@[simp] theorem gStr_int {i : Int} : gStr [.int i] = if i.natAbs.log2 < 1920 then some (.str (toString i)) else none := rfl
def gList : List D → Option D
  | [.lst xs] => some (.lst xs)
  | [.tup xs] => some (.lst xs)
  | [.scr xs] => some (.lst xs)
  | _ => none
@[simp] theorem gList_lst {xs : List D} : gList [.lst xs] = some (.lst xs) := rfl
@[simp] theorem gList_tup {xs : List D} : gList [.tup xs] = some (.lst xs) := rfl
def gTuple : List D → Option D
  | [.lst xs] => some (.tup xs)
  | [.tup xs] => some (.tup xs)
  | _ => none
@[simp] theorem gTuple_lst {xs : List D} : gTuple [.lst xs] = some (.tup xs) := rfl
@[simp] theorem gTuple_tup {xs : List D} : gTuple [.tup xs] = some (.tup xs) := rfl
def boolsD : List D → Option (List Bool)
  | [] => some []
  | .bl b :: ds => (boolsD ds).map (b :: ·)
  | _ => none
def gAll : List D → Option D
  | [.lst xs] => (boolsD xs).map fun bs => .bl (bs.all id)
  | _ => none
def gAny : List D → Option D
  | [.lst xs] => (boolsD xs).map fun bs => .bl (bs.any id)
  | _ => none
def gBool : List D → Option D
  | [.int i] => some (.bl (i != 0))
  | [.bl b] => some (.bl b)
  | _ => none
@[simp] theorem gBool_bl {i : Bool} : gBool [.bl i] = some (.bl i) := rfl
@[simp] theorem gBool_int {i : Int} : gBool [.int i] = some (.bl (i != 0)) := rfl
def gRepr : List D → Option D
  | [.lst xs] => match toP (.lst xs) with
    | some d => if d.showable = true ∧ d.hasDict = false ∧ d.depth ≤ 60 ∧ d.shown.length ≤ sizeLine then some (.str d.shown) else none
    | none => none
  | [.tup xs] => match toP (.tup xs) with
    | some d => if d.showable = true ∧ d.hasDict = false ∧ d.depth ≤ 60 ∧ d.shown.length ≤ sizeLine then some (.str d.shown) else none
    | none => none
  | _ => none
section
variable {Γ : Wd} {B : Br} {H : Hp}
theorem repVs1 {x : D} {v : List V} (r : repVs Γ B H [x] v) : ∃ u, v = [u] ∧ repV Γ B H x u := by
  obtain ⟨u, q, e, a, b⟩ := r
  have b : q = [] := b
  subst b
  exact ⟨u, e, a⟩
theorem repVs2 {x y : D} {v : List V} (r : repVs Γ B H [x, y] v) : ∃ u w, v = [u, w] ∧ repV Γ B H x u ∧ repV Γ B H y w := by
  obtain ⟨u, q, e, a, b⟩ := r
  obtain ⟨w, rfl, c⟩ := repVs1 b
  exact ⟨u, w, e, a, c⟩
theorem one_of {x : List D} {α : Type} {f : List D → Option α} {d : α} (e : f x = some d) (h : ∀ y z, f (y :: z :: []) = none) : True := trivial
instance : GN Γ aInt gInt := ⟨fun {B0 m h H x d v Q} R r e q => by
  unfold gInt at e
  split at e
  · obtain ⟨u, rfl, a⟩ := repVs1 r; cases a; cases e; exact i_int (q _ _ same_rfl rep_int)
  · obtain ⟨u, rfl, a⟩ := repVs1 r; cases a; cases e; exact i_intB (q _ _ same_rfl rep_int)
  · obtain ⟨u, rfl, a⟩ := repVs1 r; cases a
    split at e
    · next n e1 =>
      split at e
      · cases e; exact .inr ⟨_, n, rfl, e1, by assumption, q _ _ same_rfl rep_int⟩
      · cases e
    · cases e
  · cases e⟩
instance : GN Γ aAbs gAbs := ⟨fun {B0 m h H x d v Q} R r e q => by
  unfold gAbs at e
  split at e
  · obtain ⟨u, rfl, a⟩ := repVs1 r; cases a; cases e; exact i_abs (q _ _ same_rfl rep_int)
  · cases e⟩
instance : GN Γ (aLen Γ.K) gLen := ⟨fun {B0 m h H x d v Q} R r e q => by
  unfold gLen at e
  split at e
  · obtain ⟨u, rfl, a⟩ := repVs1 r; cases a
    split at e
    · cases e; exact i_lenS (by assumption) (q _ _ same_rfl rep_int)
    · cases e
  · obtain ⟨u, rfl, a⟩ := repVs1 r
    obtain ⟨p, vs, rfl, g, a⟩ := a
    cases e
    exact i_lenL g (by rw [← reps_len a]; exact q _ _ same_rfl rep_int)
  · obtain ⟨u, rfl, a⟩ := repVs1 r
    obtain ⟨p, vs, rfl, g, a⟩ := a
    cases e
    exact .inl ⟨.ref p, vs.length, rfl, .inr ⟨vs, g, rfl⟩, by rw [← reps_len a]; exact q _ _ same_rfl rep_int⟩
  · obtain ⟨u, rfl, a⟩ := repVs1 r
    obtain ⟨p, vs, rfl, g, l, a⟩ := a
    cases e
    refine .inr ⟨p, _, rfl, g, ?_⟩
    rw [List.length_zip, ← l, Nat.min_self]
    exact q _ _ same_rfl rep_int
  · cases e⟩
instance : GN Γ aStr gStr := ⟨fun {B0 m h H x d v Q} R r e q => by
  unfold gStr at e
  split at e
  · obtain ⟨u, rfl, a⟩ := repVs1 r; cases a
    split at e
    · cases e; exact ⟨_, rfl, by assumption, q _ _ same_rfl rep_str⟩
    · cases e
  · cases e⟩
instance : GN Γ (aList Γ.K) gList := ⟨fun {B0 m h H x d v Q} R r e q => by
  unfold gList at e
  split at e
  · obtain ⟨u, rfl, a⟩ := repVs1 r
    obtain ⟨p, vs, rfl, g, a⟩ := a
    cases e
    exact ⟨p, vs, rfl, .inl (SqL.of g), fun l hl => q _ _ (same_new hl) (rep_newL R a hl)⟩
  · obtain ⟨u, rfl, a⟩ := repVs1 r
    obtain ⟨p, vs, rfl, g, a⟩ := a
    cases e
    exact ⟨p, vs, rfl, .inr g, fun l hl => q _ _ (same_new hl) (rep_newL R a hl)⟩
  · obtain ⟨u, rfl, a⟩ := repVs1 r
    obtain ⟨p, vs, rfl, g, a⟩ := a
    cases e
    exact ⟨p, vs, rfl, .inl g, fun l hl => q _ _ (same_new hl) (rep_newL R a hl)⟩
  · cases e⟩
instance : GN Γ (aTuple Γ.K) gTuple := ⟨fun {B0 m h H x d v Q} R r e q => by
  unfold gTuple at e
  split at e
  · obtain ⟨u, rfl, a⟩ := repVs1 r
    obtain ⟨p, vs, rfl, g, a⟩ := a
    cases e
    exact ⟨p, vs, rfl, .inl ⟨SqL.of g, fun l hl => q _ _ (same_new hl) (rep_newT R a hl)⟩⟩
  · obtain ⟨u, rfl, a⟩ := repVs1 r
    obtain ⟨p, vs, rfl, g, a⟩ := a
    cases e
    exact ⟨p, vs, rfl, .inr ⟨g, q _ _ same_rfl (rep_T g a)⟩⟩
  · cases e⟩
theorem boolsD_run : ∀ {xs : List D} {vs : List V} {bs : List Bool}, reps Γ B H xs vs → boolsD xs = some bs → vs = bs.map V.bl
  | [], _, _, r, e => by unfold reps at r; cases e; exact r
  | .bl b :: xs, _, _, r, e => by
    unfold reps at r
    obtain ⟨v, q, rfl, a, c⟩ := r
    unfold boolsD at e
    cases e1 : boolsD xs with
    | none => rw [e1] at e; cases e
    | some bs =>
      rw [e1] at e; cases e
      unfold rep at a
      subst a
      rw [boolsD_run c e1]; rfl
  | .non :: _, _, _, _, e => by cases e
  | .int _ :: _, _, _, _, e => by cases e
  | .str _ :: _, _, _, _, e => by cases e
  | .ty _ :: _, _, _, _, e => by cases e
  | .cls _ :: _, _, _, _, e => by cases e
  | .tup _ :: _, _, _, _, e => by cases e
  | .lst _ :: _, _, _, _, e => by cases e
  | .scr _ :: _, _, _, _, e => by cases e
  | .dic _ _ :: _, _, _, _, e => by cases e
  | .obj _ _ _ :: _, _, _, _, e => by cases e
  | .exc _ _ _ :: _, _, _, _, e => by cases e
instance : GN Γ (aAll Γ.K) gAll := ⟨fun {B0 m h H x d v Q} R r e q => by
  unfold gAll at e
  split at e
  · next xs =>
    obtain ⟨u, rfl, a⟩ := repVs1 r
    obtain ⟨p, vs, rfl, g, a⟩ := a
    cases e1 : boolsD xs with
    | none => rw [e1] at e; cases e
    | some bs => rw [e1] at e; cases e; rw [boolsD_run a e1] at g; exact i_allL g (q _ _ same_rfl rep_bl)
  · cases e⟩
instance : GN Γ (aAny Γ.K) gAny := ⟨fun {B0 m h H x d v Q} R r e q => by
  unfold gAny at e
  split at e
  · next xs =>
    obtain ⟨u, rfl, a⟩ := repVs1 r
    obtain ⟨p, vs, rfl, g, a⟩ := a
    cases e1 : boolsD xs with
    | none => rw [e1] at e; cases e
    | some bs => rw [e1] at e; cases e; rw [boolsD_run a e1] at g; exact ⟨p, bs, rfl, SqL.of g, q _ _ same_rfl rep_bl⟩
  · cases e⟩
instance : GN Γ aBool gBool := ⟨fun {B0 m h H x d v Q} R r e q => by
  unfold gBool at e
  split at e
  · obtain ⟨u, rfl, a⟩ := repVs1 r; cases a; cases e; exact .inl ⟨_, rfl, q _ _ same_rfl rep_bl⟩
  · obtain ⟨u, rfl, a⟩ := repVs1 r; cases a; cases e; exact .inr ⟨_, rfl, q _ _ same_rfl rep_bl⟩
  · cases e⟩
instance : GN Γ (aRepr Γ.K) gRepr := ⟨fun {B0 m h H x d v Q} R r e q => by
  unfold gRepr at e
  split at e
  · next xs =>
    obtain ⟨u, rfl, a⟩ := repVs1 r
    cases e1 : toP (.lst xs) with
    | none => rw [e1] at e; cases e
    | some d =>
      rw [e1] at e
      have dp := toP_repV a e1
      obtain ⟨p, vs, rfl, g, a⟩ := a
      simp only at e
      split at e
      · next l => cases e; exact ⟨p, d, rfl, dp, l.1, l.2.1, l.2.2.1, l.2.2.2, q _ _ same_rfl rep_str⟩
      · cases e
  · next xs =>
    obtain ⟨u, rfl, a⟩ := repVs1 r
    cases e1 : toP (.tup xs) with
    | none => rw [e1] at e; cases e
    | some d =>
      rw [e1] at e
      have dp := toP_repV a e1
      obtain ⟨p, vs, rfl, g, a⟩ := a
      simp only at e
      split at e
      · next l => cases e; exact ⟨p, d, rfl, dp, l.1, l.2.1, l.2.2.1, l.2.2.2, q _ _ same_rfl rep_str⟩
      · cases e
  · cases e⟩
end
end S
end

section
namespace S
open PySem PySem.Spec PyProof.Rows L2 Z LamX
/-! ### what is walked -/
def itR : Rl (List D) It := fun Γ B _ H ds J => ∃ Y : Nat → Hp → V → Hp → Prop, Walk J ds.length (fun H' => ∃ B', Kp Γ B H B' H') Y ∧
  ∀ i d H' B' x H'', ds[i]? = some d → Kp Γ B H B' H' → Y i H' x H'' → L2.Same H' H'' ∧ rep Γ B' H'' d x
abbrev EvI := Ev itR
abbrev EI := En → MH → Res (List D)
section
variable {Γ : Wd} {B B' : Br} {H H' : Hp} {m : List Addr}
theorem it_list {p : Addr} {ds : List D} {vs : List V} (g : H p = some (.lst vs)) (n : ¬ B p) (r : reps Γ B H ds vs) : itR Γ B m H ds (Itl Γ.K p) := by
  refine ⟨YAt vs, ?_, ?_⟩
  · rw [reps_len r]
    exact walk_list.mono (fun H' ⟨B', k⟩ => SqL.of (k.mu _ _ g trivial n).1) fun i H x H' _ _ y => y
  · rintro i d H' B' x H'' hd k ⟨rfl, hx⟩
    obtain ⟨v, g1, r1⟩ := reps_get (k.reps _ _ r) hd
    rw [hx] at g1; cases g1
    exact ⟨same_rfl, r1⟩
theorem it_tup {p : Addr} {ds : List D} {vs : List V} (g : SqT Γ.K H p vs) (r : reps Γ B H ds vs) : itR Γ B m H ds (Itt Γ.K p) := by
  refine ⟨YAt vs, ?_, ?_⟩
  · rw [reps_len r]
    exact walk_tup.mono (fun H' ⟨B', k⟩ => k.sqT g) fun i H x H' _ _ y => y
  · rintro i d H' B' x H'' hd k ⟨rfl, hx⟩
    obtain ⟨v, g1, r1⟩ := reps_get (k.reps _ _ r) hd
    rw [hx] at g1; cases g1
    exact ⟨same_rfl, r1⟩
def rngD (lo : Int) (n : Nat) : List D := (List.range n).map fun i => .int (lo + (i : Nat))
theorem rngD_len {lo : Int} {n : Nat} : (rngD lo n).length = n := by simp [rngD]
theorem it_rng {lo : Int} {n : Nat} : itR Γ B m H (rngD lo n) (Itr lo n) := by
  refine ⟨YFn fun i => .int (lo + i), ?_, ?_⟩
  · rw [rngD_len]
    exact walk_range.mono (fun _ _ => trivial) fun i H x H' _ _ y => y
  · rintro i d H' B' x H'' hd k ⟨rfl, rfl⟩
    unfold rngD at hd
    rw [List.getElem?_map] at hd
    cases e : (List.range n)[i]? with
    | none => rw [e] at hd; cases hd
    | some j =>
      rw [e] at hd; cases hd
      have : j = i := by
        rw [List.getElem?_range] at e
        · cases e; rfl
        · rcases Nat.lt_or_ge i n with q | q
          · exact q
          · rw [List.getElem?_eq_none (by simp; exact q)] at e; cases e
      subst this
      exact ⟨same_rfl, rep_int⟩
def chrD (z : Str) : List D := z.cps.toList.map fun c => .str ⟨#[c]⟩
theorem it_str {z : Str} : itR Γ B m H (chrD z) (Its z) := by
  refine ⟨fun i H v H' => H' = H ∧ ∃ c, z.cps[i]? = some c ∧ v = .str ⟨#[c]⟩, ?_, ?_⟩
  · have e : (chrD z).length = z.cps.size := by simp [chrD]
    rw [e]
    exact walk_str.mono (fun _ _ => trivial) fun i H x H' _ _ y => y
  · rintro i d H' B' x H'' hd k ⟨rfl, c, hc, rfl⟩
    unfold chrD at hd
    rw [List.getElem?_map, Array.getElem?_toList, hc] at hd
    cases hd
    exact ⟨same_rfl, rep_str⟩
end
/-- over a list, a tuple or a text, whatever it is -/
def iAny (K : PySem.W.Frag) (te : TE) : TI := fun σ H R => iList K te σ H R ∨ iTup K te σ H R ∨ iStr te σ H R
@[simp] def itD (w : W) (h : MH) : Res (List D) := match w with
  | .dat (.lst ds) => .ok ds h
  | .dat (.tup ds) => .ok ds h
  | .dat (.str z) => .ok (chrD z) h
  | _ => .stuck
@[simp] def iAnyS (e : EE) : EI := fun s h => (e s h).bind itD
def int1 : List W → Option Int
  | [.dat (.int j)] => some j
  | _ => none
def int2 : List W → Option (Int × Int)
  | [.dat (.int i), .dat (.int j)] => some (i, j)
  | _ => none
@[simp] theorem int1_int {j : Int} : int1 [.dat (.int j)] = some j := id rfl
@[simp] theorem int2_int {i j : Int} : int2 [.dat (.int i), .dat (.int j)] = some (i, j) := id rfl
theorem int1_eq {ws : List W} {j : Int} (e : int1 ws = some j) : ws = [.dat (.int j)] := by
  unfold int1 at e
  split at e
  · cases e; rfl
  · cases e
theorem int2_eq {ws : List W} {i j : Int} (e : int2 ws = some (i, j)) : ws = [.dat (.int i), .dat (.int j)] := by
  unfold int2 at e
  split at e
  · cases e; rfl
  · cases e
def RgOk (j : Int) : Prop := -4611686018427387904 ≤ j ∧ j < 4611686018427387904
instance (j : Int) : Decidable (RgOk j) := by unfold RgOk; infer_instance
theorem RgOk.of {j : Int} (h0 : -1000000 ≤ j) (h1 : j ≤ 1000000) : RgOk j := ⟨by omega, by omega⟩
def rngR (i j : Int) (h : MH) : Res (List D) := if RgOk i ∧ RgOk j then .ok (rngD i (j - i).toNat) h else .stuck
theorem rngR_ok {i j : Int} {h : MH} (h0 : -1000000 ≤ i) (h1 : i ≤ 1000000) (h2 : -1000000 ≤ j) (h3 : j ≤ 1000000) : rngR i j h = .ok (rngD i (j - i).toNat) h := if_pos ⟨RgOk.of h0 h1, RgOk.of h2 h3⟩
theorem rngR_nat {n : Nat} {h : MH} (hn : n ≤ 1000000) : rngR 0 (n : Int) h = .ok (rngD 0 n) h := by
  rw [rngR_ok (by omega) (by omega) (by omega) (by omega)]
  congr 1
def iRng1S (e : EA) : EI := fun s h => (e s h).bind fun ws h1 => match int1 ws with
  | some j => rngR 0 j h1
  | none => .stuck
def iRng2S (e : EA) : EI := fun s h => (e s h).bind fun ws h1 => match int2 ws with
  | some (i, j) => rngR i j h1
  | none => .stuck
theorem rng1_eq {s : En} {h h1 : MH} {e : EA} {j : Int} (he : e s h = .ok [.dat (.int j)] h1) : iRng1S e s h = rngR 0 j h1 := by
  unfold iRng1S
  rw [he]
  simp only [bind_ok, int1_int]
theorem rng2_eq {s : En} {h h1 : MH} {e : EA} {i j : Int} (he : e s h = .ok [.dat (.int i), .dat (.int j)] h1) : iRng2S e s h = rngR i j h1 := by
  unfold iRng2S
  rw [he]
  simp only [bind_ok, int2_int]
section
variable {Γ : Wd} {E : XK} {ta te : TE} {tr : TA} {ea : EE} {er : EA}
instance [ha : EvE Γ E ta ea] : EvI Γ E (iAny Γ.K ta) (iAnyS ea) := ⟨fun {B0 m h H s σ Q} R es q => by
  unfold iAnyS at q
  cases e : ea s h with
  | stuck => rw [e] at q; exact q.elim
  | exc C ns xs h' =>
    rw [e] at q
    exact .inl (ha.run (Q := fun _ _ => _) R es (by rw [e]; exact q))
  | ok w h1 =>
    rw [e] at q
    have q : post itR Γ B0 m h H Q E (itD w h1) := q
    cases w with
    | ref n => exact q.elim
    | fn n => exact q.elim
    | dat d =>
      cases d with
      | lst ds =>
        refine .inl (ha.run R es ?_)
        rw [e]
        intro m1 H1 v R1 x1 r1
        have r1 : rep Γ (Bar B0 m1 h1) H1 (.lst ds) v := r1
        unfold rep at r1
        obtain ⟨p, vs, rfl, g, n, a⟩ := r1
        exact ⟨p, rfl, ⟨vs, SqL.of g⟩, q m1 H1 _ R1 x1 (it_list g n a)⟩
      | tup ds =>
        refine .inr (.inl (ha.run R es ?_))
        rw [e]
        intro m1 H1 v R1 x1 r1
        have r1 : rep Γ (Bar B0 m1 h1) H1 (.tup ds) v := r1
        unfold rep at r1
        obtain ⟨p, vs, rfl, g, a⟩ := r1
        exact ⟨p, rfl, ⟨vs, g⟩, q m1 H1 _ R1 x1 (it_tup g a)⟩
      | str z =>
        refine .inr (.inr (ha.run R es ?_))
        rw [e]
        intro m1 H1 v R1 x1 r1
        have r1 : rep Γ (Bar B0 m1 h1) H1 (.str z) v := r1
        unfold rep at r1
        exact ⟨z, r1, q m1 H1 _ R1 x1 it_str⟩
      | _ => exact q.elim⟩
theorem rep_int_eq {B : Br} {H : Hp} {i : Int} {v : V} (r : rep Γ B H (.int i) v) : v = .int i := by unfold rep at r; exact r
theorem rep_str_eq {B : Br} {H : Hp} {i : Str} {v : V} (r : rep Γ B H (.str i) v) : v = .str i := by unfold rep at r; exact r
theorem rep_bl_eq {B : Br} {H : Hp} {i : Bool} {v : V} (r : rep Γ B H (.bl i) v) : v = .bl i := by unfold rep at r; exact r
theorem repW_int {B : Br} {m : List Addr} {H : Hp} {i : Int} {v : V} (r : repW Γ B m H (.dat (.int i)) v) : v = .int i := rep_int_eq (Γ := Γ) (B := B) (H := H) r
instance [ha : EvA Γ E tr er] : EvI Γ E (iRng1 tr) (iRng1S er) := ⟨fun {B0 m h H s σ Q} R es q => by
  refine ha.run R es (q.bind fun ws h1 m1 H1 vs R1 x1 r1 q1 => ?_)
  cases e : int1 ws with
  | none => simp only [e] at q1; exact q1.elim
  | some j =>
    simp only [e] at q1
    rw [int1_eq e] at r1
    obtain ⟨v, r, rfl, a, e2⟩ := r1
    have e2 : r = [] := e2
    subst e2
    cases repW_int a
    unfold rngR at q1
    split at q1
    · next l =>
      obtain ⟨_, l1, l2⟩ := l
      rw [Int.sub_zero] at q1
      exact ⟨j, rfl, by omega, by omega, q1 m1 H1 _ R1 Ex.refl it_rng⟩
    · exact q1.elim⟩
instance [ha : EvA Γ E tr er] : EvI Γ E (iRng2 tr) (iRng2S er) := ⟨fun {B0 m h H s σ Q} R es q => by
  refine ha.run R es (q.bind fun ws h1 m1 H1 vs R1 x1 r1 q1 => ?_)
  cases e : int2 ws with
  | none => simp only [e] at q1; exact q1.elim
  | some p =>
    obtain ⟨i, j⟩ := p
    simp only [e] at q1
    rw [int2_eq e] at r1
    obtain ⟨v, r, rfl, a, v', r', rfl, a', e2⟩ := r1
    have e2 : r' = [] := e2
    subst e2
    cases repW_int a
    cases repW_int a'
    unfold rngR at q1
    split at q1
    · next l => obtain ⟨⟨l1, l2⟩, l3, l4⟩ := l; exact ⟨i, j, rfl, ⟨by omega, by omega, by omega, by omega⟩, q1 m1 H1 _ R1 Ex.refl it_rng⟩
    · exact q1.elim⟩
end
/-! ### for -/
@[simp] def stepL (r : SRes) (k : En → MH → SRes) : SRes := match r with
  | .nx s h => k s h
  | .ct s h => k s h
  | .bk s h => .nx s h
  | .rt w h => .rt w h
  | .exc C ns xs h => .exc C ns xs h
  | .stuck => .stuck
def loopS (g : GG) (b : SS) : List D → SS
  | [], s, h => .nx s h
  | d :: ds, s, h => stepL ((g (.dat d) s h).bind b) (loopS g b ds)
@[simp] theorem loopS_nil {g : GG} {b : SS} {s : En} {h : MH} : loopS g b [] s h = .nx s h := rfl
theorem loopS_cons {g : GG} {b : SS} {d : D} {ds : List D} {s : En} {h : MH} : loopS g b (d :: ds) s h = stepL ((g (.dat d) s h).bind b) (loopS g b ds) := rfl
@[simp] def sFor (i : EI) (g : GG) (b : SS) : SS := fun s h => (i s h).bindS fun ds h1 => loopS g b ds s h1
section
variable {Γ : Wd} {E : XK} {B0 : Br} {m : List Addr} {h : MH} {H : Hp} {Dn : Ends}
theorem postS.step {r : SRes} {k : En → MH → SRes} {N : L2.St → Hp → Prop} (q : postS Γ B0 m h H Dn E (stepL r k))
    (f : ∀ s h1 m1 H1 σ, Rm Γ B0 m1 h1 H1 → Ex m h H m1 h1 H1 → repE Γ (Bar B0 m1 h1) m1 H1 s σ → postS Γ B0 m1 h1 H1 Dn E (k s h1) → N σ H1) : postS Γ B0 m h H { Dn with nx := N, ct := N, bk := Dn.nx } E r := by
  cases r with
  | nx s' h' => exact fun m' H' v a b c => f s' h' m' H' v a b c (postS.mono b q)
  | ct s' h' => exact fun m' H' v a b c => f s' h' m' H' v a b c (postS.mono b q)
  | bk s' h' => exact q
  | rt s' h' => exact q
  | exc C ns xs h' => exact q
  | stuck => exact q
def forP (Γ : Wd) (E : XK) (B0 : Br) (Dn : Ends) (eg : GG) (eb : SS) (ds : List D) (m1 : List Addr) (h1 : MH) (H1 : Hp) (i : Nat) (σ : L2.St) (H' : Hp) : Prop :=
  ∃ s h' m', Rm Γ B0 m' h' H' ∧ Ex m1 h1 H1 m' h' H' ∧ repE Γ (Bar B0 m' h') m' H' s σ ∧ postS Γ B0 m' h' H' Dn E (loopS eg eb (ds.drop i) s h')
instance {wi : TI} {g : TG} {tb : TS} {ei : EI} {eg : GG} {eb : SS} [hi : EvI Γ E wi ei] [hg : EvG Γ E g eg] [hb : EvS Γ E tb eb] : EvS Γ E (tFor wi g tb) (sFor ei eg eb) := ⟨fun {B0 m h H s σ Dn} R es q => by
  refine hi.run R es (post.bindS q fun ds h1 m1 H1 J R1 x1 r1 q1 => ?_)
  obtain ⟨Y, wk, yy⟩ := r1
  have es1 := es.mono R x1
  refine for_it wk (forP Γ E B0 Dn eg eb ds m1 h1 H1) ⟨s, h1, m1, R1, Ex.refl, es1, q1⟩ ?_ ?_ ?_
  · rintro i σ' H' _ ⟨s', h', m', R', x', _, _⟩
    exact ⟨_, x'.kpp R1⟩
  · rintro i x σ' H' H'' hi ⟨s', h', m', R', x', es', q'⟩ y
    have hd : ds[i]? = some ds[i] := List.getElem?_eq_getElem hi
    obtain ⟨sm, rx⟩ := yy i ds[i] H' _ x H'' hd (x'.kpp R1) y
    obtain ⟨R'', x''⟩ := R'.same sm
    rw [List.drop_eq_getElem_cons hi, loopS_cons] at q'
    have q'' := postS.step (N := forP Γ E B0 Dn eg eb ds m1 h1 H1 (i + 1)) (postS.mono x'' q')
      (fun s2 h2 m2 H2 σ2 R2 x2 e2 q2 => ⟨s2, h2, m2, R2, (x'.trans x'').trans x2, e2, q2⟩)
    exact hg.run (Dn := { nx := fun σ2 H2 => tb { Dn with nx := forP Γ E B0 Dn eg eb ds m1 h1 H1 (i + 1), ct := forP Γ E B0 Dn eg eb ds m1 h1 H1 (i + 1), bk := Dn.nx } σ2 H2, rt := Dn.rt, bk := Dn.nx, ct := forP Γ E B0 Dn eg eb ds m1 h1 H1 (i + 1) }) R'' (es'.mono R' x'') (w := .dat ds[i]) rx
      (postS.bind (Dn := { Dn with nx := forP Γ E B0 Dn eg eb ds m1 h1 H1 (i + 1), ct := forP Γ E B0 Dn eg eb ds m1 h1 H1 (i + 1), bk := Dn.nx }) q'' fun s3 h3 m3 H3 σ3 R3 x3 e3 q3 => hb.run R3 e3 q3)
  · rintro σ' H' ⟨s', h', m', R', x', es', q'⟩
    rw [List.drop_length, loopS_nil] at q'
    exact q' m' H' σ' R' Ex.refl es'⟩
end
/-! ### comprehensions -/
def wipeS (s : En) : List Nat → En
  | [] => s
  | v :: vs => (wipeS s vs).set v none
@[simp] theorem wipeS_nil {s : En} : wipeS s [] = s := rfl
@[simp] theorem wipeS_cons {s : En} {v : Nat} {vs : List Nat} : wipeS s (v :: vs) = (wipeS s vs).set v none := rfl
def lcS (g : GG) (tt : ET) (te : EE) : List D → En → MH → List D → Res W
  | [], s, h, acc => .ok (.dat (.lst acc)) h
  | d :: ds, s, h, acc => match g (.dat d) s h with
    | .nx s1 h1 => (match tt s1 h1 with
      | .ok true h2 => (match te s1 h2 with
        | .ok (.dat y) h3 => if acc.length < sizeLine then lcS g tt te ds s h3 (acc ++ [y]) else .stuck
        | _ => .stuck)
      | .ok false h2 => lcS g tt te ds s h2 acc
      | _ => .stuck)
    | _ => .stuck
@[simp] def eLc (i : EI) (g : GG) (tt : ET) (te : EE) (vs : List Nat) : EE := fun s h => (i s h).bind fun ds h1 => lcS g tt te ds (wipeS s vs) h1 []
@[simp] def eYes : ET := fun _ h => .ok true h
class GW (g : TG) (vs : List Nat) : Prop where
  h : ∀ x σ H Q, g x σ H Q → g x σ H fun σ2 H2 => wipe σ2 vs = wipe σ vs ∧ Q σ2 H2
class GWs (g : TGs) (vs : List Nat) : Prop where
  h : ∀ x σ H Q, g x σ H Q → g x σ H fun σ2 H2 => wipe σ2 vs = wipe σ vs ∧ Q σ2 H2
theorem wipe_set {σ : L2.St} {i : Nat} {v : Option V} {vs : List Nat} (h : i ∈ vs) : wipe (σ.set i v) vs = wipe σ vs := by
  induction vs with
  | nil => cases h
  | cons a vs ih =>
    unfold wipe
    by_cases e : i = a
    · subst e
      by_cases hm : i ∈ vs
      · rw [ih hm]
      · have : ∀ ws : List Nat, i ∉ ws → (wipe (σ.set i v) ws) = (wipe σ ws).set i v := by
          intro ws
          induction ws with
          | nil => intro _; rfl
          | cons b ws ih2 =>
            intro hn
            unfold wipe
            rw [ih2 (fun z => hn (List.mem_cons_of_mem _ z)), List.set_comm _ _ (fun z => hn (by rw [z]; exact List.mem_cons_self))]
        rw [this vs hm, List.set_set]
    · rw [ih (by rcases List.mem_cons.mp h with z | z; exact absurd z e; exact z)]
class MemN (i : Nat) (vs : List Nat) : Prop where h : i ∈ vs
instance (priority := high) {i : Nat} {vs : List Nat} : MemN i (i :: vs) := ⟨List.mem_cons_self⟩
instance {i j : Nat} {vs : List Nat} [h : MemN i vs] : MemN i (j :: vs) := ⟨List.mem_cons_of_mem _ h.h⟩
instance GW.name {i : Nat} {vs : List Nat} [h : MemN i vs] : GW (gName i) vs := ⟨fun x σ H Q q => ⟨wipe_set h.h, q⟩⟩
instance {vs : List Nat} : GWs gNil vs := ⟨fun x σ H Q q => ⟨q.1, rfl, q.2⟩⟩
class GMo (g : TG) : Prop where h : ∀ x σ H Q Q', g x σ H Q → (∀ σ' H', Q σ' H' → Q' σ' H') → g x σ H Q'
class GMos (g : TGs) : Prop where h : ∀ x σ H Q Q', g x σ H Q → (∀ σ' H', Q σ' H' → Q' σ' H') → g x σ H Q'
instance {i : Nat} : GMo (gName i) := ⟨fun x σ H Q Q' q f => f _ _ q⟩
instance : GMos gNil := ⟨fun x σ H Q Q' q f => ⟨q.1, f _ _ q.2⟩⟩
instance {g : TG} {u : TGs} [hg : GMo g] [hu : GMos u] : GMos (gCons g u) := ⟨fun x σ H Q Q' q f => by
  obtain ⟨v, r, e, q⟩ := q
  exact ⟨v, r, e, hg.h _ _ _ _ _ q fun σ' H' q' => hu.h _ _ _ _ _ q' f⟩⟩
instance {g : TG} {u : TGs} {vs : List Nat} [hg : GW g vs] [hm : GMo g] [hu : GWs u vs] [hn : GMos u] : GWs (gCons g u) vs := ⟨fun x σ H Q q => by
  obtain ⟨v, r, e, q⟩ := q
  refine ⟨v, r, e, hm.h _ _ _ _ _ (hg.h _ _ _ _ q) fun σ' H' q' => ?_⟩
  exact hn.h _ _ _ _ _ (hu.h _ _ _ _ q'.2) fun σ2 H2 q2 => ⟨q2.1.trans q'.1, q2.2⟩⟩
instance {K : PySem.W.Frag} {n : Nat} {u : TGs} {vs : List Nat} [hu : GWs u vs] : GW (gTup K n u) vs := ⟨fun x σ H Q q => by
  obtain ⟨a, xs, e, g, l, q⟩ := q
  exact ⟨a, xs, e, g, l, hu.h _ _ _ _ q⟩⟩
theorem Same.trans' {H H1 H2 : Hp} (a : L2.Same H H1) (b : L2.Same H1 H2) : L2.Same H H2 := fun _ _ z => b _ _ (a _ _ z)
section
variable {Γ : Wd} {E : XK} {B0 : Br} {m : List Addr} {h : MH} {H : Hp} {Dn : Ends}
/-- a list in the making is barred -/
theorem Rm.barred {p : Addr} {vs : List V} (R : Rm Γ B0 m h H) (hp : H p = none) : Rm Γ (fun q => B0 q ∨ q = p) m h (upd H p (.lst vs)) := by
  obtain ⟨R1, x1⟩ := R.same (same_new (u := .lst vs) hp)
  have kk : Kp Γ (Bar B0 m h) H (Bar (fun q => B0 q ∨ q = p) m h) (upd H p (.lst vs)) := by
    refine ⟨fun q u g nt n => ?_, fun q u g mu nb => ⟨?_, ?_⟩⟩
    · rw [upd_ne (ne_of_none g hp)]; exact g
    · rw [upd_ne (ne_of_none g hp)]; exact g
    · rintro ((b | b) | b)
      · exact nb (.inl b)
      · exact ne_of_none g hp b
      · exact nb (.inr b)
  have wk : ∀ {w : W} {v : V}, repW Γ (Bar B0 m h) m H w v → repW Γ (Bar (fun q => B0 q ∨ q = p) m h) m (upd H p (.lst vs)) w v := fun {w v} r => by
    cases w with
    | dat d => exact kk.rep d v r
    | ref n => exact r
    | fn n => exact r
  have wks : ∀ {ws : List W} {us : List V}, repWs Γ (Bar B0 m h) m H ws us → repWs Γ (Bar (fun q => B0 q ∨ q = p) m h) m (upd H p (.lst vs)) ws us := fun {ws} => by
    induction ws with
    | nil => exact fun r => r
    | cons w ws ih => rintro us ⟨v, q, e, a, b⟩; exact ⟨v, q, e, wk a, ih b⟩
  refine ⟨R.len, R.nd, fun i q g => ?_, fun i q o g1 g2 => ?_, R1.tb, fun q b => ?_⟩
  · rintro (b | b)
    · exact R.nb i q g b
    · obtain ⟨u, gu, _⟩ := R.mu g
      exact ne_of_none gu hp b
  · have ob := R.ob i q o g1 g2
    have ne : ∀ u, H q = some u → (upd H p (.lst vs)) q = some u := fun u g => by rw [upd_ne (ne_of_none g hp)]; exact g
    cases o with
    | lst ws => obtain ⟨us, g, a⟩ := ob; exact ⟨us, ne _ g, wks a⟩
    | dic ks ws => obtain ⟨us, g, l, a⟩ := ob; exact ⟨us, ne _ g, l, wks a⟩
    | ins C ns ws => obtain ⟨dx, us, g, l, a, k⟩ := ob; exact ⟨dx, us, ne _ g, l, wks a, k⟩
    | dead => obtain ⟨u, g, a⟩ := ob; exact ⟨u, ne _ g, a⟩
  · rcases b with b | rfl
    · obtain ⟨u, g, mu⟩ := R.b0 q b
      exact ⟨u, by rw [upd_ne (ne_of_none g hp)]; exact g, mu⟩
    · exact ⟨_, upd_same, trivial⟩
/-- it is not barred any more -/
theorem Rm.unbarred {p : Addr} {vs : List V} (R : Rm Γ (fun q => B0 q ∨ q = p) m h H) (hn : ¬ B0 p) : Rm Γ B0 m h H ∧ (∀ d v, rep Γ (Bar (fun q => B0 q ∨ q = p) m h) H d v → rep Γ (Bar B0 m h) H d v) := by
  have kk : Kp Γ (Bar (fun q => B0 q ∨ q = p) m h) H (Bar B0 m h) H := ⟨fun q u g _ _ => g, fun q u g mu nb => ⟨g, fun b => b.elim (fun b => nb (.inl (.inl b))) fun b => nb (.inr b)⟩⟩
  have wk : ∀ {w : W} {v : V}, repW Γ (Bar (fun q => B0 q ∨ q = p) m h) m H w v → repW Γ (Bar B0 m h) m H w v := fun {w v} r => by
    cases w with
    | dat d => exact kk.rep d v r
    | ref n => exact r
    | fn n => exact r
  have wks : ∀ {ws : List W} {us : List V}, repWs Γ (Bar (fun q => B0 q ∨ q = p) m h) m H ws us → repWs Γ (Bar B0 m h) m H ws us := fun {ws} => by
    induction ws with
    | nil => exact fun r => r
    | cons w ws ih => rintro us ⟨v, q, e, a, b⟩; exact ⟨v, q, e, wk a, ih b⟩
  refine ⟨⟨R.len, R.nd, fun i q g b => R.nb i q g (.inl b), fun i q o g1 g2 => ?_, R.tb, fun q b => R.b0 q (.inl b)⟩, fun d v r => kk.rep d v r⟩
  have ob := R.ob i q o g1 g2
  cases o with
  | lst ws => obtain ⟨us, g, a⟩ := ob; exact ⟨us, g, wks a⟩
  | dic ks ws => obtain ⟨us, g, l, a⟩ := ob; exact ⟨us, g, l, wks a⟩
  | ins C ns ws => obtain ⟨dx, us, g, l, a, k⟩ := ob; exact ⟨dx, us, g, l, wks a, k⟩
  | dead => exact ob
/-- what is barred may change -/
theorem Rm.putB {p : Addr} {vs : List V} {u : HO} (R : Rm Γ B0 m h H) (b : B0 p) (mu : Mu u) : Rm Γ B0 m h (upd H p u) ∧ Kp Γ (Bar B0 m h) H (Bar B0 m h) (upd H p u) := by
  have kk : Kp Γ (Bar B0 m h) H (Bar B0 m h) (upd H p u) := by
    obtain ⟨w, gw, mw⟩ := R.b0 p b
    refine ⟨fun q u g nt n => ?_, fun q u g mu nb => ⟨?_, nb⟩⟩
    · rw [upd_ne (fun z => by rw [z, gw] at g; cases g; exact n mw)]; exact g
    · rw [upd_ne (fun z => nb (.inl (by rw [z]; exact b)))]; exact g
  have wk : ∀ {w : W} {v : V}, repW Γ (Bar B0 m h) m H w v → repW Γ (Bar B0 m h) m (upd H p u) w v := fun {w v} r => by
    cases w with
    | dat d => exact kk.rep d v r
    | ref n => exact r
    | fn n => exact r
  have wks : ∀ {ws : List W} {us : List V}, repWs Γ (Bar B0 m h) m H ws us → repWs Γ (Bar B0 m h) m (upd H p u) ws us := fun {ws} => by
    induction ws with
    | nil => exact fun r => r
    | cons w ws ih => rintro us ⟨v, q, e, a, b⟩; exact ⟨v, q, e, wk a, ih b⟩
  refine ⟨⟨R.len, R.nd, R.nb, fun i q o g1 g2 => ?_, ?_, fun q bq => ?_⟩, kk⟩
  · have nq : q ≠ p := fun z => R.nb i q g1 (by rw [z]; exact b)
    have ob := R.ob i q o g1 g2
    have ne : ∀ w, H q = some w → (upd H p u) q = some w := fun w g => by rw [upd_ne nq]; exact g
    cases o with
    | lst ws => obtain ⟨us, g, a⟩ := ob; exact ⟨us, ne _ g, wks a⟩
    | dic ks ws => obtain ⟨us, g, l, a⟩ := ob; exact ⟨us, ne _ g, l, wks a⟩
    | ins C ns ws => obtain ⟨dx, us, g, l, a, k⟩ := ob; exact ⟨dx, us, ne _ g, l, wks a, k⟩
    | dead => obtain ⟨u, g, a⟩ := ob; exact ⟨u, ne _ g, a⟩
  · intro q hq
    obtain ⟨ps, g1, g2, g3⟩ := R.tb q hq
    refine ⟨ps, ?_, g2, fun pos cv hc => ?_⟩
    · obtain ⟨w, gw, mw⟩ := R.b0 p b
      rw [upd_ne (fun z => by rw [z, gw] at g1; cases g1; exact mw)]; exact g1
    · obtain ⟨c, e1, e2⟩ := g3 pos cv hc
      refine ⟨c, e1, ?_⟩
      obtain ⟨w, gw, mw⟩ := R.b0 p b
      rw [upd_ne (fun z => by rw [z, gw] at e2; cases e2; unfold CodeO at mw; exact mw)]; exact e2
  · by_cases e : q = p
    · subst e; exact ⟨u, upd_same, mu⟩
    · obtain ⟨w, gw, mw⟩ := R.b0 q bq
      exact ⟨w, by rw [upd_ne e]; exact gw, mw⟩
end
end S
end

section
namespace S
open PySem PySem.Spec PyProof.Rows L2 Z LamX
abbrev EZ : XK := L2.E0
section
variable {Γ : Wd} {E : XK} {B0 B B' : Br} {m m' : List Addr} {h h' : MH} {H H' : Hp}
theorem repW.kp (k : Kp Γ B H B' H') (pre : ∀ (i : Nat) (p : Addr), m[i]? = some p → m'[i]? = some p) {w : W} {v : V} (r : repW Γ B m H w v) : repW Γ B' m' H' w v := by
  cases w with
  | dat d => exact k.rep d v r
  | ref n => obtain ⟨p, g, e⟩ := r; exact ⟨p, pre _ _ g, e⟩
  | fn n => exact r
theorem repE.kp (k : Kp Γ B H B' H') (pre : ∀ (i : Nat) (p : Addr), m[i]? = some p → m'[i]? = some p) {s : En} {σ : L2.St} (r : repE Γ B m H s σ) : repE Γ B' m' H' s σ := ⟨r.1, fun i w g => by
  obtain ⟨v, a, b⟩ := r.2 i w g
  exact ⟨v, a, b.kp k pre⟩⟩
theorem repE_none {s : En} {σ : L2.St} {i : Nat} (r : repE Γ B m H s σ) : repE Γ B m H (s.set i none) (σ.set i none) := by
  refine ⟨by simp [r.1], fun j w g => ?_⟩
  rcases getElem?_set' g with ⟨rfl, e⟩ | ⟨n, g⟩
  · cases e
  · obtain ⟨v, a, b⟩ := r.2 j w g
    exact ⟨v, by rw [List.getElem?_set_ne (fun z => n z.symm)]; exact a, b⟩
theorem repE_wipe {s : En} {σ : L2.St} (r : repE Γ B m H s σ) : ∀ vs : List Nat, repE Γ B m H (wipeS s vs) (wipe σ vs)
  | [] => r
  | v :: vs => by unfold wipeS wipe; exact repE_none (repE_wipe r vs)
theorem wipe_wipe {σ : L2.St} {vs : List Nat} : wipe (wipe σ vs) vs = wipe σ vs := by
  have : ∀ ws : List Nat, (∀ i ∈ ws, i ∈ vs) → wipe (wipe σ ws) vs = wipe σ vs := by
    intro ws
    induction ws with
    | nil => intro _; rfl
    | cons a ws ih => intro hh; show wipe ((wipe σ ws).set a none) vs = _; rw [wipe_set (hh a List.mem_cons_self)]; exact ih fun i hi => hh i (List.mem_cons_of_mem _ hi)
  exact this vs fun _ z => z
def lcP (Γ : Wd) (E : XK) (B0 : Br) (Q : VK) (eg : GG) (et : ET) (ee : EE) (ds : List D) (s0 : En) (m1 : List Addr) (h1 : MH) (H1 : Hp) (p : Addr) (i : Nat) (H' : Hp) : Prop :=
  ∃ h' m' acc vacc, Rm Γ (fun q => B0 q ∨ q = p) m' h' H' ∧ Ex m1 h1 H1 m' h' H' ∧ H' p = some (.lst vacc) ∧ reps Γ (Bar (fun q => B0 q ∨ q = p) m' h') H' acc vacc ∧
    post (fun Γ B m H => repW Γ B m H) Γ B0 m1 h1 H1 Q E (lcS eg et ee (ds.drop i) s0 h' acc)
theorem kpD {p : Addr} {m1 : List Addr} {h1 : MH} {H1 : Hp} (R1 : Rm Γ B0 m1 h1 H1) (hp : H1 p = none) (x : Ex m1 h1 H1 m' h' H') : Kp Γ (Bar B0 m1 h1) H1 (Bar (fun q => B0 q ∨ q = p) m' h') H' := by
  have k := x.kpp R1
  refine ⟨k.im, fun q u g mu nb => ⟨(k.mu q u g mu nb).1, ?_⟩⟩
  rintro ((b | b) | b)
  · exact (k.mu q u g mu nb).2 (.inl b)
  · exact ne_of_none g hp b
  · exact (k.mu q u g mu nb).2 (.inr b)
instance {wi : TI} {g : TG} {tt : TT} {te : TE} {vs : List Nat} {ei : EI} {eg : GG} {et : ET} {ee : EE} [hi : EvI Γ E wi ei] [hg : EvG Γ EZ g eg] [gw : GW g vs] [ht : EvT Γ EZ tt et] [he : EvE Γ EZ te ee] : EvE Γ E (tLc wi g tt te vs) (eLc ei eg et ee vs) := ⟨fun {B0 m h H s σ Q} R es q => by
  refine hi.run R es (q.bind fun ds h1 m1 H1 J R1 x1 r1 q1 => ?_)
  obtain ⟨Y, wk, yy⟩ := r1
  have es1 := es.mono R x1
  intro p hp
  refine lc_it wk (lcP Γ E B0 Q eg et ee ds (wipeS s vs) m1 h1 H1 p) ?_ ?_ ?_ ?_
  · refine ⟨h1, m1, [], [], R1.barred hp, (R1.same (same_new hp)).2, upd_same, by unfold reps; rfl, q1⟩
  · rintro i H' _ ⟨h', m', acc, vacc, R', x', _⟩
    exact ⟨_, x'.kpp R1⟩
  · rintro i x H' H'' hi ⟨h', m', acc, vacc, R', x', gp, ra, q'⟩ y
    have hd : ds[i]? = some ds[i] := List.getElem?_eq_getElem hi
    have k' := kpD R1 hp x'
    obtain ⟨sm, rx⟩ := yy i ds[i] H' _ x H'' hd k' y
    obtain ⟨R'', x''⟩ := R'.same sm
    have e0 : repE Γ (Bar (fun q => B0 q ∨ q = p) m' h') m' H'' (wipeS s vs) (wipe σ vs) := (repE_wipe ((es1.kp k' x'.pre)) vs).mono R' x''
    have X2 : Ex m1 h1 H1 m' h' H'' := x'.trans x''
    have ra2 := (x''.kpp R').reps _ _ ra
    have gp2 : H'' p = some (.lst vacc) := sm _ _ gp
    rw [List.drop_eq_getElem_cons hi] at q'
    unfold lcS at q'
    cases e1 : eg (.dat ds[i]) (wipeS s vs) h' with
    | nx s1 h2 =>
      simp only [e1] at q'
      have main : g x (wipe σ vs) H'' fun σ2 H2 => tt σ2 H2 fun b H3 => if b = true then te σ2 H3 fun y H4 => ∃ acc, H4 p = some (.lst acc) ∧ acc.length < sizeLine ∧ lcP Γ E B0 Q eg et ee ds (wipeS s vs) m1 h1 H1 p (i + 1) (upd H4 p (.lst (acc ++ [y]))) else lcP Γ E B0 Q eg et ee ds (wipeS s vs) m1 h1 H1 p (i + 1) H3 := by
        refine hg.run (Dn := { nx := fun σ2 H2 => tt σ2 H2 fun b H3 => if b = true then te σ2 H3 fun y H4 => ∃ acc, H4 p = some (.lst acc) ∧ acc.length < sizeLine ∧ lcP Γ E B0 Q eg et ee ds (wipeS s vs) m1 h1 H1 p (i + 1) (upd H4 p (.lst (acc ++ [y]))) else lcP Γ E B0 Q eg et ee ds (wipeS s vs) m1 h1 H1 p (i + 1) H3, rt := fun _ _ => True }) R'' e0 (w := .dat ds[i]) rx ?_
        rw [e1]
        intro m2 H2 σ2 R2 x2 e2
        refine ht.run R2 e2 ?_
        cases e3 : et s1 h2 with
        | ok b h3 =>
          intro m3 H3 b' R3 x3 r3
          cases (show b' = b from r3)
          cases b with
          | false =>
            simp only [e3] at q'
            refine i_itef ?_
            have xx := x2.trans x3
            have np : ¬ live m' h' p := fun ⟨j, o, g1, g2, g3⟩ => R''.nb j p g1 (.inr rfl)
            exact ⟨h3, m3, acc, vacc, R3, X2.trans xx, (xx.kp p _ gp2 (fun _ z => by cases z) np).1, (xx.kpp R'').reps _ _ ra2, q'⟩
          | true =>
            simp only [e3] at q'
            refine i_itet (he.run R3 (e2.mono R2 x3) ?_)
            cases e4 : ee s1 h3 with
            | ok w h4 =>
              cases w with
              | ref n => simp only [e4] at q'; exact q'.elim
              | fn n => simp only [e4] at q'; exact q'.elim
              | dat yD =>
                simp only [e4] at q'
                intro m4 H4 yv R4 x4 r4
                have r4 : rep Γ (Bar (fun q => B0 q ∨ q = p) m4 h4) H4 yD yv := r4
                have xx := (x2.trans x3).trans x4
                have np : ¬ live m' h' p := fun ⟨j, o, g1, g2, g3⟩ => R''.nb j p g1 (.inr rfl)
                have gp4 := (xx.kp p _ gp2 (fun _ z => by cases z) np).1
                have ra4 := (xx.kpp R'').reps _ _ ra2
                split at q'
                · next l =>
                  refine ⟨vacc, gp4, by rw [← reps_len ra4]; exact l, ?_⟩
                  obtain ⟨R5, k5⟩ := R4.putB (vs := []) (p := p) (u := .lst (vacc ++ [yv])) (.inr rfl) trivial
                  refine ⟨h4, m4, acc ++ [yD], vacc ++ [yv], R5, ?_, upd_same, ?_, q'⟩
                  · refine ⟨(X2.trans xx).pre, fun a o ga nt nl => ?_⟩
                    obtain ⟨b1, b2⟩ := (X2.trans xx).kp a o ga nt nl
                    exact ⟨by rw [upd_ne (ne_of_none ga hp)]; exact b1, b2⟩
                  · refine reps_app (k5.reps _ _ ra4) ?_
                    unfold reps
                    exact ⟨yv, [], rfl, k5.rep _ _ r4, by unfold reps; rfl⟩
                · exact q'.elim
            | exc C ns xs h4 => simp only [e4] at q'; exact q'.elim
            | stuck => simp only [e4] at q'; exact q'.elim
        | exc C ns xs h3 => simp only [e3] at q'; exact q'.elim
        | stuck => simp only [e3] at q'; exact q'.elim
      have r := gw.h _ _ _ _ main
      rw [wipe_wipe] at r
      exact r
    | _ => simp only [e1] at q'; exact q'.elim
  · rintro H' ⟨h', m', acc, vacc, R', x', gp, ra, q'⟩
    rw [List.drop_length] at q'
    obtain ⟨R2, k2⟩ := R'.unbarred (vs := []) (fun b => by obtain ⟨u, gu, _⟩ := R1.b0 p b; rw [hp] at gu; cases gu)
    refine q' m' H' (.ref p) R2 x' ?_
    have nb : ¬ Bar B0 m' h' p := by
      rintro (b | ⟨j, o, g1, g2, g3⟩)
      · obtain ⟨u, gu, _⟩ := R1.b0 p b; rw [hp] at gu; cases gu
      · exact R'.nb j p g1 (.inr rfl)
    show rep _ _ _ _ _
    unfold rep
    refine ⟨p, vacc, rfl, gp, nb, ?_⟩
    have kk : Kp Γ (Bar (fun q => B0 q ∨ q = p) m' h') H' (Bar B0 m' h') H' := ⟨fun q u g _ _ => g, fun q u g mu nb => ⟨g, fun b => b.elim (fun b => nb (.inl (.inl b))) fun b => nb (.inr b)⟩⟩
    exact kk.reps _ _ ra⟩
instance : EvT Γ E tYes eYes := ⟨fun {B0 m h H s σ Q} R es q => q m H true R Ex.refl rfl⟩
end
end S
end

section
namespace S
open PySem PySem.Spec PyProof.Rows L2 Z LamX
abbrev FF := List W → MH → Res W
abbrev rW : Rl W V := fun Γ B m H => repW Γ B m H
/-- what a def promises: its shallow form -/
def spOf (Γ : Wd) (n : Nat) (F : FF) : Sp := fun vs H Q E => ∃ B0 m h ws, Rm Γ B0 m h H ∧ repWs Γ (Bar B0 m h) m H ws vs ∧ ws.length = n ∧ post rW Γ B0 m h H Q E (F ws h)
class CallOk (Γ : Wd) (E : XK) (sp : Sp) (c : FF) : Prop where
  run : ∀ {B0 : Br} {m : List Addr} {h : MH} {H : Hp} {ws : List W} {vs : List V} {Q : VK}, Rm Γ B0 m h H → repWs Γ (Bar B0 m h) m H ws vs → post rW Γ B0 m h H Q E (c ws h) → sp vs H Q E
/-- the call as it is -/
def callF (n : Nat) (F : FF) : FF := fun ws h => if ws.length = n then F ws h else .stuck
/-- what is handed back is frozen -/
def frz (k : Nat) (h : MH) : W → Option D
  | .dat d => some d
  | .ref n => if k ≤ n then vw h (.ref n) else none
  | .fn _ => none
/-- the call of a def that has no business with what may change: it runs by itself -/
def callP (n : Nat) (F : FF) : FF := fun ws h => if ws.length = n then (match datAll ws with
  | some ds => (match F (ds.map .dat) [] with
    | .ok w h2 => (match frz 0 h2 w with
      | some d => .ok (.dat d) h
      | none => .stuck)
    | .exc C ns xs _ => .exc C ns xs h
    | .stuck => .stuck)
  | none => .stuck) else .stuck
def O.flat : O → Bool
  | .lst ws => (datAll ws).isSome
  | .dic _ ws => (datAll ws).isSome
  | .ins _ _ ws => (datAll ws).isSome
  | .dead => true
/-- what the def made and left is forgotten -/
def callT (n : Nat) (F : FF) : FF := fun ws h => if ws.length = n then (match F ws h with
  | .ok w h2 => (match frz h.length h2 w with
    | some d => if (h2.take h.length).all O.flat = true then .ok (.dat d) (h2.take h.length) else .stuck
    | none => .stuck)
  | .exc C ns xs h2 => if (h2.take h.length).all O.flat = true then .exc C ns xs (h2.take h.length) else .stuck
  | .stuck => .stuck) else .stuck
section
variable {Γ : Wd} {E : XK} {B0 B B' : Br} {m m' m1 : List Addr} {h h' h1 : MH} {H H' H1 : Hp}
instance {n : Nat} {F : FF} : CallOk Γ E (spOf Γ n F) (callF n F) := ⟨fun {B0 m h H ws vs Q} R r q => by
  unfold callF at q
  split at q
  · next l => exact ⟨B0, m, h, ws, R, r, l, q⟩
  · exact q.elim⟩
theorem live_nil {p : Addr} : ¬ live [] [] p := fun ⟨i, o, g, _⟩ => by simp at g
/-- a run by itself: all that may change here is barred there -/
theorem Rm.alone (R : Rm Γ B0 m h H) : Rm Γ (Bar B0 m h) [] [] H := ⟨rfl, fun i j p g => by simp at g, fun i p g => by simp at g, fun i p o g => by simp at g, R.tb, fun p b => R.bar_mu b⟩
theorem kp_bar (f : ∀ p, ¬ B p → ¬ B' p) : Kp Γ B H B' H := ⟨fun _ _ g _ _ => g, fun p u g _ n => ⟨g, f p n⟩⟩
theorem Ex.alone (x : Ex [] [] H m1 h1 H1) : ExtN H H1 := fun b o g nt => (x.kp b o g nt live_nil).1
theorem datAll_map : ∀ {ds : List D}, datAll (ds.map .dat) = some ds
  | [] => rfl
  | d :: ds => by rw [List.map_cons, datAll_cons, datAll_map]; rfl
theorem frz_rep {k : Nat} {w : W} {d : D} {v : V} (R : Rm Γ B0 m h H) (e : frz k h w = some d) (r : repW Γ (Bar B0 m h) m H w v) (nb : ∀ p, ¬ Bar B0 m h p → ¬ B p) (nr : ∀ n p, k ≤ n → m[n]? = some p → ¬ B p) : rep Γ B H d v := by
  have kk : Kp Γ (Bar B0 m h) H B H := kp_bar nb
  cases w with
  | fn n => cases e
  | dat d' => cases e; exact kk.rep _ _ r
  | ref n =>
    simp only [frz] at e
    split at e
    · next l =>
      obtain ⟨p, g, rfl⟩ := r
      have np := nr n p l g
      have rv := vw_rep (w := .ref n) R ⟨p, g, rfl⟩ e
      obtain ⟨o, ho⟩ := R.at g
      unfold vw at e
      simp only [ho] at e
      cases o with
      | lst ws =>
        cases e3 : datAll ws with
        | none => simp only [e3] at e; cases e
        | some ds =>
          simp only [e3, Option.map_some] at e; cases e
          obtain ⟨p', vs, e', g', a⟩ := rv
          cases e'
          unfold rep; exact ⟨p, vs, rfl, g', np, kk.reps _ _ a⟩
      | dic ks ws =>
        cases e3 : datAll ws with
        | none => simp only [e3] at e; cases e
        | some ds =>
          simp only [e3, Option.map_some] at e; cases e
          obtain ⟨p', vs, e', g', l, a⟩ := rv
          cases e'
          unfold rep; exact ⟨p, vs, rfl, g', l, np, kk.reps _ _ a⟩
      | ins C ns ws =>
        cases e3 : datAll ws with
        | none => simp only [e3] at e; cases e
        | some ds =>
          simp only [e3, Option.map_some] at e; cases e
          obtain ⟨p', dx, vs, e', g', l, a, ok⟩ := rv
          cases e'
          unfold rep; exact ⟨p, dx, vs, rfl, g', l, np, kk.reps _ _ a, ok⟩
      | dead => cases e
    · cases e
instance {n : Nat} {F : FF} : CallOk Γ E (spOf Γ n F) (callP n F) := ⟨fun {B0 m h H ws vs Q} R r q => by
  unfold callP at q
  split at q
  · next l =>
    cases e : datAll ws with
    | none => simp only [e] at q; exact q.elim
    | some ds =>
      simp only [e] at q
      have rr : reps Γ (Bar (Bar B0 m h) [] []) H ds vs := (kp_bar (fun p n b => b.elim n live_nil)).reps _ _ (datAll_reps e r)
      refine ⟨Bar B0 m h, [], [], ds.map .dat, R.alone, reps_dat rr, ?_, ?_⟩
      · rw [List.length_map, ← l]
        have : ∀ {ws : List W} {ds : List D}, datAll ws = some ds → ds.length = ws.length := fun {ws} => by
          induction ws with
          | nil => intro ds e; cases e; rfl
          | cons w ws ih =>
            intro ds e
            cases w with
            | ref _ => cases e
            | fn _ => cases e
            | dat d =>
              rw [datAll_cons] at e
              cases e3 : datAll ws with
              | none => rw [e3] at e; cases e
              | some ds' => rw [e3] at e; cases e; simp [ih e3]
        exact this e
      · cases e2 : F (ds.map .dat) [] with
        | stuck => simp only [e2] at q; exact q.elim
        | exc C ns xs h2 =>
          simp only [e2] at q
          intro m2 H2 d us o2 R2 x2 g a
          obtain ⟨R3, x3⟩ := R.extN x2.alone R2.tb
          exact q m H2 d us o2 R3 x3 g ((kp_bar (fun p n b => n (.inl b))).reps _ _ a)
        | ok w h2 =>
          simp only [e2] at q
          cases e3 : frz 0 h2 w with
          | none => simp only [e3] at q; exact q.elim
          | some d =>
            simp only [e3] at q
            intro m2 H2 v R2 x2 r2
            obtain ⟨R3, x3⟩ := R.extN x2.alone R2.tb
            exact q m H2 v R3 x3 (frz_rep R2 e3 r2 (fun p n b => n (.inl b)) fun n p _ g b => R2.nb n p g b)
  · exact q.elim⟩
theorem take_get {α : Type} {xs : List α} {k i : Nat} {a : α} (g : (xs.take k)[i]? = some a) : i < k ∧ xs[i]? = some a := by
  rw [List.getElem?_take] at g
  split at g
  · next l => exact ⟨l, g⟩
  · cases g
theorem datAll_wk {ws : List W} {us : List V} (f : (datAll ws).isSome = true) (k : Kp Γ B H B' H') (r : repWs Γ B m H ws us) : repWs Γ B' m' H' ws us := by
  induction ws generalizing us with
  | nil => exact r
  | cons w ws ih =>
    obtain ⟨v, q, e, a, b⟩ := r
    cases w with
    | ref n => cases f
    | fn n => cases f
    | dat d =>
      rw [datAll_cons, Option.isSome_map] at f
      exact ⟨v, q, e, k.rep _ _ a, ih f b⟩
theorem Rm.cut (R : Rm Γ B0 m h H) {k : Nat} (f : (h.take k).all O.flat = true) : Rm Γ B0 (m.take k) (h.take k) H := by
  have lv : ∀ p, ¬ Bar B0 m h p → ¬ Bar B0 (m.take k) (h.take k) p := fun p n b => b.elim (fun b => n (.inl b)) fun ⟨i, o, g1, g2, g3⟩ => n (.inr ⟨i, o, (take_get g1).2, (take_get g2).2, g3⟩)
  refine ⟨by simp [R.len], fun i j p g1 g2 => R.nd i j p (take_get g1).2 (take_get g2).2, fun i p g => R.nb i p (take_get g).2, fun i p o g1 g2 => ?_, R.tb, R.b0⟩
  have ob := R.ob i p o (take_get g1).2 (take_get g2).2
  have fo : O.flat o = true := List.all_eq_true.mp f o (List.mem_of_getElem? g2)
  have kk : Kp Γ (Bar B0 m h) H (Bar B0 (m.take k) (h.take k)) H := kp_bar lv
  cases o with
  | lst ws => obtain ⟨us, g, a⟩ := ob; exact ⟨us, g, datAll_wk fo kk a⟩
  | dic ks ws => obtain ⟨us, g, l, a⟩ := ob; exact ⟨us, g, l, datAll_wk fo kk a⟩
  | ins C ns ws => obtain ⟨dx, us, g, l, a, ok⟩ := ob; exact ⟨dx, us, g, l, datAll_wk fo kk a, ok⟩
  | dead => exact ob
theorem pre_take {m2 : List Addr} (p : ∀ (i : Nat) (p : Addr), m[i]? = some p → m2[i]? = some p) (l : m.length ≤ m2.length) : m2.take m.length = m := by
  apply List.ext_getElem?
  intro i
  rw [List.getElem?_take]
  split
  · next g => rw [List.getElem?_eq_getElem g]; exact p i _ (List.getElem?_eq_getElem g)
  · next g => rw [List.getElem?_eq_none (by omega)]
theorem pre_len {m2 : List Addr} (p : ∀ (i : Nat) (p : Addr), m[i]? = some p → m2[i]? = some p) : m.length ≤ m2.length := by
  rcases Nat.lt_or_ge m2.length m.length with q | q
  · have := p m2.length _ (List.getElem?_eq_getElem q)
    rw [List.getElem?_eq_none (Nat.le_refl _)] at this; cases this
  · exact q
theorem cut_ex {m2 : List Addr} {h2 : MH} {H2 : Hp} (R : Rm Γ B0 m h H) (R2 : Rm Γ B0 m2 h2 H2) (x2 : Ex m h H m2 h2 H2) (f : (h2.take h.length).all O.flat = true) : Rm Γ B0 m (h2.take h.length) H2 ∧ Ex m h H m (h2.take h.length) H2 ∧ (∀ p, ¬ Bar B0 m2 h2 p → ¬ Bar B0 m (h2.take h.length) p) := by
  have e : m2.take h.length = m := by rw [← R.len]; exact pre_take x2.pre (pre_len x2.pre)
  have R3 := R2.cut f
  rw [e] at R3
  have lv : ∀ p, live m (h2.take h.length) p → live m2 h2 p := fun p ⟨i, o, g1, g2, g3⟩ => ⟨i, o, x2.pre i p g1, (take_get g2).2, g3⟩
  refine ⟨R3, ⟨fun _ _ z => z, fun p o g nt n => ?_⟩, fun p n b => b.elim (fun b => n (.inl b)) fun b => n (.inr (lv p b))⟩
  obtain ⟨a, b⟩ := x2.kp p o g nt n
  exact ⟨a, fun z => b (lv p z)⟩
instance {n : Nat} {F : FF} : CallOk Γ E (spOf Γ n F) (callT n F) := ⟨fun {B0 m h H ws vs Q} R r q => by
  unfold callT at q
  split at q
  · next l =>
    refine ⟨B0, m, h, ws, R, r, l, ?_⟩
    cases e2 : F ws h with
    | stuck => simp only [e2] at q; exact q.elim
    | exc C ns xs h2 =>
      simp only [e2] at q
      split at q
      · next f =>
        intro m2 H2 d us o2 R2 x2 g a
        obtain ⟨R3, x3, nb⟩ := cut_ex R R2 x2 f
        exact q m H2 d us o2 R3 x3 g ((kp_bar nb).reps _ _ a)
      · exact q.elim
    | ok w h2 =>
      simp only [e2] at q
      cases e3 : frz h.length h2 w with
      | none => simp only [e3] at q; exact q.elim
      | some d =>
        simp only [e3] at q
        split at q
        · next f =>
          intro m2 H2 v R2 x2 r2
          obtain ⟨R3, x3, nb⟩ := cut_ex R R2 x2 f
          refine q m H2 v R3 x3 (frz_rep R2 e3 r2 nb fun n p ln g b => ?_)
          rcases b with b | ⟨i, o, g1, g2, g3⟩
          · exact R2.nb n p g b
          · have := R2.nd n i p g (x2.pre i p g1)
            have := (take_get g2).1
            omega
        · exact q.elim
  · exact q.elim⟩
theorem run_nil {sp : Sp} {vs : List V} {Q : VK} (h : sp vs H Q E) : sp (vs ++ []) H Q E := by rw [List.append_nil]; exact h
instance {sp : Sp} {tr : TA} {er : EA} {c : FF} [ha : EvA Γ E tr er] [hc : CallOk Γ E sp c] : EvE Γ E (tCall sp [] E tr) (eCB c er) := ⟨fun {B0 m h H s σ Q} R es q => by
  refine ha.run R es (q.bind fun ws h1 m1 H1 vs R1 x1 r1 q1 => ?_)
  exact run_nil (hc.run R1 r1 q1)⟩
/-! ### bodies -/
@[simp] def fin (r : SRes) : Res W := match r with
  | .nx _ h' => .ok (.dat .non) h'
  | .rt w h' => .ok w h'
  | .exc C ns xs h' => .exc C ns xs h'
  | .bk _ _ => .stuck
  | .ct _ _ => .stuck
  | .stuck => .stuck
def fnOf (k : Nat) (b : SS) : FF := fun ws h => fin (b (ws.map some ++ List.replicate k none) h)
theorem repE_start {ws : List W} {vs : List V} {N : List Str} {k : Nat} (r : repWs Γ B m H ws vs) (e : N.length - vs.length = k) : repE Γ B m H (ws.map some ++ List.replicate k none) (L2.start N vs) := by
  have l := repWs_len r
  refine ⟨by unfold L2.start; simp [l, e], fun i w g => ?_⟩
  unfold L2.start
  have : ∀ {ws : List W} {vs : List V}, repWs Γ B m H ws vs → ∀ (i : Nat) (w : W), ws[i]? = some w → ∃ v, vs[i]? = some v ∧ repW Γ B m H w v := fun {ws} => by
    induction ws with
    | nil => intro vs r i w g; simp at g
    | cons w0 ws ih =>
      rintro vs ⟨v, q, rfl, a, b⟩ i w g
      cases i with
      | zero => simp at g; subst g; exact ⟨v, rfl, a⟩
      | succ i => simp at g; obtain ⟨v', g', r'⟩ := ih b i w g; exact ⟨v', by simpa using g', r'⟩
  have hi : i < ws.length := by
    rcases Nat.lt_or_ge i ws.length with z | z
    · exact z
    · rw [List.getElem?_append_right (by simpa using z)] at g
      rw [List.getElem?_replicate] at g
      split at g <;> cases g
  rw [List.getElem?_append_left (by simpa using hi), List.getElem?_map] at g
  cases e2 : ws[i]? with
  | none => rw [e2] at g; cases g
  | some w' =>
    rw [e2] at g; cases g
    obtain ⟨v, g', r'⟩ := this r i w e2
    exact ⟨v, by rw [List.getElem?_append_left (by rw [List.length_map, ← l]; exact hi), List.getElem?_map, g']; rfl, r'⟩
theorem fin_run {r : SRes} {Q : VK} (q : post rW Γ B0 m h H Q E (fin r)) : postS Γ B0 m h H { nx := fun _ H' => Q .non H', rt := Q } E r := by
  cases r with
  | nx s' h' => exact fun m' H' σ' R x e => q m' H' .non R x (by show rep _ _ _ _ _; unfold rep; rfl)
  | rt w h' => exact q
  | exc C ns xs h' => exact q
  | bk => exact q.elim
  | ct => exact q.elim
  | stuck => exact q.elim
theorem body_run {t : TS} {b : SS} {N : List Str} {vs : List V} {Q : VK} {n k : Nat} (ev : EvS Γ E t b) (e : N.length = n + k) (sp : spOf Γ n (fnOf k b) vs H Q E) : t { nx := fun _ H' => Q .non H', rt := Q } (L2.start N vs) H := by
  obtain ⟨B0, m, h, ws, R, r, l, q⟩ := sp
  have l2 := repWs_len r
  exact ev.run R (repE_start r (by omega)) (fin_run q)
theorem sp_len {n : Nat} {F : FF} {vs : List V} {Q : VK} (sp : spOf Γ n F vs H Q E) : vs.length = n := by
  obtain ⟨B0, m, h, ws, R, r, l, q⟩ := sp
  exact (repWs_len r).symm.trans l
end
section
variable {P : Program} {w : World} {mg : Str → Option Value} {base : Heap} {Γ : Wd}
theorem okS {x qual : Str} {st : Stmt} {f : Addr} {fd : FuncData} {N ps : List Str} {k j : Nat} {b : SS} (F : Fun Γ.K x qual st f fd) (S : FnScope N ps (defScope st)) (e : N.length = ps.length + j)
    (hb : ∀ (cdv : Value) (A : Around) (outer : List Env) (s : Shared) (H : Hp) (E : XK), Room k (A.deeper (envOfC qual (defScope st) s.heap.objs.size f cdv)) →
      ∃ t, PSs (cxOf (L2.CX P w) P w Γ.K mg base N qual (defScope st) f cdv A outer s H E) (defBody st) t ∧ EvS Γ E t b) : FnOk P w Γ.K mg base (L2.CX P w) (k + 1) f fd ps (spOf Γ ps.length (fnOf j b)) :=
  F.okX S (fun vs H Q E h => sp_len h) fun cdv A outer s H vs Q E hr h => by
    obtain ⟨t, ht, ev⟩ := hb cdv A outer s H E hr
    exact ⟨t, ht, body_run ev e h⟩
theorem okSG {x qual : Str} {st : Stmt} {f : Addr} {fd : FuncData} {N ps : List Str} {k j : Nat} {b : SS} (F : Fun Γ.K x qual st f fd) (S : FnScope N ps (defScope st)) (e : N.length = ps.length + j)
    (hb : ∀ (cdv : Value) (A : Around) (outer : List Env) (s : Shared) (H : Hp) (E : XK), fd.code = cdv → NoG A → Room k (A.deeper (envOfC qual (defScope st) s.heap.objs.size f cdv)) →
      ∃ t, PSs (cxOf (L2.CX P w) P w Γ.K mg base N qual (defScope st) f cdv A outer s H E) (defBody st) t ∧ EvS Γ E t b) : FnG P w Γ.K mg base (L2.CX P w) (k + 1) f fd ps (spOf Γ ps.length (fnOf j b)) :=
  okGc F S (fun vs H Q E h => sp_len h) fun cdv A outer s H vs Q E hcd hg hr h => by
    obtain ⟨t, ht, ev⟩ := hb cdv A outer s H E hcd hg hr
    exact ⟨t, ht, body_run ev e h⟩
end
end S
end

section
namespace S
class IsOk (Γ : Wd) (C : String) : Prop where h : Γ.ok C
class IsTg (Γ : Wd) (C : String) : Prop where h : Γ.tg C
open PySem PySem.Spec PyProof.Rows L2 Z LamX
/-! ### instances are made -/
class MkOk (Γ : Wd) (E : XK) (C : Addr) (sp : Sp) (c : FF) : Prop where
  run : ∀ {B0 : Br} {m : List Addr} {h : MH} {H : Hp} {ws : List W} {vs : List V} {Q : VK}, Rm Γ B0 m h H → repWs Γ (Bar B0 m h) m H ws vs → post rW Γ B0 m h H Q E (c ws h) →
    ∀ x dx, H x = none → H dx = none → dx ≠ x → sp (.ref x :: vs) (upd (upd H dx (.own x)) x (.ins C dx [])) (fun v H2 => v = .non ∧ Q (.ref x) H2) E
def objOf (C : String) : Option O → Option D
  | some (.ins C' ns xs) => if C' = C then (datAll xs).map (.obj C ns) else none
  | _ => none
/-- an instance that stays as it is made -/
def mkP (C : String) (n : Nat) (F : FF) : FF := fun ws h => if ws.length + 1 = n then (match datAll ws with
  | some ds => (match F (.ref 0 :: ds.map .dat) [.ins C [] []] with
    | .ok (.dat .non) h2 => (match objOf C h2[0]? with
      | some d => .ok (.dat d) h
      | none => .stuck)
    | .exc C ns xs _ => .exc C ns xs h
    | _ => .stuck)
  | none => .stuck) else .stuck
/-- one that may change -/
def mkM (C : String) (n : Nat) (F : FF) : FF := fun ws h => if ws.length + 1 = n then (match F (.ref h.length :: ws) (h ++ [.ins C [] []]) with
  | .ok (.dat .non) h2 => .ok (.ref h.length) h2
  | .exc C ns xs h2 => .exc C ns xs h2
  | _ => .stuck) else .stuck
section
variable {Γ : Wd} {E : XK} {B0 B B' : Br} {m m' m1 : List Addr} {h h' h1 : MH} {H H' H1 : Hp} {C : String} {n : Nat} {F : FF} {sp : Sp} {c : FF} {tr : TA} {ta : TE} {er : EA} {ea : EE}
theorem datAll_len {ws : List W} {ds : List D} (e : datAll ws = some ds) : ds.length = ws.length := by
  induction ws generalizing ds with
  | nil => cases e; rfl
  | cons w ws ih =>
    cases w with
    | ref _ => cases e
    | fn _ => cases e
    | dat d =>
      rw [datAll_cons] at e
      cases e3 : datAll ws with
      | none => rw [e3] at e; cases e
      | some ds' => rw [e3] at e; cases e; simp [ih e3]
theorem same_ins {x dx : Addr} {a : HO} {b : HO} (hx : H x = none) (hd : H dx = none) (hn : dx ≠ x) : L2.Same H (upd (upd H dx a) x b) := Same.new (same_new hd) (by rw [upd_ne hn.symm]; exact hx)
instance [ok : IsOk Γ C] : MkOk Γ E (Γ.cl C) (spOf Γ n F) (mkP C n F) := ⟨fun {B0 m h H ws vs Q} R r q x dx hx hd hn => by
  unfold mkP at q
  split at q
  · next l =>
    cases e : datAll ws with
    | none => simp only [e] at q; exact q.elim
    | some ds =>
      simp only [e] at q
      have rr := datAll_reps e r
      have sm : L2.Same H (upd (upd H dx (.own x)) x (.ins (Γ.cl C) dx [])) := same_ins hx hd hn
      obtain ⟨R1, x1⟩ := R.alone.alloc (o := .ins C [] []) sm hx ⟨_, upd_same, trivial⟩ fun _ => ⟨dx, [], upd_same, rfl, rfl, ok.h⟩
      have kk : Kp Γ (Bar B0 m h) H (Bar (Bar B0 m h) [] []) H := kp_bar (fun p n b => b.elim n live_nil)
      have rr1 := (x1.kpp R.alone).reps _ _ (kk.reps _ _ rr)
      refine ⟨Bar B0 m h, [x], [.ins C [] []], .ref 0 :: ds.map .dat, R1, ⟨.ref x, vs, rfl, ⟨x, rfl, rfl⟩, reps_dat rr1⟩, by simp [datAll_len e]; omega, ?_⟩
      cases e2 : F (.ref 0 :: ds.map .dat) [.ins C [] []] with
      | stuck => simp only [e2] at q; exact q.elim
      | exc C ns xs h2 =>
        simp only [e2] at q
        intro m2 H2 d us o2 R2 x2 g a
        obtain ⟨R3, x3⟩ := R.extN (x1.trans x2).alone R2.tb
        exact q m H2 d us o2 R3 x3 g ((kp_bar (fun p n b => n (.inl b))).reps _ _ a)
      | ok w h2 =>
        simp only [e2] at q
        cases w with
        | ref k => exact q.elim
        | fn k => exact q.elim
        | dat d0 =>
          cases d0 with
          | non =>
            simp only at q
            intro m2 H2 v R2 x2 r2
            refine ⟨by have z : rep Γ (Bar (Bar B0 m h) m2 h2) H2 .non v := r2; unfold rep at z; exact z, ?_⟩
            cases e3 : objOf C h2[0]? with
            | none => simp only [e3] at q; exact q.elim
            | some d =>
              simp only [e3] at q
              obtain ⟨R3, x3⟩ := R.extN (x1.trans x2).alone R2.tb
              refine q m H2 _ R3 x3 ?_
              have g0 : m2[0]? = some x := x2.pre 0 x rfl
              obtain ⟨o, ho⟩ := R2.at g0
              have ob := R2.ob 0 x o g0 ho
              rw [ho] at e3
              cases o with
              | ins C' ns xs =>
                simp only [objOf] at e3
                split at e3
                · next ec =>
                  subst ec
                  cases e4 : datAll xs with
                  | none => rw [e4] at e3; cases e3
                  | some ds' =>
                    rw [e4] at e3; cases e3
                    obtain ⟨dx', us, g1, l1, a1, o1⟩ := ob
                    show rep _ _ _ _ _
                    unfold rep
                    exact ⟨x, dx', us, rfl, g1, l1, R.new_not hx, (kp_bar (fun p n b => n (.inl b))).reps _ _ (datAll_reps e4 a1), o1⟩
                · cases e3
              | _ => cases e3
          | _ => exact q.elim
  · exact q.elim⟩
instance [ok : IsOk Γ C] : MkOk Γ E (Γ.cl C) (spOf Γ n F) (mkM C n F) := ⟨fun {B0 m h H ws vs Q} R r q x dx hx hd hn => by
  unfold mkM at q
  split at q
  · next l =>
    have sm : L2.Same H (upd (upd H dx (.own x)) x (.ins (Γ.cl C) dx [])) := same_ins hx hd hn
    obtain ⟨R1, x1⟩ := R.alloc (o := .ins C [] []) sm hx ⟨_, upd_same, trivial⟩ fun _ => ⟨dx, [], upd_same, rfl, rfl, ok.h⟩
    have hl : (m ++ [x])[h.length]? = some x := by rw [← R.len]; simp
    refine ⟨B0, m ++ [x], h ++ [.ins C [] []], .ref h.length :: ws, R1, ⟨.ref x, vs, rfl, ⟨x, hl, rfl⟩, r.mono R x1⟩, by simp; omega, ?_⟩
    cases e2 : F (.ref h.length :: ws) (h ++ [.ins C [] []]) with
    | stuck => simp only [e2] at q; exact q.elim
    | exc C ns xs h2 =>
      simp only [e2] at q
      exact fun m2 H2 d us o2 R2 x2 g a => q m2 H2 d us o2 R2 (x1.trans x2) g a
    | ok w h2 =>
      simp only [e2] at q
      cases w with
      | ref k => exact q.elim
      | fn k => exact q.elim
      | dat d0 =>
        cases d0 with
        | non =>
          intro m2 H2 v R2 x2 r2
          refine ⟨by have z : rep Γ (Bar B0 m2 h2) H2 .non v := r2; unfold rep at z; exact z, ?_⟩
          exact q m2 H2 _ R2 (x1.trans x2) ⟨x, x2.pre _ _ hl, rfl⟩
        | _ => exact q.elim
  · exact q.elim⟩
instance {Ca : Addr} [ha : EvA Γ E tr er] [hc : MkOk Γ E Ca sp c] : EvE Γ E (tMake Ca sp [] E tr) (eCB c er) := ⟨fun {B0 m h H s σ Q} R es q => by
  refine ha.run R es (q.bind fun ws h1 m1 H1 vs R1 x1 r1 q1 => ?_)
  intro x dx hx hd hn
  rw [List.append_nil]
  exact hc.run R1 r1 q1 x dx hx hd hn⟩
@[simp] def isCls (C : String) : Option (Option W) → Bool
  | some (some (.dat (.cls C'))) => decide (C' = C)
  | _ => false
@[simp] def eMakeL (i : Nat) (C : String) (c : FF) (a : EA) : EE := fun s h => if isCls C s[i]? = true then (a s h).bind c else .stuck
instance {i : Nat} [ha : EvA Γ E tr er] [hc : MkOk Γ E (Γ.cl C) sp c] : EvE Γ E (tMakeL i (Γ.cl C) sp E tr) (eMakeL i C c er) := ⟨fun {B0 m h H s σ Q} R es q => by
  unfold eMakeL at q
  split at q
  · next l =>
    refine ⟨?_, ?_⟩
    · unfold isCls at l
      split at l
      · next C' g =>
        obtain ⟨v, g1, r⟩ := es.2 i _ g
        have r : rep Γ (Bar B0 m h) H (.cls C') v := r
        unfold rep at r
        rw [g1, r.1, of_decide_eq_true l]
      · cases l
    · refine ha.run R es (q.bind fun ws h1 m1 H1 vs R1 x1 r1 q1 => ?_)
      intro x dx hx hd hn
      rw [List.append_nil]
      exact hc.run R1 r1 q1 x dx hx hd hn
  · exact q.elim⟩
/-- by keywords -/
@[simp] def eMakeK (n k : Nat) (g : List W → List W → List W) (c : FF) (a b : EA) : EE := fun s h => (a s h).bind fun ws h1 => (b s h1).bind fun zs h2 => if ws.length = n ∧ zs.length = k then c (g ws zs) h2 else .stuck
/-! ### methods -/
def hasM (C : String) (f : Str) (h : MH) : W → Bool
  | .dat (.obj C' ns _) => decide (C' = C) && !ns.contains f
  | .ref n => match h[n]? with
    | some (.ins C' ns _) => decide (C' = C) && !ns.contains f
    | _ => false
  | _ => false
@[simp] theorem hasM_obj {C C' : String} {f : Str} {h : MH} {ns : List Str} {xs : List D} : hasM C f h (.dat (.obj C' ns xs)) = (decide (C' = C) && !ns.contains f) := rfl
@[simp] def eMeth (C : String) (f : Str) (c : FF) (o : EE) (a : EA) : EE := fun s h => (o s h).bind fun w h1 => if hasM C f h1 w = true then (a s h1).bind fun ws h2 => c (w :: ws) h2 else .stuck
theorem lookup_zip_none {ns : List Str} {vs : List V} {f : Str} (h : ns.contains f = false) : (ns.zip vs).lookup f = none := by
  induction ns generalizing vs with
  | nil => rfl
  | cons a ns ih =>
    cases vs with
    | nil => rfl
    | cons v vs =>
      rw [List.contains_cons, Bool.or_eq_false_iff] at h
      rw [List.zip_cons_cons, List.lookup_cons, h.1]
      exact ih h.2
theorem hasM_run {f : Str} {w : W} {v : V} (R : Rm Γ B0 m h H) (r : repW Γ (Bar B0 m h) m H w v) (e : hasM C f h w = true) : ∃ a dx fs, v = .ref a ∧ H a = some (.ins (Γ.cl C) dx fs) ∧ fs.lookup f = none := by
  cases w with
  | fn k => cases e
  | dat d =>
    cases d with
    | obj C' ns xs =>
      have r : rep Γ (Bar B0 m h) H (.obj C' ns xs) v := r
      unfold rep at r
      obtain ⟨p, dx, vs, e1, g, l, nb, a, ok⟩ := r
      rw [hasM_obj, Bool.and_eq_true] at e
      rw [of_decide_eq_true e.1] at g
      exact ⟨p, dx, _, e1, g, lookup_zip_none (by simpa using e.2)⟩
    | _ => cases e
  | ref k =>
    obtain ⟨p, g, e1⟩ := r
    obtain ⟨o, ho⟩ := R.at g
    have ob := R.ob k p o g ho
    unfold hasM at e
    simp only [ho] at e
    cases o with
    | ins C' ns xs =>
      obtain ⟨dx, us, g1, l1, a1, ok⟩ := ob
      simp only [Bool.and_eq_true] at e
      rw [of_decide_eq_true e.1] at g1
      exact ⟨p, dx, _, e1, g1, lookup_zip_none (by simpa using e.2)⟩
    | _ => cases e
instance {f : Str} [ho : EvE Γ E ta ea] [ha : EvA Γ E tr er] [hc : CallOk Γ E sp c] : EvE Γ E (tMeth (Γ.cl C) f sp [] E ta tr) (eMeth C f c ea er) := ⟨fun {B0 m h H s σ Q} R es q => by
  refine ho.run R es (q.bind fun w h1 m1 H1 v R1 x1 r1 q1 => ?_)
  split at q1
  · next l =>
    obtain ⟨a, dx, fs, e1, g, lk⟩ := hasM_run R1 r1 l
    refine ⟨a, dx, fs, e1, g, lk, ha.run R1 (es.mono R x1) (q1.bind fun ws h2 m2 H2 vs R2 x2 r2 q2 => ?_)⟩
    rw [List.append_nil]
    exact hc.run (ws := w :: _) R2 ⟨v, vs, rfl, r1.mono R1 x2, r2⟩ q2
  · exact q1.elim⟩
@[simp] def eSM (C : String) (c : FF) (o : EE) : EE := fun s h => (o s h).bind fun w h1 => if isCls C (some (some w)) = true then c [] h1 else .stuck
@[simp] def eCM (C : String) (c : FF) (o : EE) (a : EA) : EE := fun s h => (o s h).bind fun w h1 => if isCls C (some (some w)) = true then (a s h1).bind fun ws h2 => c (w :: ws) h2 else .stuck
theorem isCls_run {w : W} {v : V} (r : repW Γ B m H w v) (l : isCls C (some (some w)) = true) : v = .ref (Γ.cl C) := by
  unfold isCls at l
  split at l
  · next C' g =>
    cases g
    have r : rep Γ B H (.cls C') v := r
    unfold rep at r
    rw [r.1, of_decide_eq_true l]
  · cases l
instance [ho : EvE Γ E ta ea] [hc : CallOk Γ E sp c] : EvE Γ E (tSMeth0 (Γ.cl C) sp E ta) (eSM C c ea) := ⟨fun {B0 m h H s σ Q} R es q => by
  refine ho.run R es (q.bind fun w h1 m1 H1 v R1 x1 r1 q1 => ?_)
  split at q1
  · next l => exact ⟨isCls_run r1 l, hc.run (ws := []) R1 rfl q1⟩
  · exact q1.elim⟩
instance [ho : EvE Γ E ta ea] [ha : EvA Γ E tr er] [hc : CallOk Γ E sp c] : EvE Γ E (ClX.tCMeth (Γ.cl C) sp E ta tr) (eCM C c ea er) := ⟨fun {B0 m h H s σ Q} R es q => by
  refine ho.run R es (q.bind fun w h1 m1 H1 v R1 x1 r1 q1 => ?_)
  split at q1
  · next l =>
    cases isCls_run r1 l
    refine ⟨rfl, ha.run R1 (es.mono R x1) (q1.bind fun ws h2 m2 H2 vs R2 x2 r2 q2 => ?_)⟩
    exact hc.run (ws := w :: _) R2 ⟨_, vs, rfl, r1.mono R1 x2, r2⟩ q2
  · exact q1.elim⟩
def isObj (C : String) (h : MH) : W → Bool
  | .dat (.obj C' _ _) => decide (C' = C)
  | .ref n => match h[n]? with
    | some (.ins C' _ _) => decide (C' = C)
    | _ => false
  | _ => false
@[simp] theorem isObj_obj {C C' : String} {h : MH} {ns : List Str} {xs : List D} : isObj C h (.dat (.obj C' ns xs)) = decide (C' = C) := rfl
theorem isObj_run {w : W} {v : V} (R : Rm Γ B0 m h H) (r : repW Γ (Bar B0 m h) m H w v) (e : isObj C h w = true) : ∃ a dx fs, v = .ref a ∧ H a = some (.ins (Γ.cl C) dx fs) := by
  cases w with
  | fn k => cases e
  | dat d =>
    cases d with
    | obj C' ns xs =>
      have r : rep Γ (Bar B0 m h) H (.obj C' ns xs) v := r
      unfold rep at r
      obtain ⟨p, dx, vs, e1, g, l, nb, a, ok⟩ := r
      rw [isObj_obj] at e
      rw [of_decide_eq_true e] at g
      exact ⟨p, dx, _, e1, g⟩
    | _ => cases e
  | ref k =>
    obtain ⟨p, g, e1⟩ := r
    obtain ⟨o, ho⟩ := R.at g
    have ob := R.ob k p o g ho
    unfold isObj at e
    simp only [ho] at e
    cases o with
    | ins C' ns xs =>
      obtain ⟨dx, us, g1, l1, a1, ok⟩ := ob
      rw [of_decide_eq_true e] at g1
      exact ⟨p, dx, _, e1, g1⟩
    | _ => cases e
@[simp] def eProp (C : String) (c : FF) (o : EE) : EE := fun s h => (o s h).bind fun w h1 => if isObj C h1 w = true then c [w] h1 else .stuck
instance [ho : EvE Γ E ta ea] [hc : CallOk Γ E sp c] : EvE Γ E (tProp (Γ.cl C) sp [] E ta) (eProp C c ea) := ⟨fun {B0 m h H s σ Q} R es q => by
  refine ho.run R es (q.bind fun w h1 m1 H1 v R1 x1 r1 q1 => ?_)
  split at q1
  · next l =>
    obtain ⟨a, dx, fs, rfl, g⟩ := isObj_run R1 r1 l
    exact ⟨a, dx, fs, rfl, g, hc.run (ws := [w]) R1 ⟨_, [], rfl, r1, rfl⟩ q1⟩
  · exact q1.elim⟩
/-! str(x), bool(x) of own classes, or of what is plain -/
def orC (r r' : RC) : RC := fun xs H Q => r xs H Q ∨ r' xs H Q
theorem cr_or {X : Cx} {f : Value} {r r' : RC} (a : CallR X f r) (b : CallR X f r') : CallR X f (orC r r') := CallR.or a b
def isStrW : W → Bool
  | .dat (.str _) => true
  | _ => false
def isBlW : W → Bool
  | .dat (.bl _) => true
  | _ => false
@[simp] theorem isStrW_str {x : Str} : isStrW (.dat (.str x)) = true := rfl
@[simp] theorem isBlW_bl {x : Bool} : isBlW (.dat (.bl x)) = true := rfl
def ownS (C : String) (ok : W → Bool) (c f : FF) : FF := fun ws h => match ws with
  | [w] => if isObj C h w = true then (c [w] h).bind fun z h1 => if ok z = true then .ok z h1 else .stuck else f ws h
  | _ => f ws h
theorem repWs1 {B : Br} {w : W} {v : List V} (r : repWs Γ B m H [w] v) : ∃ u, v = [u] ∧ repW Γ B m H w u := by
  obtain ⟨u, q, e, a, b⟩ := r
  have b : q = [] := b
  subst b
  exact ⟨u, e, a⟩
instance {r : RC} {f : FF} [hc : CallOk Γ E sp c] [hf : OpN Γ E r f] : OpN Γ E (orC r (aStrO (Γ.cl C) sp E)) (ownS C isStrW c f) := ⟨fun {B0 m h H x v Q} R rx q => by
  unfold ownS at q
  split at q
  · next w =>
    split at q
    · next l =>
      obtain ⟨u, rfl, ru⟩ := repWs1 rx
      obtain ⟨a, dx, fs, rfl, g⟩ := isObj_run R ru l
      refine .inr ⟨a, dx, fs, rfl, g, hc.run R rx (q.bind fun z h1 m1 H1 v1 R1 x1 r1 q1 => ?_)⟩
      split at q1
      · next lz =>
        cases z with
        | ref k => cases lz
        | fn k => cases lz
        | dat d =>
          cases d with
          | str y =>
            have e : v1 = .str y := by have z : rep Γ (Bar B0 m1 h1) H1 (.str y) v1 := r1; unfold rep at z; exact z
            exact ⟨y, e, q1 m1 H1 v1 R1 Ex.refl r1⟩
          | _ => cases lz
      · exact q1.elim
    · exact .inl (hf.run R rx q)
  · exact .inl (hf.run R rx q)⟩
instance {r : RC} {f : FF} [hc : CallOk Γ E sp c] [hf : OpN Γ E r f] : OpN Γ E (orC r (aBoolO (Γ.cl C) sp E)) (ownS C isBlW c f) := ⟨fun {B0 m h H x v Q} R rx q => by
  unfold ownS at q
  split at q
  · next w =>
    split at q
    · next l =>
      obtain ⟨u, rfl, ru⟩ := repWs1 rx
      obtain ⟨a, dx, fs, rfl, g⟩ := isObj_run R ru l
      refine .inr ⟨a, dx, fs, rfl, g, hc.run R rx (q.bind fun z h1 m1 H1 v1 R1 x1 r1 q1 => ?_)⟩
      split at q1
      · next lz =>
        cases z with
        | ref k => cases lz
        | fn k => cases lz
        | dat d =>
          cases d with
          | bl y =>
            have e : v1 = .bl y := by have z : rep Γ (Bar B0 m1 h1) H1 (.bl y) v1 := r1; unfold rep at z; exact z
            exact ⟨y, e, q1 m1 H1 v1 R1 Ex.refl r1⟩
          | _ => cases lz
      · exact q1.elim
    · exact .inl (hf.run R rx q)
  · exact .inl (hf.run R rx q)⟩
/-! ### fields -/
class FlOk (Γ : Wd) (fl : String → List Str) : Prop where
  c : ∀ C f, Γ.ok C → f ∈ fl C → Cls Γ.K (Γ.cl C)
  n : ∀ C f, Γ.ok C → f ∈ fl C → NoAttr Γ.K (Γ.cl C) f
def lkD (f : Str) : List Str → List D → Option D
  | n :: ns, d :: ds => if n = f then some d else lkD f ns ds
  | _, _ => none
@[simp] theorem lkD_cons {f n : Str} {ns : List Str} {d : D} {ds : List D} : lkD f (n :: ns) (d :: ds) = if n = f then some d else lkD f ns ds := rfl
def gFld (fl : String → List Str) (f : Str) : D → Option D
  | .obj C ns xs => if f ∈ fl C then lkD f ns xs else none
  | _ => none
@[simp] theorem gFld_obj {fl : String → List Str} {f : Str} {C : String} {ns : List Str} {xs : List D} : gFld fl f (.obj C ns xs) = if f ∈ fl C then lkD f ns xs else none := rfl
theorem lkD_run {f : Str} : ∀ {ns : List Str} {ds : List D} {vs : List V} {d : D}, reps Γ B H ds vs → lkD f ns ds = some d → ∃ v, (ns.zip vs).lookup f = some v ∧ rep Γ B H d v
  | [], ds, _, _, _, e => by cases ds <;> cases e
  | n :: ns, [], _, _, _, e => by cases e
  | n :: ns, x :: ds, _, d, r, e => by
    unfold reps at r
    obtain ⟨v, q, rfl, a, b⟩ := r
    rw [lkD_cons] at e
    rw [List.zip_cons_cons, List.lookup_cons]
    by_cases en : n = f
    · subst en
      rw [if_pos rfl] at e; cases e
      rw [beq_self_eq_true]
      exact ⟨v, rfl, a⟩
    · rw [if_neg en] at e
      rw [beq_eq_false_iff_ne.mpr (fun z => en z.symm)]
      exact lkD_run b e
instance {fl : String → List Str} {f : Str} [k : FlOk Γ fl] : G1 Γ (aFld Γ.K f) (gFld fl f) := ⟨fun {B0 m h H x d v Q} R rx e q => by
  cases x with
  | obj C ns xs =>
    obtain ⟨p, dx, vs, rfl, g, l, a, ok⟩ := rx
    rw [gFld_obj] at e
    split at e
    · next hm =>
      obtain ⟨v', g', r'⟩ := lkD_run a e
      exact i_fld g (k.c C f ok hm) (k.n C f ok hm) g' (q _ _ same_rfl r')
    · cases e
  | _ => cases e⟩
/-- the fields of an exception that was caught -/
class XfOk (Γ : Wd) (fl : String → List Str) : Prop where
  b : ∀ C f, Γ.ok C → f ∈ fl C → xvOf Γ C = .ref (Γ.cl C)
  c : ∀ C f, Γ.ok C → f ∈ fl C → XfC Γ.K (Γ.cl C)
  n : ∀ C f, Γ.ok C → f ∈ fl C → PySem.W.findIn Γ.K (.ref (Γ.cl C)) f = some none
def gXf (fl : String → List Str) (f : Str) : D → Option D
  | .exc C ns xs => if f ∈ fl C then lkD f ns xs else none
  | _ => none
@[simp] theorem gXf_exc {fl : String → List Str} {f : Str} {C : String} {ns : List Str} {xs : List D} : gXf fl f (.exc C ns xs) = if f ∈ fl C then lkD f ns xs else none := rfl
instance {fl : String → List Str} {f : Str} [k : XfOk Γ fl] : G1 Γ (aXf Γ.K f) (gXf fl f) := ⟨fun {B0 m h H x d v Q} R rx e q => by
  cases x with
  | exc C ns xs =>
    obtain ⟨p, dd, vs, rfl, g, g2, ok, a⟩ := rx
    rw [gXf_exc] at e
    split at e
    · next hm =>
      obtain ⟨v', g', r'⟩ := lkD_run a e
      rw [k.b C f ok hm] at g
      cases dd with
      | none => obtain ⟨rfl, rfl⟩ := g2; cases g'
      | some d => exact ⟨p, Γ.cl C, d, _, v', rfl, g, g2.1, k.c C f ok hm, k.n C f ok hm, g', q _ _ same_rfl r'⟩
    · cases e
  | _ => cases e⟩
/-- stores -/
def putN (f : Str) : List Str → List Str
  | [] => [f]
  | g :: r => if g = f then g :: r else g :: putN f r
def putW (f : Str) (w : W) : List Str → List W → List W
  | g :: ns, x :: xs => if g = f then w :: xs else x :: putW f w ns xs
  | _, _ => [w]
@[simp] theorem putN_nil {f : Str} : putN f [] = [f] := rfl
@[simp] theorem putN_cons {f g : Str} {r : List Str} : putN f (g :: r) = if g = f then g :: r else g :: putN f r := rfl
@[simp] theorem putW_nil {f : Str} {w : W} {xs : List W} : putW f w [] xs = [w] := rfl
@[simp] theorem putW_cons {f g : Str} {w x : W} {ns : List Str} {xs : List W} : putW f w (g :: ns) (x :: xs) = if g = f then w :: xs else x :: putW f w ns xs := rfl
theorem putF_zip {f : Str} {w : W} {y : V} : ∀ {ns : List Str} {xs : List W} {vs : List V}, ns.length = vs.length → repWs Γ B m H xs vs → repW Γ B m H w y → ∃ us, putF f y (ns.zip vs) = (putN f ns).zip us ∧ (putN f ns).length = us.length ∧ repWs Γ B m H (putW f w ns xs) us
  | [], _, vs, l, r, ry => by
    cases vs with
    | nil => exact ⟨[y], rfl, rfl, ⟨y, [], rfl, ry, rfl⟩⟩
    | cons => cases l
  | g :: ns, xs, vs, l, r, ry => by
    cases vs with
    | nil => cases l
    | cons v vs =>
      cases xs with
      | nil => cases r
      | cons x xs =>
        obtain ⟨v', q, e, a, b⟩ := r
        cases e
        rw [List.zip_cons_cons, putN_cons, putW_cons]
        unfold putF
        by_cases hg : g = f
        · rw [if_pos hg, if_pos hg, if_pos hg]
          exact ⟨y :: vs, rfl, by simpa using l, ⟨y, vs, rfl, ry, b⟩⟩
        · rw [if_neg hg, if_neg hg, if_neg hg]
          obtain ⟨us, e1, e2, e3⟩ := putF_zip (f := f) (ns := ns) (by simpa using l) b ry
          exact ⟨v :: us, by rw [e1]; rfl, by simp [e2], ⟨v, us, rfl, a, e3⟩⟩
def sPut (fl : String → List Str) (f : Str) (w o : W) (s : En) (h : MH) : SRes := match o with
  | .ref n => (match h[n]? with
    | some (.ins C ns xs) => if f ∈ fl C ∧ ns.length < 1000 then .nx s (h.set n (.ins C (putN f ns) (putW f w ns xs))) else .stuck
    | _ => .stuck)
  | _ => .stuck
@[simp] theorem sPut_ref {fl : String → List Str} {f : Str} {w : W} {n : Nat} {s : En} {h : MH} : sPut fl f w (.ref n) s h = (match h[n]? with
    | some (.ins C ns xs) => if f ∈ fl C ∧ ns.length < 1000 then .nx s (h.set n (.ins C (putN f ns) (putW f w ns xs))) else .stuck
    | _ => .stuck) := rfl
@[simp] def sFldS (fl : String → List Str) (f : Str) (o v : EE) : SS := fun s h => (v s h).bindS fun w h1 => (o s h1).bindS fun ow h2 => sPut fl f w ow s h2
instance {fl : String → List Str} {f : Str} {tv : TE} {ev : EE} [k : FlOk Γ fl] [ho : EvE Γ E ta ea] [hv : EvE Γ E tv ev] : EvS Γ E (sFld Γ.K ta tv f) (sFldS fl f ea ev) := ⟨fun {B0 m h H s σ Dn} R es q => by
  refine hv.run R es (post.bindS q fun w h1 m1 H1 y R1 x1 r1 q1 => ?_)
  refine ho.run R1 (es.mono R x1) (post.bindS q1 fun ow h2 m2 H2 v R2 x2 r2 q2 => ?_)
  cases ow with
  | dat d => exact q2.elim
  | fn d => exact q2.elim
  | ref n =>
    obtain ⟨p, g, rfl⟩ := r2
    obtain ⟨o, hob⟩ := R2.at g
    have ob := R2.ob n p o g hob
    rw [sPut_ref, hob] at q2
    cases o with
    | ins C ns xs =>
      simp only at q2
      split at q2
      · next l =>
        obtain ⟨dx, vs, g1, l1, a1, ok⟩ := ob
        obtain ⟨us, e1, e2, e3⟩ := putF_zip (f := f) l1 a1 (r1.mono R1 x2)
        refine ⟨p, Γ.cl C, dx, _, rfl, g1, k.c C f ok l.1, k.n C f ok l.1, ?_, ?_⟩
        · rw [List.length_zip]; omega
        · rw [e1]
          obtain ⟨R3, x3⟩ := R2.put (o' := .ins C (putN f ns) (putW f w ns xs)) (u := .ins (Γ.cl C) dx ((putN f ns).zip us)) g hob (fun z => by cases z) trivial fun x => ⟨dx, us, upd_same, e2, e3.mono R2 x, ok⟩
          exact q2 m2 _ σ R3 x3 (((es.mono R x1).mono R1 x2).mono R2 x3)
      · exact q2.elim
    | _ => exact q2.elim⟩
/-! ### raise -/
def tRaise1 (C : Addr) (n : Str) (te : TE) (E : XK) : TS := fun _ σ H => tX1 C n te σ H E
theorem ps_raise1 {X : Cx} {E : XK} {C : Addr} {n : Str} {te : TE} {e : Expr} {pos : Pos} (hc : X.calm = true) (tk : Takes X (fun cls d _ H => E cls d H)) (he : PMk X e (tX1 C n te)) : PS X (.Raise (some e) none pos) (tRaise1 C n te E) := L2.ps_raise hc tk he
@[simp] def sRaise1 (C : String) (n : Str) (a : EE) : SS := fun s h => (a s h).bindS fun w h1 => match w with
  | .dat d => .exc C [n] [d] h1
  | _ => .stuck
/-- an exception class of the program's own -/
class XOwn (C : String) : Prop where h : bltX C = false
theorem xv_own [k : XOwn C] : xvOf Γ C = .ref (Γ.cl C) := by unfold xvOf; rw [k.h]; rfl
instance {nm : Str} [ok : IsOk Γ C] [xo : XOwn C] [ha : EvE Γ E ta ea] : EvS Γ E (tRaise1 (Γ.cl C) nm ta E) (sRaise1 C nm ea) := ⟨fun {B0 m h H s σ Dn} R es q => by
  refine ha.run R es (post.bindS q fun w h1 m1 H1 v R1 x1 r1 q1 => ?_)
  cases w with
  | ref k => exact q1.elim
  | fn k => exact q1.elim
  | dat d =>
    refine ⟨v, rfl, fun dd hd => ?_⟩
    obtain ⟨R2, x2⟩ := R1.same (same_new (u := .xd [(nm, v)]) hd)
    rw [← xv_own (Γ := Γ) (C := C)]
    refine q1 m1 _ (some dd) [v] ok.h R2 x2 ⟨upd_same, rfl⟩ ?_
    unfold reps
    exact ⟨v, [], rfl, rep.same R1 (same_new hd) r1, by unfold reps; rfl⟩⟩
end
end S
end

section
namespace S
open PySem PySem.Spec PyProof.Rows L2 Z LamX
/-! ### isinstance -/
def tyN : D → Option String
  | .non => some "NoneType"
  | .bl _ => some "bool"
  | .int _ => some "int"
  | .str _ => some "str"
  | .lst _ => some "list"
  | .tup _ => some "tuple"
  | .dic _ _ => some "dict"
  | _ => none
abbrev tyTs : List String := ["NoneType", "bool", "int", "str", "list", "tuple", "dict"]
abbrev tyNs : List String := ["int", "bool", "str", "list", "tuple", "dict"]
def isTyB (t n : String) : Bool := decide (t = n) || (decide (t = "bool") && decide (n = "int"))
theorem isTy_ok : ∀ t ∈ tyTs, ∀ n ∈ tyNs, kitB t n = some (isTyB t n) := by decide +kernel
structure Sb where
  cc : String → String → Option Bool
  ct : String → String → Option Bool
  tc : String → Bool
  ec : String → String → Option Bool
  et : String → String → Option Bool
class SbOk (Γ : Wd) (sb : Sb) : Prop where
  cc : ∀ C C' b, Γ.ok C → Γ.tg C' → sb.cc C C' = some b → InsT Γ.K (Γ.cl C) ∧ PySem.W.kitOne Γ.K (.ref (Γ.cl C)) (.ref (Γ.cl C')) = some b
  ct : ∀ C n b, Γ.ok C → sb.ct C n = some b → InsT Γ.K (Γ.cl C) ∧ PySem.W.kitOne Γ.K (.ref (Γ.cl C)) (.type n) = some b
  tc : ∀ C, Γ.tg C → sb.tc C = true → ∀ t ∈ tyTs, PySem.W.kitOne Γ.K (.type t) (.ref (Γ.cl C)) = some false
  ec : ∀ C C' b, Γ.ok C → Γ.tg C' → sb.ec C C' = some b → xvOf Γ C = .ref (Γ.cl C) ∧ ExcC Γ.K (Γ.cl C) ∧ PySem.W.kitOne Γ.K (.ref (Γ.cl C)) (.ref (Γ.cl C')) = some b
  et : ∀ C n b, Γ.ok C → sb.et C n = some b → xvOf Γ C = .ref (Γ.cl C) ∧ ExcC Γ.K (Γ.cl C) ∧ PySem.W.kitOne Γ.K (.ref (Γ.cl C)) (.type n) = some b
def isiT (sb : Sb) (n : String) : D → Option Bool
  | .obj C _ _ => sb.ct C n
  | .exc C _ _ => sb.et C n
  | x => match tyN x with
    | some t => if n ∈ tyNs then some (isTyB t n) else none
    | none => none
def isiC (sb : Sb) (C' : String) : D → Option Bool
  | .obj C _ _ => sb.cc C C'
  | .exc C _ _ => sb.ec C C'
  | x => match tyN x with
    | some _ => if sb.tc C' = true then some false else none
    | none => none
def gIsi (sb : Sb) : List D → Option D
  | [x, .ty n] => (isiT sb n x).map .bl
  | [x, .cls C'] => (isiC sb C' x).map .bl
  | _ => none
@[simp] theorem gIsi_ty {sb : Sb} {x : D} {n : String} : gIsi sb [x, .ty n] = (isiT sb n x).map .bl := rfl
@[simp] theorem gIsi_cls {sb : Sb} {x : D} {n : String} : gIsi sb [x, .cls n] = (isiC sb n x).map .bl := rfl
def aIsx (K : PySem.W.Frag) : RC := fun xs H Q => aIsi K xs H Q ∨ rIsV K xs H Q
theorem k_isx {X : Cx} (K : PySem.W.Frag) (h : X.K = K := by rfl) : CallR X (.builtin "isinstance") (aIsx K) := h ▸ CallR.or c_isinstance call_isV
section
variable {Γ : Wd} {E : XK} {B0 B B' : Br} {m m' m1 : List Addr} {h h' h1 : MH} {H H' H1 : Hp} {C : String}
theorem tyN_run {x : D} {v : V} {t : String} (r : repV Γ B H x v) (e : tyN x = some t) : TyX Γ.K H v (.type t) ∧ t ∈ tyTs := by
  cases x with
  | non => cases r; cases e; exact ⟨.base .non, by simp⟩
  | bl b => cases r; cases e; exact ⟨.base (.bl b), by simp⟩
  | int b => cases r; cases e; exact ⟨.base (.int b), by simp⟩
  | str b => cases r; cases e; exact ⟨.base (.str b), by simp⟩
  | lst ds => obtain ⟨p, vs, rfl, g, a⟩ := r; cases e; exact ⟨.base (.lst g), by simp⟩
  | tup ds =>
    obtain ⟨p, vs, rfl, g, a⟩ := r; cases e
    refine ⟨?_, by simp⟩
    rcases g with (g | ⟨o, g⟩) | ⟨o, its, n, g1, g2, _⟩
    · exact .base (.tup g)
    · exact .fTuple g
    · exact .kTuple g1 g2
  | dic ks ds => obtain ⟨p, vs, rfl, g, l, a⟩ := r; cases e; exact ⟨.base (.dK g), by simp⟩
  | _ => cases e
theorem obj_ty {C : String} {ns : List Str} {xs : List D} {v : V} (r : repV Γ B H (.obj C ns xs) v) (i : InsT Γ.K (Γ.cl C)) : TyX Γ.K H v (.ref (Γ.cl C)) := by
  obtain ⟨p, dx, vs, rfl, g, l, a, ok⟩ := r
  exact .base (.ins g i.c.cl i.c.ha i.c.hn i.c.htk i.c.hm)
theorem obj_ok {C : String} {ns : List Str} {xs : List D} {v : V} (r : repV Γ B H (.obj C ns xs) v) : Γ.ok C := by
  obtain ⟨p, dx, vs, rfl, g, l, a, ok⟩ := r
  exact ok
theorem isiT_run {sb : Sb} [k : SbOk Γ sb] {x : D} {v : V} {n : String} {b : Bool} {Q : VK} (r : repV Γ B H x v) (e : isiT sb n x = some b) (q : Q (.bl b) H) : aIsx Γ.K [v, .ty n] H Q := by
  unfold isiT at e
  split at e
  · obtain ⟨i, kk⟩ := k.ct _ _ _ (obj_ok r) e
    exact .inl (i_isi (.ty n) (obj_ty r i) kk q)
  · obtain ⟨p, dd, vs, rfl, g, g2, ok, a⟩ := r
    obtain ⟨xv, i, kk⟩ := k.et _ _ _ ok e
    rw [xv] at g
    cases dd with
    | none => exact .inr ⟨p, _, _, _, _, _, rfl, g, .inl rfl, .ty n, i, kk, q⟩
    | some d => exact .inr ⟨p, _, _, _, _, _, rfl, g, .inr ⟨d, _, rfl, g2.1⟩, .ty n, i, kk, q⟩
  · split at e
    · next t e1 =>
      split at e
      · next hn =>
        cases e
        obtain ⟨ty, mem⟩ := tyN_run r e1
        exact .inl (i_isi (.ty n) ty (kit_ty (isTy_ok t mem n hn)) q)
      · cases e
    · cases e
theorem isiC_run {sb : Sb} [k : SbOk Γ sb] {x : D} {v : V} {n : String} {b : Bool} {Q : VK} (tg : Γ.tg n) (r : repV Γ B H x v) (e : isiC sb n x = some b) (q : Q (.bl b) H) : aIsx Γ.K [v, .ref (Γ.cl n)] H Q := by
  unfold isiC at e
  split at e
  · obtain ⟨i, kk⟩ := k.cc _ _ _ (obj_ok r) tg e
    exact .inl (i_isi (.own _) (obj_ty r i) kk q)
  · obtain ⟨p, dd, vs, rfl, g, g2, ok, a⟩ := r
    obtain ⟨xv, i, kk⟩ := k.ec _ _ _ ok tg e
    rw [xv] at g
    cases dd with
    | none => exact .inr ⟨p, _, _, _, _, _, rfl, g, .inl rfl, .own _, i, kk, q⟩
    | some d => exact .inr ⟨p, _, _, _, _, _, rfl, g, .inr ⟨d, _, rfl, g2.1⟩, .own _, i, kk, q⟩
  · split at e
    · next t e1 =>
      split at e
      · next hn =>
        cases e
        obtain ⟨ty, mem⟩ := tyN_run r e1
        exact .inl (i_isi (.own _) ty (k.tc n tg hn t mem) q)
      · cases e
    · cases e
instance {sb : Sb} [k : SbOk Γ sb] : GN Γ (aIsx Γ.K) (gIsi sb) := ⟨fun {B0 m h H x d v Q} R r e q => by
  unfold gIsi at e
  split at e
  · next x n =>
    obtain ⟨u, w, rfl, a, b⟩ := repVs2 r
    cases b
    cases e1 : isiT sb n x with
    | none => rw [e1] at e; cases e
    | some b => rw [e1] at e; cases e; exact isiT_run a e1 (q _ _ same_rfl rep_bl)
  · next x n =>
    obtain ⟨u, w, rfl, a, b⟩ := repVs2 r
    obtain ⟨rfl, tg⟩ := b
    cases e1 : isiC sb n x with
    | none => rw [e1] at e; cases e
    | some b => rw [e1] at e; cases e; exact isiC_run tg a e1 (q _ _ same_rfl rep_bl)
  · cases e⟩
theorem w_int {i : Int} : repW Γ B m H (.dat (.int i)) (.int i) := rep_int (Γ := Γ) (B := B) (H := H)
theorem w_str {i : Str} : repW Γ B m H (.dat (.str i)) (.str i) := rep_str (Γ := Γ) (B := B) (H := H)
theorem w_bl {i : Bool} : repW Γ B m H (.dat (.bl i)) (.bl i) := rep_bl (Γ := Γ) (B := B) (H := H)
theorem w_non : repW Γ B m H (.dat .non) .non := rep_non (Γ := Γ) (B := B) (H := H)
instance [k : IsTg Γ C] : RepC Γ (.cls C) (.ref (Γ.cl C)) := ⟨fun _ _ => by unfold rep; exact ⟨rfl, k.h⟩⟩
/-! ### constants of classes: a tuple of texts -/
class CTup (Γ : Wd) (C : String) (f : Str) (xs : outParam (List Str)) : Prop where
  h : ∃ mc p u, ClX.CRead Γ.K (Γ.cl C) mc ∧ ClX.CVal Γ.K (Γ.cl C) mc f (.ref p) u ∧ (∀ H, SqT Γ.K H p (xs.map V.str)) ∧ ∃ o, Γ.K.lookup p = some o ∧ o.cls = .type "tuple" ∧ o.dict = none
theorem reps_strs : ∀ {xs : List Str}, reps Γ B H (xs.map .str) (xs.map V.str)
  | [] => by unfold reps; rfl
  | x :: xs => by rw [List.map_cons, List.map_cons]; unfold reps; exact ⟨_, _, rfl, rep_str, reps_strs⟩
instance {f : Str} {xs : List Str} [k : CTup Γ C f xs] : EvE Γ E (tAtt (aCVal Γ.K f) (tC (.ref (Γ.cl C)))) (eC (.tup (xs.map .str))) := ⟨fun {B0 m h H s σ Q} R es q => by
  obtain ⟨mc, p, u, c1, c2, c3, _⟩ := k.h
  refine ⟨_, mc, _, u, rfl, c1, c2, q m H _ R Ex.refl ?_⟩
  show rep _ _ _ _ _
  unfold rep
  exact ⟨p, _, rfl, c3 H, reps_strs⟩⟩
def rTIdx (K : PySem.W.Frag) : V → List V → Hp → VK → Prop := fun x xs H Q => ∃ p, ∃ ys : List Str, ∃ z j, x = .ref p ∧ xs = [.str z] ∧ SqT K H p (ys.map V.str) ∧ ys[j]? = some z ∧ (∀ m, m < j → ys[m]? ≠ some z) ∧ Q (.int (j : Nat)) H
theorem k_tidx {X : Cx} (K : PySem.W.Frag) (h : X.K = K := by rfl) : MtR X "tuple.index" (rTIdx K) := h ▸ mt_tup_index
def str1 : List W → Option Str
  | [.dat (.str z)] => some z
  | _ => none
@[simp] theorem str1_str {z : Str} : str1 [.dat (.str z)] = some z := rfl
theorem str1_eq {ws : List W} {z : Str} (e : str1 ws = some z) : ws = [.dat (.str z)] := by
  unfold str1 at e
  split at e
  · cases e; rfl
  · cases e
def idxS (z : Str) : List Str → Nat → Option Nat
  | [], _ => none
  | x :: xs, k => if x = z then some k else idxS z xs (k + 1)
@[simp] theorem idxS_nil {z : Str} {k : Nat} : idxS z [] k = none := rfl
@[simp] theorem idxS_cons {z x : Str} {xs : List Str} {k : Nat} : idxS z (x :: xs) k = if x = z then some k else idxS z xs (k + 1) := rfl
theorem idxS_run {z : Str} : ∀ {xs : List Str} {k j : Nat}, idxS z xs k = some j → k ≤ j ∧ xs[j - k]? = some z ∧ ∀ m, m < j - k → xs[m]? ≠ some z
  | [], _, _, e => by cases e
  | x :: xs, k, j, e => by
    rw [idxS_cons] at e
    split at e
    · next hx => cases e; exact ⟨Nat.le_refl _, by simp [hx], fun m hm => by omega⟩
    · next hx =>
      obtain ⟨a, b, c⟩ := idxS_run e
      refine ⟨by omega, ?_, fun m hm => ?_⟩
      · rw [show j - k = (j - (k + 1)) + 1 by omega, List.getElem?_cons_succ]; exact b
      · cases m with
        | zero => simp [hx]
        | succ m => rw [List.getElem?_cons_succ]; exact c m (by omega)
@[simp] def eTIdx (xs : List Str) (a : EA) : EE := fun s h => (a s h).bind fun ws h1 => match str1 ws with
  | some z => (match idxS z xs 0 with
    | some j => .ok (.dat (.int (j : Nat))) h1
    | none => .stuck)
  | none => .stuck
instance {f : Str} {xs : List Str} {tr : TA} {er : EA} [k : CTup Γ C f xs] [ha : EvA Γ E tr er] : EvE Γ E (tBM Γ.K "tuple" (rTIdx Γ.K) (tAtt (aCVal Γ.K f) (tC (.ref (Γ.cl C)))) tr) (eTIdx xs er) := ⟨fun {B0 m h H s σ Q} R es q => by
  obtain ⟨mc, p, u, c1, c2, c3, c4⟩ := k.h
  refine ⟨_, mc, _, u, rfl, c1, c2, .inr (.inl ⟨rfl, c4⟩), ha.run R es (q.bind fun ws h1 m1 H1 vs R1 x1 r1 q1 => ?_)⟩
  cases e : str1 ws with
  | none => simp only [e] at q1; exact q1.elim
  | some z =>
    simp only [e] at q1
    rw [str1_eq e] at r1
    obtain ⟨u, rfl, a⟩ := repWs1 r1
    have a : rep Γ (Bar B0 m1 h1) H1 (.str z) u := a
    unfold rep at a
    subst a
    cases e2 : idxS z xs 0 with
    | none => simp only [e2] at q1; exact q1.elim
    | some j =>
      simp only [e2] at q1
      obtain ⟨_, b, c⟩ := idxS_run e2
      exact ⟨p, xs, z, j, rfl, rfl, c3 _, by simpa using b, by simpa using c, q1 m1 H1 _ R1 Ex.refl w_int⟩⟩
/-! ### methods of lists and texts -/
def tyW (T : String) (h : MH) : W → Bool
  | .dat (.str _) => decide (T = "str")
  | .dat (.lst _) => decide (T = "list")
  | .dat (.dic _ _) => decide (T = "dict")
  | .ref n => match h[n]? with
    | some (.lst _) => decide (T = "list")
    | some (.dic _ _) => decide (T = "dict")
    | _ => false
  | _ => false
@[simp] theorem tyW_str {T : String} {h : MH} {z : Str} : tyW T h (.dat (.str z)) = decide (T = "str") := rfl
@[simp] theorem tyW_lst {T : String} {h : MH} {z : List D} : tyW T h (.dat (.lst z)) = decide (T = "list") := rfl
@[simp] theorem tyW_ref {T : String} {h : MH} {n : Nat} : tyW T h (.ref n) = (match h[n]? with
    | some (.lst _) => decide (T = "list")
    | some (.dic _ _) => decide (T = "dict")
    | _ => false) := rfl
theorem tyW_run {T : String} {w : W} {v : V} (R : Rm Γ B0 m h H) (r : repW Γ (Bar B0 m h) m H w v) (e : tyW T h w = true) : tyV Γ.K T v H := by
  cases w with
  | fn n => cases e
  | dat d =>
    cases d with
    | str z =>
      have r : rep Γ (Bar B0 m h) H (.str z) v := r
      unfold rep at r; subst r
      exact (of_decide_eq_true e : T = "str")
    | lst ds =>
      have r : rep Γ (Bar B0 m h) H (.lst ds) v := r
      unfold rep at r
      obtain ⟨p, vs, rfl, g, _, a⟩ := r
      exact .inl ⟨of_decide_eq_true e, vs, SqL.of g⟩
    | dic ks ds =>
      have r : rep Γ (Bar B0 m h) H (.dic ks ds) v := r
      unfold rep at r
      obtain ⟨p, vs, rfl, g, _, _, a⟩ := r
      exact .inr (.inr (.inl ⟨of_decide_eq_true e, .inl ⟨_, g⟩⟩))
    | _ => cases e
  | ref n =>
    obtain ⟨p, g, rfl⟩ := r
    obtain ⟨o, ho⟩ := R.at g
    have ob := R.ob n p o g ho
    rw [tyW_ref, ho] at e
    cases o with
    | lst ws => obtain ⟨vs, g1, _⟩ := ob; exact .inl ⟨of_decide_eq_true e, vs, SqL.of g1⟩
    | dic ks ws => obtain ⟨vs, g1, _⟩ := ob; exact .inr (.inr (.inl ⟨of_decide_eq_true e, .inl ⟨_, g1⟩⟩))
    | _ => cases e
class MtOk (Γ : Wd) (E : XK) (r : V → List V → Hp → VK → Prop) (f : W → List W → MH → Res W) : Prop where
  run : ∀ {B0 : Br} {m : List Addr} {h : MH} {H : Hp} {x : W} {v : V} {ws : List W} {vs : List V} {Q : VK}, Rm Γ B0 m h H → repW Γ (Bar B0 m h) m H x v → repWs Γ (Bar B0 m h) m H ws vs → post rW Γ B0 m h H Q E (f x ws h) → r v vs H Q
@[simp] def eBM (T : String) (f : W → List W → MH → Res W) (o : EE) (a : EA) : EE := fun s h => (o s h).bind fun w h1 => if tyW T h1 w = true then (a s h1).bind fun ws h2 => f w ws h2 else .stuck
@[simp] def eBM0 (T : String) (f : W → List W → MH → Res W) (o : EE) : EE := fun s h => (o s h).bind fun w h1 => if tyW T h1 w = true then f w [] h1 else .stuck
instance {T : String} {r : V → List V → Hp → VK → Prop} {f : W → List W → MH → Res W} {to : TE} {tr : TA} {eo : EE} {er : EA} [ho : EvE Γ E to eo] [ha : EvA Γ E tr er] [hm : MtOk Γ E r f] : EvE Γ E (tBM Γ.K T r to tr) (eBM T f eo er) := ⟨fun {B0 m h H s σ Q} R es q => by
  refine ho.run R es (q.bind fun w h1 m1 H1 v R1 x1 r1 q1 => ?_)
  split at q1
  · next l =>
    refine ⟨tyW_run R1 r1 l, ha.run R1 (es.mono R x1) (q1.bind fun ws h2 m2 H2 vs R2 x2 r2 q2 => ?_)⟩
    exact hm.run R2 (r1.mono R1 x2) r2 q2
  · exact q1.elim⟩
instance {T : String} {r : V → List V → Hp → VK → Prop} {f : W → List W → MH → Res W} {to : TE} {eo : EE} [ho : EvE Γ E to eo] [hm : MtOk Γ E r f] : EvE Γ E (tBM0 Γ.K T r to) (eBM0 T f eo) := ⟨fun {B0 m h H s σ Q} R es q => by
  refine ho.run R es (q.bind fun w h1 m1 H1 v R1 x1 r1 q1 => ?_)
  split at q1
  · next l => exact ⟨tyW_run R1 r1 l, hm.run (ws := []) R1 r1 rfl q1⟩
  · exact q1.elim⟩
def mApp : W → List W → MH → Res W := fun o ws h => match o, ws with
  | .ref n, [w] => (match h[n]? with
    | some (.lst xs) => if xs.length < sizeLine then .ok (.dat .non) (h.set n (.lst (xs ++ [w]))) else .stuck
    | _ => .stuck)
  | _, _ => .stuck
@[simp] theorem mApp_ref {n : Nat} {w : W} {h : MH} : mApp (.ref n) [w] h = (match h[n]? with
    | some (.lst xs) => if xs.length < sizeLine then .ok (.dat .non) (h.set n (.lst (xs ++ [w]))) else .stuck
    | _ => .stuck) := rfl
theorem repWs_app {ws zs : List W} {vs us : List V} (a : repWs Γ B m H ws vs) (b : repWs Γ B m H zs us) : repWs Γ B m H (ws ++ zs) (vs ++ us) := by
  induction ws generalizing vs with
  | nil => have a : vs = [] := a; subst a; exact b
  | cons w ws ih => obtain ⟨v, q, rfl, a1, a2⟩ := a; exact ⟨v, _, rfl, a1, ih a2⟩
instance : MtOk Γ E rAppend mApp := ⟨fun {B0 m h H x v ws vs Q} R rx r q => by
  unfold mApp at q
  split at q
  · next n w =>
    obtain ⟨u, rfl, a⟩ := repWs1 r
    obtain ⟨p, g, rfl⟩ := rx
    obtain ⟨o, ho⟩ := R.at g
    have ob := R.ob n p o g ho
    rw [ho] at q
    cases o with
    | lst xs =>
      obtain ⟨us, g1, a1⟩ := ob
      simp only at q
      split at q
      · next l =>
        refine ⟨p, us, u, rfl, rfl, g1, by rw [← repWs_len a1]; exact l, ?_⟩
        obtain ⟨R3, x3⟩ := R.put (o' := .lst (xs ++ [w])) (u := .lst (us ++ [u])) g ho (fun z => by cases z) trivial fun x => ⟨us ++ [u], upd_same, (repWs_app (zs := [w]) a1 ⟨u, [], rfl, a, rfl⟩).mono R x⟩
        exact q m _ _ R3 x3 w_non
      · exact q.elim
    | _ => exact q.elim
  · exact q.elim⟩
def rUpp : V → List V → Hp → VK → Prop := fun x xs H Q => ∃ a, x = .str a ∧ xs = [] ∧ a.length ≤ 5592405 ∧ Q (.str (Txt.upper a)) H
theorem k_upper {X : Cx} : MtR X "str.upper" rUpp := mt_upper
def mUpp : W → List W → MH → Res W := fun o ws h => match o, ws with
  | .dat (.str a), [] => if a.length ≤ 5592405 then .ok (.dat (.str (Txt.upper a))) h else .stuck
  | _, _ => .stuck
@[simp] theorem mUpp_str {a : Str} {h : MH} : mUpp (.dat (.str a)) [] h = if a.length ≤ 5592405 then .ok (.dat (.str (Txt.upper a))) h else .stuck := rfl
instance : MtOk Γ E rUpp mUpp := ⟨fun {B0 m h H x v ws vs Q} R rx r q => by
  unfold mUpp at q
  split at q
  · next a =>
    have rx : rep Γ (Bar B0 m h) H (.str a) v := rx
    unfold rep at rx; subst rx
    have r : vs = [] := r
    subst r
    split at q
    · exact ⟨a, rfl, rfl, by assumption, q m H _ R Ex.refl w_str⟩
    · exact q.elim
  · exact q.elim⟩
/-! ### a[i] = v -/
def putI (w o i : W) (s : En) (h : MH) : SRes := match o, i with
  | .ref n, .dat (.int k) => (match h[n]? with
    | some (.lst xs) => (match ixN xs.length k with
      | some j => .nx s (h.set n (.lst (xs.set j w)))
      | none => .stuck)
    | _ => .stuck)
  | _, _ => .stuck
theorem putI_ref {w : W} {n : Nat} {k : Int} {s : En} {h : MH} : putI w (.ref n) (.dat (.int k)) s h = (match h[n]? with
    | some (.lst xs) => (match ixN xs.length k with
      | some j => .nx s (h.set n (.lst (xs.set j w)))
      | none => .stuck)
    | _ => .stuck) := rfl
@[simp] def gSubS (o i : EE) : GG := fun w s h => (o s h).bindS fun ow h1 => (i s h1).bindS fun iw h2 => putI w ow iw s h2
theorem repWs_set {ws : List W} {vs : List V} {w : W} {v : V} (a : repWs Γ B m H ws vs) (r : repW Γ B m H w v) (j : Nat) : repWs Γ B m H (ws.set j w) (vs.set j v) := by
  induction ws generalizing vs j with
  | nil => have a : vs = [] := a; subst a; exact rfl
  | cons x ws ih =>
    obtain ⟨u, q, rfl, a1, a2⟩ := a
    cases j with
    | zero => exact ⟨v, q, rfl, r, a2⟩
    | succ j => exact ⟨u, _, rfl, a1, ih a2 j⟩
instance {to ti : TE} {eo ei : EE} [ho : EvE Γ E to eo] [hi : EvE Γ E ti ei] : EvG Γ E (L2.gSub to ti rSetL) (gSubS eo ei) := ⟨fun {B0 m h H s σ w v Dn} R es r q => by
  refine ho.run R es (post.bindS q fun ow h1 m1 H1 ov R1 x1 r1 q1 => ?_)
  refine hi.run R1 (es.mono R x1) (post.bindS q1 fun iw h2 m2 H2 iv R2 x2 r2 q2 => ?_)
  unfold putI at q2
  split at q2
  · next n k =>
    obtain ⟨p, g, rfl⟩ := r1
    have r2 : rep Γ (Bar B0 m2 h2) H2 (.int k) iv := r2
    unfold rep at r2; subst r2
    have g2 := x2.pre n p g
    obtain ⟨o, hob⟩ := R2.at g2
    have ob := R2.ob n p o g2 hob
    rw [hob] at q2
    cases o with
    | lst xs =>
      obtain ⟨us, g1, a1⟩ := ob
      simp only at q2
      cases e : ixN xs.length k with
      | none => simp only [e] at q2; exact q2.elim
      | some j =>
        simp only [e] at q2
        refine ⟨p, us, k, j, rfl, rfl, g1, by rw [← repWs_len a1]; exact e, ?_⟩
        have rv := (r.mono R x1).mono R1 x2
        obtain ⟨R3, x3⟩ := R2.put (o' := .lst (xs.set j w)) (u := .lst (us.set j v)) g2 hob (fun z => by cases z) trivial fun x => ⟨us.set j v, upd_same, (repWs_set a1 rv j).mono R2 x⟩
        exact q2 m2 _ σ R3 x3 (((es.mono R x1).mono R1 x2).mono R2 x3)
    | _ => exact q2.elim
  · exact q2.elim⟩
/-! ### match by values -/
class EvM (Γ : Wd) (E : XK) (tc : V → TS) (mc : W → SS) : Prop where
  run : ∀ {B0 : Br} {m : List Addr} {h : MH} {H : Hp} {s : En} {σ : L2.St} {w : W} {v : V} {Dn : Ends}, Rm Γ B0 m h H → repE Γ (Bar B0 m h) m H s σ → repW Γ (Bar B0 m h) m H w v → postS Γ B0 m h H Dn E (mc w s h) → tc v Dn σ H
@[simp] def mNilS : W → SS := fun _ s h => .nx s h
@[simp] def mValS (f : W → W → MH → Res W) (e : EE) (b : SS) (r : W → SS) : W → SS := fun w s h => (e s h).bindS fun y h1 => (f w y h1).bindS fun z h2 => (asB z h2).bindS fun k h3 => if k = true then b s h3 else r w s h3
@[simp] def sMatch (e : EE) (mc : W → SS) : SS := fun s h => (e s h).bindS fun w h1 => mc w s h1
instance : EvM Γ E mNil mNilS := ⟨fun {B0 m h H s σ w v Dn} R es r q => q m H σ R Ex.refl es⟩
instance {r : R2} {f : W → W → MH → Res W} {tv : TE} {ev : EE} {tb : TS} {sb : SS} {tr : V → TS} {mr : W → SS} [o : Op2 Γ E r f] [hv : EvE Γ E tv ev] [hb : EvS Γ E tb sb] [hr : EvM Γ E tr mr] : EvM Γ E (mVal r tv tb tr) (mValS f ev sb mr) := ⟨fun {B0 m h H s σ w v Dn} R es rw0 q => by
  refine hv.run R es (post.bindS q fun y h1 m1 H1 yv R1 x1 r1 q1 => ?_)
  refine o.run R1 (rw0.mono R x1) r1 (post.bindS q1 fun z h2 m2 H2 zv R2 x2 r2 q2 => ?_)
  refine asB_run (Q := fun b H2 => if b = true then tb Dn σ H2 else tr v Dn σ H2) R2 r2 (post.bindS (rl := eqR Bool) q2 fun k h3 m3 H3 k' R3 x3 r3 q3 => ?_)
  cases (show k' = k from r3)
  have es3 := ((es.mono R x1).mono R1 x2).mono R2 x3
  cases k with
  | true => exact hb.run R3 es3 q3
  | false => exact hr.run R3 es3 (((rw0.mono R x1).mono R1 x2).mono R2 x3) q3⟩
instance {te : TE} {ee : EE} {tc : V → TS} {mc : W → SS} [he : EvE Γ E te ee] [hc : EvM Γ E tc mc] : EvS Γ E (tMatch te tc) (sMatch ee mc) := ⟨fun {B0 m h H s σ Dn} R es q => by
  refine he.run R es (post.bindS q fun w h1 m1 H1 v R1 x1 r1 q1 => ?_)
  exact hc.run R1 (es.mono R x1) r1 q1⟩
/-! ### f-strings -/
def gFmt : D → Option D
  | .str y => if y.length ≤ sizeLine then some (.str y) else none
  | .int i => if i.natAbs.log2 < 1920 then some (.str (toString i)) else none
  | _ => none
@[simp] theorem gFmt_str {y : Str} : gFmt (.str y) = if y.length ≤ sizeLine then some (.str y) else none := rfl
@[simp] theorem gFmt_int {i : Int} : gFmt (.int i) = if i.natAbs.log2 < 1920 then some (.str (toString i)) else none := rfl
def gFmtP : D → Option D
  | .int i => if i.natAbs < 1000000 then some (.str (plusT i)) else none
  | _ => none
@[simp] theorem gFmtP_int {i : Int} : gFmtP (.int i) = if i.natAbs < 1000000 then some (.str (plusT i)) else none := rfl
instance : G1 Γ (fun x H1 Q => (∃ y : Str, x = .str y ∧ y.length ≤ sizeLine ∧ Q (.str y) H1) ∨ ∃ i : Int, x = .int i ∧ i.natAbs.log2 < 1920 ∧ Q (.str (toString i)) H1) gFmt := ⟨fun {B0 m h H x d v Q} R r e q => by
  unfold gFmt at e
  split at e
  · cases r
    split at e
    · cases e; exact .inl ⟨_, rfl, by assumption, q _ _ same_rfl rep_str⟩
    · cases e
  · cases r
    split at e
    · cases e; exact .inr ⟨_, rfl, by assumption, q _ _ same_rfl rep_str⟩
    · cases e
  · cases e⟩
instance : G1 Γ (fun x H1 Q => ∃ i : Int, x = .int i ∧ i.natAbs < 1000000 ∧ Q (.str (plusT i)) H1) gFmtP := ⟨fun {B0 m h H x d v Q} R r e q => by
  unfold gFmtP at e
  split at e
  · cases r
    split at e
    · cases e; exact ⟨_, rfl, by assumption, q _ _ same_rfl rep_str⟩
    · cases e
  · cases e⟩
instance {ta : TE} {ea : EE} [ha : EvE Γ E ta ea] : EvE Γ E (tFmt ta) (eUn (op1 gFmt) ea) := ⟨fun {B0 m h H s σ Q} R es q => (inferInstance : (EvE Γ E (tUn (fun x H1 Q => (∃ y : Str, x = .str y ∧ y.length ≤ sizeLine ∧ Q (.str y) H1) ∨ ∃ i : Int, x = .int i ∧ i.natAbs.log2 < 1920 ∧ Q (.str (toString i)) H1) ta) (eUn (op1 gFmt) ea))).run R es q⟩
instance {ta : TE} {ea : EE} [ha : EvE Γ E ta ea] : EvE Γ E (tFmtP ta) (eUn (op1 gFmtP) ea) := ⟨fun {B0 m h H s σ Q} R es q => (inferInstance : (EvE Γ E (tUn (fun x H1 Q => ∃ i : Int, x = .int i ∧ i.natAbs < 1000000 ∧ Q (.str (plusT i)) H1) ta) (eUn (op1 gFmtP) ea))).run R es q⟩
def asS (w : W) : Option Str := match w with
  | .dat (.str y) => some y
  | _ => none
@[simp] theorem asS_str {y : Str} : asS (.dat (.str y)) = some y := rfl
def joinS : List EE → Str → En → MH → Res Str
  | [], acc, _, h => .ok acc h
  | e :: es, acc, s, h => (e s h).bind fun w h1 => match asS w with
    | some y => if (acc ++ y).length ≤ sizeLine then joinS es (acc ++ y) s h1 else .stuck
    | none => .stuck
@[simp] theorem joinS_nil {acc : Str} {s : En} {h : MH} : joinS [] acc s h = .ok acc h := rfl
@[simp] theorem joinS_cons {e : EE} {es : List EE} {acc : Str} {s : En} {h : MH} : joinS (e :: es) acc s h = (e s h).bind fun w h1 => match asS w with
    | some y => if (acc ++ y).length ≤ sizeLine then joinS es (acc ++ y) s h1 else .stuck
    | none => .stuck := rfl
@[simp] def eJn (es : List EE) : EE := fun s h => (joinS es Str.empty s h).bind fun y h1 => .ok (.dat (.str y)) h1
class EvJ (Γ : Wd) (E : XK) (ts : List TE) (es : List EE) : Prop where
  run : ∀ {B0 : Br} {m : List Addr} {h : MH} {H : Hp} {s : En} {σ : L2.St} {acc : Str} {Q : Str → Hp → Prop}, Rm Γ B0 m h H → repE Γ (Bar B0 m h) m H s σ → post (eqR Str) Γ B0 m h H Q E (joinS es acc s h) → tJs ts acc σ H Q
instance : EvJ Γ E [] [] := ⟨fun {B0 m h H s σ acc Q} R es q => q m H acc R Ex.refl rfl⟩
instance {t : TE} {ts : List TE} {e : EE} {ess : List EE} [he : EvE Γ E t e] [hr : EvJ Γ E ts ess] : EvJ Γ E (t :: ts) (e :: ess) := ⟨fun {B0 m h H s σ acc Q} R es q => by
  rw [joinS_cons] at q
  refine he.run R es (q.bind fun w h1 m1 H1 v R1 x1 r1 q1 => ?_)
  cases w with
  | ref n => exact q1.elim
  | fn n => exact q1.elim
  | dat d =>
    cases d with
    | str y =>
      simp only [asS_str] at q1
      have r1 : rep Γ (Bar B0 m1 h1) H1 (.str y) v := r1
      unfold rep at r1
      split at q1
      · exact ⟨y, r1, by assumption, hr.run R1 (es.mono R x1) q1⟩
      · exact q1.elim
    | _ => exact q1.elim⟩
instance {ts : List TE} {ess : List EE} [hj : EvJ Γ E ts ess] : EvE Γ E (tJn ts) (eJn ess) := ⟨fun {B0 m h H s σ Q} R es q => by
  refine hj.run R es (q.bind fun y h1 m1 H1 y' R1 x1 r1 q1 => ?_)
  cases (show y' = y from r1)
  exact q1 m1 H1 _ R1 Ex.refl w_str⟩
/-! ### a list that may change is frozen for good -/
def sFz (i : Nat) (b : SS) : SS := fun s h => match s[i]? with
  | some (some (.ref n)) => (match vw h (.ref n) with
    | some d => b (s.set i (some (.dat d))) (h.set n .dead)
    | none => .stuck)
  | _ => .stuck
theorem sFz_ok {t : TS} {b : SS} {i : Nat} (hb : EvS Γ E t b) : EvS Γ E t (sFz i b) := ⟨fun {B0 m h H s σ Dn} R es q => by
  unfold sFz at q
  split at q
  · next n g =>
    cases e : vw h (.ref n) with
    | none => simp only [e] at q; exact q.elim
    | some d =>
      simp only [e] at q
      obtain ⟨v, gv, rv⟩ := es.2 i _ g
      obtain ⟨p, gp, rfl⟩ := rv
      obtain ⟨o, ho⟩ := R.at gp
      have lv : ∀ q, live m (h.set n .dead) q → live m h q := fun q ⟨j, o2, g1, g2, g3⟩ => by
        rcases getElem?_set' g2 with ⟨rfl, rfl⟩ | ⟨_, g2⟩
        · exact absurd rfl g3
        · exact ⟨j, o2, g1, g2, g3⟩
      have x : Ex m h H m (h.set n .dead) H := ⟨fun _ _ z => z, fun q u gq nt nl => ⟨gq, fun z => nl (lv q z)⟩⟩
      have R2 : Rm Γ B0 m (h.set n .dead) H := by
        refine ⟨by simp [R.len], R.nd, R.nb, fun j q o2 g1 g2 => ?_, R.tb, R.b0⟩
        rcases getElem?_set' g2 with ⟨rfl, rfl⟩ | ⟨_, g2⟩
        · exact R.mu g1
        · exact (R.ob j q o2 g1 g2).mono R x fun _ z => z
      have nb : ¬ Bar B0 m (h.set n .dead) p := by
        rintro (b | ⟨j, o2, g1, g2, g3⟩)
        · exact R.nb n p gp b
        · have := R.nd j n p g1 gp
          subst this
          rcases getElem?_set' g2 with ⟨_, rfl⟩ | ⟨z, _⟩
          · exact g3 rfl
          · exact z rfl
      have rd : rep Γ (Bar B0 m (h.set n .dead)) H d (.ref p) := by
        have rv := vw_rep (w := .ref n) R ⟨p, gp, rfl⟩ e
        have kk := x.kpp R
        unfold vw at e
        simp only [ho] at e
        cases o with
        | lst ws =>
          cases e3 : datAll ws with
          | none => simp only [e3] at e; cases e
          | some ds =>
            simp only [e3, Option.map_some] at e; cases e
            obtain ⟨p', vs, e', g', a⟩ := rv
            cases e'
            unfold rep; exact ⟨p, vs, rfl, g', nb, kk.reps _ _ a⟩
        | dic ks ws =>
          cases e3 : datAll ws with
          | none => simp only [e3] at e; cases e
          | some ds =>
            simp only [e3, Option.map_some] at e; cases e
            obtain ⟨p', vs, e', g', l, a⟩ := rv
            cases e'
            unfold rep; exact ⟨p, vs, rfl, g', l, nb, kk.reps _ _ a⟩
        | ins C ns ws =>
          cases e3 : datAll ws with
          | none => simp only [e3] at e; cases e
          | some ds =>
            simp only [e3, Option.map_some] at e; cases e
            obtain ⟨p', dx, vs, e', g', l, a, ok⟩ := rv
            cases e'
            unfold rep; exact ⟨p, dx, vs, rfl, g', l, nb, kk.reps _ _ a, ok⟩
        | dead => cases e
      have es2 : repE Γ (Bar B0 m (h.set n .dead)) m H (s.set i (some (.dat d))) σ := by
        refine ⟨by simp [es.1], fun j w gj => ?_⟩
        rcases getElem?_set' gj with ⟨rfl, e⟩ | ⟨_, gj⟩
        · cases e; exact ⟨_, gv, rd⟩
        · exact (es.mono R x).2 j w gj
      exact hb.run R2 es2 (postS.mono x q)
  · exact q.elim⟩
end
end S
end

section
namespace S
open PySem PySem.Spec PyProof.Rows L2 Z LamX
/-! ### keywords -/
section
variable {Γ : Wd} {E : XK} {B0 B B' : Br} {m m' m1 : List Addr} {h h' h1 : MH} {H H' H1 : Hp} {C : String}
/-- the arguments in the order of the parameters -/
def pick {α : Type} (is : List Nat) (xs : List α) : List α := is.filterMap (xs[·]?)
theorem repWs_get {ws : List W} {vs : List V} (r : repWs Γ B m H ws vs) {i : Nat} {w : W} (g : ws[i]? = some w) : ∃ v, vs[i]? = some v ∧ repW Γ B m H w v := by
  induction ws generalizing vs i with
  | nil => simp at g
  | cons w0 ws ih =>
    obtain ⟨v, q, rfl, a, b⟩ := r
    cases i with
    | zero => simp at g; subst g; exact ⟨v, rfl, a⟩
    | succ i => simp at g; obtain ⟨v', g', r'⟩ := ih b g; exact ⟨v', by simpa using g', r'⟩
theorem repWs_getN {ws : List W} {vs : List V} (r : repWs Γ B m H ws vs) {i : Nat} (g : ws[i]? = none) : vs[i]? = none := by
  have l := repWs_len r
  rw [List.getElem?_eq_none_iff] at g ⊢
  omega
theorem repWs_pick {ws : List W} {vs : List V} (r : repWs Γ B m H ws vs) : ∀ is : List Nat, repWs Γ B m H (pick is ws) (pick is vs)
  | [] => rfl
  | i :: is => by
    unfold pick
    rw [List.filterMap_cons, List.filterMap_cons]
    cases g : ws[i]? with
    | none => rw [repWs_getN r g]; exact repWs_pick r is
    | some w =>
      obtain ⟨v, g', a⟩ := repWs_get r g
      rw [g']
      exact ⟨v, _, rfl, a, repWs_pick r is⟩
/-- all by keywords -/
def gKw (is : List Nat) : List V → List V → List V := fun vs zs => vs ++ pick is zs
@[simp] def eMakeK0 (is : List Nat) (k : Nat) (c : FF) (b : EA) : EE := fun s h => (b s h).bind fun zs h2 => if zs.length = k then c (pick is zs) h2 else .stuck
instance {is : List Nat} {k : Nat} {sp : Sp} {c : FF} {tk : TA} {ek : EA} {Ca : Addr} [hk : EvA Γ E tk ek] [hc : MkOk Γ E Ca sp c] : EvE Γ E (tMakeK Ca 0 k sp (gKw is) E tNil tk) (eMakeK0 is k c ek) := ⟨fun {B0 m h H s σ Q} R es q => by
  show tk σ H _
  refine hk.run R es (q.bind fun zs h1 m1 H1 vs R1 x1 r1 q1 => ?_)
  split at q1
  · next l => exact ⟨rfl, by rw [← repWs_len r1]; exact l, fun x dx hx hd hn => hc.run R1 (repWs_pick r1 is) q1 x dx hx hd hn⟩
  · exact q1.elim⟩
/-! ### dict displays, d.get(k, x) -/
def keyD : D → Option Key
  | .int i => some (.inl i)
  | .str x => some (.inr x)
  | _ => none
theorem keyD_run {x : D} {v : V} {k : Key} (r : rep Γ B H x v) (e : keyD x = some k) : v = kV k := by
  cases x with
  | int i => unfold rep at r; cases e; exact r
  | str i => unfold rep at r; cases e; exact r
  | _ => cases e
def dicS : List (EE × EE) → En → MH → List Key → List D → Res W
  | [], _, h, ks, ds => if ks.Nodup ∧ ks.length ≤ 15 then .ok (.dat (.dic ks ds)) h else .stuck
  | (ek, ev) :: r, s, h, ks, ds => match ek s h with
    | .ok (.dat kd) h1 => (match keyD kd with
      | some k => (match ev s h1 with
        | .ok (.dat d) h2 => dicS r s h2 (ks ++ [k]) (ds ++ [d])
        | _ => .stuck)
      | none => .stuck)
    | _ => .stuck
@[simp] def eDic (ps : List (EE × EE)) : EE := fun s h => dicS ps s h [] []
class EvP (Γ : Wd) (E : XK) (ts : List (TE × TE)) (es : List (EE × EE)) : Prop where
  run : ∀ {B0 : Br} {m m1 : List Addr} {h h1 : MH} {H H1 : Hp} {s : En} {σ : L2.St} {Q : VK} {p : Addr} {ks : List Key} {ds : List D} {vs : List V} {R : List (V × V) → Hp → Prop}, Rm Γ B0 m1 h1 H1 → H1 p = none → Rm Γ (fun q => B0 q ∨ q = p) m h H → Ex m1 h1 H1 m h H → H p = some (.dK []) →
    repE Γ (Bar (fun q => B0 q ∨ q = p) m h) m H s σ → reps Γ (Bar (fun q => B0 q ∨ q = p) m h) H ds vs → ks.length = vs.length → post rW Γ B0 m1 h1 H1 Q E (dicS es s h ks ds) →
    (∀ (kvs : List (Key × V)) (us : List V) (ks' : List Key) (ds' : List D) (m' : List Addr) (h' : MH) (H' : Hp), ks ++ kvs.map (·.1) = ks' → kvs.map (·.2) = us → Rm Γ (fun q => B0 q ∨ q = p) m' h' H' → Ex m1 h1 H1 m' h' H' → H' p = some (.dK []) →
      reps Γ (Bar (fun q => B0 q ∨ q = p) m' h') H' ds' (vs ++ us) → post rW Γ B0 m1 h1 H1 Q E (dicS [] s h' ks' ds') → R (kvs.map fun kv => (kV kv.1, kv.2)) H') → tPairs ts σ H R
theorem barB {p : Addr} {vs : HO} (mu : Mu vs) (R : Rm Γ B0 m h H) (hp : H p = none) : Rm Γ (fun q => B0 q ∨ q = p) m h (upd H p vs) := by
  have R1 := R.barred (vs := []) hp
  have := (R1.putB (vs := []) (p := p) (u := vs) (.inr rfl) mu).1
  rw [upd_upd] at this
  exact this
instance : EvP Γ E [] [] := ⟨fun {B0 m m1 h h1 H H1 s σ Q p ks ds vs R} R1 hp R0 x gp es r l q f => by
  exact f [] [] ks ds m h H (by simp) rfl R0 x gp (by simpa using r) q⟩
instance {tk tv : TE} {ts : List (TE × TE)} {ek ev : EE} {ess : List (EE × EE)} [hk : EvE Γ E tk ek] [hv : EvE Γ E tv ev] [hr : EvP Γ E ts ess] : EvP Γ E ((tk, tv) :: ts) ((ek, ev) :: ess) := ⟨fun {B0 m m1 h h1 H H1 s σ Q p ks ds vs R} R1 hp R0 x gp es r l q f => by
  unfold dicS at q
  refine hk.run (Q := fun x H1 => tv σ H1 fun y H2 => tPairs ts σ H2 fun ps H3 => R ((x, y) :: ps) H3) R0 es ?_
  cases e1 : ek s h with
  | stuck => simp only [e1] at q; exact q.elim
  | exc C ns xs h2 => simp only [e1] at q; exact q.elim
  | ok w h2 =>
    cases w with
    | ref n => simp only [e1] at q; exact q.elim
    | fn n => simp only [e1] at q; exact q.elim
    | dat kd =>
      simp only [e1] at q
      cases e2 : keyD kd with
      | none => simp only [e2] at q; exact q.elim
      | some k =>
        simp only [e2] at q
        intro m2 H2 xv R2 x2 r2
        have ex := keyD_run (show rep _ _ _ _ _ from r2) e2
        subst ex
        refine hv.run R2 (es.mono R0 x2) ?_
        cases e3 : ev s h2 with
        | stuck => simp only [e3] at q; exact q.elim
        | exc C ns xs h3 => simp only [e3] at q; exact q.elim
        | ok w h3 =>
          cases w with
          | ref n => simp only [e3] at q; exact q.elim
          | fn n => simp only [e3] at q; exact q.elim
          | dat d =>
            simp only [e3] at q
            intro m3 H3 yv R3 x3 r3
            have r3 : rep Γ (Bar (fun q => B0 q ∨ q = p) m3 h3) H3 d yv := r3
            have xx := x2.trans x3
            have np : ¬ live m h p := fun ⟨j, o, g1, g2, g3⟩ => R0.nb j p g1 (.inr rfl)
            have gp3 := (xx.kp p _ gp (fun _ z => by cases z) np).1
            refine hr.run R1 hp R3 (x.trans xx) gp3 (es.mono R0 xx) (reps_app ((xx.kpp R0).reps _ _ r) (ys := [d]) (us := [yv]) (by unfold reps; exact ⟨yv, [], rfl, r3, by unfold reps; rfl⟩)) (by simp [l]) q ?_
            intro kvs us ks' ds' m' h' H' a1 a2 a3 a4 a5 a6 a7
            exact f ((k, yv) :: kvs) (yv :: us) ks' ds' m' h' H' (by rw [← a1]; simp) (by rw [← a2]; rfl) a3 a4 a5 (by simpa using a6) a7⟩
theorem putK_new {kvs : List (Key × V)} {k : Key} {v : V} (h : k ∉ kvs.map (·.1)) : putK kvs k v = kvs ++ [(k, v)] := by
  unfold putK
  rw [if_neg]
  intro z
  rw [List.any_eq_true] at z
  obtain ⟨kv, hm, e⟩ := z
  exact h (List.mem_map.mpr ⟨kv, hm, of_decide_eq_true e⟩)
theorem mergeK_nodup : ∀ {more kvs : List (Key × V)}, (kvs.map (·.1) ++ more.map (·.1)).Nodup → mergeK kvs more = kvs ++ more
  | [], kvs, _ => by simp [mergeK]
  | (k, v) :: more, kvs, h => by
    unfold mergeK
    rw [List.foldl_cons]
    have hk : k ∉ kvs.map (·.1) := fun z => by
      rw [List.map_cons, List.nodup_append] at h
      exact h.2.2 k z k List.mem_cons_self rfl
    rw [putK_new hk]
    have := mergeK_nodup (more := more) (kvs := kvs ++ [(k, v)]) (by simpa using h)
    unfold mergeK at this
    rw [this]
    simp
instance {ts : List (TE × TE)} {ess : List (EE × EE)} [hp : EvP Γ E ts ess] : EvE Γ E (tDisp ts) (eDic ess) := ⟨fun {B0 m h H s σ Q} R es q => by
  intro p hpn
  have R1 := barB (vs := .dK []) trivial R hpn
  obtain ⟨Ra, xa⟩ := R.same (same_new (u := .dK []) hpn)
  have kk := kpD R hpn xa
  refine hp.run (ks := []) (ds := []) (vs := []) R hpn R1 xa upd_same (es.kp kk xa.pre) (by unfold reps; rfl) rfl q ?_
  intro kvs us ks' ds' m' h' H' a1 a2 a3 a4 a5 a6 a7
  rw [List.nil_append] at a1 a6
  unfold dicS at a7
  split at a7
  · next l =>
    refine ⟨a5, kvs, rfl, by have := l.2; rw [← a1] at this; simpa using this, ?_⟩
    rw [mergeK_nodup (by rw [List.map_nil, List.nil_append, a1]; exact l.1), List.nil_append]
    obtain ⟨R2, k2⟩ := a3.putB (vs := []) (p := p) (u := .dK kvs) (.inr rfl) trivial
    have nB : ¬ B0 p := fun b => by obtain ⟨u, gu, _⟩ := R.b0 p b; rw [hpn] at gu; cases gu
    obtain ⟨R3, k3⟩ := R2.unbarred (vs := []) nB
    refine a7 m' _ _ R3 ?_ ?_
    · refine ⟨a4.pre, fun a o ga nt nl => ?_⟩
      obtain ⟨b1, b2⟩ := a4.kp a o ga nt nl
      exact ⟨by rw [upd_ne (ne_of_none ga hpn)]; exact b1, b2⟩
    · show rep _ _ _ _ _
      unfold rep
      have ez : ks'.zip us = kvs := by
        rw [← a1, ← a2]
        clear a1 a2 a6 k2 R2 R3 k3 a7 l
        induction kvs with
        | nil => rfl
        | cons kv kvs ih => simp [ih]
      refine ⟨p, us, rfl, by rw [ez]; exact upd_same, by rw [← a1, ← a2]; simp, ?_, ?_⟩
      · rintro (b | ⟨j, o, g1, g2, g3⟩)
        · exact nB b
        · exact a3.nb j p g1 (.inr rfl)
      · have kb : Kp Γ (Bar (fun q => B0 q ∨ q = p) m' h') (upd H' p (.dK kvs)) (Bar B0 m' h') (upd H' p (.dK kvs)) := ⟨fun q u g _ _ => g, fun q u g mu nb => ⟨g, fun b => b.elim (fun b => nb (.inl (.inl b))) fun b => nb (.inr b)⟩⟩
        exact kb.reps _ _ (k2.reps _ _ a6)
  · exact a7.elim⟩
instance : EvE Γ E tDNewK (eC (.dic [] [])) := ⟨fun {B0 m h H s σ Q} R es q p hp => by
  obtain ⟨Ra, xa⟩ := R.same (same_new (u := .dK []) hp)
  refine q m _ _ Ra xa ?_
  show rep _ _ _ _ _
  unfold rep
  exact ⟨p, [], rfl, upd_same, rfl, R.new_not hp, by unfold reps; rfl⟩⟩
def valD (k : Key) : List Key → List D → Option D
  | a :: ks, d :: ds => if a = k then some d else valD k ks ds
  | _, _ => none
@[simp] theorem valD_cons {k a : Key} {ks : List Key} {d : D} {ds : List D} : valD k (a :: ks) (d :: ds) = if a = k then some d else valD k ks ds := rfl
@[simp] theorem valD_nil {k : Key} {ds : List D} : valD k [] ds = none := rfl
theorem valD_run {k : Key} : ∀ {ks : List Key} {ds : List D} {vs : List V}, reps Γ B H ds vs → ks.length = vs.length → match valD k ks ds with
    | some d => ∃ v, valV (ks.zip vs) k = some v ∧ rep Γ B H d v
    | none => valV (ks.zip vs) k = none
  | [], ds, vs, r, l => by
    cases vs with
    | nil => exact rfl
    | cons => cases l
  | a :: ks, ds, vs, r, l => by
    cases vs with
    | nil => cases l
    | cons v vs =>
      cases ds with
      | nil => unfold reps at r; cases r
      | cons d ds =>
        unfold reps at r
        obtain ⟨v', q, e, a1, b1⟩ := r
        cases e
        rw [valD_cons]
        unfold valV
        rw [List.zip_cons_cons, List.find?_cons]
        by_cases h : a = k
        · rw [if_pos h]
          exact ⟨v, by rw [decide_eq_true h]; rfl, a1⟩
        · rw [if_neg h, decide_eq_false h]
          exact valD_run b1 (by simpa using l)
@[simp] def dgetW (wd wk wx : W) (h : MH) : Res W := match vw h wd with
  | some (.dic ks ds) => (match wk with
    | .dat kd => (match keyD kd with
      | some k => (match valD k ks ds with
        | some d => .ok (.dat d) h
        | none => .ok wx h)
      | none => .stuck)
    | _ => .stuck)
  | _ => .stuck
def isDicW (h : MH) (w : W) : Bool := match vw h w with
  | some (.dic _ _) => true
  | _ => false
@[simp] theorem isDicW_dic {h : MH} {ks : List Key} {ds : List D} : isDicW h (.dat (.dic ks ds)) = true := rfl
@[simp] def eDGet (d k x : EE) : EE := fun s h => (d s h).bind fun wd h1 => if isDicW h1 wd = true then (k s h1).bind fun wk h2 => (x s h2).bind fun wx h3 => dgetW wd wk wx h3 else .stuck
theorem isDicW_run {w : W} {v : V} (R : Rm Γ B0 m h H) (r : repW Γ (Bar B0 m h) m H w v) (e : isDicW h w = true) : ∃ a, v = .ref a ∧ IsD H a := by
  unfold isDicW at e
  split at e
  · next ks ds g =>
    obtain ⟨p, vs, rfl, g1, _⟩ := vw_rep R r g
    exact ⟨p, rfl, .inl ⟨_, .inl g1⟩⟩
  · cases e
instance {td tk tx : TE} {ed ek ex : EE} [hd : EvE Γ E td ed] [hk : EvE Γ E tk ek] [hx : EvE Γ E tx ex] : EvE Γ E (tDGet2 td tk tx) (eDGet ed ek ex) := ⟨fun {B0 m h H s σ Q} R es q => by
  refine hd.run R es (q.bind fun wd h1 m1 H1 v1 R1 x1 r1 q1 => ?_)
  split at q1
  · next l =>
    obtain ⟨a, rfl, isd⟩ := isDicW_run R1 r1 l
    refine ⟨a, rfl, isd, ?_⟩
    refine hk.run R1 (es.mono R x1) (q1.bind fun wk h2 m2 H2 v2 R2 x2 r2 q2 => ?_)
    refine hx.run R2 ((es.mono R x1).mono R1 x2) (q2.bind fun wx h3 m3 H3 v3 R3 x3 r3 q3 => ?_)
    have r1' := (r1.mono R1 x2).mono R2 x3
    have r2' := r2.mono R2 x3
    unfold dgetW at q3
    split at q3
    · next ks ds g =>
      obtain ⟨p, vs, e, g1, l1, a1⟩ := vw_rep R3 r1' g
      cases e
      cases wk with
      | ref n => exact q3.elim
      | fn n => exact q3.elim
      | dat kd =>
        simp only at q3
        cases e2 : keyD kd with
        | none => simp only [e2] at q3; exact q3.elim
        | some k =>
          simp only [e2] at q3
          have ek := keyD_run (show rep _ _ _ _ _ from r2') e2
          subst ek
          have vr := valD_run (k := k) a1 l1
          cases e4 : valD k ks ds with
          | none =>
            simp only [e4] at q3 vr
            refine ⟨none, .inl ⟨_, k, .inl g1, rfl, vr.symm⟩, ?_⟩
            exact q3 m3 H3 _ R3 Ex.refl r3
          | some d =>
            simp only [e4] at q3 vr
            obtain ⟨v, g4, r4⟩ := vr
            refine ⟨some v, .inl ⟨_, k, .inl g1, rfl, g4.symm⟩, ?_⟩
            exact q3 m3 H3 _ R3 Ex.refl r4
    · exact q3.elim
  · exact q1.elim⟩
/-! ### x(lambda: ..), the def that hears -/
def TTs (Γ : Wd) (G : (MH → Res W) → MH → Res W) : (XK → Hp → VK → Prop) → Hp → VK → Prop := fun tl H Q => ∃ B0 m h f, Rm Γ B0 m h H ∧
  (∀ m' h' H' E' Q', Rm Γ B0 m' h' H' → Ex m h H m' h' H' → post rW Γ B0 m' h' H' Q' E' (f h') → tl E' H' Q') ∧ post rW Γ B0 m h H Q EZ (G f h)
@[simp] def eLam (G : (MH → Res W) → MH → Res W) (e : EE) : EE := fun s h => G (fun h' => e s h') h
class NoX (G : (MH → Res W) → MH → Res W) : Prop where
  h : ∀ f h C ns xs h', G f h ≠ .exc C ns xs h'
instance {G : (MH → Res W) → MH → Res W} {t : XK → TE} {e : EE} [nx : NoX G] [he : ∀ E', EvE Γ E' (t E') e] : EvE Γ E (tLam Γ.T (TTs Γ G) t) (eLam G e) := ⟨fun {B0 m h H s σ Q} R es q => by
  refine ⟨R.tb, fun H1 e1 t1 => ?_⟩
  obtain ⟨R1, x1⟩ := R.extN e1 t1
  refine ⟨B0, m, h, fun h' => e s h', R1, fun m' h' H' E' Q' R' x' q' => (he E').run R' ((es.mono R x1).mono R1 x') q', ?_⟩
  have q := post.mono x1 q
  unfold eLam at q
  cases e2 : G (fun h' => e s h') h with
  | stuck => rw [e2] at q; exact q.elim
  | exc C ns xs h' => exact absurd e2 (nx.h _ _ _ _ _ _)
  | ok w h' => rw [e2] at q; exact q⟩
end
end S
end

section
namespace S
open PySem PySem.Spec PyProof.Rows L2 Z LamX
/-! ### the def that hears: what was returned, or what was raised -/
def noX : Res W → Res W
  | .ok w h => .ok w h
  | _ => .stuck
@[simp] theorem noX_ok {w : W} {h : MH} : noX (.ok w h) = .ok w h := rfl
def heardS (xm : String → Bool) (n : Nat) (rest : SS) : (MH → Res W) → MH → Res W := fun f h => match f h with
  | .ok w h1 => noX (fin (rest (none :: some (.dat .non) :: some w :: none :: List.replicate n none) h1))
  | .exc C ns xs h1 => if xm C = true then noX (fin (rest (none :: some (.dat (.exc C ns xs)) :: none :: none :: List.replicate n none) h1)) else .stuck
  | .stuck => .stuck
theorem noX_no {r : Res W} {C : String} {ns : List Str} {xs : List D} {h' : MH} : noX r ≠ .exc C ns xs h' := by
  cases r <;> exact fun z => by cases z
instance {xm : String → Bool} {n : Nat} {rest : SS} : NoX (heardS xm n rest) := ⟨fun f h C ns xs h' => by
  unfold heardS
  split
  · exact noX_no
  · split
    · exact noX_no
    · exact fun z => by cases z
  · exact fun z => by cases z⟩
def tTryH (f c' : Addr) (q : Str) (tl : XK → Hp → VK → Prop) (W : WX) (D : Ends) (σ : L2.St) (H : Hp) : Prop := ∃ (Ech : XK) (Q0 : VK), (∀ cls d σ' H', Ech cls d H' → W cls d σ' H') ∧ σ[0]? = some (some (.ref f)) ∧ H c' = some (CodeO c' q) ∧ tl Ech H Q0 ∧ ∀ v H1, Q0 v H1 → D.nx (σ.set 2 (some v)) H1
section
variable {Γ : Wd} {B0 : Br} {m : List Addr} {h : MH} {H : Hp} {Q : VK} {rest : SS} {trest : TS}
theorem noX_run {r : Res W} (q : post rW Γ B0 m h H Q EZ (noX r)) : post rW Γ B0 m h H Q EZ r := by
  cases r with
  | ok w h' => exact q
  | exc => exact q.elim
  | stuck => exact q
theorem repE_rest {s : En} {σ : L2.St} {B : Br} (l : s.length = σ.length) (f : ∀ (i : Nat) (w : W), s[i]? = some (some w) → ∃ v, σ[i]? = some (some v) ∧ repW Γ B m H w v) : repE Γ B m H s σ := ⟨l, f⟩
theorem rep_none {n i : Nat} {w : W} (g : (List.replicate n (none : Option W))[i]? = some (some w)) : False := by
  rw [List.getElem?_replicate] at g
  split at g <;> cases g
theorem XD.same {dd : Option Addr} {ns : List Str} {vs : List V} {a : Addr} {u : HO} (x : XD H dd ns vs) (ha : H a = none) : XD (upd H a u) dd ns vs := by
  cases dd with
  | none => exact x
  | some d => exact ⟨by rw [upd_ne (ne_of_none x.1 ha)]; exact x.1, x.2⟩
theorem heard_run {f c' : Addr} {q : Str} {tl : XK → Hp → VK → Prop} {n : Nat} {xm : String → Bool} {K : PySem.W.Frag} {c : Value} {Wo : WX} (er : EvS Γ EZ trest rest) (h0 : TTs Γ (heardS xm n rest) tl H Q) (hc : H c' = some (CodeO c' q))
    (hx : ∀ C, Γ.ok C → xm C = true → PySem.W.exmOne K (xvOf Γ C) c = some true) :
    tSeq (tAsg (tC .non) (gName 1)) (tSeq (tAsg (tC .non) (gName 2)) (tSeq (fun D σ H => tTryH f c' q tl (wKp (n + 4) K c 3 (fun _ _ _ => tAsg (tVar 3) (gName 1)) Wo D) D σ H) trest)) { nx := fun _ H' => Q .non H', rt := Q } (some (.ref f) :: none :: none :: none :: List.replicate n none) H := by
  obtain ⟨B0, m, h, fn, R, htl, q0⟩ := h0
  show tTryH f c' q tl _ _ (some (.ref f) :: some .non :: some .non :: none :: List.replicate n none) H
  refine ⟨fun cls d H' => ∀ σ', wKp (n + 4) K c 3 (fun _ _ _ => tAsg (tVar 3) (gName 1)) Wo { nx := trest { nx := fun _ H' => Q .non H', rt := Q }, rt := Q } cls d σ' H', fun v H1 => trest { nx := fun _ H' => Q .non H', rt := Q } ((some (.ref f) :: some .non :: some .non :: none :: List.replicate n none).set 2 (some v)) H1, fun _ _ σ' _ z => z σ', rfl, hc, ?_, fun _ _ z => z⟩
  refine htl m h H _ _ R Ex.refl ?_
  unfold heardS at q0
  cases e : fn h with
  | stuck => simp only [e] at q0; exact q0.elim
  | ok w h1 =>
    simp only [e] at q0
    intro m1 H1 v R1 x1 r1
    refine er.run R1 ?_ (fin_run (post.mono x1 (noX_run q0)))
    refine repE_rest (by simp) fun i w' g => ?_
    match i, g with
    | 0, g => cases g
    | 1, g => cases g; exact ⟨.non, rfl, by show rep _ _ _ _ _; unfold rep; rfl⟩
    | 2, g => cases g; exact ⟨v, rfl, r1⟩
    | 3, g => cases g
    | i + 4, g => exact (rep_none (show (List.replicate n (none : Option W))[i]? = some (some w') from g)).elim
  | exc C ns xs h1 =>
    simp only [e] at q0
    split at q0
    · next hm =>
      intro m1 H1 dd vs ok R1 x1 gd rx σ' hl
      refine ⟨true, hx C ok hm, (fun z => nomatch z), fun _ a ha => ?_⟩
      match σ', hl with
      | s0 :: s1 :: s2 :: s3 :: r, hl =>
        have hl : r.length = n := by simpa using hl
        refine ⟨.ref a, rfl, ?_⟩
        show trest _ _ _
        obtain ⟨R2, x2⟩ := R1.same (same_new (u := ExV (xvOf Γ C) dd a) ha)
        refine er.run R2 ?_ (fin_run (post.mono (x1.trans x2) (noX_run q0)))
        refine repE_rest (by simp [hl]) fun i w' g => ?_
        match i, g with
        | 0, g => cases g
        | 1, g =>
          cases g
          refine ⟨.ref a, rfl, ?_⟩
          show rep _ _ _ _ _
          unfold rep
          exact ⟨a, dd, vs, rfl, upd_same, XD.same gd ha, ok, reps.same R1 (same_new ha) rx⟩
        | 2, g => cases g
        | 3, g => cases g
        | i + 4, g => exact (rep_none (show (List.replicate n (none : Option W))[i]? = some (some w') from g)).elim
    · exact q0.elim
end
end S
end

section
namespace S
open PySem PySem.Spec PyProof.Rows L2 Z LamX
theorem pi_any {X : Cx} (K : PySem.W.Frag) {tg e : Expr} {te : TE} (he : PE X e te) (h : X.K = K := by rfl) : PI X tg e (iAny K te) := by
  subst h
  refine ⟨fun pins s σ H R I q => ?_⟩
  rcases q with q | q | q
  · exact (pi_list he).run pins s σ H R I q
  · exact (pi_tup he).run pins s σ H R I q
  · exact (pi_str he).run pins s σ H R I q
theorem hu_one {n c : Nat} (h : n + 64 < c) : n + 1 < c := by omega
theorem pe_xfK {X : Cx} (K : PySem.W.Frag) {e : Expr} {te : TE} {n : Str} {pos : Pos} (he : PE X e te) (h : X.K = K := by rfl) (hb : attributeBase e n X.env (eval e X.env) = eval e X.env := by rfl) : PE X (.Attribute e n pos) (tAtt (aXf K n) te) := h ▸ pe_xfV he hb
instance {i : Nat} {n : Str} {r : List (Str × Nat)} : MemN i (List.map (fun x => x.snd) ((n, i) :: r)) := ⟨List.mem_cons_self⟩
instance {i : Nat} {p : Str × Nat} {r : List (Str × Nat)} [h : MemN i (List.map (fun x => x.snd) r)] : MemN i (List.map (fun x => x.snd) (p :: r)) := ⟨List.mem_cons_of_mem _ h.h⟩
end S
namespace S
open PySem PySem.Spec PyProof.Rows L2 Z LamX
theorem fnR_of {P : Program} {w : World} {K : PySem.W.Frag} {mg : Str → Option Value} {base : Heap} {CX : CXT} {k : Nat} {f : Addr} {sp : Sp} {fd : FuncData} {ps : List Str} (F : FnOk P w K mg base CX k f fd ps sp) (hb : Binds K fd ps []) : FnR P w K mg base CX k f sp :=
  (F.raw hb .nil).imp fun vs H Q E h => by rw [List.append_nil]; exact h
theorem vals_pick {vs : List V} {us : List Value} (r : Vals vs us) : ∀ is : List Nat, Vals (pick is vs) (pick is us)
  | [] => .nil
  | i :: is => by
    unfold pick
    rw [List.filterMap_cons, List.filterMap_cons]
    cases g : vs[i]? with
    | none => rw [r.none_of g]; exact vals_pick r is
    | some v =>
      obtain ⟨u, g', a⟩ := r.get g
      rw [g']
      exact .cons a (vals_pick r is)
@[simp] def ePropX (C : String) (c : FF) (o : EE) : EE := fun s h => (o s h).bind fun w h1 => if isObj C h1 w = true then noX (c [w] h1) else .stuck
instance {Γ : Wd} {E : XK} {C : String} {sp : Sp} {c : FF} {ta : TE} {ea : EE} [ho : EvE Γ E ta ea] [hc : CallOk Γ L2.E0 sp c] : EvE Γ E (tProp (Γ.cl C) sp [] L2.E0 ta) (ePropX C c ea) := ⟨fun {B0 m h H s σ Q} R es q => by
  refine ho.run R es (q.bind fun w h1 m1 H1 v R1 x1 r1 q1 => ?_)
  split at q1
  · next l =>
    obtain ⟨a, dx, fs, rfl, g⟩ := isObj_run R1 r1 l
    refine ⟨a, dx, fs, rfl, g, hc.run (ws := [w]) R1 ⟨_, [], rfl, r1, rfl⟩ ?_⟩
    cases e : c [w] h1 with
    | ok w' h' => rw [e] at q1; exact q1
    | exc => rw [e] at q1; exact q1.elim
    | stuck => rw [e] at q1; exact q1.elim
  · exact q1.elim⟩
instance {Γ : Wd} {E : XK} {t : TS} {b : SS} {i : Nat} [h : EvS Γ E t b] : EvS Γ E t (sFz i b) := sFz_ok h
end S
end

section
namespace S
open PySem PySem.Spec PyProof.Rows L2 Z LamX
/-! ### plain facts for walking shallow forms by simp -/
@[simp] theorem atI_0 {α : Type} {x : α} {xs : List α} : atI (x :: xs) 0 = some x := ith_of (n := 0) rfl
@[simp] theorem atI_1 {α : Type} {x y : α} {xs : List α} : atI (x :: y :: xs) 1 = some y := ith_of (n := 1) rfl
@[simp] theorem atI_2 {α : Type} {x y z : α} {xs : List α} : atI (x :: y :: z :: xs) 2 = some z := ith_of (n := 2) rfl
theorem atI_nat {α : Type} {xs : List α} {i : Int} (h0 : 0 ≤ i) (h1 : i < xs.length) : ∃ x ∈ xs, atI xs i = some x := by
  refine ⟨xs[i.toNat]'(by omega), List.getElem_mem _, ?_⟩
  rw [atI_of h0 h1]
theorem op2_l {g : D → D → Option D} {n : Nat} {b : D} {h : MH} : op2 g (.ref n) (.dat b) h = (match vw h (.ref n) with
  | some a => ofO (g a b) h
  | none => .stuck) := by
  unfold op2
  rw [vw_dat]
  cases vw h (.ref n) <;> rfl
def penO (cs : List Int) (a r : Int) : O := .lst [.dat (.lst (cs.map .int)), .dat (.int a), .dat (.int r)]
@[simp] theorem vw_pen {cs : List Int} {a r : Int} {t : MH} : vw (penO cs a r :: t) (.ref 0) = some (.lst [.lst (cs.map .int), .int a, .int r]) := rfl
@[simp] theorem put_pen1 {cs : List Int} {a r x : Int} {t : MH} {s : En} : putI (.dat (.int x)) (.ref 0) (.dat (.int 1)) s (penO cs a r :: t) = .nx s (penO cs x r :: t) := rfl
@[simp] theorem put_pen2 {cs : List Int} {a r x : Int} {t : MH} {s : En} : putI (.dat (.int x)) (.ref 0) (.dat (.int 2)) s (penO cs a r :: t) = .nx s (penO cs a x :: t) := rfl
@[simp] theorem flat_pen {cs : List Int} {a r : Int} : O.flat (penO cs a r) = true := rfl
theorem toPs_ints : ∀ ns : List Int, toPs (ns.map .int) = some (ns.map .int)
  | [] => by simp [toPs]
  | n :: ns => by simp [toPs, toP, toPs_ints ns]
theorem ne_nil_ints {ns : List Int} : gNe (.lst (ns.map .int)) (.lst []) = some (.bl (!ns.isEmpty)) := by
  unfold gNe
  rw [peq_lst]
  have e1 : toP (.lst (ns.map .int)) = some (.list (ns.map .int)) := by unfold toP; rw [toPs_ints]; rfl
  have e2 : toP (.lst []) = some (.list []) := by unfold toP; rw [show toPs [] = some [] from by unfold toPs; rfl]; rfl
  unfold deq
  simp only [e1, e2]
  rw [if_pos ⟨shaped_ints ns, by decide +kernel⟩]
  cases ns with
  | nil => simp [PyData.eqv, PyData.eqvAll]
  | cons n ns => simp [PyData.eqv, PyData.eqvAll]
def drawT (c3 c4 c5 c6 c7 c8 c9 c10 : Int) : SS :=
  (sSeq (sIf (eAnd (eTest (eOp (op2 gLt) (eVar 3) (eCB (opN gLen) (eCons (eOp (op2 gIx) (eVar 0) (eC (.int 0))) eNil)))) (eTest (eOp (op2 gGe) (eCB (opN gAbs) (eCons (eVar 4) eNil)) (eOp (op2 gPow) (eC (.int 10)) (eC (.int 18))))))
        (sSeq (sAsg (eOp (op2 gAdd) (eOp (op2 gMul) (eC (.int 2)) (eOp (op2 gSub) (eCB (opN gAbs) (eCons (eVar 4) eNil)) (eOp (op2 gPow) (eC (.int 10)) (eC (.int 18))))) (eCB (opN gInt) (eCons (eOp (op2 gLt) (eVar 4) (eC (.int 0))) eNil))) (gSet 5))
      (sSeq (sAsg (eOp (op2 gDiv) (eCB (opN gInt) (eCons (eVar 5) eNil)) (eVar 1)) (gSubS (eVar 0) (eC (.int 2))))
      (sRet (eOp (op2 gMod) (eCB (opN gInt) (eCons (eVar 5) eNil)) (eVar 1)))))
        sNext)
      (sSeq (sAsg (eOp (op2 gMod) (eCB (opN gInt) (eCons (eOp (op2 gPow) (eOp (op2 gAdd) (eOp (op2 gAdd) (eOp (op2 gMod) (eCB (opN gInt) (eCons (eVar 4) eNil)) (eC (.int c3))) (eOp (op2 gMul) (eC (.int c4)) (eVar 3))) (eC (.int c5))) (eC (.int 5))) eNil)) (eC (.int c6))) (gSet 6))
      (sSeq (sAsg (eOp (op2 gMod) (eCB (opN gInt) (eCons (eOp (op2 gPow) (eOp (op2 gAdd) (eOp (op2 gAdd) (eOp (op2 gMul) (eVar 6) (eOp (op2 gAdd) (eOp (op2 gMul) (eC (.int 2)) (eVar 3)) (eC (.int c7)))) (eOp (op2 gMul) (eOp (op2 gMul) (eC (.int c8)) (eVar 3)) (eVar 3))) (eC (.int c9))) (eC (.int 3))) eNil)) (eC (.int c10))) (gSet 6))
      (sRet (eOp (op2 gMod) (eCB (opN gInt) (eCons (eOp (op2 gDiv) (eVar 6) (eC (.int 32))) eNil)) (eVar 1))))))
abbrev drawS (c1 c2 c3 c4 c5 c6 c7 c8 c9 c10 : Int) : SS :=
  (sSeq (sIf (eTest (eOp (op2 gGt) (eOp (op2 gIx) (eVar 0) (eC (.int 2))) (eC (.int 0))))
        (sSeq (sAsg (eOp (op2 gMod) (eCB (opN gInt) (eCons (eOp (op2 gIx) (eVar 0) (eC (.int 2))) eNil)) (eVar 1)) (gSet 2))
      (sSeq (sAsg (eOp (op2 gDiv) (eCB (opN gInt) (eCons (eOp (op2 gIx) (eVar 0) (eC (.int 2))) eNil)) (eVar 1)) (gSubS (eVar 0) (eC (.int 2))))
      (sRet (eVar 2))))
        sNext)
      (sSeq (sAsg (eOp (op2 gIx) (eVar 0) (eC (.int 1))) (gSet 3))
      (sSeq (sAsg (eOp (op2 gAdd) (eVar 3) (eC (.int 1))) (gSubS (eVar 0) (eC (.int 1))))
      (sSeq (sAsg (eOp (op2 gAdd) (eOp (op2 gMul) (eC (.int c1)) (eVar 3)) (eC (.int c2))) (gSet 4))
      (sSeq (sIf (eTest (eOp (op2 gNe) (eOp (op2 gIx) (eVar 0) (eC (.int 0))) (eLst eNil)))
        (sAsg (eOp (op2 gIx) (eOp (op2 gIx) (eVar 0) (eC (.int 0))) (eOp (op2 gMod) (eCB (opN gInt) (eCons (eVar 3) eNil)) (eCB (opN gLen) (eCons (eOp (op2 gIx) (eVar 0) (eC (.int 0))) eNil)))) (gSet 4))
        sNext)
      (drawT c3 c4 c5 c6 c7 c8 c9 c10))))))
structure DC (c1 c2 c3 c4 c5 c6 c7 c8 c9 c10 : Int) : Prop where
  a1 : 0 ≤ c1 ∧ c1 ≤ 1000000
  a3 : 0 < c3 ∧ c3 < 2147483648
  a4 : 0 ≤ c4 ∧ c4 ≤ 1000000
  a5 : 0 ≤ c5 ∧ c5 ≤ 1000000
  a6 : 0 < c6 ∧ c6 < 2147483648
  a7 : 0 ≤ c7 ∧ c7 ≤ 1000000
  a8 : 0 ≤ c8 ∧ c8 ≤ 1000000
  a9 : 0 ≤ c9 ∧ c9 ≤ 1000000
  a10 : 0 < c10 ∧ c10 < 2147483648
theorem cmul_l {i j : Int} (h0 : -18446744073709551616 < i) (h1 : i < 18446744073709551616) : CMul i j := .inl ⟨by omega, by omega⟩
theorem cmul_r {i j : Int} (h0 : -18446744073709551616 < j) (h1 : j < 18446744073709551616) : CMul i j := .inr ⟨by omega, by omega⟩
theorem draw_fn {c1 c2 c3 c4 c5 c6 c7 c8 c9 c10 : Int} (C : DC c1 c2 c3 c4 c5 c6 c7 c8 c9 c10) {cs : List Int} {a r m : Int} {t : MH} (hm : 0 < m) (hm2 : m < 1073741824) (ha : 0 ≤ a) (ha2 : a ≤ 1000000) :
    ∃ d a' r', 0 ≤ d ∧ d < m ∧ 0 ≤ a' ∧ a' ≤ a + 1 ∧ fnOf 5 (drawS c1 c2 c3 c4 c5 c6 c7 c8 c9 c10) [.ref 0, .dat (.int m)] (penO cs a r :: t) = .ok (.dat (.int d)) (penO cs a' r' :: t) := by
  have hdiv : CDivN r m := ⟨by omega, by omega⟩
  unfold fnOf
  by_cases hr : 0 < r
  · refine ⟨r % m, a, r.fdiv m, Int.emod_nonneg _ (by omega), Int.emod_lt_of_pos _ hm, ha, by omega, ?_⟩
    simp [op2_l, hr, hm, hdiv]
  · have hp : CPow 10 18 := ⟨by omega, by omega, by decide⟩
    have hc1 : CMul c1 a := cmul_r (by omega) (by omega)
    -- the part behind the cell
    have tail : ∀ cell : Int, ∃ d r', 0 ≤ d ∧ d < m ∧ fin ((drawT c3 c4 c5 c6 c7 c8 c9 c10) [some (.ref 0), some (.dat (.int m)), none, some (.dat (.int a)), some (.dat (.int cell)), none, none] (penO cs (a + 1) r :: t)) = .ok (.dat (.int d)) (penO cs (a + 1) r' :: t) := by
      intro cell
      unfold drawT
      by_cases hb : a < cs.length ∧ (10 : Int) ^ 18 ≤ (if cell < 0 then -cell else cell)
      · have hg : CMul 2 ((if cell < 0 then -cell else cell) - 10 ^ 18) := cmul_l (by omega) (by omega)
        have hd2 : ∀ x, CDivN x m := fun x => ⟨by omega, by omega⟩
        refine ⟨(2 * ((if cell < 0 then -cell else cell) - 10 ^ 18) + (if cell < 0 then 1 else 0)) % m, (2 * ((if cell < 0 then -cell else cell) - 10 ^ 18) + (if cell < 0 then 1 else 0)).fdiv m, Int.emod_nonneg _ (by omega), Int.emod_lt_of_pos _ hm, ?_⟩
        have h2 := hb.2
        simp only [show (10 : Int) ^ 18 = 1000000000000000000 from rfl] at h2 hg ⊢
        simp [op2_l, hb.1, hp, hg, hd2, hm, h2, show (10 : Int) ^ 18 = 1000000000000000000 from rfl]
      · have hb' : a < cs.length → ¬ (10 : Int) ^ 18 ≤ (if cell < 0 then -cell else cell) := fun z1 z2 => hb ⟨z1, z2⟩
        rw [show (10 : Int) ^ 18 = 1000000000000000000 from rfl] at hb'
        obtain ⟨q1, q2⟩ := C.a3
        obtain ⟨q3, q4⟩ := C.a4
        obtain ⟨q5, q6⟩ := C.a5
        obtain ⟨q7, q8⟩ := C.a6
        obtain ⟨q9, q10⟩ := C.a7
        obtain ⟨q11, q12⟩ := C.a8
        obtain ⟨q13, q14⟩ := C.a9
        obtain ⟨q15, q16⟩ := C.a10
        have m1 : CMul c4 a := cmul_r (by omega) (by omega)
        have b1 : 0 ≤ c4 * a := Int.mul_nonneg q3 ha
        have b2 : c4 * a ≤ 1000000 * 1000000 := Int.mul_le_mul q4 ha2 ha (by omega)
        have b3 : 0 ≤ cell % c3 := Int.emod_nonneg _ (by omega)
        have b4 : cell % c3 < c3 := Int.emod_lt_of_pos _ q1
        have p1 : CPow (cell % c3 + c4 * a + c5) 5 := ⟨by omega, by omega, by omega⟩
        have p2 : ∀ x, CPow (x % c6 * (2 * a + c7) + c8 * a * a + c9) 3 := fun x => c_powM (Int.emod_nonneg _ (by omega)) (by have := Int.emod_lt_of_pos x q7; omega) ha ha2 q9 q10 q11 q12 q13 q14 (by omega) (by omega)
        have m2 : CMul 2 a := cmul_l (by omega) (by omega)
        have m3 : ∀ x, CMul x (2 * a + c7) := fun x => cmul_r (by omega) (by omega)
        have m4 : CMul c8 a := cmul_r (by omega) (by omega)
        have m5 : ∀ x, CMul x a := fun x => cmul_r (by omega) (by omega)
        have d1 : ∀ x, CDivN x 32 := fun x => ⟨by omega, by omega⟩
        refine ⟨((((cell % c3 + c4 * a + c5) ^ 5 % c6) * (2 * a + c7) + c8 * a * a + c9) ^ 3 % c10).fdiv 32 % m, r, Int.emod_nonneg _ (by omega), Int.emod_lt_of_pos _ hm, ?_⟩
        by_cases hl : a < cs.length
        · have := hb' hl
          simp [op2_l, hl, hp, show (10 : Int) ^ 18 = 1000000000000000000 from rfl, this, m1, m2, m3, m4, m5, p1, p2, d1, q1, q7, q15, hm]
        · simp [op2_l, hl, hp, m1, m2, m3, m4, m5, p1, p2, d1, q1, q7, q15, hm]
    cases cs with
    | nil =>
      obtain ⟨d, r', h1, h2, h3⟩ := tail (c1 * a + c2)
      refine ⟨d, a + 1, r', h1, h2, by omega, by omega, ?_⟩
      rw [← h3]
      have en := ne_nil_ints (ns := [])
      simp only [List.map_nil] at en
      simp [op2_l, hr, hc1, en]
    | cons c cs =>
      have hl : (0 : Int) < ((c :: cs).length : Int) := by simp only [List.length_cons]; omega
      obtain ⟨x, hx, ex⟩ := atI_nat (xs := (c :: cs).map D.int) (i := a % ((c :: cs).length : Int)) (Int.emod_nonneg _ (by omega)) (by rw [List.length_map]; exact Int.emod_lt_of_pos _ hl)
      obtain ⟨ce, _, rfl⟩ := List.mem_map.mp hx
      obtain ⟨d, r', h1, h2, h3⟩ := tail ce
      refine ⟨d, a + 1, r', h1, h2, by omega, by omega, ?_⟩
      rw [← h3]
      have en := ne_nil_ints (ns := c :: cs)
      simp only [List.map_cons, List.length_cons] at ex en hl h3 ⊢
      push_cast at ex hl
      simp [op2_l, hr, hc1, en, ex, hl]
/-! ### the pen -/
/-- the heap begins with a pen from which at most n times was drawn; behind it stands t -/
def Pn (n : Nat) (t h : MH) : Prop := ∃ cs a r, h = penO cs a r :: t ∧ 0 ≤ a ∧ a ≤ (n : Int)
theorem Pn.mono {n k : Nat} {t h : MH} (p : Pn n t h) (l : n ≤ k) : Pn k t h := by
  obtain ⟨cs, a, r, e, h0, h1⟩ := p
  exact ⟨cs, a, r, e, h0, by omega⟩
theorem callT_ok {n : Nat} {F : FF} {ws : List W} {h h2 : MH} {d : D} (hl : ws.length = n) (e : F ws h = .ok (.dat d) h2) (l : h2.length = h.length) (f : h2.all O.flat = true) : callT n F ws h = .ok (.dat d) h2 := by
  unfold callT
  rw [if_pos hl, e]
  simp only [frz]
  rw [List.take_of_length_le (by omega), if_pos f]
theorem callP_ok {n : Nat} {F : FF} {ds : List D} {h h2 : MH} {d : D} (hl : ds.length = n) (e : F (ds.map .dat) [] = .ok (.dat d) h2) : callP n F (ds.map .dat) h = .ok (.dat d) h := by
  unfold callP
  rw [if_pos (by simpa using hl), datAll_map]
  simp only [e, frz]
theorem callP_ref {n : Nat} {F : FF} {ds : List D} {h h2 : MH} {k : Nat} {d : D} (hl : ds.length = n) (e : F (ds.map .dat) [] = .ok (.ref k) h2) (v : vw h2 (.ref k) = some d) : callP n F (ds.map .dat) h = .ok (.dat d) h := by
  unfold callP
  rw [if_pos (by simpa using hl), datAll_map]
  simp only [e, frz, Nat.zero_le, if_true, v]
theorem callP_exc {n : Nat} {F : FF} {ds : List D} {h h2 : MH} {C : String} {ns : List Str} {xs : List D} (hl : ds.length = n) (e : F (ds.map .dat) [] = .exc C ns xs h2) : callP n F (ds.map .dat) h = .exc C ns xs h := by
  unfold callP
  rw [if_pos (by simpa using hl), datAll_map]
  simp only [e]
theorem Pn.flat {n : Nat} {t h : MH} (p : Pn n t h) (ft : t.all O.flat = true) : h.all O.flat = true := by
  obtain ⟨cs, a, r, rfl, _⟩ := p
  simp [ft]
theorem Pn.len {n : Nat} {t h : MH} (p : Pn n t h) : h.length = t.length + 1 := by
  obtain ⟨cs, a, r, rfl, _⟩ := p
  rfl
/-- a def draws -/
def Draws (F : FF) : Prop := ∀ {n : Nat} {t h : MH} {m : Int}, Pn n t h → t.all O.flat = true → n ≤ 100000 → 0 < m → m < 1073741824 → ∃ d h', 0 ≤ d ∧ d < m ∧ Pn (n + 1) t h' ∧ callT 2 F [.ref 0, .dat (.int m)] h = .ok (.dat (.int d)) h'
theorem draws_of {c1 c2 c3 c4 c5 c6 c7 c8 c9 c10 : Int} (C : DC c1 c2 c3 c4 c5 c6 c7 c8 c9 c10) {F : FF} (e : F = fnOf 5 (drawS c1 c2 c3 c4 c5 c6 c7 c8 c9 c10)) : Draws F := by
  intro n t h m p ft hn hm hm2
  have p0 := p
  obtain ⟨cs, a, r, rfl, h0, h1⟩ := p
  obtain ⟨d, a', r', d0, d1, b0, b1, ee⟩ := draw_fn C (cs := cs) (r := r) (t := t) hm hm2 h0 (by omega)
  rw [← e] at ee
  refine ⟨d, _, d0, d1, ⟨cs, a', r', rfl, b0, by omega⟩, callT_ok rfl ee rfl (by simp [ft])⟩
/-- a def picks -/
def pickS (F : FF) : SS := sRet (eOp (op2 gIx) (eVar 1) (eCB (callT 2 F) (eCons (eVar 0) (eCons (eCB (opN gLen) (eCons (eVar 1) eNil)) eNil))))
theorem picks_lst {F : FF} (dr : Draws F) {n : Nat} {t h : MH} {xs : List D} (p : Pn n t h) (ft : t.all O.flat = true) (hn : n ≤ 100000) (hx : xs ≠ []) (hl : xs.length < 1000000) :
    ∃ x h', x ∈ xs ∧ Pn (n + 1) t h' ∧ callT 2 (fnOf 0 (pickS F)) [.ref 0, .dat (.lst xs)] h = .ok (.dat x) h' := by
  have h0 : 0 < xs.length := List.length_pos_iff.mpr hx
  obtain ⟨d, h', d0, d1, p', e⟩ := dr (m := (xs.length : Int)) p ft hn (by omega) (by omega)
  obtain ⟨x, mx, ex⟩ := atI_nat d0 d1
  refine ⟨x, h', mx, p', callT_ok rfl ?_ (by rw [p'.len, p.len]) (p'.flat ft)⟩
  unfold fnOf pickS
  simp [e, ex]
theorem picks_str {F : FF} (dr : Draws F) {n : Nat} {t h : MH} {z : Str} (p : Pn n t h) (ft : t.all O.flat = true) (hn : n ≤ 100000) (hx : z.cps.toList ≠ []) (hl : z.length < 1000000) :
    ∃ c h', c ∈ z.cps.toList ∧ Pn (n + 1) t h' ∧ callT 2 (fnOf 0 (pickS F)) [.ref 0, .dat (.str z)] h = .ok (.dat (.str ⟨#[c]⟩)) h' := by
  have h0 : 0 < z.cps.toList.length := List.length_pos_iff.mpr hx
  have el : z.cps.toList.length = z.length := by simp [Str.length]
  have hs : z.length ≤ sizeLine := Nat.le_trans (Nat.le_of_lt hl) (by decide)
  obtain ⟨d, h', d0, d1, p', e⟩ := dr (m := (z.length : Int)) p ft hn (by omega) (by omega)
  obtain ⟨x, mx, ex⟩ := atI_nat (xs := z.cps.toList) (i := d) d0 (by rw [el]; exact d1)
  refine ⟨x, h', mx, p', callT_ok rfl ?_ (by rw [p'.len, p.len]) (p'.flat ft)⟩
  unfold fnOf pickS
  simp [e, ex, hs]
end S
end

section
/-! SPO: the draw of the laws about orders -/
namespace S
open PySem PySem.Spec PyProof.Rows L2 Z LamX
def drawQT : SS :=
  (sSeq (sIf (eAnd (eTest (eOp (op2 gLt) (eVar 3) (eCB (opN gLen) (eCons (eOp (op2 gIx) (eVar 0) (eC (.int 0))) eNil)))) (eTest (eOp (op2 gGe) (eCB (opN gAbs) (eCons (eVar 4) eNil)) (eOp (op2 gPow) (eC (.int 10)) (eC (.int 18))))))
        (sSeq (sAsg (eOp (op2 gAdd) (eOp (op2 gMul) (eC (.int 2)) (eCB (opN gAbs) (eCons (eVar 4) eNil))) (eCB (opN gInt) (eCons (eOp (op2 gLt) (eVar 4) (eC (.int 0))) eNil))) (gSet 5))
      (sSeq (sAsg (eOp (op2 gDiv) (eVar 5) (eVar 1)) (gSubS (eVar 0) (eC (.int 2))))
      (sRet (eOp (op2 gMod) (eCB (opN gInt) (eCons (eVar 5) eNil)) (eVar 1)))))
        sNext)
      (sSeq (sAsg (eOp (op2 gMod) (eOp (op2 gPow) (eCB (opN gInt) (eCons (eOp (op2 gAdd) (eOp (op2 gAdd) (eOp (op2 gMod) (eCB (opN gInt) (eCons (eVar 4) eNil)) (eC (.int 2147483563))) (eOp (op2 gMul) (eC (.int 70297)) (eVar 3))) (eC (.int 43))) eNil)) (eC (.int 3))) (eC (.int 2147483587))) (gSet 6))
      (sSeq (sAsg (eOp (op2 gMod) (eOp (op2 gPow) (eCB (opN gInt) (eCons (eOp (op2 gAdd) (eOp (op2 gMul) (eVar 6) (eOp (op2 gAdd) (eOp (op2 gMul) (eC (.int 2)) (eVar 3)) (eC (.int 13)))) (eC (.int 81649))) eNil)) (eC (.int 3))) (eC (.int 2147483549))) (gSet 6))
      (sRet (eOp (op2 gMod) (eCB (opN gInt) (eCons (eOp (op2 gDiv) (eVar 6) (eC (.int 16))) eNil)) (eVar 1))))))
abbrev drawQ : SS :=
    (sSeq (sIf (eTest (eOp (op2 gGt) (eOp (op2 gIx) (eVar 0) (eC (.int 2))) (eC (.int 0))))
        (sSeq (sAsg (eOp (op2 gMod) (eCB (opN gInt) (eCons (eOp (op2 gIx) (eVar 0) (eC (.int 2))) eNil)) (eVar 1)) (gSet 2))
      (sSeq (sAsg (eOp (op2 gDiv) (eOp (op2 gIx) (eVar 0) (eC (.int 2))) (eVar 1)) (gSubS (eVar 0) (eC (.int 2))))
      (sRet (eVar 2))))
        sNext)
      (sSeq (sAsg (eOp (op2 gIx) (eVar 0) (eC (.int 1))) (gSet 3))
      (sSeq (sAsg (eOp (op2 gAdd) (eVar 3) (eC (.int 1))) (gSubS (eVar 0) (eC (.int 1))))
      (sSeq (sAsg (eOp (op2 gAdd) (eOp (op2 gMul) (eC (.int 88117)) (eVar 3)) (eC (.int 59))) (gSet 4))
      (sSeq (sIf (eTest (eOp (op2 gNe) (eOp (op2 gIx) (eVar 0) (eC (.int 0))) (eLst eNil)))
        (sAsg (eOp (op2 gIx) (eOp (op2 gIx) (eVar 0) (eC (.int 0))) (eOp (op2 gMod) (eCB (opN gInt) (eCons (eVar 3) eNil)) (eCB (opN gLen) (eCons (eOp (op2 gIx) (eVar 0) (eC (.int 0))) eNil)))) (gSet 4))
        sNext)
      drawQT)))))
theorem drawQ_fn {cs : List Int} {a r m : Int} {t : MH} (hm : 0 < m) (hm2 : m < 1073741824) (ha : 0 ≤ a) (ha2 : a ≤ 1000000) :
    ∃ d a' r', 0 ≤ d ∧ d < m ∧ 0 ≤ a' ∧ a' ≤ a + 1 ∧ fnOf 5 drawQ [.ref 0, .dat (.int m)] (penO cs a r :: t) = .ok (.dat (.int d)) (penO cs a' r' :: t) := by
  have hdiv : ∀ x, CDivN x m := fun x => ⟨by omega, by omega⟩
  unfold fnOf
  by_cases hr : 0 < r
  · refine ⟨r % m, a, r.fdiv m, Int.emod_nonneg _ (by omega), Int.emod_lt_of_pos _ hm, ha, by omega, ?_⟩
    simp [op2_l, hr, hm, hdiv]
  · have hp : CPow 10 18 := ⟨by omega, by omega, by decide⟩
    have c1 : CMul 88117 a := cmul_r (by omega) (by omega)
    have tail : ∀ cell : Int, ∃ d r', 0 ≤ d ∧ d < m ∧ fin (drawQT [some (.ref 0), some (.dat (.int m)), none, some (.dat (.int a)), some (.dat (.int cell)), none, none] (penO cs (a + 1) r :: t)) = .ok (.dat (.int d)) (penO cs (a + 1) r' :: t) := by
      intro cell
      unfold drawQT
      generalize ab : (if cell < 0 then -cell else cell) = z
      by_cases great : a < cs.length ∧ (1000000000000000000 : Int) ≤ z
      · have g : CMul 2 z := cmul_l (by omega) (by omega)
        refine ⟨(2 * z + (if cell < 0 then 1 else 0)) % m, (2 * z + (if cell < 0 then 1 else 0)).fdiv m, Int.emod_nonneg _ (by omega), Int.emod_lt_of_pos _ hm, ?_⟩
        simp [op2_l, great.1, great.2, hp, g, hdiv, hm, ab, show (10 : Int) ^ 18 = 1000000000000000000 from rfl]
      · have small : a < cs.length → ¬ (1000000000000000000 : Int) ≤ z := fun x y => great ⟨x, y⟩
        have m1 : CMul 70297 a := cmul_l (by omega) (by omega)
        have m2 : CMul 2 a := cmul_l (by omega) (by omega)
        have m3 : ∀ x, CMul x (2 * a + 13) := fun x => cmul_r (by omega) (by omega)
        have lo : 0 ≤ cell % 2147483563 := Int.emod_nonneg _ (by omega)
        have hi : cell % 2147483563 < 2147483563 := Int.emod_lt_of_pos _ (by omega)
        have p1 : CPow (cell % 2147483563 + 70297 * a + 43) 3 := ⟨by omega, by omega, by omega⟩
        have p2 : ∀ x, CPow (x % 2147483587 * (2 * a + 13) + 81649) 3 := fun x => by
          have l1 : 0 ≤ x % 2147483587 := Int.emod_nonneg _ (by omega)
          have l2 : x % 2147483587 < 2147483587 := Int.emod_lt_of_pos _ (by omega)
          have u0 : 0 ≤ x % 2147483587 * (2 * a + 13) := Int.mul_nonneg l1 (by omega)
          have u1 : x % 2147483587 * (2 * a + 13) ≤ 2147483587 * 2000013 := Int.mul_le_mul (by omega) (by omega) (by omega) (by omega)
          exact ⟨by omega, by omega, by omega⟩
        have d1 : ∀ x, CDivN x 16 := fun x => ⟨by omega, by omega⟩
        refine ⟨((((cell % 2147483563 + 70297 * a + 43) ^ 3 % 2147483587) * (2 * a + 13) + 81649) ^ 3 % 2147483549).fdiv 16 % m, r, Int.emod_nonneg _ (by omega), Int.emod_lt_of_pos _ hm, ?_⟩
        by_cases hl : a < cs.length
        · have := small hl
          simp [op2_l, hl, hp, ab, show (10 : Int) ^ 18 = 1000000000000000000 from rfl, this, m1, m2, m3, p1, p2, d1, hm]
        · simp [op2_l, hl, hp, m1, m2, m3, p1, p2, d1, hm]
    cases cs with
    | nil =>
      obtain ⟨d, r', h1, h2, h3⟩ := tail (88117 * a + 59)
      refine ⟨d, a + 1, r', h1, h2, by omega, by omega, ?_⟩
      rw [← h3]
      have en := ne_nil_ints (ns := [])
      simp only [List.map_nil] at en
      simp [op2_l, hr, c1, en]
    | cons c cs =>
      have hl : (0 : Int) < ((c :: cs).length : Int) := by simp only [List.length_cons]; omega
      obtain ⟨x, hx, ex⟩ := atI_nat (xs := (c :: cs).map D.int) (i := a % ((c :: cs).length : Int)) (Int.emod_nonneg _ (by omega)) (by rw [List.length_map]; exact Int.emod_lt_of_pos _ hl)
      obtain ⟨ce, _, rfl⟩ := List.mem_map.mp hx
      obtain ⟨d, r', h1, h2, h3⟩ := tail ce
      refine ⟨d, a + 1, r', h1, h2, by omega, by omega, ?_⟩
      rw [← h3]
      have en := ne_nil_ints (ns := c :: cs)
      simp only [List.map_cons, List.length_cons] at ex en hl h3 ⊢
      push_cast at ex hl
      simp [op2_l, hr, c1, en, ex, hl]
theorem drawsQ {F : FF} (e : F = fnOf 5 drawQ) : Draws F := by
  intro n t h m p ft hn hm hm2
  obtain ⟨cs, a, r, rfl, h0, h1⟩ := p
  obtain ⟨d, a', r', d0, d1, b0, b1, ee⟩ := drawQ_fn (cs := cs) (r := r) (t := t) hm hm2 h0 (by omega)
  rw [← e] at ee
  exact ⟨d, _, d0, d1, ⟨cs, a', r', rfl, b0, by omega⟩, callT_ok rfl ee rfl (by simp [ft])⟩
end S
end

section
namespace PySem.SeqAt
open PySem PySem.Spec PyProof.Rows MeetsSeq
theorem dict_eq_declines_strZ (l : Addr) (es : Array DictEntry) (ep : Nat) (dd : Option Addr) (sl : Array (Option Value)) (b : Str) (u : Tok) :
    Meets (Builtin.«dict.__eq__» ⟨[.ref l, .str b u], []⟩) (fun _ R s => s.heap.get? l = some { cls := .type "dict", dict := dd, data := .dict es ep, slots := sl } ∧ R (.ok (.ret .notImplemented)) s) :=
  .of_wp fun prog w A R s h => by obtain ⟨hp, g, d, tk, os⟩ := s; obtain ⟨hl, h⟩ := h; have f1 := F.sub_str_dict; wp_walk using wpAny_loadPart' hl, wpAny_load hl; exact ⟨_, rfl, h⟩
theorem str_eq_declines_dictZ (b : Str) (u : Tok) (l : Addr) (es : Array DictEntry) (ep : Nat) (dd : Option Addr) (sl : Array (Option Value)) :
    Meets (Builtin.«str.__eq__» ⟨[.str b u, .ref l], []⟩) (fun _ R s => s.heap.get? l = some { cls := .type "dict", dict := dd, data := .dict es ep, slots := sl } ∧ R (.ok (.ret .notImplemented)) s) :=
  .of_wp fun prog w A R s h => by obtain ⟨hp, g, d, tk, os⟩ := s; obtain ⟨hl, h⟩ := h; have f1 := F.sub_dict_str; wp_walk using wpAny_loadPart' hl, wpAny_load hl; exact ⟨_, rfl, h⟩
section
variable {A : Around} {s : Shared}
theorem RcAt.dict_strZ {l : Addr} {es : Array DictEntry} {ep : Nat} {dd : Option Addr} {sl : Array (Option Value)} (b : Str) (u : Tok) (ho : s.heap.get? l = some { cls := .type "dict", dict := dd, data := .dict es ep, slots := sl }) (hu : A.units < cLine) : RcAt A s (.ref l) (.str b u) false := fun prog w E Q h =>
  rc_eq_decline_or (k := false) ⟨_, ho, rfl⟩ (typeIs_str s b u) (by decide) F.sub_str_dict F.slot_dict_eq F.slot_str_eq_refl
    (fun _ hq => call_meets F.slot_dict_eq ⟨_, ho, rfl⟩ F.entry_dict_eq (F.args_dict_eq_2 _ _) (dict_eq_declines_strZ l es ep dd sl b u) ⟨ho, hq⟩)
    (fun _ hq => call_meets F.slot_str_eq_refl (typeIs_str s b u) F.entry_str_eq (F.args_str_eq_2 _ _) (str_eq_declines_dictZ b u l es ep dd sl) ⟨ho, hq⟩)
    (fun _ hq => wpAny_of_eq (rfl : isSame (.ref l) (.str b u) = pure false) hq) (.inr hu) h
theorem RcAt.str_dictZ {l : Addr} {es : Array DictEntry} {ep : Nat} {dd : Option Addr} {sl : Array (Option Value)} (b : Str) (u : Tok) (ho : s.heap.get? l = some { cls := .type "dict", dict := dd, data := .dict es ep, slots := sl }) (hu : A.units < cLine) : RcAt A s (.str b u) (.ref l) false := fun prog w E Q h =>
  rc_eq_decline_or (k := false) (typeIs_str s b u) ⟨_, ho, rfl⟩ (by decide) F.sub_dict_str F.slot_str_eq F.slot_dict_eq_refl
    (fun _ hq => call_meets F.slot_str_eq (typeIs_str s b u) F.entry_str_eq (F.args_str_eq_2 _ _) (str_eq_declines_dictZ b u l es ep dd sl) ⟨ho, hq⟩)
    (fun _ hq => call_meets F.slot_dict_eq_refl ⟨_, ho, rfl⟩ F.entry_dict_eq (F.args_dict_eq_2 _ _) (dict_eq_declines_strZ l es ep dd sl b u) ⟨ho, hq⟩)
    (fun _ hq => wpAny_of_eq (rfl : isSame (.str b u) (.ref l) = pure false) hq) (.inr hu) h
theorem EqAt.str_dictZ {l : Addr} {es : Array DictEntry} {ep : Nat} {dd : Option Addr} {sl : Array (Option Value)} (b : Str) (u : Tok) (ho : s.heap.get? l = some { cls := .type "dict", dict := dd, data := .dict es ep, slots := sl }) (hu : A.units < cLine) : EqAt A s (.str b u) (.ref l) false := fun prog w E Q h => by
  unfold eqBool
  refine wpAny_holding ?_
  refine wpAny_ite_split (fun hab => absurd (eq_of_beq hab) nofun) (fun _ => ?_)
  exact wpAny_bind (RcAt.str_dictZ b u ho hu prog w E _ (wpAny_truthy_bool h))
end
end PySem.SeqAt
namespace S
open PySem PySem.Spec PyProof.Rows L2 Z LamX
/-- a list, a tuple or a dict -/
def Ctn (K : PySem.W.Frag) (H : Hp) (p : Addr) : Prop := (∃ xs, SqL K H p xs) ∨ (∃ xs, SqT K H p xs) ∨ ∃ kvs, H p = some (.dK kvs)
/-- such a thing is no text -/
def rEqC (K : PySem.W.Frag) : R2 := fun x y H Q => ∃ p b, x = .ref p ∧ y = .str b ∧ Ctn K H p ∧ Q (.bl false) H
theorem ctn_rc {X : Cx} {pins : List (Addr × Obj)} {σ : L2.St} {H : Hp} {s : Shared} {p : Addr} (I : Inv X pins σ H s) (c : Ctn X.K H p) (b : Str) (u : Tok) {A : Around} (hu : A.units < cLine) : SeqAt.RcAt A s (.ref p) (.str b u) false ∧ SeqAt.EqAt A s (.str b u) (.ref p) false := by
  rcases c with ⟨xs, c⟩ | ⟨xs, c⟩ | ⟨kvs, c⟩
  · obtain ⟨its, r, pl, hz⟩ := I.list c
    exact ⟨SeqAt.RcAt.list_str b u pl.isList hu, SeqAt.EqAt.str_list b u pl.isList hu⟩
  · obtain ⟨its, r, pl, hz⟩ := I.tuple c
    exact ⟨SeqAt.RcAt.tuple_str b u pl hu, SeqAt.EqAt.str_tuple b u pl hu⟩
  · obtain ⟨_, _, vs, _, o, es, ep, ho, hx, hd, _⟩ := (show ObjOk X.prog X.w H s.heap p (.dK kvs) from I.hok p _ c)
    obtain ⟨cl, dd, dt, sl⟩ := o
    obtain ⟨h1, h2, h3⟩ := hx
    simp only at h1 h2 h3 hd
    subst h1 hd
    exact ⟨SeqAt.RcAt.dict_strZ b u ho hu, SeqAt.EqAt.str_dictZ b u ho hu⟩
theorem op_eqC {X : Cx} (hu : X.A.units + 64 < cLine) : OpR X (compareOp .Eq) (rEqC X.K) := by
  intro pins s σ H x y v u Q I rx ry h
  obtain ⟨p, b, rfl, rfl, c, q⟩ := h
  cases rx
  obtain ⟨t, rfl⟩ := ry
  have := (ctn_rc I c b t (A := X.A) (by omega)).1
  exact this X.prog X.w X.xe _ ⟨.bl false, H, I, rfl, q⟩
def aEqC (K : PySem.W.Frag) : R2 := fun x y H Q => aEq K x y H Q ∨ rEqC K x y H Q
theorem k_eqC {X : Cx} (K : PySem.W.Frag) (hu : X.A.units + 64 < cLine) (h : X.K = K := by rfl) : OpR X (compareOp .Eq) (aEqC K) := h ▸ orO (o_eq hu) (op_eqC hu)
/-- .. nor among texts -/
def rInC (K : PySem.W.Frag) (neg : Bool) : R2 := fun x y H Q => ∃ p q, ∃ xs : List Str, x = .ref p ∧ y = .ref q ∧ Ctn K H p ∧ (SqL K H q (xs.map V.str) ∨ SqT K H q (xs.map V.str)) ∧ Q (.bl neg) H
theorem mem_strs {xs : List Str} {its : List Value} (r : Vals (xs.map V.str) its) : ∀ v ∈ its, ∃ b t, v = .str b t := by
  induction xs generalizing its with
  | nil => cases r; intro v hv; cases hv
  | cons x xs ih =>
    rw [List.map_cons] at r
    cases r with
    | cons a b =>
      intro v hv
      rcases List.mem_cons.mp hv with rfl | hv
      · obtain ⟨t, e⟩ := a; exact ⟨x, t, e⟩
      · exact ih b v hv
theorem any_no : ∀ l : List Value, (l.any fun _ => false) = false
  | [] => rfl
  | _ :: l => any_no l
theorem op_inC {X : Cx} (hu : X.A.units + 64 < cLine) : OpR X (compareOp .In) (rInC X.K false) := by
  intro pins s σ H x y v u Q I rx ry h
  obtain ⟨p, q, xs, rfl, rfl, c, hq, k⟩ := h
  cases rx; cases ry
  have hu1 : X.A.in1.units < cLine := by show X.A.units + 1 < cLine; omega
  rcases hq with hq | hq
  · obtain ⟨its, r, pl, hz⟩ := I.list hq
    refine SeqAt.in_listAt (fun _ => false) pl.isList (fun w hw => ?_) ⟨.bl _, H, I, rfl, ?_⟩
    · obtain ⟨b, t, rfl⟩ := mem_strs r w (by simpa using hw)
      exact (ctn_rc I c b t hu1).2
    · simpa [any_no] using k
  · obtain ⟨its, r, pl, hz⟩ := I.tuple hq
    refine SeqAt.in_tupleAt (fun _ => false) pl (fun w hw => ?_) ⟨.bl _, H, I, rfl, ?_⟩
    · obtain ⟨b, t, rfl⟩ := mem_strs r w (by simpa using hw)
      exact (ctn_rc I c b t hu1).2
    · simpa [any_no] using k
theorem op_ninC {X : Cx} (hu : X.A.units + 64 < cLine) : OpR X (compareOp .NotIn) (rInC X.K true) := by
  intro pins s σ H x y v u Q I rx ry h
  obtain ⟨p, q, xs, rfl, rfl, c, hq, k⟩ := h
  cases rx; cases ry
  have hu1 : X.A.in1.units < cLine := by show X.A.units + 1 < cLine; omega
  rcases hq with hq | hq
  · obtain ⟨its, r, pl, hz⟩ := I.list hq
    refine SeqAt.notIn_listAt (fun _ => false) pl.isList (fun w hw => ?_) ⟨.bl _, H, I, rfl, ?_⟩
    · obtain ⟨b, t, rfl⟩ := mem_strs r w (by simpa using hw)
      exact (ctn_rc I c b t hu1).2
    · simpa [any_no] using k
  · obtain ⟨its, r, pl, hz⟩ := I.tuple hq
    refine SeqAt.notIn_tupleAt (fun _ => false) pl (fun w hw => ?_) ⟨.bl _, H, I, rfl, ?_⟩
    · obtain ⟨b, t, rfl⟩ := mem_strs r w (by simpa using hw)
      exact (ctn_rc I c b t hu1).2
    · simpa [any_no] using k
def aInX (K : PySem.W.Frag) : R2 := fun x y H Q => aIn K x y H Q ∨ rInC K false x y H Q
def aNinX (K : PySem.W.Frag) : R2 := fun x y H Q => aNin K x y H Q ∨ rInC K true x y H Q
theorem k_inC {X : Cx} (K : PySem.W.Frag) (hu : X.A.units + 64 < cLine) (h : X.K = K := by rfl) : OpR X (compareOp .In) (aInX K) := h ▸ orO o_in (op_inC hu)
theorem k_ninC {X : Cx} (K : PySem.W.Frag) (hu : X.A.units + 64 < cLine) (h : X.K = K := by rfl) : OpR X (compareOp .NotIn) (aNinX K) := h ▸ orO o_nin (op_ninC hu)
def isCtn : D → Bool
  | .lst _ => true
  | .tup _ => true
  | .dic _ _ => true
  | _ => false
@[simp] theorem isCtn_str {b : Str} : isCtn (.str b) = false := rfl
@[simp] theorem isCtn_int {b : Int} : isCtn (.int b) = false := rfl
@[simp] theorem isCtn_bl {b : Bool} : isCtn (.bl b) = false := rfl
@[simp] theorem isCtn_non : isCtn .non = false := rfl
@[simp] theorem isCtn_lst {b : List D} : isCtn (.lst b) = true := rfl
@[simp] theorem isCtn_tup {b : List D} : isCtn (.tup b) = true := rfl
@[simp] theorem isCtn_dic {k : List Key} {b : List D} : isCtn (.dic k b) = true := rfl
def peqC : D → D → Option Bool := fun x y => match y with
  | .str _ => if isCtn x = true then some false else peq x y
  | _ => peq x y
def gEqC : D → D → Option D := fun x y => (peqC x y).map .bl
@[simp] theorem peqC_str {x : D} {b : Str} : peqC x (.str b) = if isCtn x = true then some false else peq x (.str b) := rfl
def strsD : List D → Option (List Str)
  | [] => some []
  | .str x :: ds => (strsD ds).map (x :: ·)
  | _ => none
def pinC : D → D → Option Bool := fun x y => if isCtn x = true then (match y with
  | .tup ys => (strsD ys).map fun _ => false
  | .lst ys => (strsD ys).map fun _ => false
  | _ => none) else pin x y
def gInC : D → D → Option D := fun x y => (pinC x y).map .bl
def gNinC : D → D → Option D := fun x y => (pinC x y).map fun b => .bl (!b)
section
variable {Γ : Wd} {B : Br} {H : Hp}
theorem isCtn_run {x : D} {v : V} (r : repV Γ B H x v) (e : isCtn x = true) : ∃ p, v = .ref p ∧ Ctn Γ.K H p := by
  cases x with
  | lst ds => obtain ⟨p, vs, rfl, g, _⟩ := r; exact ⟨p, rfl, .inl ⟨vs, SqL.of g⟩⟩
  | tup ds => obtain ⟨p, vs, rfl, g, _⟩ := r; exact ⟨p, rfl, .inr (.inl ⟨vs, g⟩)⟩
  | dic ks ds => obtain ⟨p, vs, rfl, g, _⟩ := r; exact ⟨p, rfl, .inr (.inr ⟨_, g⟩)⟩
  | _ => cases e
instance : G2 Γ (aEqC Γ.K) gEqC := ⟨fun {B0 m h H x y d v u Q} R rx ry e q => by
  unfold gEqC at e
  by_cases hs : ∃ b, y = .str b ∧ isCtn x = true
  · obtain ⟨b, rfl, hc⟩ := hs
    rw [peqC_str, if_pos hc] at e
    cases e
    obtain ⟨p, rfl, c⟩ := isCtn_run rx hc
    cases ry
    exact .inr ⟨p, b, rfl, rfl, c, q _ _ same_rfl rep_bl⟩
  · have e2 : peqC x y = peq x y := by
      unfold peqC
      split
      · next b => rw [if_neg (fun z => hs ⟨b, rfl, z⟩)]
      · rfl
    rw [e2] at e
    exact .inl ((inferInstance : G2 Γ (aEq Γ.K) gEq).run R rx ry e q)⟩
theorem strsD_run : ∀ {xs : List D} {vs : List V} {bs : List Str}, reps Γ B H xs vs → strsD xs = some bs → vs = bs.map V.str
  | [], _, _, r, e => by unfold reps at r; cases e; exact r
  | .str b :: xs, _, _, r, e => by
    unfold reps at r
    obtain ⟨v, q, rfl, a, c⟩ := r
    unfold strsD at e
    cases e1 : strsD xs with
    | none => rw [e1] at e; cases e
    | some bs =>
      rw [e1] at e; cases e
      unfold rep at a
      subst a
      rw [strsD_run c e1]; rfl
  | .non :: _, _, _, _, e => by cases e
  | .int _ :: _, _, _, _, e => by cases e
  | .bl _ :: _, _, _, _, e => by cases e
  | .ty _ :: _, _, _, _, e => by cases e
  | .cls _ :: _, _, _, _, e => by cases e
  | .tup _ :: _, _, _, _, e => by cases e
  | .lst _ :: _, _, _, _, e => by cases e
  | .scr _ :: _, _, _, _, e => by cases e
  | .dic _ _ :: _, _, _, _, e => by cases e
  | .obj _ _ _ :: _, _, _, _, e => by cases e
  | .exc _ _ _ :: _, _, _, _, e => by cases e
theorem pinC_run {x y : D} {v u : V} {b : Bool} (rx : repV Γ B H x v) (ry : repV Γ B H y u) (hc : isCtn x = true) (e : pinC x y = some b) : b = false ∧ ∃ p q, ∃ xs : List Str, v = .ref p ∧ u = .ref q ∧ Ctn Γ.K H p ∧ (SqL Γ.K H q (xs.map V.str) ∨ SqT Γ.K H q (xs.map V.str)) := by
  unfold pinC at e
  rw [if_pos hc] at e
  obtain ⟨p, rfl, c⟩ := isCtn_run rx hc
  split at e
  · next ys =>
    obtain ⟨q, vs, rfl, g, a⟩ := ry
    cases e1 : strsD ys with
    | none => rw [e1] at e; cases e
    | some bs =>
      rw [e1] at e; cases e
      rw [strsD_run a e1] at g
      exact ⟨rfl, p, q, bs, rfl, rfl, c, .inr g⟩
  · next ys =>
    obtain ⟨q, vs, rfl, g, a⟩ := ry
    cases e1 : strsD ys with
    | none => rw [e1] at e; cases e
    | some bs =>
      rw [e1] at e; cases e
      rw [strsD_run a e1] at g
      exact ⟨rfl, p, q, bs, rfl, rfl, c, .inl (SqL.of g)⟩
  · cases e
instance : G2 Γ (aInX Γ.K) gInC := ⟨fun {B0 m h H x y d v u Q} R rx ry e q => by
  unfold gInC at e
  cases e1 : pinC x y with
  | none => rw [e1] at e; cases e
  | some b =>
    rw [e1] at e; cases e
    by_cases hc : isCtn x = true
    · obtain ⟨rfl, p, r, xs, rfl, rfl, c, g⟩ := pinC_run rx ry hc e1
      exact .inr ⟨p, r, xs, rfl, rfl, c, g, q _ _ same_rfl rep_bl⟩
    · unfold pinC at e1
      rw [if_neg hc] at e1
      exact .inl ((inferInstance : G2 Γ (aIn Γ.K) gIn).run R rx ry (by unfold gIn; rw [e1]; rfl) q)⟩
instance : G2 Γ (aNinX Γ.K) gNinC := ⟨fun {B0 m h H x y d v u Q} R rx ry e q => by
  unfold gNinC at e
  cases e1 : pinC x y with
  | none => rw [e1] at e; cases e
  | some b =>
    rw [e1] at e; cases e
    by_cases hc : isCtn x = true
    · obtain ⟨rfl, p, r, xs, rfl, rfl, c, g⟩ := pinC_run rx ry hc e1
      exact .inr ⟨p, r, xs, rfl, rfl, c, g, q _ _ same_rfl rep_bl⟩
    · unfold pinC at e1
      rw [if_neg hc] at e1
      exact .inl ((inferInstance : G2 Γ (aNin Γ.K) gNin).run R rx ry (by unfold gNin; rw [e1]; rfl) q)⟩
end
end S
end

section
namespace S
open PySem PySem.Spec PyProof.Rows L2 Z LamX
/-! ### more plain facts -/
@[simp] theorem le_size {n : Nat} (h : n ≤ 16777216) : (n ≤ sizeLine) = True := by rw [sizeLine_eq]; exact eq_true h
@[simp] theorem lt_size {n : Nat} (h : n < 16777216) : (n < sizeLine) = True := by rw [sizeLine_eq]; exact eq_true h
@[simp] theorem gEq_def {x y : D} : gEq x y = (peq x y).map .bl := rfl
@[simp] theorem gNe_def {x y : D} : gNe x y = (peq x y).map fun b => .bl (!b) := rfl
@[simp] theorem gIn_def {x y : D} : gIn x y = (pin x y).map .bl := rfl
@[simp] theorem gNin_def {x y : D} : gNin x y = (pin x y).map fun b => .bl (!b) := rfl
@[simp] theorem gEqC_def {x y : D} : gEqC x y = (peqC x y).map .bl := rfl
@[simp] theorem gInC_def {x y : D} : gInC x y = (pinC x y).map .bl := rfl
@[simp] theorem gNinC_def {x y : D} : gNinC x y = (pinC x y).map fun b => .bl (!b) := rfl
@[simp] theorem ofS_inj {a b : String} : (Str.ofString a = Str.ofString b) ↔ a = b := by
  constructor
  · intro h
    rw [Str.ofString_eq_toList, Str.ofString_eq_toList] at h
    have h3 : a.toList.map Char.toNat = b.toList.map Char.toNat := by
      have := congrArg (fun x => x.cps.toList) h
      simpa using this
    have inj : ∀ {xs ys : List Char}, xs.map Char.toNat = ys.map Char.toNat → xs = ys := by
      intro xs
      induction xs with
      | nil => intro ys e; cases ys with | nil => rfl | cons => cases e
      | cons x xs ih =>
        intro ys e
        cases ys with
        | nil => cases e
        | cons y ys =>
          rw [List.map_cons, List.map_cons, List.cons.injEq] at e
          rw [ih e.2, Char.ext (UInt32.toNat_inj.mp e.1)]
    exact String.toList_inj.mp (inj h3)
  · intro h; rw [h]
theorem lcS_map {g : GG} {tt : ET} {te : EE} {s : En} {h : MH} {s1 : D → En} {b : D → Bool} {y : D → D} : ∀ {ds acc : List D}, (∀ d ∈ ds, g (.dat d) s h = .nx (s1 d) h ∧ tt (s1 d) h = .ok (b d) h ∧ (b d = true → te (s1 d) h = .ok (.dat (y d)) h)) → acc.length + ds.length ≤ sizeLine →
    lcS g tt te ds s h acc = .ok (.dat (.lst (acc ++ (ds.filter b).map y))) h
  | [], acc, _, _ => by simp [lcS]
  | d :: ds, acc, hd, hl => by
    obtain ⟨h1, h2, h3⟩ := hd d List.mem_cons_self
    rw [List.length_cons] at hl
    unfold lcS
    rw [h1]
    simp only [h2]
    cases hb : b d with
    | false =>
      simp only [List.filter_cons, hb, Bool.false_eq_true, if_false]
      exact lcS_map (fun d hm => hd d (List.mem_cons_of_mem _ hm)) (by omega)
    | true =>
      simp only [h3 hb]
      rw [if_pos (by omega), lcS_map (fun d hm => hd d (List.mem_cons_of_mem _ hm)) (by rw [List.length_append, List.length_singleton]; omega)]
      simp [List.filter_cons, hb]
theorem loop_inv {g : GG} {b : SS} (I : Nat → En → MH → Prop) : ∀ (ds : List D) (i : Nat) (s : En) (h : MH), I i s h → (∀ j d s h, I j s h → d ∈ ds → j < i + ds.length → ∃ s' h', (g (.dat d) s h).bind b = .nx s' h' ∧ I (j + 1) s' h') →
    ∃ s' h', loopS g b ds s h = .nx s' h' ∧ I (i + ds.length) s' h'
  | [], i, s, h, hi, _ => ⟨s, h, rfl, hi⟩
  | d :: ds, i, s, h, hi, hs => by
    obtain ⟨s', h', e, hi'⟩ := hs i d s h hi List.mem_cons_self (by rw [List.length_cons]; omega)
    rw [loopS_cons, e]
    obtain ⟨s2, h2, e2, hi2⟩ := loop_inv I ds (i + 1) s' h' hi' (fun j d s h hj hm hl => hs j d s h hj (List.mem_cons_of_mem _ hm) (by rw [List.length_cons]; omega))
    exact ⟨s2, h2, e2, by rw [List.length_cons, show i + (ds.length + 1) = i + 1 + ds.length by omega]; exact hi2⟩
/-! ### words -/
abbrev smallT : Str := "abcdefghijklmnopqrstuvwxyz"
abbrev digT : Str := "0123456789"
def sgnB (c : Nat) : Bool := decide (c ∈ smallT.cps.toList) || decide (c ∈ digT.cps.toList)
def wordL : List Nat → Bool
  | [] => false
  | c :: cs => decide (cs.length ≤ 7) && decide (c ∈ smallT.cps.toList) && (c :: cs).all sgnB
def wordB (z : Str) : Bool := wordL z.cps.toList
theorem chr_in {c : Nat} {z : Str} : pin (.str ⟨#[c]⟩) (.str z) = some (decide (c ∈ z.cps.toList)) := rfl
@[simp] theorem boolsD_bl {b : Bool} {ds : List D} : boolsD (.bl b :: ds) = (boolsD ds).map (b :: ·) := rfl
@[simp] theorem boolsD_nil : boolsD [] = some [] := rfl
theorem boolsD_map {α : Type} {f : α → Bool} : ∀ {xs : List α}, boolsD (xs.map fun x => .bl (f x)) = some (xs.map f)
  | [] => rfl
  | x :: xs => by rw [List.map_cons, List.map_cons]; unfold boolsD; rw [boolsD_map]; rfl
/-! ### what repr tells -/
mutual
def rokD : D → Option Nat
  | .non => some 0
  | .bl _ => some 0
  | .int i => if i.natAbs < 1000000000000 then some 40 else none
  | .str x => if x.cps.toList.all (fun c => decide (c < 16 ^ 8)) = true then some x.cps.size else none
  | .lst ds => rokDs ds
  | .tup ds => rokDs ds
  | _ => none
def rokDs : List D → Option Nat
  | [] => some 0
  | d :: ds => match rokD d, rokDs ds with
    | some a, some b => some (a + b + 2)
    | _, _ => none
end
mutual
theorem rokD_ok : ∀ (d : D) (n : Nat), rokD d = some n → ∃ x, toP d = some x ∧ x.showable = true ∧ x.hasDict = false ∧ x.leavesShort 13 = true ∧ x.weight ≤ n
  | .non, n, e => by unfold rokD at e; cases e; exact ⟨_, by unfold toP; rfl, rfl, rfl, rfl, by simp [PyData.weight]⟩
  | .bl b, n, e => by unfold rokD at e; cases e; exact ⟨_, by unfold toP; rfl, rfl, rfl, rfl, by simp [PyData.weight]⟩
  | .int i, n, e => by
    unfold rokD at e
    split at e
    · next l =>
      cases e
      have hl : i.natAbs.log2 < 40 := by
        rcases Nat.eq_zero_or_pos i.natAbs with z | z
        · rw [z]; decide
        · exact (Nat.log2_lt (by omega)).mpr (by omega)
      refine ⟨_, by unfold toP; rfl, ?_, rfl, ?_, ?_⟩
      · simp only [PyData.showable]; exact decide_eq_true (by omega)
      · simp only [PyData.leavesShort]; exact decide_eq_true (PyData.shown_int_le (by omega))
      · simp only [PyData.weight]; split <;> omega
    · cases e
  | .str x, n, e => by
    unfold rokD at e
    split at e
    · next l => cases e; exact ⟨_, by unfold toP; rfl, rfl, rfl, by simp only [PyData.leavesShort]; exact l, by simp [PyData.weight]⟩
    · cases e
  | .lst ds, n, e => by
    unfold rokD at e
    obtain ⟨xs, a1, a2, a3, a4, a5⟩ := rokDs_ok ds n e
    refine ⟨.list xs, by unfold toP; rw [a1]; rfl, ?_, ?_, ?_, ?_⟩
    · simp only [PyData.showable]; exact a2
    · simp only [PyData.hasDict]; exact a3
    · simp only [PyData.leavesShort]; exact a4
    · simp only [PyData.weight]; exact a5
  | .tup ds, n, e => by
    unfold rokD at e
    obtain ⟨xs, a1, a2, a3, a4, a5⟩ := rokDs_ok ds n e
    refine ⟨.tuple xs, by unfold toP; rw [a1]; rfl, ?_, ?_, ?_, ?_⟩
    · simp only [PyData.showable]; exact a2
    · simp only [PyData.hasDict]; exact a3
    · simp only [PyData.leavesShort]; exact a4
    · simp only [PyData.weight]; exact a5
  | .ty _, _, e => by unfold rokD at e; cases e
  | .cls _, _, e => by unfold rokD at e; cases e
  | .scr _, _, e => by unfold rokD at e; cases e
  | .dic _ _, _, e => by unfold rokD at e; cases e
  | .obj _ _ _, _, e => by unfold rokD at e; cases e
  | .exc _ _ _, _, e => by unfold rokD at e; cases e
theorem rokDs_ok : ∀ (ds : List D) (n : Nat), rokDs ds = some n → ∃ xs, toPs ds = some xs ∧ PyData.showableAll xs = true ∧ PyData.hasDictAll xs = false ∧ PyData.leavesShortAll 13 xs = true ∧ PyData.weightAll xs ≤ n
  | [], n, e => by unfold rokDs at e; cases e; exact ⟨_, by unfold toPs; rfl, rfl, rfl, rfl, by simp [PyData.weightAll]⟩
  | d :: ds, n, e => by
    unfold rokDs at e
    cases e1 : rokD d with
    | none => simp only [e1] at e; cases e
    | some a =>
      cases e2 : rokDs ds with
      | none => simp only [e1, e2] at e; cases e
      | some b =>
        simp only [e1, e2] at e
        cases e
        obtain ⟨x, a1, a2, a3, a4, a5⟩ := rokD_ok d a e1
        obtain ⟨xs, b1, b2, b3, b4, b5⟩ := rokDs_ok ds b e2
        refine ⟨x :: xs, by unfold toPs; rw [a1, b1], ?_, ?_, ?_, ?_⟩
        · simp only [PyData.showableAll, a2, b2, Bool.and_true]
        · simp only [PyData.hasDictAll, a3, b3, Bool.or_false]
        · simp only [PyData.leavesShortAll, a4, b4, Bool.and_true]
        · simp only [PyData.weightAll]; omega
end
mutual
def dpD : D → Nat
  | .lst ds => dpDs ds + 1
  | .tup ds => dpDs ds + 1
  | _ => 0
def dpDs : List D → Nat
  | [] => 0
  | d :: ds => max (dpD d) (dpDs ds)
end
mutual
theorem dpD_ok : ∀ (d : D) (x : PyData), toP d = some x → x.depth = dpD d
  | .non, x, e => by unfold toP at e; cases e; simp [PyData.depth, dpD]
  | .bl _, x, e => by unfold toP at e; cases e; simp [PyData.depth, dpD]
  | .int _, x, e => by unfold toP at e; cases e; simp [PyData.depth, dpD]
  | .str _, x, e => by unfold toP at e; cases e; simp [PyData.depth, dpD]
  | .lst ds, x, e => by
    unfold toP at e
    cases e1 : toPs ds with
    | none => rw [e1] at e; cases e
    | some xs => rw [e1] at e; cases e; simp only [PyData.depth, dpD, dpDs_ok ds xs e1]
  | .tup ds, x, e => by
    unfold toP at e
    cases e1 : toPs ds with
    | none => rw [e1] at e; cases e
    | some xs => rw [e1] at e; cases e; simp only [PyData.depth, dpD, dpDs_ok ds xs e1]
  | .ty _, _, e => by unfold toP at e; cases e
  | .cls _, _, e => by unfold toP at e; cases e
  | .scr _, _, e => by unfold toP at e; cases e
  | .dic _ _, _, e => by unfold toP at e; cases e
  | .obj _ _ _, _, e => by unfold toP at e; cases e
  | .exc _ _ _, _, e => by unfold toP at e; cases e
theorem dpDs_ok : ∀ (ds : List D) (xs : List PyData), toPs ds = some xs → PyData.depthAll xs = dpDs ds
  | [], xs, e => by unfold toPs at e; cases e; simp [PyData.depthAll, dpDs]
  | d :: ds, xs, e => by
    unfold toPs at e
    cases e1 : toP d with
    | none => simp only [e1] at e; cases e
    | some x =>
      cases e2 : toPs ds with
      | none => simp only [e1, e2] at e; cases e
      | some ys => simp only [e1, e2] at e; cases e; simp only [PyData.depthAll, dpDs, dpD_ok d x e1, dpDs_ok ds ys e2]
end
/-- repr is told -/
theorem gRepr_lst {ds : List D} {n : Nat} (e : rokD (.lst ds) = some n) (hn : n ≤ 1000000) (hd : dpD (.lst ds) ≤ 60) : ∃ z, gRepr [.lst ds] = some (.str z) := by
  obtain ⟨x, a1, a2, a3, a4, a5⟩ := rokD_ok _ n e
  refine ⟨x.shown, ?_⟩
  unfold gRepr
  simp only [a1]
  rw [if_pos ⟨a2, a3, by rw [dpD_ok _ _ a1]; exact hd, PyData.shown_fits (B := 13) (by omega) (by omega) a4 (by omega)⟩]
theorem gRepr_tup {ds : List D} {n : Nat} (e : rokD (.tup ds) = some n) (hn : n ≤ 1000000) (hd : dpD (.tup ds) ≤ 60) : ∃ z, gRepr [.tup ds] = some (.str z) := by
  obtain ⟨x, a1, a2, a3, a4, a5⟩ := rokD_ok _ n e
  refine ⟨x.shown, ?_⟩
  unfold gRepr
  simp only [a1]
  rw [if_pos ⟨a2, a3, by rw [dpD_ok _ _ a1]; exact hd, PyData.shown_fits (B := 13) (by omega) (by omega) a4 (by omega)⟩]
theorem lcS_of {α : Type} {f : α → D} {g : GG} {tt : ET} {te : EE} {s : En} {h : MH} {s1 : α → En} {b : α → Bool} {y : α → D} : ∀ {xs : List α} {acc : List D}, (∀ x ∈ xs, g (.dat (f x)) s h = .nx (s1 x) h ∧ tt (s1 x) h = .ok (b x) h ∧ (b x = true → te (s1 x) h = .ok (.dat (y x)) h)) → acc.length + xs.length ≤ sizeLine →
    lcS g tt te (xs.map f) s h acc = .ok (.dat (.lst (acc ++ (xs.filter b).map y))) h
  | [], acc, _, _ => by simp [lcS]
  | d :: ds, acc, hd, hl => by
    obtain ⟨h1, h2, h3⟩ := hd d List.mem_cons_self
    rw [List.length_cons] at hl
    rw [List.map_cons]
    unfold lcS
    rw [h1]
    simp only [h2]
    cases hb : b d with
    | false =>
      simp only [List.filter_cons, hb, Bool.false_eq_true, if_false]
      exact lcS_of (fun d hm => hd d (List.mem_cons_of_mem _ hm)) (by omega)
    | true =>
      simp only [h3 hb]
      rw [if_pos (by omega), lcS_of (fun d hm => hd d (List.mem_cons_of_mem _ hm)) (by rw [List.length_append, List.length_singleton]; omega)]
      simp [List.filter_cons, hb]
theorem toPs_strs : ∀ ns : List Str, toPs (ns.map .str) = some (ns.map .str)
  | [] => by simp [toPs]
  | n :: ns => by simp [toPs, toP, toPs_strs ns]
theorem deq_nil_strs {ns : List Str} (h : ns.all PyData.strOk = true) : deq (.lst (ns.map .str)) (.lst []) = some ns.isEmpty := by
  have e1 : toP (.lst (ns.map .str)) = some (.list (ns.map .str)) := by unfold toP; rw [toPs_strs]; rfl
  have e2 : toP (.lst []) = some (.list []) := by unfold toP; rw [show toPs [] = some [] from by unfold toPs; rfl]; rfl
  unfold deq
  simp only [e1, e2]
  rw [if_pos ⟨shaped_strs ns h, by decide +kernel⟩]
  cases ns with
  | nil => simp [PyData.eqv, PyData.eqvAll]
  | cons n ns => simp [PyData.eqv, PyData.eqvAll]
theorem deq_nil_nil : deq (.lst []) (.lst []) = some true := deq_nil_strs (ns := []) rfl
theorem app_cpsZ (x y : Str) : (x ++ y).cps.toList = x.cps.toList ++ y.cps.toList := by
  show (x.cps ++ y.cps).toList = _
  rw [Array.toList_append]
theorem app_lenZ (x y : Str) : (x ++ y).length = x.length + y.length := by
  show (x.cps ++ y.cps).size = _
  rw [Array.size_append]; rfl
end S
end

section
/-! SS: the tree of questions of a sort, answered by an order. -/
namespace S
open PySem PySem.W PyProof.Rows

/-- the tree answered by lt -/
def KRun {α : Type} (lt : Nat → Nat → Bool) : KasT α → α
  | .ret a => a
  | .ask i j k => KRun lt (k (lt i j))
theorem KRun_bind {α β : Type} (lt : Nat → Nat → Bool) (f : α → KasT β) : ∀ t : KasT α, KRun lt (t.bind f) = KRun lt (f (KRun lt t))
  | .ret _ => rfl
  | .ask i j k => KRun_bind lt f (k (lt i j))
/-- it asks for things below n alone -/
def KIn {α : Type} (n : Nat) : KasT α → Prop
  | .ret _ => True
  | .ask i j k => i < n ∧ j < n ∧ ∀ b, KIn n (k b)
/-- ... and every answer of it is p -/
def KAll {α : Type} (p : α → Prop) : KasT α → Prop
  | .ret a => p a
  | .ask _ _ k => ∀ b, KAll p (k b)
theorem KIn_bind {α β : Type} {n : Nat} {f : α → KasT β} {p : α → Prop} (h : ∀ a, p a → KIn n (f a)) : ∀ t : KasT α, KIn n t → KAll p t → KIn n (t.bind f)
  | .ret a, _, q => h a q
  | .ask i j k, ⟨h1, h2, h3⟩, q => ⟨h1, h2, fun b => KIn_bind h (k b) (h3 b) (q b)⟩
theorem KAll_bind {α β : Type} {f : α → KasT β} {p : α → Prop} {r : β → Prop} (h : ∀ a, p a → KAll r (f a)) : ∀ t : KasT α, KAll p t → KAll r (t.bind f)
  | .ret a, q => h a q
  | .ask i j k, q => fun b => KAll_bind h (k b) (q b)
/-- the tree is run where every question keeps Iv -/
theorem kasWp_run {α : Type} {cmp : Nat → Nat → (Bool → Shared → Prop) → Shared → Prop} {lt : Nat → Nat → Bool} {Iv : Shared → Prop} {n : Nat}
    (h : ∀ i j C s, i < n → j < n → Iv s → (∀ s', Iv s' → C (lt i j) s') → cmp i j C s) {Q : α → Shared → Prop} :
    ∀ (t : KasT α) (s : Shared), KIn n t → Iv s → (∀ s', Iv s' → Q (KRun lt t) s') → t.kasWp cmp Q s
  | .ret a, s, _, hi, q => q s hi
  | .ask i j k, s, ⟨h1, h2, h3⟩, hi, q => h i j _ s h1 h2 hi fun s' hs => kasWp_run h (k (lt i j)) s' (h3 _) hs q

section
variable {lt : Nat → Nat → Bool}
def Pk (p : Array Nat) (i : Nat) : Nat := p.getD i 0
theorem Pk_eq (p : Array Nat) (i : Nat) : Pk p i = (p[i]?).getD 0 := by
  show p.getD i 0 = _
  rw [Array.getD_eq_getD_getElem?]
theorem Pk_rev {p : Array Nat} {i j : Nat} (hj : j ≤ p.size) (k : Nat) : Pk (kas_rev p i j) k = if i ≤ k ∧ k < j then Pk p (i + j - 1 - k) else Pk p k := by
  rw [Pk_eq]
  unfold kas_rev
  rw [getElem?_mirror_all hj]
  split <;> exact (Pk_eq _ _).symm
theorem Pk_bub {p : Array Nat} {src d : Nat} (hs : src < p.size) (hd : d ≤ src) (k : Nat) : Pk (bubble p src d) k = if k = src - d then Pk p src else if src - d < k ∧ k ≤ src then Pk p (k - 1) else Pk p k := by
  rw [Pk_eq (bubble p src d), getElem?_bubble hs d hd, Pk_eq p src, Pk_eq p (k - 1), Pk_eq p k]
  split
  · rfl
  · split <;> rfl
/-- all its items are below n -/
def Blw (n : Nat) (p : Array Nat) : Prop := ∀ i, Pk p i < n
theorem Blw.rev {n i j : Nat} {p : Array Nat} (h : Blw n p) : Blw n (kas_rev p i j) := by
  intro k
  by_cases hk : k < (kas_rev p i j).size
  · have hm : (kas_rev p i j)[k] ∈ (kas_rev p i j).toList := by simp
    have hm2 := (Array.perm_iff_toList_perm.mp (mirror_perm p i j ((j - i) / 2))).mem_iff.mp hm
    obtain ⟨m, hm3, e⟩ := List.getElem_of_mem hm2
    have e1 : Pk (kas_rev p i j) k = (kas_rev p i j)[k] := by simp [Pk, Array.getD, hk]
    have e2 : Pk p m = p.toList[m] := by
      have hl : m < p.size := by simpa using hm3
      simp [Pk, Array.getD, hl]
    rw [e1, ← e, ← e2]
    exact h m
  · have e1 : Pk (kas_rev p i j) k = 0 := by simp [Pk, Array.getD, hk]
    rw [e1]
    exact Nat.lt_of_le_of_lt (Nat.zero_le _) (h 0)
theorem Blw.bub {n i j : Nat} {p : Array Nat} (h : Blw n p) : Blw n (bubble p i j) := by
  intro k
  by_cases hk : k < (bubble p i j).size
  · have hm : (bubble p i j)[k] ∈ (bubble p i j).toList := by simp
    have hm2 := (Array.perm_iff_toList_perm.mp (bubble_perm p i j)).mem_iff.mp hm
    obtain ⟨m, hm3, e⟩ := List.getElem_of_mem hm2
    have e1 : Pk (bubble p i j) k = (bubble p i j)[k] := by simp [Pk, Array.getD, hk]
    have e2 : Pk p m = p.toList[m] := by
      have hl : m < p.size := by simpa using hm3
      simp [Pk, Array.getD, hl]
    rw [e1, ← e, ← e2]
    exact h m
  · have e1 : Pk (bubble p i j) k = 0 := by simp [Pk, Array.getD, hk]
    rw [e1]
    exact Nat.lt_of_le_of_lt (Nat.zero_le _) (h 0)
theorem in_asc {n : Nat} {p : Array Nat} (h : Blw n p) : ∀ f m, KIn n (kas_asc p f m)
  | 0, m => trivial
  | f + 1, m => ⟨h _, h _, fun b => by
    cases b
    · exact in_asc h f (m + 1)
    · exact trivial⟩
theorem all_true {α : Type} {p : α → Prop} (h : ∀ a, p a) : ∀ t : KasT α, KAll p t
  | .ret a => h a
  | .ask _ _ k => fun b => all_true h (k b)
theorem in_desc {n : Nat} : ∀ f (p : Array Nat) m q, Blw n p → KIn n (kas_desc f p m q)
  | 0, p, m, q, _ => trivial
  | f + 1, p, m, q, h => ⟨h _, h _, fun b => by
    cases b
    · refine ⟨h _, h _, fun d => ?_⟩
      cases d
      · exact in_desc f p _ _ h
      · exact trivial
    · simp only [if_true]
      split
      · exact in_desc f _ _ _ h.rev
      · exact in_desc f _ _ _ h⟩
theorem blw_desc {n : Nat} : ∀ f (p : Array Nat) m q, Blw n p → KAll (fun r => Blw n r.1) (kas_desc f p m q)
  | 0, p, m, q, h => h
  | f + 1, p, m, q, h => fun b => by
    cases b
    · intro d
      cases d
      · exact blw_desc f p _ _ h
      · exact h
    · simp only [if_true]
      split
      · exact blw_desc f _ _ _ h.rev
      · exact blw_desc f _ _ _ h
theorem in_tail3 {n m r : Nat} {p : Array Nat} (h : Blw n p) : KIn n (kas_tail3 m r p) := by
  unfold kas_tail3
  refine KIn_bind (p := fun _ => True) (fun _ _ => ?_) _ (in_asc h.rev _ _) (all_true (fun _ => trivial) _)
  exact trivial
theorem blw_tail3 {n m r : Nat} {p : Array Nat} (h : Blw n p) : KAll (fun r => Blw n r.2) (kas_tail3 m r p) := by
  unfold kas_tail3
  refine KAll_bind (p := fun _ => True) (fun _ _ => ?_) _ (all_true (fun _ => trivial) _)
  exact h.rev
theorem in_descPart {n m r : Nat} {p : Array Nat} (h : Blw n p) : KIn n (kas_descPart m r p) :=
  KIn_bind (fun a ha => by
    split
    · exact in_tail3 (Blw.rev ha)
    · exact in_tail3 ha) _ (in_desc _ _ _ _ h) (blw_desc _ _ _ _ h)
theorem blw_descPart {n m r : Nat} {p : Array Nat} (h : Blw n p) : KAll (fun r => Blw n r.2) (kas_descPart m r p) :=
  KAll_bind (fun a ha => by
    split
    · exact blw_tail3 (Blw.rev ha)
    · exact blw_tail3 ha) _ (blw_desc _ _ _ _ h)
theorem in_count {n r : Nat} {p : Array Nat} (h : Blw n p) : KIn n (kas_count r p) :=
  KIn_bind (p := fun _ => True) (fun a _ => by
    split
    · exact trivial
    · split
      · refine ⟨h _, h _, fun b => ?_⟩
        cases b
        · exact in_descPart h.rev
        · exact trivial
      · exact in_descPart h) _ (in_asc h _ _) (all_true (fun _ => trivial) _)
theorem blw_count {n r : Nat} {p : Array Nat} (h : Blw n p) : KAll (fun r => Blw n r.2) (kas_count r p) :=
  KAll_bind (p := fun _ => True) (fun a _ => by
    split
    · exact h
    · split
      · intro b
        cases b
        · exact blw_descPart h.rev
        · exact h
      · exact blw_descPart h) _ (all_true (fun _ => trivial) _)
theorem in_place {n : Nat} {p : Array Nat} (h : Blw n p) (k : Nat) : ∀ f l r, KIn n (kas_place p k f l r)
  | 0, l, _ => trivial
  | f + 1, l, r => by
    unfold kas_place
    split
    · exact trivial
    · refine ⟨h _, h _, fun b => ?_⟩
      cases b
      · exact in_place h k f _ _
      · exact in_place h k f _ _
theorem in_bin {n : Nat} : ∀ f (p : Array Nat) k, Blw n p → KIn n (kas_bin f p k)
  | 0, p, _, _ => trivial
  | f + 1, p, k, h => KIn_bind (p := fun _ => True) (fun l _ => in_bin f _ _ h.bub) _ (in_place h k _ _ _) (all_true (fun _ => trivial) _)
theorem in_sort {n : Nat} (h1 : 1 ≤ n) : KIn n (kas_sort n) := by
  have h : Blw n (List.toArray (List.range n)) := by
    intro i
    by_cases hi : i < n
    · simp [Pk, Array.getD, hi]
    · simp [Pk, Array.getD, hi]
      omega
  refine KIn_bind (fun a ha => ?_) _ (in_count h) (blw_count h)
  split
  · exact in_bin _ _ _ ha
  · exact trivial
end
end S
end

section
/-! ST: the tree of a sort, answered by an order, gives a sorted rearrangement. -/
namespace S
open PySem PySem.W PyProof.Rows
section
variable {lt : Nat → Nat → Bool}
/-- not behind -/
abbrev Le (lt : Nat → Nat → Bool) (a b : Nat) : Prop := lt b a = false
def Up (lt : Nat → Nat → Bool) (p : Array Nat) (m : Nat) : Prop := ∀ i j, i ≤ j → j < m → Le lt (Pk p i) (Pk p j)
def Dn (lt : Nat → Nat → Bool) (p : Array Nat) (m : Nat) : Prop := ∀ i j, i ≤ j → j < m → Le lt (Pk p j) (Pk p i)
/-- the last q + 1 of m are alike -/
def Alk (lt : Nat → Nat → Bool) (p : Array Nat) (m q : Nat) : Prop := q + 1 ≤ m ∧ ∀ i j, m ≤ i + (q + 1) → i < m → m ≤ j + (q + 1) → j < m → Le lt (Pk p i) (Pk p j)
variable (O : SrtO.Swo lt)
include O
theorem Le.refl (a : Nat) : Le lt a a := O.refl a
theorem Le.trans {a b c : Nat} (h1 : Le lt a b) (h2 : Le lt b c) : Le lt a c := O.tr a b c h1 h2
theorem Le.of_lt {a b : Nat} (h : lt a b = true) : Le lt a b := O.asym a b h
theorem Up.succ {p : Array Nat} {m : Nat} (h : Up lt p m) (h1 : 1 ≤ m) (hl : Le lt (Pk p (m - 1)) (Pk p m)) : Up lt p (m + 1) := by
  intro i j hij hj
  by_cases e : j = m
  · subst e
    by_cases e2 : i = j
    · subst e2; exact Le.refl O _
    · exact Le.trans O (h i (j - 1) (by omega) (by omega)) hl
  · exact h i j hij (by omega)
theorem Dn.succ {p : Array Nat} {m : Nat} (h : Dn lt p m) (h1 : 1 ≤ m) (hl : Le lt (Pk p m) (Pk p (m - 1))) : Dn lt p (m + 1) := by
  intro i j hij hj
  by_cases e : j = m
  · subst e
    by_cases e2 : i = j
    · subst e2; exact Le.refl O _
    · exact Le.trans O hl (h i (j - 1) (by omega) (by omega))
  · exact h i j hij (by omega)
theorem up_one {p : Array Nat} : Up lt p 1 := fun i j h1 h2 => by
  obtain rfl : i = j := by omega
  exact Le.refl O _
theorem alk0 {p : Array Nat} {m : Nat} (h : 1 ≤ m) : Alk lt p m 0 := ⟨h, fun i j h1 h2 h3 h4 => by
  obtain rfl : i = j := by omega
  exact Le.refl O _⟩
/-- turning the alike ones keeps it -/
theorem Dn.turn {p : Array Nat} {m q : Nat} (hz : m ≤ p.size) (h : Dn lt p m) (a : Alk lt p m q) : Dn lt (kas_rev p (m - (q + 1)) m) m := by
  intro i j hij hj
  have a1 := a.1
  rw [Pk_rev hz i, Pk_rev hz j]
  by_cases hi : m - (q + 1) ≤ i
  · rw [if_pos (⟨hi, by omega⟩ : m - (q + 1) ≤ i ∧ i < m), if_pos (⟨by omega, hj⟩ : m - (q + 1) ≤ j ∧ j < m)]
    exact a.2 _ _ (by omega) (by omega) (by omega) (by omega)
  · rw [if_neg (show ¬ (m - (q + 1) ≤ i ∧ i < m) by omega)]
    split
    · exact h _ _ (by omega) (by omega)
    · exact h _ _ hij hj
theorem Dn.turn_last {p : Array Nat} {m q : Nat} (hz : m ≤ p.size) (a : Alk lt p m q) (hl : Le lt (Pk p m) (Pk p (m - 1))) : Le lt (Pk (kas_rev p (m - (q + 1)) m) m) (Pk (kas_rev p (m - (q + 1)) m) (m - 1)) := by
  have a1 := a.1
  rw [Pk_rev hz m, Pk_rev hz (m - 1), if_neg (show ¬ (m - (q + 1) ≤ m ∧ m < m) by omega), if_pos (show m - (q + 1) ≤ m - 1 ∧ m - 1 < m by omega)]
  exact Le.trans O hl (a.2 _ _ (by omega) (by omega) (by omega) (by omega))
theorem run_asc {p : Array Nat} : ∀ f m, 1 ≤ m → Up lt p m → Up lt p (KRun lt (kas_asc p f m)) ∧ m ≤ KRun lt (kas_asc p f m) ∧ KRun lt (kas_asc p f m) ≤ m + f ∧
    (KRun lt (kas_asc p f m) = m + f ∨ lt (Pk p (KRun lt (kas_asc p f m))) (Pk p (KRun lt (kas_asc p f m) - 1)) = true)
  | 0, m, _, h => ⟨h, Nat.le_refl _, Nat.le_refl _, .inl rfl⟩
  | f + 1, m, h1, h => by
    rcases hb : lt (p.getD m 0) (p.getD (m - 1) 0) with _ | _
    · have e : KRun lt (kas_asc p (f + 1) m) = KRun lt (kas_asc p f (m + 1)) := by
        show KRun lt (if lt (p.getD m 0) (p.getD (m - 1) 0) = true then _ else _) = _
        rw [hb, if_neg (by decide)]
      rw [e]
      have ih := run_asc f (m + 1) (by omega) (h.succ O h1 hb)
      exact ⟨ih.1, by omega, by omega, ih.2.2.2.imp (by omega) id⟩
    · have e : KRun lt (kas_asc p (f + 1) m) = m := by
        show KRun lt (if lt (p.getD m 0) (p.getD (m - 1) 0) = true then _ else _) = _
        rw [hb, if_pos rfl]
        rfl
      rw [e]
      exact ⟨h, Nat.le_refl _, by omega, .inr hb⟩
/-- a rearrangement, of one size -/
abbrev Prm (p p' : Array Nat) : Prop := p'.Perm p
theorem rev_size {p : Array Nat} {i j : Nat} : (kas_rev p i j).size = p.size := mirror_size _ _ _ _
theorem rev_prm {p : Array Nat} {i j : Nat} : Prm p (kas_rev p i j) := mirror_perm _ _ _ _
theorem run_desc : ∀ f (p : Array Nat) m q, m + f ≤ p.size → Dn lt p m → Alk lt p m q → ∃ p' m' q', KRun lt (kas_desc f p m q) = (p', m', q') ∧ Prm p p' ∧ m ≤ m' ∧ m' ≤ m + f ∧ Dn lt p' m' ∧ Alk lt p' m' q'
  | 0, p, m, q, _, h, a => ⟨p, m, q, rfl, Array.Perm.refl _, Nat.le_refl _, Nat.le_refl _, h, a⟩
  | f + 1, p, m, q, hz, h, a => by
    have a1 := a.1
    rcases hb : lt (p.getD m 0) (p.getD (m - 1) 0) with _ | _
    · rcases hd : lt (p.getD (m - 1) 0) (p.getD m 0) with _ | _
      · have e : KRun lt (kas_desc (f + 1) p m q) = KRun lt (kas_desc f p (m + 1) (q + 1)) := by
          show KRun lt (if lt (p.getD m 0) (p.getD (m - 1) 0) = true then _ else _) = _
          rw [hb, if_neg (by decide)]
          show KRun lt (if lt (p.getD (m - 1) 0) (p.getD m 0) = true then _ else _) = _
          rw [hd, if_neg (by decide)]
        rw [e]
        have h1 : Le lt (Pk p m) (Pk p (m - 1)) := hd
        have h2 : Le lt (Pk p (m - 1)) (Pk p m) := hb
        obtain ⟨p', m', q', r1, r2, r3, r4, r5, r6⟩ := run_desc f p (m + 1) (q + 1) (by omega) (h.succ O (by omega) h1) ⟨by omega, fun i j i1 i2 j1 j2 => by
          by_cases ei : i = m
          · by_cases ej : j = m
            · rw [ei, ej]; exact Le.refl O _
            · rw [ei]
              exact Le.trans O h1 (a.2 _ _ (by omega) (by omega) (by omega) (by omega))
          · by_cases ej : j = m
            · rw [ej]
              exact Le.trans O (a.2 _ _ (by omega) (by omega) (by omega) (by omega)) h2
            · exact a.2 _ _ (by omega) (by omega) (by omega) (by omega)⟩
        exact ⟨p', m', q', r1, r2, by omega, by omega, r5, r6⟩
      · have e : KRun lt (kas_desc (f + 1) p m q) = (p, m, q) := by
          show KRun lt (if lt (p.getD m 0) (p.getD (m - 1) 0) = true then _ else _) = _
          rw [hb, if_neg (by decide)]
          show KRun lt (if lt (p.getD (m - 1) 0) (p.getD m 0) = true then _ else _) = _
          rw [hd, if_pos rfl]
          rfl
        exact ⟨p, m, q, e, Array.Perm.refl _, Nat.le_refl _, by omega, h, a⟩
    · have h1 : Le lt (Pk p m) (Pk p (m - 1)) := O.asym _ _ hb
      by_cases hq : q > 0
      · have e : KRun lt (kas_desc (f + 1) p m q) = KRun lt (kas_desc f (kas_rev p (m - (q + 1)) m) (m + 1) 0) := by
          show KRun lt (if lt (p.getD m 0) (p.getD (m - 1) 0) = true then _ else _) = _
          rw [hb, if_pos rfl, if_pos hq]
        rw [e]
        obtain ⟨p', m', q', r1, r2, r3, r4, r5, r6⟩ := run_desc f (kas_rev p (m - (q + 1)) m) (m + 1) 0 (by rw [rev_size O]; omega)
          ((h.turn O (by omega) a).succ O (by omega) (Dn.turn_last O (by omega) a h1)) (alk0 O (by omega))
        exact ⟨p', m', q', r1, r2.trans (rev_prm O), by omega, by omega, r5, r6⟩
      · have e : KRun lt (kas_desc (f + 1) p m q) = KRun lt (kas_desc f p (m + 1) 0) := by
          show KRun lt (if lt (p.getD m 0) (p.getD (m - 1) 0) = true then _ else _) = _
          rw [hb, if_pos rfl, if_neg hq]
        rw [e]
        obtain ⟨p', m', q', r1, r2, r3, r4, r5, r6⟩ := run_desc f p (m + 1) 0 (by omega) (h.succ O (by omega) h1) (alk0 O (by omega))
        exact ⟨p', m', q', r1, r2, by omega, by omega, r5, r6⟩
theorem Dn.up {p : Array Nat} {m : Nat} (hz : m ≤ p.size) (h : Dn lt p m) : Up lt (kas_rev p 0 m) m := by
  intro i j hij hj
  rw [Pk_rev hz i, Pk_rev hz j, if_pos (show 0 ≤ i ∧ i < m by omega), if_pos (show 0 ≤ j ∧ j < m by omega)]
  exact h _ _ (by omega) (by omega)
theorem run_tail3 {p : Array Nat} {m r : Nat} (h1 : 1 ≤ m) (hm : m ≤ r) (hz : r ≤ p.size) (h : Dn lt p m) :
    ∃ m' p', KRun lt (kas_tail3 m r p) = (m', p') ∧ Prm p p' ∧ 1 ≤ m' ∧ m' ≤ r ∧ Up lt p' m' := by
  unfold kas_tail3
  rw [KRun_bind]
  have u := run_asc O (p := kas_rev p 0 m) (r - m) m h1 (h.up O (by omega))
  exact ⟨_, _, rfl, rev_prm O, by omega, by omega, u.1⟩
theorem run_descPart {p : Array Nat} {m r : Nat} (h1 : 1 ≤ m) (hm : m + 1 ≤ r) (hz : r ≤ p.size) (h : Dn lt p (m + 1)) :
    ∃ m' p', KRun lt (kas_descPart m r p) = (m', p') ∧ Prm p p' ∧ 1 ≤ m' ∧ m' ≤ r ∧ Up lt p' m' := by
  unfold kas_descPart
  rw [KRun_bind]
  obtain ⟨p', m', q', r1, r2, r3, r4, r5, r6⟩ := run_desc O (r - (m + 1)) p (m + 1) 0 (by omega) h (alk0 O (by omega))
  have hs : p'.size = p.size := r2.size_eq
  rw [r1]
  dsimp only
  split
  · obtain ⟨m2, p2, s1, s2, s3, s4, s5⟩ := run_tail3 O (p := kas_rev p' (m' - (q' + 1)) m') (m := m') (r := r) (by omega) (by omega) (by rw [rev_size O]; omega) (r5.turn O (by omega) r6)
    exact ⟨m2, p2, s1, (s2.trans (rev_prm O)).trans r2, s3, s4, s5⟩
  · obtain ⟨m2, p2, s1, s2, s3, s4, s5⟩ := run_tail3 O (p := p') (m := m') (r := r) (by omega) (by omega) (by omega) r5
    exact ⟨m2, p2, s1, s2.trans r2, s3, s4, s5⟩
theorem run_count {p : Array Nat} {r : Nat} (h1 : 1 ≤ r) (hz : r ≤ p.size) : ∃ m' p', KRun lt (kas_count r p) = (m', p') ∧ Prm p p' ∧ 1 ≤ m' ∧ m' ≤ r ∧ Up lt p' m' := by
  unfold kas_count
  rw [KRun_bind]
  obtain ⟨u1, u2, u3, u4⟩ := run_asc O (p := p) (r - 1) 1 (Nat.le_refl _) (up_one O)
  generalize KRun lt (kas_asc p (r - 1) 1) = m at *
  by_cases e : m = r
  · rw [if_pos (by simpa using e)]
    exact ⟨m, p, rfl, Array.Perm.refl _, u2, by omega, u1⟩
  · rw [if_neg (by simpa using e)]
    have hl : lt (Pk p m) (Pk p (m - 1)) = true := u4.resolve_left (by omega)
    by_cases hm : m > 1
    · rw [if_pos hm]
      rcases hb : lt (p.getD 0 0) (p.getD (m - 1) 0) with _ | _
      · show ∃ m' p', KRun lt (if lt (p.getD 0 0) (p.getD (m - 1) 0) = true then _ else _) = (m', p') ∧ _
        rw [hb, if_neg (by decide)]
        have hb' : Le lt (Pk p (m - 1)) (Pk p 0) := hb
        have al : ∀ i j, i < m → j < m → Le lt (Pk p i) (Pk p j) := fun i j hi hj =>
          Le.trans O (u1 i (m - 1) (by omega) (by omega)) (Le.trans O hb' (u1 0 j (by omega) hj))
        have d : Dn lt (kas_rev p 0 m) (m + 1) := by
          refine Dn.succ O (fun i j hij hj => ?_) (by omega) ?_
          · rw [Pk_rev (by omega) i, Pk_rev (by omega) j, if_pos (show 0 ≤ i ∧ i < m by omega), if_pos (show 0 ≤ j ∧ j < m by omega)]
            exact al _ _ (by omega) (by omega)
          · rw [Pk_rev (by omega) m, Pk_rev (by omega) (m - 1), if_neg (show ¬ (0 ≤ m ∧ m < m) by omega), if_pos (show 0 ≤ m - 1 ∧ m - 1 < m by omega)]
            exact Le.trans O (Le.of_lt O hl) (al _ _ (by omega) (by omega))
        obtain ⟨m2, p2, s1, s2, s3, s4, s5⟩ := run_descPart O (p := kas_rev p 0 m) (m := m) (r := r) (by omega) (by omega) (by rw [rev_size O]; omega) d
        exact ⟨m2, p2, s1, s2.trans (rev_prm O), s3, s4, s5⟩
      · show ∃ m' p', KRun lt (if lt (p.getD 0 0) (p.getD (m - 1) 0) = true then _ else _) = (m', p') ∧ _
        rw [hb, if_pos rfl]
        exact ⟨m, p, rfl, Array.Perm.refl _, u2, by omega, u1⟩
    · rw [if_neg hm]
      obtain rfl : m = 1 := by omega
      refine run_descPart O (p := p) (m := 1) (r := r) (by omega) (by omega) (by omega) (Dn.succ O (fun i j hij hj => ?_) (by omega) (Le.of_lt O hl))
      obtain rfl : i = j := by omega
      exact Le.refl O _
theorem run_place {p : Array Nat} {k : Nat} (h : Up lt p k) : ∀ f l r, r ≤ l + f → l ≤ r → r ≤ k → (∀ i, i < l → Le lt (Pk p i) (Pk p k)) → (∀ i, r ≤ i → i < k → Le lt (Pk p k) (Pk p i)) →
    KRun lt (kas_place p k f l r) ≤ k ∧ (∀ i, i < KRun lt (kas_place p k f l r) → Le lt (Pk p i) (Pk p k)) ∧ (∀ i, KRun lt (kas_place p k f l r) ≤ i → i < k → Le lt (Pk p k) (Pk p i))
  | 0, l, r, hf, hl, hr, a, b => ⟨by show l ≤ k; omega, a, fun i hi => b i (by have : l ≤ i := hi; omega)⟩
  | f + 1, l, r, hf, hl, hr, a, b => by
    unfold kas_place
    by_cases hg : l ≥ r
    · rw [if_pos hg]
      exact ⟨by show l ≤ k; omega, a, fun i hi => b i (by have : l ≤ i := hi; omega)⟩
    · rw [if_neg hg]
      rcases hb : lt (p.getD k 0) (p.getD ((l + r) / 2) 0) with _ | _
      · have e : KRun lt (KasT.ask (p.getD k 0) (p.getD ((l + r) / 2) 0) fun c => if c = true then kas_place p k f l ((l + r) / 2) else kas_place p k f ((l + r) / 2 + 1) r) = KRun lt (kas_place p k f ((l + r) / 2 + 1) r) := by
          show KRun lt (if lt (p.getD k 0) (p.getD ((l + r) / 2) 0) = true then _ else _) = _
          rw [hb, if_neg (by decide)]
        rw [e]
        have hb' : Le lt (Pk p ((l + r) / 2)) (Pk p k) := hb
        exact run_place h f _ _ (by omega) (by omega) hr (fun i hi => Le.trans O (h i ((l + r) / 2) (by omega) (by omega)) hb') b
      · have e : KRun lt (KasT.ask (p.getD k 0) (p.getD ((l + r) / 2) 0) fun c => if c = true then kas_place p k f l ((l + r) / 2) else kas_place p k f ((l + r) / 2 + 1) r) = KRun lt (kas_place p k f l ((l + r) / 2)) := by
          show KRun lt (if lt (p.getD k 0) (p.getD ((l + r) / 2) 0) = true then _ else _) = _
          rw [hb, if_pos rfl]
        rw [e]
        have hb' : Le lt (Pk p k) (Pk p ((l + r) / 2)) := Le.of_lt O hb
        exact run_place h f _ _ (by omega) (by omega) (by omega) a fun i h1 h2 => Le.trans O hb' (h ((l + r) / 2) i h1 h2)
theorem run_bin : ∀ f (p : Array Nat) k, k + f ≤ p.size → Up lt p k → ∃ p', KRun lt (kas_bin f p k) = p' ∧ Prm p p' ∧ Up lt p' (k + f)
  | 0, p, k, _, h => ⟨p, rfl, Array.Perm.refl _, h⟩
  | f + 1, p, k, hz, h => by
    unfold kas_bin
    rw [KRun_bind]
    obtain ⟨a, b, c⟩ := run_place O h k 0 k (by omega) (by omega) (by omega) (fun i hi => by omega) (fun i h1 h2 => by omega)
    generalize KRun lt (kas_place p k k 0 k) = l at *
    have hu : Up lt (bubble p k (k - l)) (k + 1) := by
      intro i j hij hj
      rw [Pk_bub (by omega) (by omega) i, Pk_bub (by omega) (by omega) j]
      rw [show k - (k - l) = l by omega]
      by_cases e1 : i = l
      · rw [if_pos e1]
        by_cases e2 : j = l
        · rw [if_pos e2]; exact Le.refl O _
        · rw [if_neg e2, if_pos (show l < j ∧ j ≤ k by omega)]
          exact c _ (by omega) (by omega)
      · rw [if_neg e1]
        by_cases e3 : l < i ∧ i ≤ k
        · rw [if_pos e3, if_neg (show ¬ j = l by omega), if_pos (show l < j ∧ j ≤ k by omega)]
          exact h _ _ (by omega) (by omega)
        · rw [if_neg e3]
          by_cases e2 : j = l
          · rw [if_pos e2]
            exact b _ (by omega)
          · rw [if_neg e2]
            split
            · exact h _ _ (by omega) (by omega)
            · exact h _ _ (by omega) (by omega)
    obtain ⟨p', r1, r2, r3⟩ := run_bin f (bubble p k (k - l)) (k + 1) (by rw [bubble_size]; omega) hu
    exact ⟨p', r1, r2.trans (bubble_perm _ _ _), by rw [show k + (f + 1) = k + 1 + f by omega]; exact r3⟩
/-- the sort's own answer -/
theorem run_sort {n : Nat} (h1 : 1 ≤ n) : (KRun lt (kas_sort n)).toList.Perm (List.range n) ∧ Up lt (KRun lt (kas_sort n)) n := by
  unfold kas_sort
  rw [KRun_bind]
  have hz : (List.toArray (List.range n)).size = n := by simp
  obtain ⟨m, p, e, hp, m1, m2, u⟩ := run_count O (p := List.toArray (List.range n)) (r := n) h1 (by omega)
  have hs : p.size = n := by rw [hp.size_eq, hz]
  rw [e]
  dsimp only
  have pm : ∀ p' : Array Nat, p'.Perm p → p'.toList.Perm (List.range n) := fun p' h => Array.perm_iff_toList_perm.mp (h.trans hp)
  split
  · obtain ⟨p', r1, r2, r3⟩ := run_bin O (n - max m 1) p (max m 1) (by omega) (by rw [show max m 1 = m by omega]; exact u)
    rw [r1]
    exact ⟨pm _ r2, by rw [show max m 1 + (n - max m 1) = n by omega] at r3; exact r3⟩
  · obtain rfl : m = n := by omega
    exact ⟨pm _ (Array.Perm.refl _), u⟩
end
end S
end

section
namespace Z
open PySem PySem.Spec PyProof.Rows L2
/-! ### comparisons of own classes -/
abbrev btTs : List String := ["NoneType", "bool", "int", "str", "list", "tuple", "dict"]
section
variable {X : Cx} {pins : List (Addr × Obj)} {σ : L2.St} {H : Hp} {s : Shared}
theorem look_ty {x : V} {u t : Value} (I : Inv X pins σ H s) (rx : RelV x u) (ty : TyX X.K H x t) : PySem.W.Looks (model X.prog X.w) s.heap (typeOf u) t :=
  let ⟨_, z, p, _⟩ := kit_of I rx ty
  z.ty _ _ I.kIn p
end
theorem sub_bt {K : PySem.W.Frag} {C : Addr} : ∀ t ∈ btTs, PySem.W.subIn K (.type t) (.ref C) = some false := by
  intro t ht
  have go : ∀ {l : List Value}, fastBuiltinMro t = some l → l.contains (.ref C) = false → PySem.W.subIn K (.type t) (.ref C) = some false := fun {l} e h => by
    show (fastBuiltinMro t).map (·.contains (.ref C)) = some false
    rw [e, Option.map_some, h]
  simp only [btTs, List.mem_cons, List.not_mem_nil, or_false] at ht
  rcases ht with rfl | rfl | rfl | rfl | rfl | rfl | rfl
  · exact go (l := [.type "NoneType", .type "object"]) (by decide +kernel) (by simp)
  · exact go (l := [.type "bool", .type "int", .type "object"]) (by decide +kernel) (by simp)
  · exact go (l := [.type "int", .type "object"]) (by decide +kernel) (by simp)
  · exact go (l := [.type "str", .type "object"]) (by decide +kernel) (by simp)
  · exact go (l := [.type "list", .type "object"]) (by decide +kernel) (by simp)
  · exact go (l := [.type "tuple", .type "object"]) (by decide +kernel) (by simp)
  · exact go (l := [.type "dict", .type "object"]) (by decide +kernel) (by simp)
theorem notFirst_bt {K : PySem.W.Frag} {C : Addr} {t : String} (h : t ∈ btTs) : PySem.W.notFirst K C (.type t) = true := by
  unfold PySem.W.notFirst
  rw [sub_bt t h]; simp
theorem notFirst_self {K : PySem.W.Frag} {C : Addr} : PySem.W.notFirst K C (.ref C) = true := by
  unfold PySem.W.notFirst
  simp
section
variable {X : Cx} {CX : CXT} {k : Nat} {f C : Addr} {fd : FuncData} {ps : List Str} {sp : Sp} {E : XK}
/-- x op y by x's own method -/
def aCmpL (K : PySem.W.Frag) (C : Addr) (sp : Sp) (E : XK) : R2 := fun x y H Q => ∃ a dx fs t, x = .ref a ∧ H a = some (.ins C dx fs) ∧ TyX K H y t ∧ PySem.W.notFirst K C t = true ∧ sp [x, y] H Q E
theorem o_cmpL {op : CmpOp} (hop : ∀ a b, compareOp op a b = richCompare op a b) (O : OwnU X.K C f (cmpInfo op).2.1) (FN : FnOk X.prog X.w X.K X.mg X.base CX k f fd ps sp) (hr : Room k X.A) (hb : Binds X.K fd ps []) (hx : Passes CX X E) : OpR X (compareOp op) (aCmpL X.K C sp E) := by
  intro pins s σ H x y v u Q I rx ry h
  obtain ⟨a, dx, fs, t, rfl, ha, ty, nf, h⟩ := h
  cases rx
  obtain ⟨od, J⟩ := inst_of I ha
  obtain ⟨m, hF⟩ := I.fr
  rw [hop]
  refine PySem.W.cmp_K hr.units0 hF I.ok.mod.kin J (look_ty I ry ty) nf O.at_ O.fn ?_
  refine wpAny_mono (run_fn (dvs := []) (ds := []) (us := [.ref a, u]) (vs := [.ref a, y]) FN hr hb .nil hx I (.cons rfl (.cons ry .nil)) h) (fun u s' q => ?_) fun _ _ z => z
  obtain ⟨v, H', I', r, q⟩ := q
  exact back_of r ⟨v, H', I', r, q⟩
/-- x != y by x's own == -/
def aNeL (K : PySem.W.Frag) (C : Addr) (sp : Sp) (E : XK) : R2 := fun x y H Q => ∃ a dx fs t, x = .ref a ∧ H a = some (.ins C dx fs) ∧ TyX K H y t ∧ PySem.W.notFirst K C t = true ∧ sp [x, y] H (fun z H' => ∃ b, z = .bl b ∧ Q (.bl (!b)) H') E
/-- x op y where x is asked first and tells -/
theorem rich_left {prog : Program} {w : World} {A : Around} {E : Value → Shared → Prop} {s : Shared} {K : PySem.W.Frag} {op : CmpOp} {x C : Addr} {ox : Obj} {od : Option Obj} {b t : Value} {Q : Value → Shared → Prop} (X : K.In s.heap) (hu : A.units < cLine) (I : PySem.W.InstAt s.heap x ox C od)
    (hb : PySem.W.Looks (model prog w) s.heap (typeOf b) t) (nf : PySem.W.notFirst K C t = true) (tell : wpAny (model prog w) A (tryCompare (.ref x) (cmpInfo op).2.1 b) (fun r s' => ∃ v, r = some v ∧ Q v s') E s) :
    wpAny (model prog w) A (richCompare op (.ref x) b) Q E s := by
  have last : ∀ g : Option Value → Sem Value, (∀ v, g (some v) = pure v) → wpAny (model prog w) A (tryCompare (.ref x) (cmpInfo op).2.1 b >>= g) Q E s := fun g hg =>
    wpAny_bind (wpAny_mono tell (fun r t ⟨v, e, q⟩ => by rw [e, hg]; exact wpAny_pure q) fun _ _ z => z)
  unfold richCompare
  simp only [oneThing_ref]
  refine wpAny_holding (wpAny_bind (wpAny_cRoomFor hu (wpAny_bind (I.type.here (wpAny_bind (hb.here ?_))))))
  by_cases same : t = .ref C
  · rw [if_neg (by simp [same])]
    exact wpAny_bind (wpAny_pure (last _ fun _ => rfl))
  · have low : PySem.W.subIn K t (.ref C) = some false := by
      have := Bool.or_eq_true_iff.mp nf
      simpa [same] using this
    rw [if_pos (by simpa using fun z : Value.ref C = t => same z.symm)]
    exact wpAny_bind ((PySem.W.looks_subIn X low).here (last _ fun _ => rfl))
theorem o_neL (hne : PySem.W.findIn X.K (.ref C) "__ne__" = some (some (.builtin "object.__ne__"))) (hm : PySem.W.mroIn X.K C (.type "object") = some true) (O : OwnU X.K C f "__eq__") (FN : FnOk X.prog X.w X.K X.mg X.base CX k f fd ps sp) (hr : Room (k + 1) X.A) (hb : Binds X.K fd ps []) (hx : Passes CX X E) : OpR X (compareOp .NotEq) (aNeL X.K C sp E) := by
  intro pins s σ H x y v u Q I rx ry h
  obtain ⟨a, dx, fs, t, rfl, ha, ty, nf, h⟩ := h
  cases rx
  obtain ⟨od, J⟩ := inst_of I ha
  have hb1 := look_ty I ry ty
  have one : wpAny (model X.prog X.w) X.A (tryCompare (.ref a) "__ne__" u) (fun r s' => ∃ v, r = some v ∧ EP X pins σ Q v s') X.xe s := by
    unfold tryCompare
    refine wpAny_bind (NtL.csib (J.type.andThen (PySem.W.looks_findIn I.kIn hne)) (F.cmp_object.ne.bind _) (wpAny_call (codeAny_call_builtin F.cmp_object.ne.plain F.cmpEntry_ne (PySem.W.check_slot F.cmpKind_ne F.cmpSplit_ne (J.type.andThen (PySem.W.looks_mroIn I.kIn hm)) (F.cmpArgs_ne _ _) ?_))))
    unfold Builtin.«object.__ne__»
    refine wpAny_bind (m := slotArgs "__ne__" 1 ⟨[.ref a, u], []⟩) (wpAny_pure ?_)
    dsimp only
    refine wpAny_bind (wpAny_cRoomFor hr.in1.units0 ?_)
    refine wpAny_bind (PySem.W.ifBound_K I.kIn J O.at_ O.fn (wpAny_mono (run_in1 (us := [.ref a, u]) (vs := [.ref a, y]) FN hr hb hx I (.cons rfl (.cons ry .nil)) h) (fun w s' q => ?_) fun _ _ e => e))
    obtain ⟨z, H', I', r, b, e, q⟩ := q
    subst e
    cases r
    dsimp only
    refine wpAny_bind (wpAny_truthy_bool ?_)
    refine wpAny_pure ?_
    dsimp only
    exact wpAny_pure ⟨_, rfl, .bl (!b), H', I', rfl, q⟩
  exact rich_left (op := .NotEq) I.kIn hr.units0 J hb1 nf one
end
end Z
end

section
namespace Z
open PySem PySem.Spec PyProof.Rows L2
/-! ### v == ref: the built-in value declines -/
inductive Bv (K : PySem.W.Frag) (H : Hp) : V → String → Prop
  | non : Bv K H .non "NoneType"
  | bl (b : Bool) : Bv K H (.bl b) "bool"
  | int (i : Int) : Bv K H (.int i) "int"
  | str (b : Str) : Bv K H (.str b) "str"
  | lst {p : Addr} {xs : List V} (h : SqL K H p xs) : Bv K H (.ref p) "list"
  | tup {p : Addr} {xs : List V} (h : SqT K H p xs) : Bv K H (.ref p) "tuple"
  | dic {p : Addr} {kvs : List (Key × V)} (h : H p = some (.dK kvs)) : Bv K H (.ref p) "dict"
theorem Bv.mem {K : PySem.W.Frag} {H : Hp} {x : V} {t : String} (h : Bv K H x t) : t ∈ btTs := by
  cases h <;> simp [btTs]
section
variable {prog : Program} {w : World} {A : Around} {E : Value → Shared → Prop} {s : Shared} {K : PySem.W.Frag} {x C : Addr} {ox : Obj} {od : Option Obj}
theorem noInst {T : String} {Q : Bool → Shared → Prop} (X : K.In s.heap) (I : PySem.W.InstAt s.heap x ox C od) (hs : PySem.W.subIn K (.ref C) (.type T) = some false) (q : Q false s) : wpAny (model prog w) A (isInstance (.ref x) (.type T)) Q E s := by
  unfold isInstance
  exact wpAny_bind (I.type.here ((PySem.W.looks_subIn X hs).here q))
theorem decl_none {Q : Option Value → Shared → Prop} (q : Q none s) : wpAny (model prog w) A (tryCompare .none "__eq__" (.ref x)) Q E s :=
  wpAny_tryCompare_declines (show s.TypeIs .none "NoneType" from rfl) F.slot_NoneType_eq (call_gives F.slot_NoneType_eq rfl F.entry_NoneType_eq (F.args_NoneType_eq_2 _ _) (SeqAt.NoneType___eq___none_ref_0 x) ⟨rfl, q⟩)
theorem decl_intg {v : Value} {T : String} {i : Int} {Q : Option Value → Shared → Prop} (hT : s.TypeIs v T) (sl : Slot T (cmpInfo .Eq).2.1 "int.__eq__") (hv : Builtin.Int.intOfSelf v = pure i) (hv0 : slotArgs "__eq__" 1 ⟨[v, .ref x], []⟩ = pure (v, [.ref x])) (hx : s.heap.get? x = some ox) (hp : ox.data = .plain) (q : Q none s) : wpAny (model prog w) A (tryCompare v "__eq__" (.ref x)) Q E s := by
  refine wpAny_tryCompare_declines hT sl (GQ.call_here sl hT F.entry_int_eq (F.args_int_eq_2 _ _) ?_)
  show wpAny (model prog w) _ (Builtin.Int.intBinary "__eq__" (fun x y => ret (.bool (x == y))) false ⟨[v, .ref x], []⟩) _ _ s
  unfold Builtin.Int.intBinary
  rw [hv0]
  refine wpAny_bind (wpAny_pure ?_)
  dsimp only
  rw [hv]
  refine wpAny_bind (wpAny_pure (wpAny_bind ?_))
  dsimp only [List.headD]
  unfold asInt?
  refine wpAny_bind (wpAny_load hx ?_)
  rw [hp]
  refine wpAny_pure ?_
  exact wpAny_bind (wpAny_rule (wpAny_pure ⟨rfl, q⟩))
theorem decl_str {b : Str} {t : Tok} {Q : Option Value → Shared → Prop} (hx : s.heap.get? x = some ox) (hp : ox.data = .plain) (q : Q none s) : wpAny (model prog w) A (tryCompare (.str b t) "__eq__" (.ref x)) Q E s := by
  refine wpAny_tryCompare_declines (typeIs_str s b t) F.slot_str_eq (GQ.call_here F.slot_str_eq (typeIs_str s b t) F.entry_str_eq (F.args_str_eq_2 _ _) ?_)
  unfold Builtin.«str.__eq__» Builtin.Str.strCompare
  refine wpAny_bind (m := Builtin.Str.strSlot "__eq__" 1 _) (wpAny_pure ?_)
  dsimp only [List.headD]
  unfold asStr?
  refine wpAny_bind (wpAny_bind (wpAny_load hx ?_))
  rw [hp]
  refine wpAny_pure ?_
  exact wpAny_bind (wpAny_rule (wpAny_pure ⟨rfl, q⟩))
theorem decl_list {l : Addr} {its : Array Value} {Q : Option Value → Shared → Prop} (hl : s.heap.IsList l its) (X : K.In s.heap) (I : PySem.W.InstAt s.heap x ox C od) (hs : PySem.W.subIn K (.ref C) (.type "list") = some false) (q : Q none s) : wpAny (model prog w) A (tryCompare (.ref l) "__eq__" (.ref x)) Q E s := by
  obtain ⟨o, hl, hc, _⟩ := hl
  refine wpAny_tryCompare_declines ⟨_, hl, hc⟩ F.slot_list_eq (GQ.call_here F.slot_list_eq ⟨_, hl, hc⟩ F.entry_list_eq (F.args_list_eq_2 _ _) ?_)
  obtain ⟨hp, g, d, tk, os⟩ := s
  wp_walk using noInst X I hs
  exact ⟨rfl, q⟩
theorem decl_tuple {l : Addr} {its : Array Value} {Q : Option Value → Shared → Prop} (hl : s.heap.IsTuple l its) (X : K.In s.heap) (I : PySem.W.InstAt s.heap x ox C od) (hs : PySem.W.subIn K (.ref C) (.type "tuple") = some false) (q : Q none s) : wpAny (model prog w) A (tryCompare (.ref l) "__eq__" (.ref x)) Q E s := by
  obtain ⟨o, hl, hc, _⟩ := hl
  refine wpAny_tryCompare_declines ⟨_, hl, hc⟩ F.slot_tuple_eq (GQ.call_here F.slot_tuple_eq ⟨_, hl, hc⟩ F.entry_tuple_eq (F.args_tuple_eq_2 _ _) ?_)
  obtain ⟨hp, g, d, tk, os⟩ := s
  wp_walk using noInst X I hs
  exact ⟨rfl, q⟩
theorem decl_dict {l : Addr} {es : Array DictEntry} {ep : Nat} {dd : Option Addr} {sl : Array (Option Value)} {Q : Option Value → Shared → Prop} (hl : s.heap.get? l = some { cls := .type "dict", dict := dd, data := .dict es ep, slots := sl }) (X : K.In s.heap) (I : PySem.W.InstAt s.heap x ox C od) (hs : PySem.W.subIn K (.ref C) (.type "dict") = some false) (q : Q none s) : wpAny (model prog w) A (tryCompare (.ref l) "__eq__" (.ref x)) Q E s := by
  refine wpAny_tryCompare_declines ⟨_, hl, rfl⟩ F.slot_dict_eq (GQ.call_here F.slot_dict_eq ⟨_, hl, rfl⟩ F.entry_dict_eq (F.args_dict_eq_2 _ _) ?_)
  obtain ⟨hp, g, d, tk, os⟩ := s
  wp_walk using wpAny_load hl, noInst X I hs
  exact ⟨rfl, q⟩
end
section
variable {X : Cx} {CX : CXT} {k : Nat} {f C : Addr} {fd : FuncData} {ps : List Str} {sp : Sp} {E : XK}
theorem Bv.look {pins : List (Addr × Obj)} {σ : L2.St} {H : Hp} {s : Shared} {x : V} {u : Value} {t : String} (I : Inv X pins σ H s) (rx : RelV x u) (b : Bv X.K H x t) : PySem.W.Looks (model X.prog X.w) s.heap (typeOf u) (.type t) := by
  have ref : ∀ {a : Addr} {o : Obj} {c : Value}, s.heap.get? a = some o → o.cls = c → PySem.W.Looks (model X.prog X.w) s.heap (typeOf (.ref a)) c := fun {a o c} e h => h ▸ (PySem.W.Looks.ld e).andThen .now
  cases b with
  | non => cases rx; exact .of_pure rfl
  | bl y => cases rx; exact .of_pure rfl
  | int i => obtain ⟨t, rfl⟩ := rx; exact .of_pure rfl
  | str y => obtain ⟨t, rfl⟩ := rx; exact .of_pure rfl
  | lst h =>
    cases rx
    obtain ⟨its, r, pl, hz⟩ := I.list h
    obtain ⟨o, hl, hc, _⟩ := pl.isList
    exact ref hl hc
  | tup h =>
    cases rx
    obtain ⟨its, r, pl, hz⟩ := I.tuple h
    obtain ⟨o, hl, hc, _⟩ := pl
    exact ref hl hc
  | @dic p kvs h =>
    cases rx
    obtain ⟨_, _, vs, _, o, es, ep, ho, hx, hd, _⟩ := (show ObjOk X.prog X.w H s.heap p (.dK kvs) from I.hok p _ h)
    exact ref ho hx.1
theorem Bv.decl {A : Around} {pins : List (Addr × Obj)} {σ : L2.St} {H : Hp} {s : Shared} {x : V} {u : Value} {t : String} {a dx : Addr} {od : Option Obj} {Er : Value → Shared → Prop} {Q : Option Value → Shared → Prop} (I : Inv X pins σ H s) (rx : RelV x u) (b : Bv X.K H x t) (J : PySem.W.InstAt s.heap a (PySem.W.instObj C dx) C od)
    (hs : ∀ t ∈ btTs, PySem.W.subIn X.K (.ref C) (.type t) = some false) (q : Q none s) : wpAny (model X.prog X.w) A (tryCompare u "__eq__" (.ref a)) Q Er s := by
  cases b with
  | non => cases rx; exact decl_none q
  | bl y => cases rx; exact decl_intg (T := "bool") (i := if y then 1 else 0) rfl F.slot_bool_eq (by cases y <;> rfl) rfl J.at_ rfl q
  | int i => obtain ⟨t, rfl⟩ := rx; exact decl_intg (T := "int") (i := i) (typeIs_int s i t) F.slot_int_eq rfl rfl J.at_ rfl q
  | str y => obtain ⟨t, rfl⟩ := rx; exact decl_str J.at_ rfl q
  | lst h =>
    cases rx
    obtain ⟨its, r, pl, hz⟩ := I.list h
    exact decl_list pl.isList I.kIn J (hs _ (by simp [btTs])) q
  | tup h =>
    cases rx
    obtain ⟨its, r, pl, hz⟩ := I.tuple h
    exact decl_tuple pl I.kIn J (hs _ (by simp [btTs])) q
  | @dic p kvs h =>
    cases rx
    obtain ⟨_, _, vs, _, o, es, ep, ho, hx, hd, _⟩ := (show ObjOk X.prog X.w H s.heap p (.dK kvs) from I.hok p _ h)
    obtain ⟨cl, dd, dt, sl⟩ := o
    obtain ⟨h1, h2, h3⟩ := hx
    simp only at h1 h2 h3 hd
    subst h1 hd
    exact decl_dict ho I.kIn J (hs _ (by simp [btTs])) q
/-- v == ref by ref's own == -/
def aEqR (K : PySem.W.Frag) (C : Addr) (sp : Sp) (E : XK) : R2 := fun x y H Q => ∃ a dx fs t, y = .ref a ∧ H a = some (.ins C dx fs) ∧ Bv K H x t ∧ sp [y, x] H Q E
theorem o_eqR (hs : ∀ t ∈ btTs, PySem.W.subIn X.K (.ref C) (.type t) = some false) (O : OwnU X.K C f "__eq__") (FN : FnOk X.prog X.w X.K X.mg X.base CX k f fd ps sp) (hr : Room k X.A) (hb : Binds X.K fd ps []) (hx : Passes CX X E) : OpR X (compareOp .Eq) (aEqR X.K C sp E) := by
  intro pins s σ H x y v u Q I rx ry h
  obtain ⟨a, dx, fs, t, rfl, ha, b, h⟩ := h
  cases ry
  obtain ⟨od, J⟩ := inst_of I ha
  have two : wpAny (model X.prog X.w) X.A (tryCompare (.ref a) "__eq__" v) (fun r s' => ∃ v, r = some v ∧ EP X pins σ Q v s') X.xe s := by
    unfold tryCompare
    refine wpAny_bind (PySem.W.ifBound_K I.kIn J O.at_ O.fn (wpAny_mono (run_fn (dvs := []) (ds := []) (us := [.ref a, v]) (vs := [.ref a, x]) FN hr hb .nil hx I (.cons rfl (.cons rx .nil)) h) (fun w s' q => ?_) fun _ _ e => e))
    obtain ⟨z, H', I', r, q⟩ := q
    have q2 : PySem.W.CmpBack (fun u s' => EP X pins σ Q u s') w s' := back_of r ⟨z, H', I', r, q⟩
    cases w <;> first | exact q2.elim | exact wpAny_pure ⟨_, rfl, q2⟩
  show wpAny (model X.prog X.w) X.A (richCompare .Eq v (.ref a)) _ _ s
  have h1 : oneThing? .Eq v (.ref a) = none := by
    cases b with
    | non => cases rx; rfl
    | bl y => cases rx; rfl
    | int i => obtain ⟨t, rfl⟩ := rx; rfl
    | str y => obtain ⟨t, rfl⟩ := rx; rfl
    | lst h => cases rx; exact oneThing_ref ..
    | tup h => cases rx; exact oneThing_ref ..
    | dic h => cases rx; exact oneThing_ref ..
  unfold richCompare
  rw [h1]
  refine wpAny_holding (wpAny_bind (wpAny_cRoomFor hr.units0 ?_))
  dsimp only
  refine wpAny_bind (b.look I rx |>.here (wpAny_bind (J.type.here ?_)))
  rw [if_pos (show (Value.type t != Value.ref C) = true from by simp)]
  refine wpAny_bind ((PySem.W.looks_subIn I.kIn (hs t b.mem)).here ?_)
  rw [if_neg Bool.false_ne_true]
  refine wpAny_bind (b.decl I rx J hs ?_)
  dsimp only
  rw [if_pos (show (!false) = true from rfl)]
  refine wpAny_bind (wpAny_mono two (fun r s' z => ?_) fun _ _ e => e)
  obtain ⟨v', rfl, hq⟩ := z
  exact wpAny_pure hq
end
end Z
end

section
namespace Z
open PySem PySem.Spec PyProof.Rows L2 S
open PySem.W
/-! ### sorted of instances by their own __lt__ -/
section
variable {X : Cx} {CX : CXT} {k : Nat} {f C : Addr} {fd : FuncData} {ps : List Str} {sp : Sp} {pins : List (Addr × Obj)} {σ : L2.St} {H : Hp} {s : Shared}
/-- a run of a def that raises nothing, in any place below -/
theorem run_calm {A : Around} {Q : VK} {us : List Value} {vs : List V} (FN : FnOk X.prog X.w X.K X.mg X.base CX k f fd ps sp) (hr : Room k A) (hfr : A.frames = X.A.frames) (hb : Binds X.K fd ps []) (hx : ∀ Er : Value → Shared → Prop, Passes CX (X.wish Er) L2.E0)
    (I : Inv X pins σ H s) (r : Vals vs us) (h : sp vs H Q L2.E0) (Er : Value → Shared → Prop) : wpAny (model X.prog X.w) A (call (.ref f) us) (EP X pins σ Q) Er s := by
  have hl : us.length = ps.length := r.length.symm.trans (FN.len _ _ _ _ h)
  have hb' : BindsTo s fd ⟨us, []⟩ (ps.zip us) := by
    have q := hb s us I.kIn (by rw [List.append_nil]; exact hl)
    rwa [List.append_nil] at q
  have e0 : Env0 X.prog X.w X.K X.mg X.base A X.stack s H := by
    have e := I.env0
    exact ⟨by rw [hfr]; exact e.frames, e.mod, e.bs, e.bsz, e.funs, e.frf, e.hok, e.bare⟩
  refine wpAny_call (codeAny_mono (FN.run A X.stack s H ⟨us, []⟩ us vs Q L2.E0 hr e0 hb' r h) fun res s' hq => ?_)
  match res, hq with
  | .error er, hq => exact (hx (fun _ _ => False) pins σ H s er s' (I.wish _) hq).elim
  | .ok (.ret u), hq => exact I.after hq
  | .ok .next, hq => exact hq.elim
  | .ok .brk, hq => exact hq.elim
  | .ok .cont, hq => exact hq.elim
/-- a record that is ours is written and tracked -/
theorem Inv.adopt {a : Addr} {o : HO} {h' : Heap} {t' : Nat} (I : Inv X pins σ H s) (fp : FpOk X pins H a) (k : ∀ b u, b ≠ a → s.heap.get? b = some u → h'.get? b = some u) (new : ObjOk X.prog X.w (upd H a o) h' a o) : Inv X pins σ (upd H a o) { s with heap := h', toks := t' } := by
  obtain ⟨f0, f1, f2, f3, f4, f5⟩ := fp
  have na : ∀ b u, H b = some u → b ≠ a := fun b u e z => by rw [z, f0] at e; cases e
  refine I.step (g' := s.gens) (d' := s.drawn) (ch := [a]) (fun b hb => ?_) (fun b o _ _ hc e _ => k b o (fun z => hc (by simp [z])) e) (fun b o _ _ hc e _ => ⟨o.slots, k b o (fun z => hc (by simp [z])) e⟩) (fun b o hc e n => by rw [upd_ne (fun z => hc (by simp [z]))]; exact n)
    (fun b o hc e => ⟨o, k b o (fun z => hc (by simp [z])) e⟩) (fun b _ e => by rw [upd_ne (na _ _ e)]; exact e) (fun b _ _ e => by rw [upd_ne (na _ _ e)]; exact e) (fun b ps e => ⟨#[], by rw [upd_ne (na _ _ e), e]; simp⟩) (fun m hm => ?_) (fun b u e => ?_) I.bare
  · have e : b = a := by simpa using hb
    subst e
    exact ⟨f3, f1, f4, f5⟩
  · obtain ⟨o, es, ep, ho, r⟩ := hm
    exact ⟨o, es, ep, k _ o (Ne.symm f1) ho, r⟩
  · by_cases hb : b = a
    · subst hb
      rw [upd_same] at e
      cases e
      exact new
    · rw [upd_ne hb] at e
      refine (I.hok b u e).stay (fun c v hc q => k c v ?_ q) (fun c q => ?_) fun c xs q => ?_
      · rcases hc with z | z
        · rw [z]; exact hb
        · exact na c _ z
      · rw [upd_ne (na c _ q)]; exact q
      · rw [upd_ne (na c _ q)]; exact q
theorem Inv.pin1 {a : Addr} {o : Obj} (I : Inv X pins σ H s) (fp : FpOk X pins H a) (e : s.heap.get? a = some o) (hc : ∀ v, o.data ≠ .cell v) : Inv X ((a, o) :: pins) σ H s := I.pins_of fun p hp => by
  rcases List.mem_cons.mp hp with z | z
  · subst z; exact ⟨e, fp.1, fp.2.1, fp.2.2.1, hc⟩
  · exact I.pin p (List.mem_append_right _ z)
theorem Inv.unpin1 {a : Addr} {o : Obj} (I : Inv X ((a, o) :: pins) σ H s) : Inv X pins σ H s ∧ s.heap.get? a = some o ∧ H a = none :=
  ⟨I.pins_of fun p hp => I.pin p (List.mem_append_right _ (List.mem_cons_of_mem _ hp)), (I.pin (a, o) (List.mem_append_right _ List.mem_cons_self)).1, (I.pin (a, o) (List.mem_append_right _ List.mem_cons_self)).2.1⟩
/-- all are instances of C -/
def InsAll (C : Addr) (H : Hp) (xs : List V) : Prop := ∀ x ∈ xs, ∃ p dx fs, x = .ref p ∧ H p = some (.ins C dx fs)
/-- every two of xs are asked: lt answers, J stays -/
def Asks (sp : Sp) (xs : List V) (lt : Nat → Nat → Bool) (J : Hp → Prop) : Prop := ∀ (i j : Nat) (x y : V) (H : Hp) (Q : VK), xs[i]? = some x → xs[j]? = some y → J H → (∀ H', J H' → Q (.bl (lt i j)) H') → sp [x, y] H Q L2.E0
def SortOk (lt : Nat → Nat → Bool) (n : Nat) : Prop := (KRun lt (kas_sort n)).size = n ∧ ∀ i ∈ (KRun lt (kas_sort n)).toList, i < n
def byRun (lt : Nat → Nat → Bool) (xs : List V) : List V := if xs.length < 2 then xs else (KRun lt (kas_sort xs.length)).toList.map fun i => xs.getD i .non
/-- sorted(l), l a list of instances with an own __lt__ -/
def rSortO (K : PySem.W.Frag) (C : Addr) (sp : Sp) : RC := fun vs H Q => ∃ (a : Addr) (xs : List V) (lt : Nat → Nat → Bool) (J : Hp → Prop), vs = [.ref a] ∧ SqL K H a xs ∧ xs.length < 64 ∧ J H ∧ (∀ H', J H' → InsAll C H' xs) ∧ Asks sp xs lt J ∧ (2 ≤ xs.length → SortOk lt xs.length) ∧ ∀ H' p, J H' → H' p = none → Q (.ref p) (upd H' p (.lst (byRun lt xs)))
theorem vals_refs {C : Addr} : ∀ {xs : List V} {us : List Value}, InsAll C H xs → Vals xs us → ∀ (i : Nat) u, us[i]? = some u → ∃ p, u = .ref p ∧ xs[i]? = some (.ref p)
  | _, _, _, .nil => fun i u h => by simp at h
  | x :: xs, u0 :: us, hi, .cons r t => fun i u h => by
    cases i with
    | zero =>
      simp at h; subst h
      obtain ⟨p, dx, fs, rfl, _⟩ := hi x List.mem_cons_self
      cases r
      exact ⟨p, rfl, rfl⟩
    | succ i =>
      simp at h
      obtain ⟨p, e1, e2⟩ := vals_refs (fun y hy => hi y (List.mem_cons_of_mem _ hy)) t i u h
      exact ⟨p, e1, by simpa using e2⟩
theorem vals_run {xs : List V} {us : List Value} (r : Vals xs us) (l : List Nat) (h : ∀ i ∈ l, i < xs.length) : Vals (l.map fun i => xs.getD i .non) (l.map fun i => us.getD i Value.none) := by
  induction l with
  | nil => exact .nil
  | cons i l ih =>
    rw [List.map_cons, List.map_cons]
    refine .cons ?_ (ih fun j hj => h j (List.mem_cons_of_mem _ hj))
    have hi := h i List.mem_cons_self
    obtain ⟨u, hu, ru⟩ := r.get (List.getElem?_eq_getElem hi)
    have e1 : xs.getD i .non = xs[i] := by simp [hi]
    have e2 : us.getD i Value.none = u := by simp [hu]
    rw [e1, e2]
    exact ru
theorem fp_new {a : Addr} (I : Inv X pins σ H s) (ha : s.heap.objs.size ≤ a) : FpOk X pins H a := I.fpOk ha (I.hok.fresh ha)
theorem FpOk.of {H' : Hp} {a : Addr} (h : FpOk X pins H a) (hn : H' a = none) : FpOk X pins H' a := ⟨hn, h.2⟩
end
section
variable {prog : Program} {w : World} {A : Around} {E : Value → Shared → Prop} {s : Shared} {a : Addr} {vs : List Value} {T : Value}
/-- the items in the order p -/
def outOf (p : Array Nat) (vs : List Value) : List Value := p.toList.map fun i => vs.getD i Value.none
/-- all of h but what stands at a is there in h' -/
abbrev Rest (a : Addr) (h h' : Heap) : Prop := ∀ b o, b ≠ a → h.get? b = some o → h'.get? b = some o
/-- what asking leaves: the list at a is still empty; whoever lays the items there in the order p is done -/
def Laid (a : Addr) (e : Nat) (vs : List Value) (C : Shared → Prop) (p : Array Nat) (s : Shared) : Prop :=
  s.heap.get? a = some (seqObj "list" #[] e) ∧ ∀ h c, Heap.SameBut a s.heap h → h.get? a = some (seqObj "list" (outOf p vs).toArray c) → C { s with heap := h }
theorem start_st (vs : List Value) : SortSt.mk' oneType' (vs.toArray.zip vs.toArray) #[] 7 none = kas_st oneType' (pairsOf vs) (List.toArray (List.range vs.length)) := by
  unfold kas_st
  rw [← pairsOf_size vs, kas_range]; rfl
theorem outOf_items (p : Array Nat) (vs : List Value) : (p.map (kas_item (pairsOf vs))).map (·.2) = (outOf p vs).toArray := by
  apply Array.toList_inj.mp
  simp only [Array.toList_map, List.map_map, outOf]
  exact List.map_congr_left fun i _ => congrArg Prod.snd (kas_item_eq vs i)
theorem list_sort_I {n : Nat} {P : PySem.Fin → Shared → Prop} (ho : s.heap.get? a = some (seqObj "list" vs.toArray n)) (h2 : 2 ≤ vs.length) (h64 : vs.length < 64)
    (hT : ∀ h : Heap, Rest a s.heap h → ∀ v ∈ vs, PySem.W.Looks (model prog w) h (typeOf v) T) (hT1 : (T != Value.type "tuple") = true) (hT2 : (T == T) = true)
    (h : ∀ e h', Rest a s.heap h' → h'.get? a = some (seqObj "list" #[] e) → (kas_sort vs.length).kasWp (kas_ask prog w A oneType' vs) (Laid a e vs (P (.done (.ret .none)))) { s with heap := h' }) :
    wpAny (model prog w) A (Builtin.«list.sort» ⟨[.ref a], []⟩) P E s := by
  have few : vs.toArray.size ≤ sizeLine := by rw [List.size_toArray, sizeLine_eq]; omega
  have many : ¬ vs.toArray.size < 2 := by simpa using h2
  obtain ⟨e, bare⟩ : ∃ e, (s.heap.update a (Obj.mapSeq fun _ => (#[] : Array Value))).get? a = some (seqObj "list" #[] e) := ⟨_, get?_update_seq ho fun _ => #[]⟩
  -- two more objects are laid: the items held, the keys
  have two : ∀ b o, (s.heap.update a (Obj.mapSeq fun _ => (#[] : Array Value))).get? b = some o → (((s.heap.update a (Obj.mapSeq fun _ => (#[] : Array Value))).push (seqObj "tuple" vs.toArray 0)).push (seqObj "list" #[] 0)).get? b = some o :=
    fun b o z => Heap.get?_push_of_some _ (Heap.get?_push_of_some _ z)
  have rest : Rest a s.heap (((s.heap.update a (Obj.mapSeq fun _ => (#[] : Array Value))).push (seqObj "tuple" vs.toArray 0)).push (seqObj "list" #[] 0)) := fun b o hb z => two b o (((Heap.SameBut.update ..).2 b hb).trans z)
  have asks := h e _ rest (two _ _ bare)
  rw [kas_ask_eq] at asks
  have sorts := kas_runs (E := E) (Q := fun _ st t => ∃ p : Array Nat, p.size = vs.length ∧ arrOf st = p.map (kas_item (pairsOf vs)) ∧ failedOf st = none ∧ Laid a e vs (P (.done (.ret .none))) p t) h2 h64 (fun p _ _ x1 x2 x3 x4 => ⟨p, x1, x2, x3, x4⟩) asks
  rw [list_sort_plain]
  refine wpAny_bind (listItems_at ho rfl (wpAny_bind (listUpdate_at ho rfl (wpAny_bind (seqEpoch_at bare rfl (wpAny_bind (wpAny_newTuple (wpAny_bind (wpAny_newList (wpAny_holding ?_) (Nat.zero_le _))) few)))) few (Nat.zero_le _))))
  dsimp only
  rw [if_neg many, if_neg many]
  rw [← start_st vs] at sorts
  refine wpAny_bind (kas_kind h2 (hT _ rest) hT1 hT2 (wpAny_bind (wpAny_mono sorts ?_ fun _ _ z => z)))
  rintro ⟨_, st⟩ t ⟨p, len, arr, good, empty, lay⟩
  have out : (arrOf st).map (·.2) = (outOf p vs).toArray := by rw [arr, outOf_items]
  have size : (outOf p vs).toArray.size ≤ sizeLine := by simp [outOf, len, sizeLine_eq]; omega
  obtain ⟨c, filled⟩ : ∃ c, (t.heap.update a (Obj.mapSeq fun _ => (outOf p vs).toArray)).get? a = some (seqObj "list" (outOf p vs).toArray c) := ⟨_, get?_update_seq empty fun _ => (outOf p vs).toArray⟩
  dsimp only
  rw [out, good]
  refine wpAny_bind (seqEpoch_at empty rfl (wpAny_bind (listUpdate_at empty rfl ?_ (Nat.zero_le _) (Nat.le_succ_of_le size))))
  simp only [bne_self_eq_false, Bool.false_eq_true, ↓reduceIte]
  exact wpAny_pure (lay _ c (Heap.SameBut.update ..) filled)
theorem sorted_I {l : Addr} {Q : Value → Shared → Prop} (hl : s.heap.IsList l vs.toArray) (h2 : 2 ≤ vs.length) (h64 : vs.length < 64)
    (hT : ∀ h : Heap, (∀ b o, s.heap.get? b = some o → h.get? b = some o) → ∀ v ∈ vs, PySem.W.Looks (model prog w) h (typeOf v) T) (hT1 : (T != Value.type "tuple" && (T != Value.type "int" && T == T)) = true)
    (h : ∀ e h', (∀ b o, s.heap.get? b = some o → h'.get? b = some o) → h'.get? (s.heap.objs.size + 1) = some (seqObj "list" #[] e) →
      (kas_sort vs.length).kasWp (kas_ask prog w A.in1.in1 oneType' vs) (Laid (s.heap.objs.size + 1) e vs (Q (.ref (s.heap.objs.size + 1)))) { s with heap := h' }) :
    wpAny (model prog w) A (call (.builtin "sorted") [.ref l]) Q E s := by
  have few : vs.length ≤ sizeLine := by rw [sizeLine_eq]; omega
  obtain ⟨ht, ht3⟩ := Bool.and_eq_true_iff.mp hT1
  obtain ⟨_, ht2⟩ := Bool.and_eq_true_iff.mp ht3
  -- the walk over l has laid a list of its own; the list that is sorted stands behind it
  have fin : ∀ g : Heap, g.objs.size = s.heap.objs.size + 1 → (∀ b o, s.heap.get? b = some o → g.get? b = some o) →
      wpAny (model prog w) A.in1 (do let l ← newList vs; let _ ← holding [l] (call (.builtin "list.sort") [l] []); ret l) (fun r t => ∃ v, r = .done (.ret v) ∧ Q v t) E { s with heap := g } := fun g size keep => by
    have new : (g.push (seqObj "list" vs.toArray 0)).get? (s.heap.objs.size + 1) = some (seqObj "list" vs.toArray 0) := size ▸ Heap.get?_push_size _ rfl
    have kept : ∀ g', Rest (s.heap.objs.size + 1) (g.push (seqObj "list" vs.toArray 0)) g' → ∀ b o, s.heap.get? b = some o → g'.get? b = some o := fun g' r b o z =>
      r b o (Nat.ne_of_lt (Nat.lt_succ_of_lt (Heap.lt_size z))) (Heap.get?_push_of_some _ (keep b o z))
    refine wpAny_bind (wpAny_newList (wpAny_bind (wpAny_holding ?_)) few)
    show wpAny _ _ (call _ [.ref g.objs.size]) _ _ _
    rw [size]
    refine wpAny_call_entry slot_list_sort ⟨_, new, rfl⟩ entry_list_sort (list_sort_I new h2 h64 (fun g' r => hT g' (kept g' r)) ht ht2 fun e g' r z => ?_) (args_list_sort _)
    have asks := h e g' (kept g' r) z
    rw [kas_ask_eq] at asks ⊢
    exact kas_wp_mono asks fun p t ⟨x, y⟩ => ⟨x, fun g2 c sb z => ⟨_, rfl, wpAny_pure ⟨_, rfl, y g2 c sb z⟩⟩⟩
  exact Calls.call_function_entry kind_sorted plain_sorted entry_sorted (args_sorted1 _) (wpAny_bind (m := checkCount "sorted" 1 1 _) (wpAny_pure (wpAny_bind (collect_list hl (fin _ (by rw [Heap.size_update, size_push']) fun b o z => by
    have lt := Heap.lt_size z
    rw [Heap.get?_update_ne _ _ _ _ (Nat.ne_of_lt lt), Heap.get?_push_ne _ _ _ (Nat.ne_of_lt lt)]; exact z) few))))
end
section
variable {X : Cx} {CX : CXT} {k : Nat} {f C : Addr} {fd : FuncData} {ps : List Str} {sp : Sp} {pins : List (Addr × Obj)} {σ : L2.St} {H : Hp} {s : Shared}
theorem byRun_len {lt : Nat → Nat → Bool} {xs : List V} (h : 2 ≤ xs.length → SortOk lt xs.length) : (byRun lt xs).length = xs.length := by
  unfold byRun
  split
  · rfl
  · next h2 =>
    rw [List.length_map, Array.length_toList]
    exact (h (by omega)).1
theorem c_sortO (hx : ∀ Er : Value → Shared → Prop, Passes CX (X.wish Er) L2.E0) (O : OwnU X.K C f "__lt__") (FN : FnOk X.prog X.w X.K X.mg X.base CX k f fd ps sp) (hr : Room (k + 2) X.A) (hb : Binds X.K fd ps []) : CallR X (.builtin "sorted") (rSortO X.K C sp) := by
  intro pins s σ H vs us Q I r h
  obtain ⟨l, xs, lt, J, rfl, hl, h64, hJ, hins, asks, sok, q⟩ := h
  obtain ⟨u, rfl, ru⟩ := vals1 r
  cases ru
  obtain ⟨its, rv, pl, hz⟩ := I.list hl
  have hlen := rv.length
  have hi0 := hins _ hJ
  have hbl := byRun_len sok
  rcases Nat.lt_or_ge xs.length 2 with h2 | h2
  · refine SrtO.sorted_ord (ltv := fun _ _ => false) ⟨fun _ _ z => Bool.noConfusion z, fun _ _ _ _ _ => rfl⟩ pl.isList (by rw [← hlen]; exact hz) (fun z => absurd z (by omega)) fun out _ hst => ?_
    have e : out = its := by
      have hp := hst.perm
      match its, hlen with
      | [], _ => exact hp.eq_nil
      | [x], _ => exact List.perm_singleton.mp hp
      | _ :: _ :: _, e => simp at e; omega
    subst e
    have eb : byRun lt xs = xs := by unfold byRun; rw [if_pos h2]
    obtain ⟨n, hn⟩ := sortedAll_at s.heap out out.toArray
    exact ⟨.ref (s.heap.objs.size + 1), upd H (s.heap.objs.size + 1) (.lst (byRun lt xs)), I.laid (t' := s.toks) (fun b o e => sortedAll_old e) (Nat.le_succ _) ⟨by rw [hbl]; exact hz, out, n, by rw [eb]; exact rv, hn⟩, rfl, q _ _ hJ (I.hok.fresh (Nat.le_succ _))⟩
  · have fp := fp_new I (Nat.le_succ s.heap.objs.size)
    refine sorted_I (T := .ref C) pl.isList (by omega) (by omega) (fun h' kp v hv => ?_) (by simp) fun e1 h' kp ha => ?_
    · obtain ⟨i, hi⟩ := List.getElem?_of_mem hv
      obtain ⟨p, rfl, hp⟩ := vals_refs hi0 rv i v hi
      obtain ⟨p', dx, fs, e, hp'⟩ := hi0 _ (List.mem_of_getElem? hp)
      cases e
      have I' := I.kept (t' := s.toks) kp
      obtain ⟨od, J'⟩ := inst_of I' hp'
      exact J'.type
    · rw [← hlen]
      have I1 : Inv X ((s.heap.objs.size + 1, seqObj "list" #[] e1) :: pins) σ H { s with heap := h' } := Inv.pin1 (I.kept (t' := s.toks) kp) fp ha (fun v z => nomatch z)
      refine kasWp_run (lt := lt) (n := xs.length) (Iv := fun s' => ∃ H', Inv X ((s.heap.objs.size + 1, seqObj "list" #[] e1) :: pins) σ H' s' ∧ J H') (fun i j Cn s' hi hj ⟨H', I', hJ'⟩ hC => ?_) _ _ (in_sort (by omega)) ⟨H, I1, hJ⟩ fun s' ⟨H', I', hJ'⟩ => ?_
      · obtain ⟨I'', ha', hn'⟩ := Inv.unpin1 I'
        refine ⟨ha', fun h'' c sb hl'' => ?_⟩
        have eb : byRun lt xs = (KRun lt (kas_sort xs.length)).toList.map fun i => xs.getD i .non := by unfold byRun; rw [if_neg (by omega)]
        exact ⟨.ref (s.heap.objs.size + 1), upd H' (s.heap.objs.size + 1) (.lst (byRun lt xs)), Inv.adopt (t' := s'.toks) I'' (FpOk.of fp hn') (fun b o hb e => (sb.2 b hb).trans e) ⟨by rw [hbl]; exact hz, outOf (KRun lt (kas_sort xs.length)) its, c, by rw [eb]; exact vals_run rv _ (sok h2).2, hl''⟩, rfl, q _ _ hJ' hn'⟩
      · unfold kas_ask
        obtain ⟨u, hu, ru⟩ := rv.get (List.getElem?_eq_getElem hi)
        obtain ⟨v, hv, rv'⟩ := rv.get (List.getElem?_eq_getElem hj)
        have e2 : its.getD i Value.none = u := by simp [hu]
        have e3 : its.getD j Value.none = v := by simp [hv]
        rw [e2, e3]
        obtain ⟨p, dx, fs, e4, hp⟩ := hins _ hJ' xs[i] (List.getElem_mem hi)
        have sp' := asks i j xs[i] xs[j] H' (fun z H'' => ∃ b, z = .bl b ∧ b = lt i j ∧ J H'') (List.getElem?_eq_getElem hi) (List.getElem?_eq_getElem hj) hJ' (fun H'' z => ⟨_, rfl, rfl, z⟩)
        rw [e4] at ru sp'
        cases ru
        obtain ⟨od, Jx⟩ := inst_of I' hp
        rw [keyLt'_oneType, oneLt'_eq]
        simp only [if_true]
        refine wpAny_bind (wpAny_cRoomFor hr.in1.in1.units0 ?_)
        refine wpAny_bind (PySem.W.ifBound_K I'.kIn Jx O.at_ O.fn (wpAny_mono (run_calm (us := [.ref p, v]) (vs := [.ref p, xs[j]]) FN hr.in1.in1 rfl hb hx I' (.cons rfl (.cons rv' .nil)) sp' _) (fun w s'' qq => ?_) fun _ _ e => e))
        obtain ⟨z, H'', I'', rz, b, e5, e6, hJ''⟩ := qq
        subst e5 e6
        cases rz
        exact wpAny_truthy_bool (hC _ ⟨H'', I'', hJ''⟩)
end
end Z
end

section
/-! VA: min(l), max(l) where asking may change the state: one loop for both -/
namespace Z
open PySem PySem.Spec PyProof.Rows
inductive Pick : String → String → CmpOp → Prop
  | lo : Pick "min" "min.loop" .Lt
  | hi : Pick "max" "max.loop" .Gt
theorem Pick.loop {nm lp : String} {op : CmpOp} (k : Pick nm lp op) : ∃ b, entryFor table lp = some b ∧ plainId lp = true ∧ ((b = Builtin.«min.loop» ∧ op = .Lt ∧ toString "min" ++ toString ".loop" = lp) ∨ (b = Builtin.«max.loop» ∧ op = .Gt ∧ toString "max" ++ toString ".loop" = lp)) := by
  cases k
  · exact ⟨_, F.entry_min_loop, F.plain_min_loop, .inl ⟨rfl, rfl, by decide⟩⟩
  · exact ⟨_, F.entry_max_loop, F.plain_max_loop, .inr ⟨rfl, rfl, by decide⟩⟩
/-- the loop's own list after j items: the best one so far, twice -/
def bestAt (at_ : Nat → Value) (bt : Nat → Nat → Bool) : Nat → Array Value
  | 0 => #[]
  | j + 1 => #[at_ (argBest bt j), at_ (argBest bt j)]
/-- T j vs s: j items are taken from I, the list at S is vs -/
structure Pull (prog : Program) (w : World) (A : Around) (op : CmpOp) (I S n : Nat) (at_ : Nat → Value) (bt : Nat → Nat → Bool) (T : Nat → Array Value → Shared → Prop) : Prop where
  own : ∀ {j vs s}, T j vs s → ∃ o c, s.heap.get? S = some o ∧ o.data = .seq vs c
  put : ∀ {j vs s} us, T j vs s → T j us { s with heap := s.heap.update S (Obj.mapSeq fun _ => us) }
  next : ∀ {j vs s Q E}, j < n → T j vs s → (∀ t, T (j + 1) vs t → Q (some (at_ j)) t) → wpAny (model prog w) A (pyNext (.ref I)) Q E s
  stop : ∀ {vs s Q E}, T n vs s → (∀ t, T (n + 1) vs t → Q none t) → wpAny (model prog w) A (pyNext (.ref I)) Q E s
  ask : ∀ {i b j vs s Q E}, i < n → b < n → j ≤ n → T j vs s → (∀ t, T j vs t → Q (.bool (bt i b)) t) → wpAny (model prog w) A (richCompare op (at_ i) (at_ b)) Q E s
theorem best_in (bt : Nat → Nat → Bool) (j : Nat) : argBest bt j < j + 1 := by
  induction j with
  | zero => exact Nat.zero_lt_one
  | succ j ih => unfold argBest; split <;> omega
section
variable {prog : Program} {w : World} {A : Around} {op : CmpOp} {I S n : Nat} {at_ : Nat → Value} {bt : Nat → Nat → Bool} {T : Nat → Array Value → Shared → Prop} {nm lp : String} {R : Result → Shared → Prop}
theorem pull_loop (k : Pick nm lp op) (P : Pull prog w A.in1 op I S n at_ bt T) (hn : 0 < n) (fin : ∀ t, T (n + 1) #[] t → R (.ok (.ret (at_ (argBest bt (n - 1))))) t) :
    ∀ (left j : Nat) (s : Shared), j + left = n → T j (bestAt at_ bt j) s → codeAny (model prog w) A (.builtin lp ⟨[.ref I, .none, .ref S], []⟩) R s := by
  intro left
  induction left with
  | zero =>
    intro j s hj st
    obtain ⟨o, c, ho, hd⟩ := P.own st
    obtain ⟨p, rfl⟩ : ∃ p, j = p + 1 := ⟨j - 1, by omega⟩
    obtain rfl : n = p + 1 := by omega
    obtain ⟨b, ent, pl, which⟩ := k.loop
    rcases which with ⟨rfl, rfl, nme⟩ | ⟨rfl, rfl, nme⟩
    all_goals
      refine codeAny_builtin ent ?_
      rw [Around.under_plainId pl _]
      refine wpAny_bind (m := seqItems? (.ref S)) (wpAny_seqItems ho hd (wpAny_bind ?_))
      refine wpAny_tryCatch (P.stop st fun t st' => ?_)
      obtain ⟨o', c', ho', hd'⟩ := P.own st'
      refine wpAny_bind (m := updateSeq S _) (wpAny_updateSeq ho' hd' (wpAny_bind (wpAny_letGo (wpAny_pure (fin _ (P.put #[] st'))))) (by simp [bestAt, sizeLine_eq]))
  | succ left ih =>
    intro j s hj st
    obtain ⟨o, c, ho, hd⟩ := P.own st
    have lt : j < n := by omega
    have go : ∀ t, T (j + 1) (bestAt at_ bt (j + 1)) t → codeAny (model prog w) A (.builtin lp ⟨[.ref I, .none, .ref S], []⟩) R t := fun t => ih (j + 1) t (by omega)
    have set2 : ∀ t, T (j + 1) (bestAt at_ bt j) t → argBest bt j = j → T (j + 1) (bestAt at_ bt (j + 1)) { t with heap := t.heap.update S (Obj.mapSeq fun _ => #[at_ j, at_ j]) } := fun t st' e => by
      have := P.put #[at_ j, at_ j] st'
      show T (j + 1) #[at_ (argBest bt j), at_ (argBest bt j)] _
      rw [e]
      exact this
    obtain ⟨b, ent, pl, which⟩ := k.loop
    rcases which with ⟨rfl, rfl, nme⟩ | ⟨rfl, rfl, nme⟩
    all_goals
      refine codeAny_builtin ent ?_
      rw [Around.under_plainId pl _]
      refine wpAny_bind (m := seqItems? (.ref S)) (wpAny_seqItems ho hd (wpAny_bind (wpAny_tryCatch (P.next lt st fun t st' => ?_))))
      obtain ⟨o', c', ho', hd'⟩ := P.own st'
      match j, st', hd', set2, go with
      | 0, st', hd', set2, go =>
        refine wpAny_bind (wpAny_pure (wpAny_bind (m := updateSeq S _) (wpAny_updateSeq ho' hd' (wpAny_pure ⟨?_, by rw [nme]; exact go _ (set2 _ st' rfl)⟩) (by simp [bestAt, sizeLine_eq]))))
        exact nme ▸ plainId_quiet pl _
      | i + 1, st', hd', set2, go =>
        refine wpAny_bind (wpAny_pure (wpAny_bind (wpAny_tryCatch (wpAny_holding (wpAny_bind (P.ask lt (Nat.lt_trans (best_in bt i) lt) lt st' fun t2 st2 => ?_))))))
        refine wpAny_bind (wpAny_holding (wpAny_truthy_bool (wpAny_bind (wpAny_letGo (wpAny_pure ?_)))))
        obtain ⟨o2, c2, ho2, hd2⟩ := P.own st2
        cases e : bt (i + 1) (argBest bt i)
        · refine wpAny_bind (m := letGo _ _) (wpAny_letGo (wpAny_pure ⟨?_, by rw [nme]; refine go _ ?_; simpa [bestAt, argBest, e] using st2⟩))
          exact nme ▸ plainId_quiet pl _
        · refine wpAny_bind (m := updateSeq S _) (wpAny_updateSeq ho2 hd2 (wpAny_bind (wpAny_letGo (wpAny_pure ⟨?_, by rw [nme]; exact go _ (set2 _ st2 (by simp [argBest, e]))⟩))) (by simp [bestAt, sizeLine_eq]))
          exact nme ▸ plainId_quiet pl _
/-- the call: how x is walked, then the loop on a new list -/
theorem best_call (k : Pick nm lp op) {x : Value} {s : Shared} {E Q : Value → Shared → Prop}
    (h : wpAny (model prog w) A.in1 (pyIter x) (fun it t => ∃ I n at_ bt T, it = .ref I ∧ 0 < n ∧ Pull prog w A.in1 op I t.heap.objs.size n at_ bt T ∧
      (∀ c, T 0 #[] { t with heap := t.heap.push { cls := .type "list", data := .seq #[] c } }) ∧ ∀ t', T (n + 1) #[] t' → Q (at_ (argBest bt (n - 1))) t') E s) : wpAny (model prog w) A (call (.builtin nm) [x]) Q E s := by
  have body : wpAny (model prog w) A.in1 (pyIter x >>= fun it => newList [] >>= fun l => pure (Fin.again (.builtin lp ⟨[it, .none, l], []⟩)))
      (fun fin s' => match fin with
        | .done f => (match (Except.ok f : Result) with | .ok (.ret v) => Q v s' | .ok _ => False | .error e => E e s')
        | .again c' => c'.quiet = true ∧ codeAny (model prog w) A c' (fun r s' => match r with | .ok (.ret v) => Q v s' | .ok _ => False | .error e => E e s') s') E s := by
    obtain ⟨b, ent, pl, _⟩ := k.loop
    refine wpAny_bind (wpAny_mono h (fun it t z => ?_) fun _ _ e => e)
    obtain ⟨I, n, at_, bt, T, rfl, hn, P, st, fin⟩ := z
    exact wpAny_bind (wpAny_newList (wpAny_pure ⟨plainId_quiet pl _, pull_loop k P hn fin n 0 _ (by omega) (st _)⟩))
  cases k
  · exact call_function_tree F.kind_min F.plain_min F.entry_min (F.args_min1 _) body
  · exact call_function_tree F.kind_max F.plain_max F.entry_max (F.args_max1 _) body
end
end Z
end

section
/-! VB: min, max of instances by their own signs -/
namespace Z
open PySem PySem.Spec PyProof.Rows L2 S
section
variable {X : Cx} {CX : CXT} {k : Nat} {f C : Addr} {fd : FuncData} {ps : List Str} {sp : Sp} {pins : List (Addr × Obj)} {σ : L2.St} {H : Hp} {s : Shared}
/-- min(l), max(l), l a list of instances with own signs -/
def rBestO (K : PySem.W.Frag) (C : Addr) (sp : Sp) : RC := fun vs H Q => ∃ (a : Addr) (xs : List V) (bt : Nat → Nat → Bool) (J : Hp → Prop), vs = [.ref a] ∧ H a = some (.lst xs) ∧ 0 < xs.length ∧ J H ∧ (∀ H', J H' → H' a = some (.lst xs) ∧ InsAll C H' xs) ∧ Asks sp xs bt J ∧ ∀ H' x, J H' → xs[argBest bt (xs.length - 1)]? = some x → Q x H'
/-- what stands for references is told by them alone -/
theorem refs_rel {xs : List V} (h : ∀ x ∈ xs, ∃ p, x = .ref p) {us ws : List Value} (r : Vals xs us) (q : Vals xs ws) : us = ws := by
  induction r generalizing ws with
  | nil => cases q; rfl
  | cons a _ ih =>
    cases q with
    | cons b c =>
      obtain ⟨p, rfl⟩ := h _ List.mem_cons_self
      have e1 := ih (fun x hx => h x (List.mem_cons_of_mem _ hx)) c
      cases a; cases b; rw [e1]
/-- the state of the loop: the law's own things, the iterator at I, the loop's list at S -/
def BestT (X : Cx) (pins : List (Addr × Obj)) (σ : L2.St) (J : Hp → Prop) (l I S n : Addr) (j : Nat) (vs : Array Value) (s : Shared) : Prop :=
  ∃ H, Inv X pins σ H s ∧ J H ∧ H I = none ∧ H S = none ∧ (j ≤ n → s.heap.IsListIter I l j) ∧ ∃ o c, s.heap.get? S = some o ∧ o.data = .seq vs c
theorem Inv.other {I : Addr} {h' : Heap} (N : Inv X pins σ H s) (fp : FpOk X pins H I) (b : Heap.SameBut I s.heap h') : Inv X pins σ H { s with heap := h' } :=
  N.turned (t' := s.toks) (fun c o n e => (b.2 c n).trans e) fp.1 fp.2.1 fp.2.2.2.1 fp.2.2.2.2.1 fp.2.2.2.2.2
theorem c_bestO {nm lp : String} {op : CmpOp} (pk : Pick nm lp op) (_hop : ∀ a b, compareOp op a b = richCompare op a b) (hx : ∀ Er : Value → Shared → Prop, Passes CX (X.wish Er) L2.E0) (hc : X.calm = true) (O : OwnU X.K C f (cmpInfo op).2.1)
    (FN : FnOk X.prog X.w X.K X.mg X.base CX k f fd ps sp) (hr : Room (k + 1) X.A) (hb : Binds X.K fd ps []) : CallR X (.builtin nm) (rBestO X.K C sp) := by
  intro pins s σ H vs us Q N r h
  obtain ⟨l, xs, bt, J, rfl, hl, hn, hJ, hins, asks, q⟩ := h
  obtain ⟨u, rfl, ru⟩ := vals1 r
  cases ru
  obtain ⟨its, rv, pl, hz⟩ := N.list (SqL.of hl)
  have len := rv.length
  have refs : ∀ x ∈ xs, ∃ p, x = .ref p := fun x hx => by obtain ⟨p, _, _, e, _⟩ := (hins H hJ).2 x hx; exact ⟨p, e⟩
  have ll : ∀ {H' t}, Inv X pins σ H' t → J H' → t.heap.IsList l its.toArray := fun N' j' => by
    obtain ⟨its', rv', pl', _⟩ := N'.list (SqL.of (hins _ j').1)
    rw [refs_rel refs rv rv']; exact pl'.isList
  refine best_call pk (wpAny_pyIter_list pl.isList ?_)
  have N1 : Inv X pins σ H { s with heap := s.heap.push { cls := .type "list_iterator", data := .fields #[.ref l, .int 0 0] } } := N.kept (t' := s.toks) fun b o e => Heap.get?_push_of_some _ e
  have fI : FpOk X pins H s.heap.objs.size := fp_new N (Nat.le_refl _)
  have big : s.heap.objs.size < (s.heap.push { cls := .type "list_iterator", data := .fields #[.ref l, .int 0 0] }).objs.size := by rw [Heap.size_push]; exact Nat.lt_succ_self _
  have fS := fp_new N1 (Nat.le_refl _)
  generalize hS : (s.heap.push { cls := .type "list_iterator", data := .fields #[.ref l, .int 0 0] }).objs.size = S at fS big
  have ne : s.heap.objs.size ≠ S := Nat.ne_of_lt big
  have bound : ∀ i, i < its.length → i < xs.length := fun i hi => by omega
  refine ⟨s.heap.objs.size, its.length, fun i => its.getD i .none, bt, BestT X pins σ J l s.heap.objs.size S its.length, rfl, by omega, ?_, fun c => ?_, fun t z => ?_⟩
  · constructor
    · rintro j vs t ⟨_, _, _, _, _, _, o⟩
      exact o
    · rintro j vs t us ⟨H', N', j', n1, n2, it, o, c, ho, hd⟩
      have sb := Heap.SameBut.update t.heap S (Obj.mapSeq fun _ => us)
      obtain ⟨c', hd'⟩ := Obj.data_mapSeq hd fun _ => us
      have here : (t.heap.update S (Obj.mapSeq fun _ => us)).get? S = some (o.mapSeq fun _ => us) := Heap.get?_update_self _ ho (Obj.isFreed_of_seq hd')
      exact ⟨H', Inv.other N' (FpOk.of fS n2) sb, j', n1, n2, fun g => (it g).at fun o e => (sb.2 _ ne).trans e, _, c', here, hd'⟩
    · rintro j vs t Q' E' hj ⟨H', N', j', n1, n2, it, o, c, ho, hd⟩ hQ
      exact wpAny_pyNext_list_item (it (Nat.le_of_lt hj)) (ll N' j') (x := its.getD j .none) (by simp [hj]) fun h' it' sb => hQ _ ⟨H', Inv.other N' (FpOk.of fI n1) sb, j', n1, n2, fun _ => it', o, c, (sb.2 _ (Ne.symm ne)).trans ho, hd⟩
    · rintro vs t Q' E' ⟨H', N', j', n1, n2, it, o, c, ho, hd⟩ hQ
      obtain ⟨f0, f1, f2, f3, f4, f5⟩ := FpOk.of fI n1
      exact wpAny_pyNext_list_end (A := X.A.in1) (N'.ok.hd hc) (it (Nat.le_refl _)) (ll N' j') (by simp) fun h' eb => hQ _ ⟨H', N'.turned (t' := t.toks) (fun b u hb e => eb b u hb e) f0 f1 f3 f4 f5, j', n1, n2, fun g => absurd g (by omega), o, c, eb _ _ (Ne.symm ne) ho, hd⟩
    · rintro i b j vs t Q' E' hi hb' hj ⟨H', N', j', n1, n2, it, o, c, ho, hd⟩ hQ
      obtain ⟨oI, hoI, cI, dI⟩ := it hj
      have hxi := List.getElem?_eq_getElem (bound i hi)
      have hxb := List.getElem?_eq_getElem (bound b hb')
      obtain ⟨u, hu, ru⟩ := rv.get hxi
      obtain ⟨v, hv, rv2⟩ := rv.get hxb
      obtain ⟨p, dx, fs, e1, hp⟩ := (hins _ j').2 _ (List.getElem_mem (bound i hi))
      obtain ⟨p2, dx2, fs2, e2, hp2⟩ := (hins _ j').2 _ (List.getElem_mem (bound b hb'))
      have said := asks i b _ _ H' (fun z H2 => ∃ k, z = .bl k ∧ k = bt i b ∧ J H2) hxi hxb j' fun H2 z => ⟨_, rfl, rfl, z⟩
      rw [e1] at ru said
      rw [e2] at rv2 said
      obtain rfl : u = .ref p := ru
      obtain rfl : v = .ref p2 := rv2
      show wpAny _ _ (richCompare op (its.getD i .none) (its.getD b .none)) _ _ _
      rw [List.getD_eq_getElem?_getD, List.getD_eq_getElem?_getD, hu, hv]
      have M1 : L2.Inv X ((s.heap.objs.size, oI) :: pins) σ H' t := Inv.pin1 N' (FpOk.of fI n1) hoI fun v z => by rw [dI] at z; cases z
      have fS1 : FpOk X ((s.heap.objs.size, oI) :: pins) H' S := by
        obtain ⟨g0, g1, g2, g3, g4, g5⟩ := FpOk.of fS n2
        refine ⟨g0, g1, g2, g3, g4, fun y hy => ?_⟩
        simp only [List.mem_append, List.mem_cons] at hy
        rcases hy with y1 | y1 | y1
        · exact g5 y (by simp [y1])
        · rw [y1]; exact ne
        · exact g5 y (by simp [y1])
      have M2 : L2.Inv X ((S, o) :: (s.heap.objs.size, oI) :: pins) σ H' t := Inv.pin1 M1 fS1 ho fun v z => by rw [hd] at z; cases z
      obtain ⟨od, A1⟩ := inst_of M2 hp
      obtain ⟨od2, A2⟩ := inst_of M2 hp2
      obtain ⟨mm, hF⟩ := M2.fr
      refine PySem.W.cmp_K (op := op) hr.in1.units0 hF M2.ok.mod.kin A1 A2.type (by simp [PySem.W.notFirst]) O.at_ O.fn ?_
      refine wpAny_mono (run_calm (us := [.ref p, .ref p2]) (vs := [.ref p, .ref p2]) FN hr.in1 rfl hb hx M2 (.cons rfl (.cons rfl .nil)) said _) (fun y t2 got => ?_) fun _ _ e => e
      obtain ⟨z, H2, M3, rz, k, rfl, e3, j2⟩ := got
      obtain rfl : y = .bool k := rz
      obtain ⟨M4, hS2, m2⟩ := Inv.unpin1 M3
      obtain ⟨M5, hI2, m1⟩ := Inv.unpin1 M4
      rw [e3]
      exact hQ t2 ⟨H2, M5, j2, m1, m2, fun _ => ⟨oI, hI2, cI, dI⟩, o, c, hS2, hd⟩
  · refine ⟨H, ?_, hJ, fI.1, fS.1, fun _ => ?_, _, c, hS ▸ Heap.get?_push_size _ rfl, rfl⟩
    · exact N1.kept (t' := s.toks) fun b o e => Heap.get?_push_of_some _ e
    · exact ⟨_, Heap.get?_push_of_some _ (Heap.get?_push_size _ rfl), rfl, rfl⟩
  · obtain ⟨H', N', j', _⟩ := z
    have lt := best_in bt (xs.length - 1)
    obtain ⟨u, hu, ru⟩ := rv.get (List.getElem?_eq_getElem (show argBest bt (xs.length - 1) < xs.length by omega))
    refine ⟨_, H', N', ?_, q H' _ j' (List.getElem?_eq_getElem (by omega))⟩
    have : its.getD (argBest bt (its.length - 1)) .none = u := by rw [← len, List.getD_eq_getElem?_getD, hu]; rfl
    show RelV _ (its.getD (argBest bt (its.length - 1)) .none)
    rw [this]; exact ru
theorem c_minO (hx : ∀ Er : Value → Shared → Prop, Passes CX (X.wish Er) L2.E0) (hc : X.calm = true) (O : OwnU X.K C f "__lt__") (FN : FnOk X.prog X.w X.K X.mg X.base CX k f fd ps sp) (hr : Room (k + 1) X.A) (hb : Binds X.K fd ps []) : CallR X (.builtin "min") (rBestO X.K C sp) :=
  c_bestO .lo (fun _ _ => rfl) hx hc O FN hr hb
theorem c_maxO (hx : ∀ Er : Value → Shared → Prop, Passes CX (X.wish Er) L2.E0) (hc : X.calm = true) (O : OwnU X.K C f "__gt__") (FN : FnOk X.prog X.w X.K X.mg X.base CX k f fd ps sp) (hr : Room (k + 1) X.A) (hb : Binds X.K fd ps []) : CallR X (.builtin "max") (rBestO X.K C sp) :=
  c_bestO .hi (fun _ _ => rfl) hx hc O FN hr hb
end
end Z
end

section
namespace Z
open PySem PySem.Spec PyProof.Rows L2 S
open PySem.W (alike AllAlike Sortable dataLt dataLe EachIs)
/-! ### <, <=, >, >= and sorted of data -/
def rOrdD (K : PySem.W.Frag) (f : PyData → PyData → Bool) : R2 := fun x y H Q => ∃ d e, Dp K H x d ∧ Dp K H y e ∧ alike d e = true ∧ d ≠ .none ∧ d.depth < 60 ∧ Q (.bl (f d e)) H
section
variable {X : Cx}
theorem o_ltD (hu : X.A.units + 64 < cLine) : OpR X (compareOp .Lt) (rOrdD X.K fun d e => dataLt d e) := by
  intro pins s σ H x y v u Q I rx ry h
  obtain ⟨d, e, hd, he, ha, hn, hz, q⟩ := h
  obtain ⟨as, r1⟩ := Dp.reads I d x v hd rx
  obtain ⟨bs, r2⟩ := Dp.reads I e y u he ry
  exact PySem.W.lt_data r1 r2 ha hn (by omega) ⟨.bl _, H, I, rfl, q⟩
theorem o_gtD (hu : X.A.units + 64 < cLine) : OpR X (compareOp .Gt) (rOrdD X.K fun d e => dataLt e d) := by
  intro pins s σ H x y v u Q I rx ry h
  obtain ⟨d, e, hd, he, ha, hn, hz, q⟩ := h
  obtain ⟨as, r1⟩ := Dp.reads I d x v hd rx
  obtain ⟨bs, r2⟩ := Dp.reads I e y u he ry
  exact PySem.W.gt_data r1 r2 ha hn (by omega) ⟨.bl _, H, I, rfl, q⟩
theorem o_leD (hu : X.A.units + 64 < cLine) : OpR X (compareOp .LtE) (rOrdD X.K fun d e => !dataLt e d) := by
  intro pins s σ H x y v u Q I rx ry h
  obtain ⟨d, e, hd, he, ha, hn, hz, q⟩ := h
  obtain ⟨as, r1⟩ := Dp.reads I d x v hd rx
  obtain ⟨bs, r2⟩ := Dp.reads I e y u he ry
  exact PySem.W.le_data r1 r2 ha hn (by omega) ⟨.bl _, H, I, rfl, q⟩
theorem o_geD (hu : X.A.units + 64 < cLine) : OpR X (compareOp .GtE) (rOrdD X.K fun d e => !dataLt d e) := by
  intro pins s σ H x y v u Q I rx ry h
  obtain ⟨d, e, hd, he, ha, hn, hz, q⟩ := h
  obtain ⟨as, r1⟩ := Dp.reads I d x v hd rx
  obtain ⟨bs, r2⟩ := Dp.reads I e y u he ry
  exact PySem.W.ge_data r1 r2 ha hn (by omega) ⟨.bl _, H, I, rfl, q⟩
def orR (r r' : R2) : R2 := fun x y H Q => r x y H Q ∨ r' x y H Q
theorem k_ltX (K : PySem.W.Frag) (hu : X.A.units + 64 < cLine) (h : X.K = K := by rfl) : OpR X (compareOp .Lt) (orR aLt (rOrdD K fun d e => dataLt d e)) := h ▸ orO o_lt (o_ltD hu)
theorem k_gtX (K : PySem.W.Frag) (hu : X.A.units + 64 < cLine) (h : X.K = K := by rfl) : OpR X (compareOp .Gt) (orR aGt (rOrdD K fun d e => dataLt e d)) := h ▸ orO o_gt (o_gtD hu)
theorem k_leX (K : PySem.W.Frag) (hu : X.A.units + 64 < cLine) (h : X.K = K := by rfl) : OpR X (compareOp .LtE) (orR aLe (rOrdD K fun d e => !dataLt e d)) := h ▸ orO o_le (o_leD hu)
theorem k_geX (K : PySem.W.Frag) (hu : X.A.units + 64 < cLine) (h : X.K = K := by rfl) : OpR X (compareOp .GtE) (orR aGe (rOrdD K fun d e => !dataLt d e)) := h ▸ orO o_ge (o_geD hu)
/-- the items of xs, sorted by what they read as -/
def sortV {α : Type} (xs : List α) (ds : List PyData) : List α := ((xs.zip ds).mergeSort (dataLe false Prod.snd)).map Prod.fst
def rSortD (K : PySem.W.Frag) : RC := fun vs H Q => ∃ (a : Addr) (xs : List V) (ds : List PyData), vs = [.ref a] ∧ SqL K H a xs ∧ DpAll K H xs ds ∧ AllAlike ds ∧ Sortable ds ∧ (∀ d ∈ ds, d.depth < 60) ∧ ∀ p, H p = none → Q (.ref p) (upd H p (.lst (sortV xs ds)))
theorem each_zip {h : Heap} : ∀ {xs : List V} {ds : List PyData} {its : List Value} {as : List Addr}, Vals xs its → ReadsAll h its ds as →
    EachIs (fun v (b : V × PyData) => RelV b.1 v) its (xs.zip ds) ∧ EachIs (fun v (b : V × PyData) => ∃ as, Reads h v b.2 as) its (xs.zip ds) ∧ (xs.zip ds).map Prod.snd = ds
  | _, _, _, _, .nil, .nil => ⟨.nil, .nil, rfl⟩
  | _, _, _, _, .cons r t, .cons q t' => by
    obtain ⟨a, b, c⟩ := each_zip t t'
    exact ⟨.cons r a, .cons ⟨_, q⟩ b, by rw [List.zip_cons_cons, List.map_cons, c]⟩
theorem each_vals : ∀ {out : List Value} {bs : List (V × PyData)}, EachIs (fun v (b : V × PyData) => RelV b.1 v) out bs → Vals (bs.map Prod.fst) out
  | _, _, .nil => .nil
  | _, _, .cons h t => .cons h (each_vals t)
theorem c_sortD (hu : X.A.units + 64 < cLine) : CallR X (.builtin "sorted") (rSortD X.K) := by
  intro pins s σ H vs us Q I r h
  obtain ⟨l, xs, ds, rfl, hl, hd, hal, hk, hz, q⟩ := h
  obtain ⟨u, rfl, ru⟩ := vals1 r
  cases ru
  obtain ⟨its, rv, pl, hs⟩ := I.list hl
  obtain ⟨as, rd⟩ := Dp.readsAll I ds xs its hd rv
  obtain ⟨e1, e2, e3⟩ := each_zip rv rd
  have hl2 : (xs.zip ds).length = xs.length := by rw [← e1.length]; exact rv.length.symm
  refine PySem.W.sorted_data (enc := Prod.snd) (bs := xs.zip ds) pl.isList e1 e2 (by rw [e3]; exact hal) (by rw [e3]; exact hk) (by rw [hl2]; exact hs) (fun b hb => ?_) fun out ho he => ?_
  · have := hz b.2 (by rw [← e3]; exact List.mem_map.mpr ⟨b, hb, rfl⟩)
    omega
  · obtain ⟨n, hn⟩ := sortedAll_at s.heap its (List.toArray out)
    refine ⟨.ref (s.heap.objs.size + 1), upd H (s.heap.objs.size + 1) (.lst (sortV xs ds)), I.laid (t' := s.toks) (fun b o e => sortedAll_old e) (Nat.le_succ _) ⟨?_, out, n, each_vals he, hn⟩, rfl, q _ (I.hok.fresh (Nat.le_succ _))⟩
    unfold sortV
    rw [List.length_map, (List.mergeSort_perm _ _).length_eq, hl2]
    exact hs
theorem k_sortD (K : PySem.W.Frag) (hu : X.A.units + 64 < cLine) (h : X.K = K := by rfl) : CallR X (.builtin "sorted") (rSortD K) := h ▸ c_sortD hu
end
end Z
end

section
namespace S
open PySem PySem.Spec PyProof.Rows L2 Z LamX
open PySem.W (alike AllAlike Sortable dataLt dataLe)
/-! ### the order of data -/
def nonP : PyData → Bool
  | .none => true
  | _ => false
theorem nonP_ne {a : PyData} (h : nonP a = false) : a ≠ .none := fun z => by subst z; cases h
def ordD (f : PyData → PyData → Bool) (x y : D) : Option D := match toP x, toP y with
  | some a, some b => if alike a b = true ∧ nonP a = false ∧ a.depth < 60 then some (.bl (f a b)) else none
  | _, _ => none
def isSeqD : D → Bool
  | .lst _ => true
  | .tup _ => true
  | _ => false
def gLtX (x y : D) : Option D := if isSeqD x = true then ordD (fun d e => dataLt d e) x y else gLt x y
def gGtX (x y : D) : Option D := if isSeqD x = true then ordD (fun d e => dataLt e d) x y else gGt x y
def gLeX (x y : D) : Option D := if isSeqD x = true then ordD (fun d e => !dataLt e d) x y else gLe x y
def gGeX (x y : D) : Option D := if isSeqD x = true then ordD (fun d e => !dataLt d e) x y else gGe x y
section
variable {Γ : Wd} {E : XK} {B0 B B' : Br} {m m' m1 : List Addr} {h h' h1 : MH} {H H' H1 : Hp} {C : String} {n : Nat} {F : FF} {sp : Sp} {c : FF}
theorem ordD_run {f : PyData → PyData → Bool} {x y d : D} {v u : V} {Q : VK} (rx : repV Γ B H x v) (ry : repV Γ B H y u) (e : ordD f x y = some d) (q : ∀ b, d = .bl b → Q (.bl b) H) : rOrdD Γ.K f v u H Q := by
  unfold ordD at e
  cases e1 : toP x with
  | none => simp only [e1] at e; cases e
  | some a =>
    cases e2 : toP y with
    | none => simp only [e1, e2] at e; cases e
    | some b =>
      simp only [e1, e2] at e
      split at e
      · next l => cases e; exact ⟨a, b, toP_repV rx e1, toP_repV ry e2, l.1, nonP_ne l.2.1, l.2.2, q _ rfl⟩
      · cases e
instance : G2 Γ (orR aLt (rOrdD Γ.K fun d e => dataLt d e)) gLtX := ⟨fun {B0 m h H x y d v u Q} R rx ry e q => by
  unfold gLtX at e
  split at e
  · exact .inr (ordD_run rx ry e fun b eb => by subst eb; exact q _ _ same_rfl rep_bl)
  · exact .inl ((inferInstance : G2 Γ aLt gLt).run R rx ry e q)⟩
instance : G2 Γ (orR aGt (rOrdD Γ.K fun d e => dataLt e d)) gGtX := ⟨fun {B0 m h H x y d v u Q} R rx ry e q => by
  unfold gGtX at e
  split at e
  · exact .inr (ordD_run rx ry e fun b eb => by subst eb; exact q _ _ same_rfl rep_bl)
  · exact .inl ((inferInstance : G2 Γ aGt gGt).run R rx ry e q)⟩
instance : G2 Γ (orR aLe (rOrdD Γ.K fun d e => !dataLt e d)) gLeX := ⟨fun {B0 m h H x y d v u Q} R rx ry e q => by
  unfold gLeX at e
  split at e
  · exact .inr (ordD_run rx ry e fun b eb => by subst eb; exact q _ _ same_rfl rep_bl)
  · exact .inl ((inferInstance : G2 Γ aLe gLe).run R rx ry e q)⟩
instance : G2 Γ (orR aGe (rOrdD Γ.K fun d e => !dataLt d e)) gGeX := ⟨fun {B0 m h H x y d v u Q} R rx ry e q => by
  unfold gGeX at e
  split at e
  · exact .inr (ordD_run rx ry e fun b eb => by subst eb; exact q _ _ same_rfl rep_bl)
  · exact .inl ((inferInstance : G2 Γ aGe gGe).run R rx ry e q)⟩
/-! ### sorted of data -/
open Classical in
noncomputable def gSortD : List D → Option D
  | [.lst xs] => (match toPs xs with
    | some ps => if AllAlike ps ∧ Sortable ps ∧ (∀ d ∈ ps, d.depth < 60) then some (.lst (sortV xs ps)) else none
    | none => none)
  | _ => none
theorem toPs_len : ∀ {xs : List D} {ps : List PyData}, toPs xs = some ps → ps.length = xs.length
  | [], _, e => by unfold toPs at e; cases e; rfl
  | d :: ds, ps, e => by
    unfold toPs at e
    cases e1 : toP d with
    | none => simp only [e1] at e; cases e
    | some x =>
      cases e2 : toPs ds with
      | none => simp only [e1, e2] at e; cases e
      | some xs => simp only [e1, e2] at e; cases e; simp [toPs_len e2]
theorem reps_sort {xs : List D} {vs : List V} {ps : List PyData} (r : reps Γ B H xs vs) (l : ps.length = xs.length) : reps Γ B H (sortV xs ps) (sortV vs ps) := by
  have l2 := reps_len r
  -- triples
  have key : ∀ {α : Type} (f : (D × V) × PyData → α × PyData) (_ : ∀ t, (f t).2 = t.2), ((xs.zip vs).zip ps |>.mergeSort (dataLe false Prod.snd)).map f = (((xs.zip vs).zip ps).map f).mergeSort (dataLe false Prod.snd) := fun f hf =>
    PySem.W.sort_maps f fun a _ b _ => by
      unfold dataLe PySem.W.sortLe
      simp only [hf]
  have z1 : ∀ (xs : List D) (vs : List V) (ps : List PyData), xs.length = vs.length → ps.length = xs.length → ((xs.zip vs).zip ps).map (fun t => (t.1.1, t.2)) = xs.zip ps ∧ ((xs.zip vs).zip ps).map (fun t => (t.1.2, t.2)) = vs.zip ps := by
    intro xs
    induction xs with
    | nil => intro vs ps a b; cases vs <;> cases ps <;> simp_all
    | cons x xs ih =>
      intro vs ps a b
      cases vs with
      | nil => simp at a
      | cons v vs =>
        cases ps with
        | nil => simp at b
        | cons p ps =>
          have := ih vs ps (by simpa using a) (by simpa using b)
          simp [this.1, this.2]
  obtain ⟨e1, e2⟩ := z1 xs vs ps l2 l
  unfold sortV
  rw [← e1, ← e2, ← key (fun t => (t.1.1, t.2)) (fun _ => rfl), ← key (fun t => (t.1.2, t.2)) (fun _ => rfl), List.map_map, List.map_map]
  have mem : ∀ t ∈ ((xs.zip vs).zip ps).mergeSort (dataLe false Prod.snd), rep Γ B H t.1.1 t.1.2 := fun t ht => by
    have ht := (List.mergeSort_perm _ _).mem_iff.mp ht
    have h1 := (List.of_mem_zip (show (t.1, t.2) ∈ (xs.zip vs).zip ps from ht)).1
    obtain ⟨i, hi⟩ := List.getElem?_of_mem h1
    rw [List.getElem?_zip_eq_some] at hi
    obtain ⟨v', g, rr⟩ := reps_get r hi.1
    rw [hi.2] at g
    cases g
    exact rr
  generalize ((xs.zip vs).zip ps).mergeSort (dataLe false Prod.snd) = L at mem
  induction L with
  | nil => unfold reps; rfl
  | cons t L ih =>
    rw [List.map_cons, List.map_cons]
    unfold reps
    exact ⟨_, _, rfl, mem t List.mem_cons_self, ih fun t' h => mem t' (List.mem_cons_of_mem _ h)⟩
instance : GN Γ (rSortD Γ.K) gSortD := ⟨fun {B0 m h H x d v Q} R r e q => by
  unfold gSortD at e
  split at e
  · next xs =>
    obtain ⟨u, z, rfl, a, b⟩ := r
    have b : z = [] := b
    subst b
    obtain ⟨p, vs, rfl, g, rr⟩ := a
    cases e1 : toPs xs with
    | none => simp only [e1] at e; cases e
    | some ps =>
      simp only [e1] at e
      split at e
      · next l =>
        cases e
        exact ⟨p, vs, ps, rfl, SqL.of g, toPs_rep xs vs ps rr e1, l.1, l.2.1, l.2.2, fun r hr => q _ _ (same_new hr) (rep_newL R (reps_sort rr (toPs_len e1)) hr)⟩
      · cases e
  · cases e⟩
/-! ### own comparisons -/
class InsOk (Γ : Wd) (C : String) : Prop where h : InsT Γ.K (Γ.cl C)
def okY (C : String) (h : MH) (y : W) : Bool := isObj C h y || (match vw h y with
  | some d => (tyN d).isSome
  | none => false)
theorem okY_run [i : InsOk Γ C] {y : W} {v : V} (R : Rm Γ B0 m h H) (r : repW Γ (Bar B0 m h) m H y v) (e : okY C h y = true) : ∃ t, TyX Γ.K H v t ∧ PySem.W.notFirst Γ.K (Γ.cl C) t = true := by
  unfold okY at e
  rw [Bool.or_eq_true] at e
  rcases e with e | e
  · obtain ⟨a, dx, fs, rfl, g⟩ := isObj_run R r e
    exact ⟨.ref (Γ.cl C), .base (.ins g i.h.c.cl i.h.c.ha i.h.c.hn i.h.c.htk i.h.c.hm), notFirst_self⟩
  · cases e1 : vw h y with
    | none => simp only [e1] at e; cases e
    | some d =>
      simp only [e1] at e
      cases e2 : tyN d with
      | none => rw [e2] at e; cases e
      | some t =>
        obtain ⟨ty, mem⟩ := tyN_run (vw_rep R r e1) e2
        exact ⟨.type t, ty, notFirst_bt mem⟩
/-- x op y by x's own method -/
def ownL (C : String) (c : FF) (f : W → W → MH → Res W) : W → W → MH → Res W := fun x y h => if isObj C h x = true then (if okY C h y = true then c [x, y] h else .stuck) else f x y h
theorem repWs2 {B : Br} {x y : W} {v u : V} (a : repW Γ B m H x v) (b : repW Γ B m H y u) : repWs Γ B m H [x, y] [v, u] := ⟨v, [u], rfl, a, u, [], rfl, b, rfl⟩
instance {r : R2} {f : W → W → MH → Res W} [i : InsOk Γ C] [hc : CallOk Γ E sp c] [hf : Op2 Γ E r f] : Op2 Γ E (orR r (aCmpL Γ.K (Γ.cl C) sp E)) (ownL C c f) := ⟨fun {B0 m h H x y v u Q} R rx ry q => by
  unfold ownL at q
  split at q
  · next l =>
    split at q
    · next ly =>
      obtain ⟨a, dx, fs, rfl, g⟩ := isObj_run R rx l
      obtain ⟨t, ty, nf⟩ := okY_run R ry ly
      exact .inr ⟨a, dx, fs, t, rfl, g, ty, nf, hc.run R (repWs2 rx ry) q⟩
    · exact q.elim
  · exact .inl (hf.run R rx ry q)⟩
/-- x != y by x's own == -/
def ownNe (C : String) (c : FF) (f : W → W → MH → Res W) : W → W → MH → Res W := fun x y h => if isObj C h x = true then (if okY C h y = true then (c [x, y] h).bind fun z h1 => (asB z h1).bind fun b h2 => .ok (.dat (.bl (!b))) h2 else .stuck) else f x y h
instance {r : R2} {f : W → W → MH → Res W} [i : InsOk Γ C] [hc : CallOk Γ E sp c] [hf : Op2 Γ E r f] : Op2 Γ E (orR r (aNeL Γ.K (Γ.cl C) sp E)) (ownNe C c f) := ⟨fun {B0 m h H x y v u Q} R rx ry q => by
  unfold ownNe at q
  split at q
  · next l =>
    split at q
    · next ly =>
      obtain ⟨a, dx, fs, rfl, g⟩ := isObj_run R rx l
      obtain ⟨t, ty, nf⟩ := okY_run R ry ly
      refine .inr ⟨a, dx, fs, t, rfl, g, ty, nf, hc.run R (repWs2 rx ry) (q.bind fun z h1 m1 H1 v1 R1 x1 r1 q1 => ?_)⟩
      obtain ⟨b, e, qq⟩ := asB_run (Q := fun b H' => Q (.bl (!b)) H') R1 r1 (q1.bind (rl := eqR Bool) fun k h4 m4 H4 k' R4 x4 r4 q4 => by
        cases (show k' = k from r4)
        exact q4 m4 H4 _ R4 Ex.refl (by show rep _ _ _ _ _; unfold rep; rfl))
      exact ⟨b, e, qq⟩
    · exact q.elim
  · exact .inl (hf.run R rx ry q)⟩
/-- v == ref by ref's own == -/
def isBt (h : MH) (x : W) : Bool := match vw h x with
  | some d => (tyN d).isSome
  | none => false
theorem isBt_run {x : W} {v : V} (R : Rm Γ B0 m h H) (r : repW Γ (Bar B0 m h) m H x v) (e : isBt h x = true) : ∃ t, Bv Γ.K H v t := by
  unfold isBt at e
  cases e1 : vw h x with
  | none => simp only [e1] at e; cases e
  | some d =>
    simp only [e1] at e
    have rv := vw_rep R r e1
    cases d with
    | non => cases rv; exact ⟨_, .non⟩
    | bl b => cases rv; exact ⟨_, .bl b⟩
    | int b => cases rv; exact ⟨_, .int b⟩
    | str b => cases rv; exact ⟨_, .str b⟩
    | lst ds => obtain ⟨p, vs, rfl, g, a⟩ := rv; exact ⟨_, .lst (SqL.of g)⟩
    | tup ds => obtain ⟨p, vs, rfl, g, a⟩ := rv; exact ⟨_, .tup g⟩
    | dic ks ds => obtain ⟨p, vs, rfl, g, l, a⟩ := rv; exact ⟨_, .dic g⟩
    | _ => cases e
def ownEqR (C : String) (c : FF) (f : W → W → MH → Res W) : W → W → MH → Res W := fun x y h => if isObj C h y = true then (if isBt h x = true then c [y, x] h else f x y h) else f x y h
instance {r : R2} {f : W → W → MH → Res W} [hc : CallOk Γ E sp c] [hf : Op2 Γ E r f] : Op2 Γ E (orR r (aEqR Γ.K (Γ.cl C) sp E)) (ownEqR C c f) := ⟨fun {B0 m h H x y v u Q} R rx ry q => by
  unfold ownEqR at q
  split at q
  · next l =>
    split at q
    · next lx =>
      obtain ⟨a, dx, fs, rfl, g⟩ := isObj_run R ry l
      obtain ⟨t, b⟩ := isBt_run R rx lx
      exact .inr ⟨a, dx, fs, t, rfl, g, b, hc.run R (repWs2 ry rx) q⟩
    · exact .inl (hf.run R rx ry q)
  · exact .inl (hf.run R rx ry q)⟩
/-! ### sorted, min, max of instances by their own signs -/
def objIs (C : String) : D → Bool
  | .obj C' _ _ => decide (C' = C)
  | _ => false
def cmpTab (c : FF) (xs : List D) (h : MH) (i j : Nat) : Bool := match xs[i]?, xs[j]? with
  | some x, some y => (match c [.dat x, .dat y] h with
    | .ok (.dat (.bl b)) _ => b
    | _ => false)
  | _, _ => false
def allCmp (c : FF) (xs : List D) (h : MH) : Prop := ∀ x ∈ xs, ∀ y ∈ xs, ∃ b, c [.dat x, .dat y] h = .ok (.dat (.bl b)) h
def byRunD (lt : Nat → Nat → Bool) (xs : List D) : List D := if xs.length < 2 then xs else (KRun lt (PySem.W.kas_sort xs.length)).toList.map fun i => xs.getD i .non
open Classical in
noncomputable def sortF (C : String) (c f : FF) : FF := fun ws h => match ws with
  | [.dat (.lst xs)] => if xs ≠ [] ∧ xs.all (objIs C) = true then (if xs.length < 64 ∧ allCmp c xs h ∧ (2 ≤ xs.length → SortOk (cmpTab c xs h) xs.length) then .ok (.dat (.lst (byRunD (cmpTab c xs h) xs))) h else .stuck) else f ws h
  | _ => f ws h
open Classical in
noncomputable def bestF (C : String) (c f : FF) : FF := fun ws h => match ws with
  | [.dat (.lst xs)] => if xs ≠ [] ∧ xs.all (objIs C) = true then (if allCmp c xs h then (match xs[argBest (cmpTab c xs h) (xs.length - 1)]? with
    | some d => .ok (.dat d) h
    | none => .stuck) else .stuck) else f ws h
  | _ => f ws h
theorem objIs_ins {xs : List D} {vs : List V} (r : reps Γ B H xs vs) (a : xs.all (objIs C) = true) : InsAll (Γ.cl C) H vs := by
  induction xs generalizing vs with
  | nil => unfold reps at r; subst r; intro x hx; cases hx
  | cons d xs ih =>
    unfold reps at r
    obtain ⟨v, q, rfl, r1, r2⟩ := r
    rw [List.all_cons, Bool.and_eq_true] at a
    intro x hx
    rcases List.mem_cons.mp hx with rfl | hx
    · cases d with
      | obj C' ns ds =>
        unfold rep at r1
        obtain ⟨p, dx, vs, e, g, _⟩ := r1
        have e2 : C' = C := of_decide_eq_true a.1
        subst e2
        exact ⟨p, dx, _, e, g⟩
      | _ => exact absurd a.1 (by simp [objIs])
    · exact ih r2 a.2 x hx
/-- what the runs of the comparisons keep -/
def JJ (Γ : Wd) (B0 : Br) (m : List Addr) (h : MH) (H : Hp) (H' : Hp) : Prop := ∃ m', Rm Γ B0 m' h H' ∧ Ex m h H m' h H'
theorem asks_of [hc : CallOk Γ L2.E0 sp c] {xs : List D} {vs : List V} (R : Rm Γ B0 m h H) (r : reps Γ (Bar B0 m h) H xs vs) (ac : allCmp c xs h) : Asks sp vs (cmpTab c xs h) (JJ Γ B0 m h H) := by
  rintro i j x y H' Q ex ey ⟨m', R', X'⟩ hQ
  have l := reps_len r
  have hi : i < xs.length := by
    rw [l]
    rcases Nat.lt_or_ge i vs.length with z | z
    · exact z
    · rw [List.getElem?_eq_none z] at ex; cases ex
  have hj : j < xs.length := by
    rw [l]
    rcases Nat.lt_or_ge j vs.length with z | z
    · exact z
    · rw [List.getElem?_eq_none z] at ey; cases ey
  have r' := (X'.kpp R).reps _ _ r
  obtain ⟨x', g1, rx⟩ := reps_get r' (List.getElem?_eq_getElem hi)
  obtain ⟨y', g2, ry⟩ := reps_get r' (List.getElem?_eq_getElem hj)
  rw [ex] at g1; cases g1
  rw [ey] at g2; cases g2
  obtain ⟨b, e⟩ := ac xs[i] (List.getElem_mem hi) xs[j] (List.getElem_mem hj)
  refine hc.run (ws := [.dat xs[i], .dat xs[j]]) R' (repWs2 rx ry) ?_
  rw [e]
  intro m'' H'' v R'' X'' rv
  have e2 : v = .bl b := by have z : rep Γ (Bar B0 m'' h) H'' (.bl b) v := rv; unfold rep at z; exact z
  have e3 : cmpTab c xs h i j = b := by
    unfold cmpTab
    rw [List.getElem?_eq_getElem hi, List.getElem?_eq_getElem hj]
    dsimp only
    rw [e]
  rw [e2, ← e3]
  exact hQ H'' ⟨m'', R'', X'.trans X''⟩
theorem byRun_reps {xs : List D} {vs : List V} {lt : Nat → Nat → Bool} (r : reps Γ B H xs vs) (ok : 2 ≤ xs.length → SortOk lt xs.length) : reps Γ B H (byRunD lt xs) (byRun lt vs) := by
  have l := reps_len r
  unfold byRunD byRun
  rw [← l]
  split
  · exact r
  · next h2 =>
    have hm := (ok (by omega)).2
    generalize (KRun lt (PySem.W.kas_sort xs.length)).toList = L at hm
    induction L with
    | nil => unfold reps; rfl
    | cons i L ih =>
      rw [List.map_cons, List.map_cons]
      have hi := hm i List.mem_cons_self
      obtain ⟨v, g, rv⟩ := reps_get r (List.getElem?_eq_getElem hi)
      unfold reps
      refine ⟨_, _, rfl, ?_, ih fun j hj => hm j (List.mem_cons_of_mem _ hj)⟩
      have e1 : xs.getD i .non = xs[i] := by simp [hi]
      have e2 : vs.getD i .non = v := by simp [g]
      rw [e1, e2]
      exact rv
instance {r : RC} {f : FF} [hc : CallOk Γ L2.E0 sp c] [hf : OpN Γ E r f] : OpN Γ E (orC r (rSortO Γ.K (Γ.cl C) sp)) (sortF C c f) := ⟨fun {B0 m h H x v Q} R rx q => by
  unfold sortF at q
  split at q
  · next xs =>
    split at q
    · next l =>
      split at q
      · next l2 =>
        obtain ⟨u, z, rfl, a, b⟩ := rx
        have b : z = [] := b
        subst b
        have a : rep Γ (Bar B0 m h) H (.lst xs) u := a
        unfold rep at a
        obtain ⟨p, vs, rfl, g, nb, rr⟩ := a
        have ll := reps_len rr
        refine .inr ⟨p, vs, cmpTab c xs h, JJ Γ B0 m h H, rfl, SqL.of g, by rw [← ll]; exact l2.1, ⟨m, R, Ex.refl⟩, fun H' ⟨m', R', X'⟩ => objIs_ins ((X'.kpp R).reps _ _ rr) l.2, asks_of R rr l2.2.1, by rw [← ll]; exact l2.2.2, ?_⟩
        rintro H' p' ⟨m', R', X'⟩ hp
        obtain ⟨R'', X''⟩ := R'.same (same_new (u := .lst (byRun (cmpTab c xs h) vs)) hp)
        refine q m' _ _ R'' (X'.trans X'') ?_
        exact rep_newL R' (byRun_reps ((X'.kpp R).reps _ _ rr) l2.2.2) hp
      · exact q.elim
    · exact .inl (hf.run R rx q)
  · exact .inl (hf.run R rx q)⟩
instance {r : RC} {f : FF} [hc : CallOk Γ L2.E0 sp c] [hf : OpN Γ E r f] : OpN Γ E (orC r (rBestO Γ.K (Γ.cl C) sp)) (bestF C c f) := ⟨fun {B0 m h H x v Q} R rx q => by
  unfold bestF at q
  split at q
  · next xs =>
    split at q
    · next l =>
      split at q
      · next l2 =>
        obtain ⟨u, z, rfl, a, b⟩ := rx
        have b : z = [] := b
        subst b
        have a : rep Γ (Bar B0 m h) H (.lst xs) u := a
        unfold rep at a
        obtain ⟨p, vs, rfl, g, nb, rr⟩ := a
        have ll := reps_len rr
        have hpos : 0 < vs.length := by
          rw [← ll]
          exact List.length_pos_iff.mpr l.1
        refine .inr ⟨p, vs, cmpTab c xs h, JJ Γ B0 m h H, rfl, g, hpos, ⟨m, R, Ex.refl⟩, fun H' ⟨m', R', X'⟩ => ⟨((X'.kpp R).mu p _ g trivial nb).1, objIs_ins ((X'.kpp R).reps _ _ rr) l.2⟩, asks_of R rr l2, ?_⟩
        rintro H' y ⟨m', R', X'⟩ hy
        cases e : xs[argBest (cmpTab c xs h) (xs.length - 1)]? with
        | none => simp only [e] at q; exact q.elim
        | some d =>
          simp only [e] at q
          obtain ⟨y', g', ry⟩ := reps_get ((X'.kpp R).reps _ _ rr) e
          rw [ll, hy] at g'
          cases g'
          exact q m' H' _ R' X' ry
      · exact q.elim
    · exact .inl (hf.run R rx q)
  · exact .inl (hf.run R rx q)⟩
end
end S
end

section
namespace S
open PySem PySem.Spec PyProof.Rows L2 Z LamX
/-! ### a statement that is not reached -/
def tNo : TS := fun _ _ _ => False
theorem ps_no {X : Cx} {st : Stmt} : PS X st tNo := ⟨fun _ _ _ _ _ _ h => h.elim⟩
def sNo : SS := fun _ _ => .stuck
instance {Γ : Wd} {E : XK} : EvS Γ E tNo sNo := ⟨fun {B0 m h H s σ Dn} R es q => q.elim⟩
/-! ### xs.index(x), texts -/
def mIdx : W → List W → MH → Res W := fun o ws h => match o, str1 ws with
  | .dat (.lst xs), some z => (match strsD xs with
    | some ys => (match idxS z ys 0 with
      | some j => .ok (.dat (.int (j : Nat))) h
      | none => .stuck)
    | none => .stuck)
  | _, _ => .stuck
section
variable {Γ : Wd} {E : XK} {B0 B B' : Br} {m m' m1 : List Addr} {h h' h1 : MH} {H H' H1 : Hp}
theorem strsD_reps : ∀ {xs : List D} {ys : List Str} {vs : List V}, strsD xs = some ys → reps Γ B H xs vs → vs = ys.map V.str
  | [], ys, vs, e, r => by unfold strsD at e; cases e; unfold reps at r; exact r
  | d :: xs, ys, vs, e, r => by
    unfold reps at r
    obtain ⟨v, q, rfl, a, b⟩ := r
    cases d with
    | str z =>
      unfold strsD at e
      cases e2 : strsD xs with
      | none => rw [e2] at e; cases e
      | some zs =>
        rw [e2] at e; cases e
        unfold rep at a
        subst a
        rw [strsD_reps e2 b]; rfl
    | _ => cases e
theorem eqV_str {a b : Str} : eqV (.str a) (.str b) = decide (a = b) := by
  show (a == b) = _
  by_cases h : a = b
  · subst h; simp
  · simp [h]
instance : MtOk Γ E (rIndex Γ.K) mIdx := ⟨fun {B0 m h H x v ws vs Q} R rx r q => by
  unfold mIdx at q
  split at q
  · next xs z e1 =>
    cases e2 : strsD xs with
    | none => simp only [e2] at q; exact q.elim
    | some ys =>
      simp only [e2] at q
      cases e3 : idxS z ys 0 with
      | none => simp only [e3] at q; exact q.elim
      | some j =>
        simp only [e3] at q
        have rx : rep Γ (Bar B0 m h) H (.lst xs) v := rx
        unfold rep at rx
        obtain ⟨p, us, rfl, g, nb, a⟩ := rx
        have eu := strsD_reps e2 a
        subst eu
        obtain ⟨_, b, c⟩ := idxS_run e3
        rw [str1_eq e1] at r
        obtain ⟨u0, rfl, a0⟩ := repWs1 r
        have a0 : rep Γ (Bar B0 m h) H (.str z) u0 := a0
        unfold rep at a0
        subst a0
        refine ⟨p, ys.map V.str, .str z, j, .str z, rfl, rfl, SqL.of g, rfl, by simp [flatV], by rw [List.getElem?_map]; simpa using congrArg (Option.map V.str) b, by rw [eqV_str]; simp, fun m z' hm hz => ?_, q _ _ _ R Ex.refl w_int⟩
        rw [List.getElem?_map] at hz
        cases e5 : ys[m]? with
        | none => rw [e5] at hz; cases hz
        | some y =>
          rw [e5] at hz
          cases hz
          rw [eqV_str]
          refine decide_eq_false fun z2 => ?_
          have := c m (by omega)
          rw [e5] at this
          exact this (by rw [z2])
  · exact q.elim⟩
end
theorem k_lidx {X : Cx} (K : PySem.W.Frag) (h : X.K = K := by rfl) : MtR X "list.index" (rIndex K) := h ▸ mt_index
end S
namespace S
open PySem PySem.Spec PyProof.Rows L2 Z LamX
theorem orR_or {X : Cx} {f : Value → Value → Sem Value} {r r' : R2} (h : OpR X f r) (h' : OpR X f r') : OpR X f (orR r r') := orO h h'
theorem own_of {K : PySem.W.Frag} {C f : Addr} {nm : Str} (h : Meth K C nm f) : OwnU K C f nm := ⟨h.at_, h.fn⟩
def rNo : RC := fun _ _ _ => False
theorem cr_no {X : Cx} {f : Value} : CallR X f rNo := fun _ _ _ _ _ _ _ _ _ h => h.elim
def noF : FF := fun _ _ => .stuck
instance {Γ : Wd} {E : XK} : OpN Γ E rNo noF := ⟨fun {B0 m h H x v Q} R rx q => q.elim⟩
theorem bt_all {p : String → Prop} (h1 : p "NoneType") (h2 : p "bool") (h3 : p "int") (h4 : p "str") (h5 : p "list") (h6 : p "tuple") (h7 : p "dict") : ∀ t ∈ btTs, p t := by
  intro t ht
  simp only [btTs, List.mem_cons, List.not_mem_nil, or_false] at ht
  rcases ht with rfl | rfl | rfl | rfl | rfl | rfl | rfl <;> assumption
end S
end

section
namespace S
open PySem PySem.Spec PyProof.Rows L2 Z LamX
open PySem.W (alike alikeAll AllAlike Sortable dataLt dataLe keyToks)
/-! ### comprehensions that change the pen -/
theorem lcS_gen {g : GG} {te : EE} {s : En} (P : D → Prop) (J : Nat → MH → Prop) : ∀ (ds : List D) (h : MH) (acc : List D) (i : Nat), J i h →
    (∀ j d h, J j h → d ∈ ds → j < i + ds.length → ∃ s1 y h2, g (.dat d) s h = .nx s1 h ∧ te s1 h = .ok (.dat y) h2 ∧ P y ∧ J (j + 1) h2) → acc.length + ds.length ≤ sizeLine →
    ∃ ys h', lcS g eYes te ds s h acc = .ok (.dat (.lst (acc ++ ys))) h' ∧ ys.length = ds.length ∧ (∀ y ∈ ys, P y) ∧ J (i + ds.length) h'
  | [], h, acc, i, hi, _, _ => ⟨[], h, by simp [lcS], rfl, fun y hy => (by cases hy), hi⟩
  | d :: ds, h, acc, i, hi, hs, hl => by
    obtain ⟨s1, y, h2, e1, e2, py, hj⟩ := hs i d h hi List.mem_cons_self (by rw [List.length_cons]; omega)
    rw [List.length_cons] at hl
    obtain ⟨ys, h', e, l, pp, jj⟩ := lcS_gen P J ds h2 (acc ++ [y]) (i + 1) hj (fun j d h a b c => hs j d h a (List.mem_cons_of_mem _ b) (by rw [List.length_cons]; omega)) (by rw [List.length_append, List.length_singleton]; omega)
    refine ⟨y :: ys, h', ?_, by simp [l], fun z hz => ?_, by rw [List.length_cons, show i + (ds.length + 1) = i + 1 + ds.length by omega]; exact jj⟩
    · unfold lcS
      rw [e1]
      simp only [eYes, e2]
      rw [if_pos (by omega), e]
      simp
    · rcases List.mem_cons.mp hz with rfl | hz
      · exact py
      · exact pp z hz
/-! ### sorted lists -/
theorem perm_sorted_eq {α : Type} {le : α → α → Prop} : ∀ {l m : List α}, l.Perm m → l.Pairwise le → m.Pairwise le → (∀ a ∈ l, ∀ b ∈ l, le a b → le b a → a = b) → l = m
  | [], m, p, _, _, _ => (List.Perm.eq_nil p.symm).symm
  | a :: l, [], p, _, _, _ => by have := p.length_eq; simp at this
  | a :: l, b :: m, p, hl, hm, an => by
    have hl' := List.pairwise_cons.mp hl
    have hm' := List.pairwise_cons.mp hm
    have hab : a = b := by
      have h1 : a ∈ b :: m := p.mem_iff.mp List.mem_cons_self
      have h2 : b ∈ a :: l := p.mem_iff.mpr List.mem_cons_self
      rcases List.mem_cons.mp h1 with e | h1
      · exact e
      · rcases List.mem_cons.mp h2 with e | h2
        · exact e.symm
        · exact an a List.mem_cons_self b (List.mem_cons_of_mem _ h2) (hl'.1 b h2) (hm'.1 a h1)
    subst hab
    rw [perm_sorted_eq p.cons_inv hl'.2 hm'.2 fun x hx y hy => an x (List.mem_cons_of_mem _ hx) y (List.mem_cons_of_mem _ hy)]
theorem KRun_congr {α : Type} {lt lt' : Nat → Nat → Bool} {n : Nat} (h : ∀ i j, i < n → j < n → lt i j = lt' i j) : ∀ t : PySem.W.KasT α, KIn n t → KRun lt t = KRun lt' t
  | .ret a, _ => rfl
  | .ask i j k, ⟨h1, h2, h3⟩ => by
    show KRun lt (k (lt i j)) = KRun lt' (k (lt' i j))
    rw [h i j h1 h2]
    exact KRun_congr h _ (h3 _)
theorem swo_of (O : KeyOrd) {α : Type} (κ : α → O.α) : SrtO.Swo fun x y => O.blt (κ x) (κ y) := ⟨fun x y h => KeyOrd.klt_asymm (O := O) h, fun x y z h1 h2 => KeyOrd.kle_trans (O := O) (a := κ x) (b := κ y) (c := κ z) h1 h2⟩
/-- sorted by own signs that go by keys -/
theorem byRun_spec (O : KeyOrd) (κ : D → O.α) {xs : List D} {lt : Nat → Nat → Bool} (h : ∀ (i j : Nat) (x y : D), xs[i]? = some x → xs[j]? = some y → lt i j = O.blt (κ x) (κ y)) :
    (2 ≤ xs.length → SortOk lt xs.length) ∧ (byRunD lt xs).Perm xs ∧ (byRunD lt xs).Pairwise fun a b => O.blt (κ b) (κ a) = false := by
  by_cases h2 : xs.length < 2
  · refine ⟨fun z => absurd h2 (by omega), ?_⟩
    unfold byRunD
    rw [if_pos h2]
    refine ⟨List.Perm.refl _, ?_⟩
    match xs, h2 with
    | [], _ => exact List.Pairwise.nil
    | [x], _ => exact List.pairwise_singleton _ _
    | _ :: _ :: _, h2 => exact absurd h2 (by simp)
  · have h1 : 1 ≤ xs.length := by omega
    let lt' : Nat → Nat → Bool := fun i j => O.blt (κ (xs.getD i .non)) (κ (xs.getD j .non))
    have sw : SrtO.Swo lt' := swo_of O fun i => κ (xs.getD i .non)
    have ec : KRun lt (PySem.W.kas_sort xs.length) = KRun lt' (PySem.W.kas_sort xs.length) := KRun_congr (n := xs.length) (fun i j hi hj => by
      rw [h i j xs[i] xs[j] (List.getElem?_eq_getElem hi) (List.getElem?_eq_getElem hj)]
      show _ = O.blt (κ (xs.getD i .non)) (κ (xs.getD j .non))
      have e1 : xs.getD i .non = xs[i] := by simp [hi]
      have e2 : xs.getD j .non = xs[j] := by simp [hj]
      rw [e1, e2]) _ (in_sort h1)
    obtain ⟨pm, up⟩ := run_sort sw (n := xs.length) h1
    rw [← ec] at pm up
    have hs : (KRun lt (PySem.W.kas_sort xs.length)).size = xs.length := by
      have := pm.length_eq
      rw [Array.length_toList, List.length_range] at this
      exact this
    have hm : ∀ i ∈ (KRun lt (PySem.W.kas_sort xs.length)).toList, i < xs.length := fun i hi => List.mem_range.mp (pm.mem_iff.mp hi)
    refine ⟨fun _ => ⟨hs, hm⟩, ?_, ?_⟩
    · unfold byRunD
      rw [if_neg h2]
      have e : (List.range xs.length).map (fun i => xs.getD i .non) = xs := by
        apply List.ext_getElem?
        intro i
        rw [List.getElem?_map]
        by_cases hi : i < xs.length
        · rw [List.getElem?_range hi]; simp [hi]
        · rw [List.getElem?_eq_none (by simp; omega), List.getElem?_eq_none (by omega)]; rfl
      conv => rhs; rw [← e]
      exact pm.map _
    · unfold byRunD
      rw [if_neg h2, List.pairwise_map, List.pairwise_iff_getElem]
      intro i j hi hj hij
      rw [Array.length_toList, hs] at hi hj
      have := up i j (by omega) hj
      have e1 : Pk (KRun lt (PySem.W.kas_sort xs.length)) i = (KRun lt (PySem.W.kas_sort xs.length)).toList[i]'(by rw [Array.length_toList, hs]; exact hi) := by simp [Pk, Array.getD, hs, hi]
      have e2 : Pk (KRun lt (PySem.W.kas_sort xs.length)) j = (KRun lt (PySem.W.kas_sort xs.length)).toList[j]'(by rw [Array.length_toList, hs]; exact hj) := by simp [Pk, Array.getD, hs, hj]
      rw [e1, e2] at this
      exact this
/-- the best one -/
theorem argBest_spec {n : Nat} {lt : Nat → Nat → Bool} (sw : SrtO.Swo lt) : ∀ j, argBest lt j ≤ j ∧ ∀ i, i ≤ j → lt i (argBest lt j) = false
  | 0 => ⟨Nat.le_refl _, fun i hi => by
      have h0 : i = 0 := Nat.le_zero.mp hi
      rw [h0]
      exact sw.refl 0⟩
  | j + 1 => by
    obtain ⟨a, b⟩ := argBest_spec (n := n) sw j
    simp only [argBest]
    cases e : lt (j + 1) (argBest lt j) with
    | true =>
      refine ⟨by simp, fun i hi => ?_⟩
      simp only [if_true]
      by_cases hj : i = j + 1
      · subst hj; exact sw.refl _
      · exact sw.tr _ (argBest lt j) _ (sw.asym _ _ e) (b i (by omega))
    | false =>
      refine ⟨by simp; omega, fun i hi => ?_⟩
      simp only [Bool.false_eq_true, if_false]
      by_cases hj : i = j + 1
      · subst hj; exact e
      · exact b i (by omega)
theorem argBest_congr {lt lt' : Nat → Nat → Bool} {n : Nat} (h : ∀ i j, i < n → j < n → lt i j = lt' i j) : ∀ j, j < n → argBest lt j = argBest lt' j ∧ argBest lt j ≤ j
  | 0, _ => ⟨rfl, Nat.le_refl _⟩
  | j + 1, hj => by
    obtain ⟨a, b⟩ := argBest_congr h j (by omega)
    simp only [argBest]
    rw [h (j + 1) (argBest lt j) hj (by omega), a]
    rw [← a]
    exact ⟨rfl, by split <;> omega⟩
theorem best_spec (O : KeyOrd) (κ : D → O.α) {xs : List D} {bt : Nat → Nat → Bool} (hn : 0 < xs.length) (h : ∀ (i j : Nat) (x y : D), xs[i]? = some x → xs[j]? = some y → bt i j = O.blt (κ x) (κ y)) :
    ∃ x ∈ xs, xs[argBest bt (xs.length - 1)]? = some x ∧ ∀ y ∈ xs, O.blt (κ y) (κ x) = false := by
  let bt' : Nat → Nat → Bool := fun i j => O.blt (κ (xs.getD i .non)) (κ (xs.getD j .non))
  have sw : SrtO.Swo bt' := swo_of O fun i => κ (xs.getD i .non)
  have hc : ∀ i j, i < xs.length → j < xs.length → bt i j = bt' i j := fun i j hi hj => by
    rw [h i j xs[i] xs[j] (List.getElem?_eq_getElem hi) (List.getElem?_eq_getElem hj)]
    show _ = O.blt (κ (xs.getD i .non)) (κ (xs.getD j .non))
    have e1 : xs.getD i .non = xs[i] := by simp [hi]
    have e2 : xs.getD j .non = xs[j] := by simp [hj]
    rw [e1, e2]
  obtain ⟨e, le⟩ := argBest_congr hc (xs.length - 1) (by omega)
  obtain ⟨a, b⟩ := argBest_spec (n := xs.length) sw (xs.length - 1)
  have hb : argBest bt (xs.length - 1) < xs.length := by omega
  refine ⟨xs[argBest bt (xs.length - 1)], List.getElem_mem hb, List.getElem?_eq_getElem hb, fun y hy => ?_⟩
  obtain ⟨i, hi, rfl⟩ := List.getElem_of_mem hy
  have := b i (by omega)
  rw [← e] at this
  have e1 : xs.getD i .non = xs[i] := by simp [hi]
  have e2 : xs.getD (argBest bt (xs.length - 1)) .non = xs[argBest bt (xs.length - 1)] := by simp [hb]
  show O.blt (κ xs[i]) (κ xs[argBest bt (xs.length - 1)]) = false
  rw [← e1, ← e2]
  exact this
/-! ### sorted of data -/
abbrev ordO : KeyOrd := listOrd itemOrd
def kapD (d : D) : ordO.α := match toP d with
  | some p => keyToks p
  | none => []
theorem zip_toPs : ∀ {xs : List D} {ps : List PyData}, toPs xs = some ps → ∀ t ∈ xs.zip ps, toP t.1 = some t.2
  | [], ps, e, t, ht => by simp at ht
  | d :: ds, ps, e, t, ht => by
    unfold toPs at e
    cases e1 : toP d with
    | none => simp only [e1] at e; cases e
    | some x =>
      cases e2 : toPs ds with
      | none => simp only [e1, e2] at e; cases e
      | some ys =>
        simp only [e1, e2] at e; cases e
        rw [List.zip_cons_cons] at ht
        rcases List.mem_cons.mp ht with rfl | ht
        · exact e1
        · exact zip_toPs e2 t ht
theorem sortV_spec {xs : List D} {ps : List PyData} (e : toPs xs = some ps) : (sortV xs ps).Perm xs ∧ (sortV xs ps).Pairwise fun a b => ordO.blt (kapD b) (kapD a) = false := by
  have hl := toPs_len e
  have pm := List.mergeSort_perm (xs.zip ps) (dataLe false Prod.snd)
  refine ⟨?_, ?_⟩
  · unfold sortV
    have := pm.map Prod.fst
    rw [List.map_fst_zip (by omega)] at this
    exact this
  · unfold sortV
    rw [List.pairwise_map]
    have pw := PySem.W.sort_pairwise (le := dataLe false (Prod.snd : D × PyData → PyData)) (PySem.W.sortLe_total _ _ _) (xs.zip ps)
    refine List.Pairwise.imp_of_mem (fun {a b} ha hb hab => ?_) pw
    have ta := zip_toPs e a (pm.mem_iff.mp ha)
    have tb := zip_toPs e b (pm.mem_iff.mp hb)
    have hab : (!ordO.blt (keyToks b.2) (keyToks a.2)) = true := hab
    unfold kapD
    rw [ta, tb]
    simpa using hab
end S
end

section
/-! ZZ: x[i], len(x), x in y by own methods; isinstance with a tuple of classes; raise of a class without own __init__ -/
namespace Z
open PySem PySem.Spec PyProof.Rows L2
def aIxO (C : Addr) (sp : Sp) (E : XK) : R2 := fun x y H Q => ∃ a dx fs, x = .ref a ∧ H a = some (.ins C dx fs) ∧ sp [x, y] H Q E
def aLenO (C : Addr) (sp : Sp) (E : XK) : RC := fun xs H Q => ∃ a dx fs, xs = [.ref a] ∧ H a = some (.ins C dx fs) ∧ sp [.ref a] H (fun v H' => ∃ n : Int, v = .int n ∧ (0 ≤ n ∧ n < 2 ^ 63) ∧ Q (.int n) H') E
theorem fnIn_of {K : PySem.W.Frag} {x qual : Str} {st : Stmt} {f : Addr} {fd : FuncData} (F : Fun K x qual st f fd) : PySem.W.fnIn K f = true := by
  obtain ⟨oc, od, kV, doc, pm, an, cdv, ct, osl, e, lk, hcd⟩ := F.ex
  unfold PySem.W.fnIn
  rw [lk]
section
variable {X : Cx} {CX : CXT} {k : Nat} {C f : Addr} {fd : FuncData} {ps : List Str} {sp : Sp} {E : XK} {a b : Expr} {ta tb : TE} {pos : Pos}
theorem pe_ixO (O : OwnU X.K C f "__getitem__") (hf : PySem.W.fnIn X.K f = true) (F : FnOk X.prog X.w X.K X.mg X.base CX k f fd ps sp) (hr : Room (k + 1) X.A) (hbi : Binds X.K fd ps []) (hx : Passes CX X E) (ha : PE X a ta) (hb : PE X b tb)
    (hs : ∀ x i : Value, subscripted b true x i = runValue (.builtin "lifetime.subscript" ⟨[x, i], []⟩)) : PE X (.Subscript a b pos) (tOp (aIxO C sp E) ta tb) := by
  refine ⟨fun pins s σ H Q I h => ?_⟩
  refine Subscript_ (binT ha hb I h fun v u s2 x y H2 I2 rx ry q => ?_)
  obtain ⟨p, dx, fs, rfl, hp, h⟩ := q
  obtain rfl : v = Value.ref p := rx
  obtain ⟨od, J⟩ := inst_of I2 hp
  obtain ⟨m, hF⟩ := I2.fr
  exact PySem.W.sub_K hF I2.ok.mod.kin J O.at_ hf O.fn (run_in1 (us := [.ref p, u]) (vs := [.ref p, y]) F hr hbi hx I2 (.cons rfl (.cons ry .nil)) h) (hs _ _)
theorem c_lenO (O : OwnU X.K C f "__len__") (F : FnOk X.prog X.w X.K X.mg X.base CX k f fd ps sp) (hr : Room (k + 1) X.A) (hb : Binds X.K fd ps []) (hx : Passes CX X E) : CallR X (.builtin "len") (aLenO C sp E) := by
  intro pins s σ H xs us Q I r h
  obtain ⟨a, dx, fs, rfl, ha, h⟩ := h
  obtain ⟨u, rfl, rx⟩ := vals1 r
  cases rx
  obtain ⟨od, J⟩ := inst_of I ha
  obtain ⟨m, hF⟩ := I.fr
  refine PySem.W.len_K hF I.ok.mod.kin J O.at_ O.fn (wpAny_mono (run_in1 (us := [.ref a]) (vs := [.ref a]) F hr hb hx I (.cons rfl .nil) h) (fun u s' q => ?_) fun _ _ z => z)
  obtain ⟨v, H', I', rv, n, rfl, hn, q⟩ := q
  obtain ⟨t, rfl⟩ := (show ∃ t, u = Value.int n t from rv)
  exact ⟨hn, .int n, H', I'.tok _, ⟨_, rfl⟩, q⟩
/-! ### isinstance(x, (c1, c2, ..)) -/
def aIsM (K : PySem.W.Frag) : RC := fun xs H Q => rIsiT K xs H Q ∨ rIsVT K xs H Q
theorem c_isM (K : PySem.W.Frag) (h : X.K = K := by rfl) : CallR X (.builtin "isinstance") (aIsM K) := h ▸ CallR.or call_isiT call_isVT
/-! ### raise of a class without own __init__ -/
abbrev bmVE : List Value := [.type "ValueError", .type "Exception", .type "BaseException", .type "object"]
structure XcN (K : PySem.W.Frag) (mg : Str → Option Value) (x : Str) (C : Addr) : Prop where
  q : PySem.W.excIn K C bmVE "ValueError.__new__" = true
  g : mg x = some (.ref C)
  kp : PySem.W.keepIn K (.ref C) = true
  exC : PySem.W.subIn K (.ref C) (.type "BaseException") = some true
  tyC : PySem.W.typeIn K (.ref C) = some (.type "type")
def tRaise0 (C : Addr) (E : XK) : TS := fun _ _ H => E (.ref C) none H
theorem ps_raise0 {x m : Str} {j : Nat} {p p2 pos pos2 : Pos} (hc : X.calm = true) (tk : Takes X (fun cls d _ H => E cls d H)) (T : XcN X.K X.mg x C) (hg : Gl X x) (hdb : (x == ("__debug__" : Str)) = false := by decide) :
    PS X (.Raise (some (.Call (.Name x p) [.Constant (.str m) j p2] [] pos)) none pos2) (tRaise0 C E) :=
  L2.ps_raise hc tk (pmk_own PySem.F.excBase_ValueError T.q T.g T.kp (raises_own T.exC T.tyC) hg hdb)
end
end Z
end

section
/-! EN: enumerate of a tuple -/
namespace Z
open PySem PySem.Spec PyProof.Rows L2
/-- the items xs of the tuple at a, each with its index in a new pair -/
def ItN (K : PySem.W.Frag) (a : Addr) (xs : List V) : It where
  go i H := SqT K H a xs ∧ i < xs.length
  yld i H v H' := ∃ T x, xs[i]? = some x ∧ v = .ref T ∧ H T = none ∧ H' = upd H T (.tup [.int (i : Nat), x])
  stop i H := SqT K H a xs ∧ xs.length ≤ i
theorem turn_N {P : Program} {w : World} {K : PySem.W.Frag} {elts : List Expr} {kk : Nat} {tpos : Pos} (a e it : Addr) (xs : List V) :
    Turn P w K (.Tuple elts kk tpos) (ItN K a xs) [e, it] e (fun i h => (∃ old, IsEnum h e it ((i : Nat) : Int) old) ∧ h.IsTupleIter it a i ∧ e ∉ [it, a] ∧ a ≠ it ∧ i ≤ xs.length) where
  mem := .head _
  obj := by
    rintro i h ⟨⟨_, he⟩, ⟨o, ho, _, hd⟩, _⟩ b hb
    simp only [List.mem_cons, List.not_mem_nil, or_false] at hb
    rcases hb with rfl | rfl
    · exact ⟨_, he, fun _ z => nomatch z⟩
    · exact ⟨o, ho, fun _ z => by rw [hd] at z; cases z⟩
  keep := by
    rintro i h h' ⟨⟨_, he⟩, hi, rest⟩ k
    exact ⟨⟨_, k e (.head _) _ he⟩, hi.at fun o z => k it (.tail _ (.head _)) o z, rest⟩
  item := by
    rintro X rfl rfl rfl hc i pins s σ H E I hf ⟨⟨old, he⟩, hit, ne, nat, _⟩ ⟨hq, lt⟩
    obtain ⟨its, rv, tup, _⟩ := I.tuple hq
    have len := rv.length
    have e_old := Heap.lt_size he
    have it_old : it < s.heap.objs.size := let ⟨_, z, _⟩ := hit; Heap.lt_size z
    have e_it : e ≠ it := fun z => ne (z ▸ .head _)
    refine wpAny_pyNext_enum_itemD (Draws.tuple (A := X.A.in1) (I.ok.hd hc) it a nat its.toArray) he ⟨hit, tup⟩ (by simp; omega) e_it ne fun x h1 tk at_ out st pair size keep => ?_
    obtain ⟨v, hv, rel⟩ : ∃ v, xs[i]? = some v ∧ RelV v x := by
      obtain ⟨u, hu, ru⟩ := rv.get (List.getElem?_eq_getElem lt)
      have at_ : its.toArray[i]? = some x := at_
      rw [List.getElem?_toArray, hu] at at_
      exact ⟨_, List.getElem?_eq_getElem lt, Option.some.inj at_ ▸ ru⟩
    refine ⟨_, rfl, wpAny_letOwnedTupleGo_enum (s := { s with heap := h1, toks := tk + 1 }) out fun h2 back sb => ?_⟩
    have pair2 := (sb.2 _ (Nat.ne_of_gt e_old)).trans pair
    have J : Inv X pins σ (upd H s.heap.objs.size (.tup [.int (i : Nat), v])) { s with heap := h2, toks := tk + 1 } :=
      I.turnedNew (ch := [e, it]) (fun b o hb z => by
        simp only [List.mem_cons, List.not_mem_nil, or_false, not_or] at hb
        exact (sb.2 b hb.1).trans (keep b o hb.1 hb.2 z)) hf (Nat.le_refl _) ⟨by simp [sizeLine_eq], _, .cons ⟨_, rfl⟩ (.cons rel .nil), ⟨_, pair2, rfl, _, rfl⟩⟩
    refine ⟨.ref s.heap.objs.size, _, J, rfl, ⟨_, v, hv, rfl, I.hok.fresh (Nat.le_refl _), rfl⟩, ⟨⟨x, by push_cast; exact back⟩, st.1.at fun o z => (sb.2 it (Ne.symm e_it)).trans z, ne, nat, lt⟩, fun b hb => ?_⟩
    have old : b < s.heap.objs.size := by
      simp only [List.mem_cons, List.not_mem_nil, or_false] at hb
      rcases hb with rfl | rfl <;> assumption
    rw [upd_ne (Nat.ne_of_lt old)]; exact (hf b hb).1
  done := by
    rintro X rfl rfl rfl hc i pins s σ H E I hf ⟨⟨old, he⟩, hit, ne, nat, le⟩ ⟨hq, ge⟩
    obtain ⟨its, rv, tup, _⟩ := I.tuple hq
    have len := rv.length
    obtain rfl : i = its.toArray.size := by simp; omega
    obtain ⟨f0, f1, f2, f3, f4, f5⟩ := hf it (.tail _ (.head _))
    exact wpAny_pyNext_enum_endD (Draws.tuple (A := X.A.in1) (I.ok.hd hc) it a nat its.toArray) he ⟨hit, tup⟩ fun h1 eb => ⟨rfl, I.turned (t' := s.toks) (fun b o hb z => eb b o hb z) f0 f1 f3 f4 f5⟩
  self := fun _ _ _ _ _ ⟨⟨_, he⟩, _⟩ q => wpAny_pyIter_enum he q
/-- the two objects of enumerate(t) -/
abbrev itOb (l : Addr) : Obj := { cls := .type "tuple_iterator", data := .fields #[.ref l, .int 0 0] }
abbrev enOb (it : Addr) : Obj := { cls := .type "enumerate", data := .fields #[.none, .bool false, .ref it, rawInt 0, .none, .none] }
theorem enum_new (l : Addr) (items : Array Value) : Meets (Builtin.«enumerate.__new__» ⟨[.type "enumerate", .ref l], []⟩)
    (fun _ R s => s.heap.IsTuple l items ∧ R (.ok (.ret (.ref (s.heap.push (itOb l)).objs.size))) { s with heap := (s.heap.push (itOb l)).push (enOb s.heap.objs.size) }) := .of_wp fun prog w A R s here => by
  obtain ⟨hp, g, d, tk, os⟩ := s
  obtain ⟨tup, done⟩ := here
  have own := sub_enumerate
  have iter : ∀ {A' : Around} {E Q : Value → Shared → Prop}, Q (.ref hp.objs.size) ⟨hp.push (itOb l), g, d, tk, os⟩ → wpAny (model prog w) A' (pyIter (.ref l)) Q E ⟨hp, g, d, tk, os⟩ := fun q => (begins_tuple l items).iter prog w _ _ ⟨hp, g, d, tk, os⟩ _ tup q
  wp_walk using iter
  refine wpAny_stack_any fun _ => wpAny_pure ?_
  split
  case h_1 c _ _ _ _ _ => cases (c == Value.type "enumerate") <;> (wp_walk using iter; exact ⟨_, rfl, done⟩)
  all_goals (wp_walk using iter; exact ⟨_, rfl, done⟩)
/-- enumerate(x) of a tuple as what is walked -/
def iEnT (K : PySem.W.Frag) (ta : TA) : TI := fun σ H R => ta σ H fun vs H1 => ∃ a xs, vs = [.ref a] ∧ SqT K H1 a xs ∧ R (ItN K a xs) H1
theorem pi_enT {X : Cx} {e : Expr} {ta : TA} {p pos tpos : Pos} {elts : List Expr} {kk : Nat} (hg : Gl X "enumerate") (hm : X.mg "enumerate" = none) (ha : PA X [e] ta) (hs : starEach [e] X.env = [(false, eval e X.env)] := by rfl) :
    PI X (.Tuple elts kk tpos) (.Call (.Name "enumerate" p) [e] [] pos) (iEnT X.K ta) := by
  refine ⟨fun pins s σ H R I h => Call_ (ld_blt I hg hm boot_enumerate (PyProof.Rows.callWith_type1 (thn (ha.run pos pins s σ H _ I h) fun us t ⟨vs, H1, J, rel, l, xs, one, hq, go⟩ => ?_) hs rfl))⟩
  subst one
  obtain ⟨_, rfl, rfl⟩ := vals1 rel
  obtain ⟨its, rv, tup, _⟩ := J.tuple hq
  have old := PyProof.Rows.IsTup.lt tup
  have size : (t.heap.push (itOb l)).objs.size = t.heap.objs.size + 1 := Heap.size_push ..
  have keep : ∀ b o, t.heap.get? b = some o → ((t.heap.push (itOb l)).push (enOb t.heap.objs.size)).get? b = some o := fun b o z => Heap.get?_push_of_some _ (Heap.get?_push_of_some _ z)
  have en : ((t.heap.push (itOb l)).push (enOb t.heap.objs.size)).get? (t.heap.objs.size + 1) = some (enOb t.heap.objs.size) := size ▸ Heap.get?_push_size _ rfl
  have it : ((t.heap.push (itOb l)).push (enOb t.heap.objs.size)).get? t.heap.objs.size = some (itOb l) := Heap.get?_push_of_some _ (Heap.get?_push_size _ rfl)
  refine callType_new F.called_enumerate (by decide) (F.typeCall_enumerate_1 _) (F.newCall_enumerate_1 _) (fun obj => F.args_object_init_2 obj _) F.entry_enumerate_new (enum_new l its.toArray) ⟨tup, ?_⟩
  rw [size]
  refine ⟨⟨_, en, rfl⟩, wpAny_pyIter_enum en ⟨t.heap.objs.size + 1, [t.heap.objs.size + 1, t.heap.objs.size], _, _, H1, rfl, J.kept (t' := t.toks) keep, turn_N l _ t.heap.objs.size xs, ⟨⟨_, en⟩, ⟨_, it, rfl, rfl⟩, ?ne, Nat.ne_of_lt old, Nat.zero_le _⟩, fun b hb => ?_, go⟩⟩
  case ne =>
    intro m
    rcases List.mem_cons.mp m with z | z
    · exact Nat.succ_ne_self _ z
    · exact Nat.ne_of_gt (Nat.lt_succ_of_lt old) (List.mem_singleton.mp z)
  have new : t.heap.objs.size ≤ b := by
    simp only [List.mem_cons, List.not_mem_nil, or_false] at hb
    rcases hb with rfl | rfl
    · exact Nat.le_succ _
    · exact Nat.le_refl _
  exact J.fpOk new (J.hok.fresh new)
theorem walk_N {K : PySem.W.Frag} {a : Addr} {xs : List V} : Walk (ItN K a xs) xs.length (fun H => SqT K H a xs) (YPair (fun i => some (.int (i : Nat))) (fun i => xs[i]?)) :=
  ⟨fun _ _ lt q => ⟨q, lt⟩, fun _ q => ⟨q, Nat.le_refl _⟩, fun i _ _ _ _ _ ⟨T, x, at_, e1, e2, e3⟩ => ⟨T, .int (i : Nat), x, e1, e2, e3, rfl, at_⟩⟩
/-- enumerate of a list or of a tuple -/
def iEnX (K : PySem.W.Frag) (ta : TA) : TI := fun σ H R => iEnum K ta σ H R ∨ iEnT K ta σ H R
theorem pi_enX {X : Cx} (K : PySem.W.Frag) {e : Expr} {ta : TA} {p pos tpos : Pos} {elts : List Expr} {kk : Nat} (hg : Gl X "enumerate") (hm : X.mg "enumerate" = none) (ha : PA X [e] ta) (hs : starEach [e] X.env = [(false, eval e X.env)] := by rfl) (h : X.K = K := by rfl) :
    PI X (.Tuple elts kk tpos) (.Call (.Name "enumerate" p) [e] [] pos) (iEnX K ta) :=
  h ▸ ⟨fun pins s σ H R I q => q.elim ((pi_enum hg hm ha hs).run pins s σ H R I) ((pi_enT hg hm ha hs).run pins s σ H R I)⟩
end Z
namespace S
open PySem PySem.Spec PyProof.Rows L2 Z LamX
def enD (ds : List D) : List D := (List.range ds.length).zipWith (fun i d => .tup [.int (i : Nat), d]) ds
theorem enD_len {ds : List D} : (enD ds).length = ds.length := by simp [enD]
theorem enD_get {ds : List D} {i : Nat} {d : D} (g : (enD ds)[i]? = some d) : ∃ x, ds[i]? = some x ∧ d = .tup [.int (i : Nat), x] := by
  unfold enD at g
  rw [List.getElem?_zipWith] at g
  cases e : (List.range ds.length)[i]? with
  | none => rw [e] at g; cases g
  | some j =>
    rw [e] at g
    cases e2 : ds[i]? with
    | none => rw [e2] at g; cases g
    | some x =>
      rw [e2] at g
      have ej : j = i := by
        rw [List.getElem?_eq_some_iff] at e
        obtain ⟨_, e⟩ := e
        simpa using e.symm
      cases g
      exact ⟨x, rfl, by rw [ej]⟩
section
variable {Γ : Wd} {B B' : Br} {H H' : Hp} {m : List Addr}
theorem enD_yield {ds : List D} {vs : List V} (r : reps Γ B H ds vs) : ∀ i d H' B' x H'', (enD ds)[i]? = some d → Kp Γ B H B' H' → YPair (fun i => some (.int (i : Nat))) (fun i => vs[i]?) i H' x H'' → L2.Same H' H'' ∧ rep Γ B' H'' d x := by
  intro i d H' B' x H'' hd k y
  obtain ⟨y0, g0, rfl⟩ := enD_get hd
  obtain ⟨T, a, b, rfl, hT, rfl, ea, eb⟩ := y
  cases ea
  obtain ⟨v, g1, r1⟩ := reps_get (k.reps _ _ r) g0
  have eb : vs[i]? = some b := eb
  rw [eb] at g1; cases g1
  have k2 : Kp Γ B' H' B' (upd H' T (.tup [.int (i : Nat), b])) := ⟨fun p u g _ _ => same_new hT p u g, fun p u g _ n => ⟨same_new hT p u g, n⟩⟩
  refine ⟨same_new hT, rep_T (SqT.of upd_same) ?_⟩
  unfold reps
  exact ⟨_, _, rfl, rep_int, by unfold reps; exact ⟨_, _, rfl, k2.rep _ _ r1, by unfold reps; rfl⟩⟩
theorem it_enL {p : Addr} {ds : List D} {vs : List V} (g : H p = some (.lst vs)) (n : ¬ B p) (r : reps Γ B H ds vs) : itR Γ B m H (enD ds) (Ite Γ.K p) := by
  refine ⟨YPair (fun i => some (.int (i : Nat))) (fun i => vs[i]?), ?_, enD_yield r⟩
  rw [enD_len, reps_len r]
  exact walk_enum.mono (fun H' ⟨B', k⟩ => SqL.of (k.mu _ _ g trivial n).1) fun i H x H' _ _ y => y
theorem it_enT {p : Addr} {ds : List D} {vs : List V} (g : SqT Γ.K H p vs) (r : reps Γ B H ds vs) : itR Γ B m H (enD ds) (ItN Γ.K p vs) := by
  refine ⟨YPair (fun i => some (.int (i : Nat))) (fun i => vs[i]?), ?_, enD_yield r⟩
  rw [enD_len, reps_len r]
  exact walk_N.mono (fun H' ⟨B', k⟩ => k.sqT g) fun i H x H' _ _ y => y
end
def enW (ws : List W) (h : MH) : Res (List D) := match ws with
  | [.dat (.lst ds)] => .ok (enD ds) h
  | [.dat (.tup ds)] => .ok (enD ds) h
  | _ => .stuck
@[simp] theorem enW_lst {ds : List D} {h : MH} : enW [.dat (.lst ds)] h = .ok (enD ds) h := id rfl
@[simp] theorem enW_tup {ds : List D} {h : MH} : enW [.dat (.tup ds)] h = .ok (enD ds) h := id rfl
def iEnS (e : EA) : EI := fun s h => (e s h).bind enW
theorem iEn_eq {s : En} {h h1 : MH} {e : EA} {ws : List W} (he : e s h = .ok ws h1) : iEnS e s h = enW ws h1 := by
  unfold iEnS; rw [he]; rfl
instance {Γ : Wd} {E : XK} {ta : TA} {ea : EA} [ha : EvA Γ E ta ea] : EvI Γ E (iEnX Γ.K ta) (iEnS ea) := ⟨fun {B0 m h H s σ Q} R es q => by
  unfold iEnS at q
  cases e : ea s h with
  | stuck => rw [e] at q; exact q.elim
  | exc C ns xs h' =>
    rw [e] at q
    exact .inl (ha.run (Q := fun _ _ => _) R es (by rw [e]; exact q))
  | ok ws h1 =>
    rw [e] at q
    have q : post itR Γ B0 m h H Q E (enW ws h1) := q
    unfold enW at q
    split at q
    · next ds _ =>
      refine .inl (ha.run R es ?_)
      rw [e]
      intro m1 H1 vs R1 x1 r1
      obtain ⟨v, qs, rfl, r1, rfl⟩ := r1
      have r1 : rep Γ (Bar B0 m1 h1) H1 (.lst ds) v := r1
      unfold rep at r1
      obtain ⟨p, vs, rfl, g, n, a⟩ := r1
      exact ⟨p, vs, rfl, SqL.of g, q m1 H1 _ R1 x1 (it_enL g n a)⟩
    · next ds _ =>
      refine .inr (ha.run R es ?_)
      rw [e]
      intro m1 H1 vs R1 x1 r1
      obtain ⟨v, qs, rfl, r1, rfl⟩ := r1
      have r1 : rep Γ (Bar B0 m1 h1) H1 (.tup ds) v := r1
      unfold rep at r1
      obtain ⟨p, vs, rfl, g, a⟩ := r1
      exact ⟨p, vs, rfl, g, q m1 H1 _ R1 x1 (it_enT g a)⟩
    · exact q.elim⟩
end S
end

section
/-! SI: shallow forms of x[i], len(x) by own methods, isinstance with a tuple of classes, raise of a class without own __init__ -/
namespace S
open PySem PySem.Spec PyProof.Rows L2 Z LamX
section
variable {Γ : Wd} {E : XK} {B0 B B' : Br} {m m' m1 : List Addr} {h h' h1 : MH} {H H' H1 : Hp} {C : String} {sp : Sp} {c : FF} {ta : TE} {ea : EE}
/-! ### x[i] -/
def ixOF (C : String) (c : FF) : W → W → MH → Res W := fun x y h => if isObj C h x = true then c [x, y] h else .stuck
@[simp] theorem ixOF_obj {C : String} {c : FF} {ns : List Str} {xs : List D} {y : W} {h : MH} : ixOF C c (.dat (.obj C ns xs)) y h = c [.dat (.obj C ns xs), y] h := by simp [ixOF]
instance [hc : CallOk Γ E sp c] : Op2 Γ E (aIxO (Γ.cl C) sp E) (ixOF C c) := ⟨fun {B0 m h H x y v u Q} R rx ry q => by
  unfold ixOF at q
  split at q
  · next l =>
    obtain ⟨a, dx, fs, rfl, g⟩ := isObj_run R rx l
    exact ⟨a, dx, fs, rfl, g, hc.run R (repWs2 rx ry) q⟩
  · exact q.elim⟩
/-! ### len(x) -/
def isLenW : W → Bool
  | .dat (.int n) => decide (0 ≤ n ∧ n < 2 ^ 63)
  | _ => false
instance {r : RC} {f : FF} [hc : CallOk Γ E sp c] [hf : OpN Γ E r f] : OpN Γ E (orC r (aLenO (Γ.cl C) sp E)) (ownS C isLenW c f) := ⟨fun {B0 m h H x v Q} R rx q => by
  unfold ownS at q
  split at q
  · next w =>
    split at q
    · next l =>
      obtain ⟨u, rfl, ru⟩ := repWs1 rx
      obtain ⟨a, dx, fs, rfl, g⟩ := isObj_run R ru l
      refine .inr ⟨a, dx, fs, rfl, g, hc.run R rx (q.bind fun z h1 m1 H1 v1 R1 x1 r1 q1 => ?_)⟩
      split at q1
      · next lz =>
        match z, lz, r1, q1 with
        | .dat (.int n), lz, r1, q1 =>
          have e : v1 = .int n := by
            have r1 : rep Γ (Bar B0 m1 h1) H1 (.int n) v1 := r1
            unfold rep at r1; exact r1
          subst e
          exact ⟨n, rfl, of_decide_eq_true lz, q1 m1 H1 _ R1 Ex.refl w_int⟩
      · exact q1.elim
    · exact .inl (hf.run R rx q)
  · exact .inl (hf.run R rx q)⟩
/-! ### raise of a class without own __init__ -/
@[simp] def sRaise0 (C : String) : SS := fun _ h => .exc C [] [] h
instance [ok : IsOk Γ C] [xo : XOwn C] : EvS Γ E (tRaise0 (Γ.cl C) E) (sRaise0 C) := ⟨fun {B0 m h H s σ Dn} R es q => by
  show E (.ref (Γ.cl C)) none H
  rw [← xv_own (Γ := Γ) (C := C)]
  refine q m H none [] ok.h R Ex.refl ?_ ?_
  · trivial
  · unfold reps; rfl⟩
/-! ### isinstance(x, (c1, c2, ..)) -/
def isiOne (sb : Sb) (x : D) : D → Option Bool
  | .ty n => isiT sb n x
  | .cls C => isiC sb C x
  | _ => none
def isiAny (sb : Sb) (x : D) : List D → Option Bool
  | [] => some false
  | c :: cs => match isiOne sb x c with
    | some true => some true
    | some false => isiAny sb x cs
    | none => none
/-- a row of classes as it is written: its values, their data -/
class ClsRow (Γ : Wd) (tr : TA) (cs : outParam (List D)) : Prop where
  h : ∃ vs us, Paired ClsV vs us ∧ (∀ σ H R, R vs H → tr σ H R) ∧ us = cs.map fun c => match c with
    | .ty n => Value.type n
    | .cls C => .ref (Γ.cl C)
    | _ => .none
instance : ClsRow Γ tNil [] := ⟨[], [], .nil, fun _ _ _ q => q, rfl⟩
instance {n : String} {tr : TA} {cs : List D} [k : ClsRow Γ tr cs] : ClsRow Γ (tCons (tC (.ty n)) tr) (.ty n :: cs) := ⟨by
  obtain ⟨vs, us, p, q, rfl⟩ := k.h
  exact ⟨.ty n :: vs, .type n :: _, .cons (.ty n) p, fun σ H R z => q σ H _ z, rfl⟩⟩
instance {n : String} {tr : TA} {cs : List D} [k : ClsRow Γ tr cs] : ClsRow Γ (tCons (tC (.ref (Γ.cl n))) tr) (.cls n :: cs) := ⟨by
  obtain ⟨vs, us, p, q, rfl⟩ := k.h
  exact ⟨.ref (Γ.cl n) :: vs, .ref (Γ.cl n) :: _, .cons (.own _) p, fun σ H R z => q σ H _ z, rfl⟩⟩
end
end S
namespace S
open PySem PySem.Spec PyProof.Rows L2 Z LamX
section
variable {Γ : Wd} {E : XK} {B0 B B' : Br} {m m' m1 : List Addr} {h h' h1 : MH} {H H' H1 : Hp} {ta : TE} {ea : EE}
def clsVal (Γ : Wd) : D → Value
  | .ty n => .type n
  | .cls C => .ref (Γ.cl C)
  | _ => .none
theorem any_of {sb : Sb} {x : D} {t : Value} : ∀ (cs : List D) (b : Bool), (∀ c ∈ cs, ∀ b, isiOne sb x c = some b → PySem.W.kitOne Γ.K t (clsVal Γ c) = some b) → isiAny sb x cs = some b → PySem.W.kitAny Γ.K t (cs.map (clsVal Γ)) = some b
  | [], b, _, e => e
  | c :: cs, b, one, e => by
    unfold isiAny at e
    rw [List.map_cons]
    unfold PySem.W.kitAny
    cases e1 : isiOne sb x c with
    | none => rw [e1] at e; cases e
    | some b1 =>
      rw [e1] at e
      rw [one c (.head _) b1 e1]
      cases b1
      · exact any_of cs b (fun c hc => one c (.tail _ hc)) e
      · exact e
theorem any_head {sb : Sb} {x c : D} {cs : List D} {b : Bool} (e : isiAny sb x (c :: cs) = some b) : ∃ b1, isiOne sb x c = some b1 := by
  unfold isiAny at e
  cases e1 : isiOne sb x c with
  | none => rw [e1] at e; cases e
  | some b1 => exact ⟨b1, rfl⟩
/-- of plain things: the class is a built-in one -/
theorem one_plain {sb : Sb} [k : SbOk Γ sb] {x : D} {v : V} {t : String} (r : repV Γ B H x v) (e : tyN x = some t) (tg : ∀ n, Γ.tg n) : ∀ c b, isiOne sb x c = some b → PySem.W.kitOne Γ.K (.type t) (clsVal Γ c) = some b := by
  obtain ⟨_, mem⟩ := tyN_run r e
  intro c b e1
  cases c with
  | ty n =>
    have e1 : isiT sb n x = some b := e1
    cases x <;> first | (cases e; done) | skip
    all_goals
      unfold isiT at e1
      simp only [e] at e1
      split at e1
      · next hn => cases e1; exact kit_ty (isTy_ok t mem n hn)
      · cases e1
  | cls n =>
    have e1 : isiC sb n x = some b := e1
    cases x <;> first | (cases e; done) | skip
    all_goals
      unfold isiC at e1
      simp only [e] at e1
      split at e1
      · next hn => cases e1; exact k.tc n (tg n) hn t mem
      · cases e1
  | _ => cases e1
theorem isiAny_run {sb : Sb} [k : SbOk Γ sb] (tg : ∀ n, Γ.tg n) {x c : D} {cs : List D} {v : V} {b : Bool} (r : repV Γ B H x v) (e : isiAny sb x (c :: cs) = some b) :
    (∃ t, TyX Γ.K H v t ∧ PySem.W.kitAny Γ.K t ((c :: cs).map (clsVal Γ)) = some b) ∨ ∃ a C d, v = .ref a ∧ H a = some (ExV (.ref C) d a) ∧ XdOk H d ∧ ExcC Γ.K C ∧ PySem.W.kitAny Γ.K (.ref C) ((c :: cs).map (clsVal Γ)) = some b := by
  obtain ⟨b1, e1⟩ := any_head e
  cases x with
  | obj C ns xs =>
    have one : ∀ c b, isiOne sb (.obj C ns xs) c = some b → InsT Γ.K (Γ.cl C) ∧ PySem.W.kitOne Γ.K (.ref (Γ.cl C)) (clsVal Γ c) = some b := fun c b e => by
      cases c with
      | ty n => exact k.ct _ _ _ (obj_ok r) e
      | cls n => exact k.cc _ _ _ (obj_ok r) (tg n) e
      | _ => cases e
    exact .inl ⟨_, obj_ty r (one c b1 e1).1, any_of _ b (fun c _ b e => (one c b e).2) e⟩
  | exc C ns xs =>
    obtain ⟨p, dd, vs, rfl, g, g2, ok, a⟩ := r
    have one : ∀ c b, isiOne sb (.exc C ns xs) c = some b → xvOf Γ C = .ref (Γ.cl C) ∧ ExcC Γ.K (Γ.cl C) ∧ PySem.W.kitOne Γ.K (.ref (Γ.cl C)) (clsVal Γ c) = some b := fun c b e => by
      cases c with
      | ty n => exact k.et _ _ _ ok e
      | cls n => exact k.ec _ _ _ ok (tg n) e
      | _ => cases e
    obtain ⟨xv, i, _⟩ := one c b1 e1
    rw [xv] at g
    refine .inr ⟨p, _, dd, rfl, g, ?_, i, any_of _ b (fun c _ b e => (one c b e).2.2) e⟩
    cases dd with
    | none => exact .inl rfl
    | some d => exact .inr ⟨d, _, rfl, g2.1⟩
  | _ =>
    first
      | exact .inl ⟨_, (tyN_run r rfl).1, any_of _ b (fun c _ b e => one_plain r rfl tg c b e) e⟩
      | (exfalso; cases c <;> cases e1)
def eIsM (sb : Sb) (cs : List D) (ea : EE) : EE := fun s h => (ea s h).bind fun w h1 => if 100 < cs.length then .stuck else match vw h1 w with
  | some d => (match isiAny sb d cs with
    | some b => .ok (.dat (.bl b)) h1
    | none => .stuck)
  | none => .stuck
theorem cls_row_eq (cs : List D) : (cs.map fun c => match c with
    | .ty n => Value.type n
    | .cls C => .ref (Γ.cl C)
    | _ => .none) = cs.map (clsVal Γ) := List.map_congr_left fun c _ => by cases c <;> rfl
instance {sb : Sb} {tr : TA} {c : D} {cs : List D} [k : SbOk Γ sb] [tg : ∀ C, IsTg Γ C] [ha : EvE Γ E ta ea] [row : ClsRow Γ tr (c :: cs)] : EvE Γ E (tCB (aIsM Γ.K) (tCons ta (tCons (tTup tr) tNil))) (eIsM sb (c :: cs) ea) := ⟨fun {B0 m h H s σ Q} R es q => by
  refine ha.run R es (q.bind fun w h1 m1 H1 v R1 x1 r1 q1 => ?_)
  obtain ⟨vs, us, pr, ask, eu⟩ := row.h
  split at q1
  · exact q1.elim
  next few =>
  refine ask _ _ _ ⟨?_, fun p hp => ?_⟩
  · rw [pr.length, eu, List.length_map, sizeLine_eq]; omega
  obtain ⟨R2, x2⟩ := R1.same (same_new (u := .tup vs) hp)
  cases e1 : vw h1 w with
  | none => simp only [e1] at q1; exact q1.elim
  | some d =>
    simp only [e1] at q1
    cases e2 : isiAny sb d (c :: cs) with
    | none => simp only [e2] at q1; exact q1.elim
    | some b =>
      simp only [e2] at q1
      have rv := vw_rep R2 (r1.mono R1 x2) e1
      have done : Q (.bl b) (upd H1 p (.tup vs)) := q1 m1 _ _ R2 x2 (w_bl (Γ := Γ))
      rw [cls_row_eq] at eu
      rcases isiAny_run (fun n => (tg n).h) rv e2 with ⟨t, ty, kk⟩ | ⟨a, C, dd, rfl, g, xd, ex, kk⟩
      · exact .inl ⟨v, p, vs, t, us, b, rfl, upd_same, pr, ty, eu ▸ kk, done⟩
      · exact .inr ⟨a, C, dd, p, vs, us, b, rfl, g, xd, upd_same, pr, ex, eu ▸ kk, done⟩⟩
end
end S
end

section
/-! SL: set(list of ints), its length, sorted of it -/
namespace Z
open PySem PySem.Spec PyProof.Rows L2
abbrev setOb (w : World) : Obj := { cls := .type "set", dict := none, data := .set #[] 0 (.fresh 0 0 (!w.params.followText "set-order")) }
abbrev liOb (l : Addr) : Obj := { cls := .type "list_iterator", data := .fields #[.ref l, .int 0 0] }
section
variable {P : Program} {w : World} {A : Around} {E : Value → Shared → Prop} {s : Shared}
/-- set(x): the new set is filled by its __init__ -/
theorem set_call {x : Value} {Q : Value → Shared → Prop}
    (fill : codeAny (model P w) A.in1 (.call (.builtin "set.__init__") ⟨[.ref s.heap.objs.size, x], []⟩) (wants (fun r t => r = .none ∧ Q (.ref s.heap.objs.size) t) E) { s with heap := s.heap.push (setOb w) }) :
    wpAny (model P w) A (call (.type "set") [x]) Q E s := by
  obtain ⟨c, tl, mro⟩ := F.called_set.mro
  have := F.called_set.made; have := F.called_set.sub; have := F.called_set.notType; have := F.called_set.canCreate; have := F.typeCall_set_1 x
  have laid : (s.heap.push (setOb w)).get? s.heap.objs.size = some (setOb w) := Heap.get?_push_size _ rfl
  have isSet : Shared.TypeIs { s with heap := s.heap.push (setOb w) } (.ref s.heap.objs.size) "set" := ⟨_, laid, rfl⟩
  have := F.called_set.init.lookup; have := F.called_set.init.bind (.ref s.heap.objs.size)
  refine wpAny_call (codeAny_of_tree (show wpAny _ _ (callAny (.type "set") _) _ _ _ from wpAny_pure ⟨Code.quiet_builtin _ (by decide +kernel), codeAny_builtin F.entry_type_call ?_⟩))
  rw [Around.under_plain (weight_type_call_type "set" [x] []) rfl]
  repeat (any_goals (first | assumption | wp_step))
  refine codeAny_mono (code_set_led1 x (E := E) (Q₁ := fun obj t => obj = .ref s.heap.objs.size ∧ t = { s with heap := s.heap.push (setOb w) }) ⟨rfl, rfl⟩) ?_
  rintro (er | fl) t made
  · exact made
  cases fl <;> first | exact made.elim | skip
  obtain ⟨rfl, rfl⟩ := made
  repeat (any_goals (first | assumption | wp_step))
  refine codeAny_mono fill ?_
  rintro (er | fl) t made
  · exact made
  cases fl <;> first | exact made.elim | skip
  obtain ⟨rfl, q⟩ := made
  repeat (any_goals (first | assumption | wp_step))
theorem set_of_list {l : Addr} {items : Array Value} {Q : Value → Shared → Prop} (ns : List Int) (hh : A.handled = none) (hl : s.heap.IsList l items) (hi : IntsAre items.toList ns) (few : ns.length + 1 < scanBound)
    (h : ∀ (g : Heap) (tk c : Nat), SetR w g s.heap.objs.size (fun j => decide (j ∈ ns)) c → c ≤ ns.length → (∀ b o, s.heap.get? b = some o → g.get? b = some o) → Q (.ref s.heap.objs.size) { s with heap := g, toks := tk }) :
    wpAny (model P w) A (call (.type "set") [.ref l]) Q E s := by
  have size : items.size = ns.length := by simpa using hi.length
  have laid : (s.heap.push (setOb w)).get? s.heap.objs.size = some (setOb w) := Heap.get?_push_size _ rfl
  refine set_call (codeAny_call_builtin F.called_set.init.plain F.entry_set_init (check_set_init_1 ⟨_, laid, rfl⟩ ?_))
  obtain ⟨ol, hol, cl, nl, dl⟩ := hl
  obtain ⟨_, od, _, os⟩ := ol
  subst cl dl
  have there : (s.heap.push (setOb w)).get? l = some { cls := .type "list", dict := od, data := .seq items nl, slots := os } := Heap.get?_push_of_some _ hol
  have isl : (s.heap.push (setOb w)).IsList l items := ⟨_, there, rfl, nl, rfl⟩
  have n1 := F.sub_list_set
  have n2 := F.sub_list_frozenset
  have n3 : (Value.type "list" == Value.type "dict") = false := by decide
  have iter : ∀ {A' : Around} {E' Q' : Value → Shared → Prop}, Q' (.ref (s.heap.push (setOb w)).objs.size) { s with heap := (s.heap.push (setOb w)).push (liOb l) } →
      wpAny (model P w) A' (pyIter (.ref l)) Q' E' { s with heap := s.heap.push (setOb w) } := fun q => wpAny_pyIter_list isl q
  unfold Builtin.«set.__init__» noKeywords Builtin.Frozenset.updateFrom
  generalize hPI : pyIter = PI at iter ⊢
  wp_walk using iter
  have in3 : A.in1.in1.in1.handled = none := by simp [hh]
  have old := Heap.lt_size hol
  have more : (s.heap.push (setOb w)).objs.size = s.heap.objs.size + 1 := Heap.size_push ..
  have neI : l ≠ (s.heap.push (setOb w)).objs.size := by rw [more]; exact Nat.ne_of_lt (Nat.lt_succ_of_lt old)
  have neS : s.heap.objs.size ≠ (s.heap.push (setOb w)).objs.size := by rw [more]; exact Nat.ne_of_lt (Nat.lt_succ_self _)
  refine set_update_ints (Walks.list in3 _ l neI items).toS s.heap.objs.size (fun m => (List.mem_cons.mp m).elim neS fun m => Nat.ne_of_gt old (List.mem_singleton.mp m)) ns size few (fun i v at_ => ?vals) items.size 0 _ (Nat.sub_zero _) (Nat.zero_le _) ?start
    ⟨0, Nat.le_refl 0, setR_new_at (Heap.get?_push_of_some _ laid)⟩ ?done
  case vals =>
    have lt : i < ns.length := size ▸ (Array.getElem?_eq_some_iff.mp at_).1
    obtain ⟨t, e⟩ := IntsAre.int_at hi i v (by rwa [Array.getElem?_toList])
    exact ⟨ns[i], t, List.getElem?_eq_getElem lt, by simpa [List.getD_eq_getElem?_getD, lt] using e⟩
  case start => exact ⟨⟨_, Heap.get?_push_size _ rfl, rfl, rfl⟩, isl.push _⟩
  case done =>
    rintro ⟨g, gens, drawn, tk, os'⟩ c moved le R
    obtain rfl : gens = s.gens := moved.gens
    obtain rfl : drawn = s.drawn := moved.drawn
    obtain rfl : os' = s.os := moved.os
    refine wpAny_pure (wpAny_pure ⟨rfl, h g tk c R (size ▸ le) fun b o z => ?_⟩)
    have lt := Heap.lt_size z
    refine moved.heap b o (fun m => ?_) (Heap.get?_push_of_some _ (Heap.get?_push_of_some _ z))
    rcases List.mem_cons.mp m with e | m
    · exact Nat.ne_of_lt lt e
    · rw [List.mem_singleton.mp m, more] at lt
      exact Nat.not_succ_lt_self lt
end
/-- each number once -/
def uniq : List Int → List Int
  | [] => []
  | x :: xs => if x ∈ uniq xs then uniq xs else x :: uniq xs
theorem mem_uniq {x : Int} : ∀ {xs : List Int}, x ∈ uniq xs ↔ x ∈ xs
  | [] => Iff.rfl
  | y :: ys => by
    unfold uniq
    split
    · next h => rw [mem_uniq, List.mem_cons]; exact ⟨.inr, fun z => z.elim (fun e => e ▸ mem_uniq.mp h) id⟩
    · rw [List.mem_cons, List.mem_cons, mem_uniq]
theorem uniq_nodup : ∀ xs : List Int, (uniq xs).Nodup
  | [] => List.nodup_nil
  | y :: ys => by
    unfold uniq
    split
    · exact uniq_nodup ys
    · next h => exact List.nodup_cons.mpr ⟨h, uniq_nodup ys⟩
theorem uniq_same {xs : List Int} (h : xs.Nodup) : uniq xs = xs := by
  induction xs with
  | nil => rfl
  | cons y ys ih =>
    obtain ⟨no, hy⟩ := List.nodup_cons.mp h
    unfold uniq
    rw [ih hy, if_neg no]
theorem nodup_len {xs ys : List Int} (h : xs.Nodup) (k : ys.Nodup) (e : ∀ x, x ∈ xs ↔ x ∈ ys) : xs.length = ys.length := by
  refine (List.perm_iff_count.mpr fun x => ?_).length_eq
  have a := List.nodup_iff_count.mp h x
  have b := List.nodup_iff_count.mp k x
  have c := e x
  rw [← List.count_pos_iff, ← List.count_pos_iff] at c
  omega
theorem setR_count {w : World} {h : Heap} {a : Addr} {ns : List Int} {c : Nat} (R : SetR w h a (fun j => decide (j ∈ ns)) c) : c = (uniq ns).length := by
  obtain ⟨o, es, ep, t, _, _, _, _, nd, mem, _, _, n, _⟩ := R
  rw [← n, ← Array.length_toList, ← List.length_map (f := keyOf)]
  exact nodup_len nd (uniq_nodup ns) fun x => by rw [← mem x, decide_eq_true_eq, mem_uniq]
section
variable {X : Cx}
/-- set(l), l a list of numbers -/
def rSetL (K : PySem.W.Frag) (w : World) : RC := fun vs H Q => ∃ (l : Addr) (ns : List Int), vs = [.ref l] ∧ SqL K H l (ns.map V.int) ∧ ns.length < 64 ∧ ∀ q, H q = none → Q (.ref q) (upd H q (SetO w q (fun j => decide (j ∈ ns)) (uniq ns).length))
theorem c_setL (hc : X.calm = true) : CallR X (.type "set") (rSetL X.K X.w) := by
  intro pins s σ H vs us Q N rel h
  obtain ⟨l, ns, rfl, hl, few, q⟩ := h
  obtain ⟨_, rfl, rfl⟩ := vals1 rel
  obtain ⟨its, rv, pl, _⟩ := N.list hl
  refine set_of_list ns (N.ok.hd hc) pl.isList (by simpa using ints_of_vals rv) (by unfold scanBound; omega) fun g tk c R _ keep => ?_
  have R := setR_count R ▸ R
  exact ⟨.ref s.heap.objs.size, _, N.laid (t' := tk) keep (Nat.le_refl _) (setO_new R), rfl, q _ (N.hok.fresh (Nat.le_refl _))⟩
theorem k_setL (K : PySem.W.Frag) (hc : X.calm = true) (h : X.K = K := by rfl) : CallR X (.type "set") (rSetL K X.w) := h ▸ c_setL hc
/-- len(s), s a set of numbers -/
def rLenO (w : World) : RC := fun vs H Q => ∃ (a : Addr) (S : Int → Bool) (n : Nat), vs = [.ref a] ∧ H a = some (SetO w a S n) ∧ Q (.int (n : Nat)) H
theorem c_lenSet : CallR X (.builtin "len") (rLenO X.w) := by
  intro pins s σ H vs us Q N rel h
  obtain ⟨a, S, n, rfl, ha, q⟩ := h
  obtain ⟨_, rfl, rfl⟩ := vals1 rel
  obtain ⟨o, es, ep, t, ho, hx, hd, _, _, _, small, hf, hn, _⟩ := setO_get N ha
  subst hn
  exact call_len_set ho hx hd hf (by unfold scanBound at small; omega) ⟨.int es.size, H, N.tok _, ⟨_, rfl⟩, q⟩
end
end Z
namespace S
open PySem PySem.Spec PyProof.Rows L2 Z LamX
/-! ### sorted(set(xs)), len(set(xs)) -/
def intsD : List D → Option (List Int)
  | [] => some []
  | .int i :: r => (intsD r).map (i :: ·)
  | _ :: _ => none
def setW : List W → Option (List Int)
  | [.dat (.lst ds)] => (intsD ds).bind fun ns => if ns.length < 64 then some ns else none
  | _ => none
def insUp (x : Int) : List Int → List Int
  | [] => [x]
  | y :: ys => if x < y then x :: y :: ys else if x = y then y :: ys else y :: insUp x ys
/-- the numbers, each once, rising -/
def upOf : List Int → List Int
  | [] => []
  | x :: xs => insUp x (upOf xs)
def gLenSet (ws : List W) (h : MH) : Res W := match setW ws with
  | some ns => .ok (.dat (.int (uniq ns).length)) h
  | none => .stuck
def gSortSet (ws : List W) (h : MH) : Res W := match setW ws with
  | some ns => .ok (.dat (.lst ((upOf ns).map .int))) h
  | none => .stuck
theorem mem_insUp {x z : Int} : ∀ {ys : List Int}, z ∈ insUp x ys ↔ z = x ∨ z ∈ ys
  | [] => by simp [insUp]
  | y :: ys => by
    unfold insUp
    split
    · simp
    · split
      · next e => subst e; simp
      · rw [List.mem_cons, mem_insUp, List.mem_cons]; exact ⟨fun h => by rcases h with h | h | h <;> simp [h], fun h => by rcases h with h | h | h <;> simp [h]⟩
theorem insUp_rise {x : Int} : ∀ {ys : List Int}, ys.Pairwise (· < ·) → (insUp x ys).Pairwise (· < ·)
  | [], _ => by simp [insUp]
  | y :: ys, h => by
    obtain ⟨a, b⟩ := List.pairwise_cons.mp h
    unfold insUp
    split
    · next lt => exact List.pairwise_cons.mpr ⟨fun z hz => (List.mem_cons.mp hz).elim (fun e => e ▸ lt) fun hz => Int.lt_trans lt (a z hz), h⟩
    · next ge =>
      split
      · exact h
      · next ne => exact List.pairwise_cons.mpr ⟨fun z hz => (mem_insUp.mp hz).elim (fun e => by omega) (a z), insUp_rise b⟩
theorem mem_upOf {z : Int} : ∀ {xs : List Int}, z ∈ upOf xs ↔ z ∈ xs
  | [] => Iff.rfl
  | x :: xs => by unfold upOf; rw [mem_insUp, mem_upOf, List.mem_cons]
theorem upOf_rise : ∀ xs : List Int, (upOf xs).Pairwise (· < ·)
  | [] => .nil
  | _ :: xs => insUp_rise (upOf_rise xs)
/-- a rising list is told by its members -/
theorem rise_eq : ∀ {xs ys : List Int}, xs.Pairwise (· < ·) → ys.Pairwise (· < ·) → (∀ z, z ∈ xs ↔ z ∈ ys) → xs = ys
  | [], [], _, _, _ => rfl
  | [], y :: _, _, _, e => nomatch (e y).mpr (.head _)
  | x :: _, [], _, _, e => nomatch (e x).mp (.head _)
  | x :: xs, y :: ys, h, k, e => by
    obtain ⟨a, h'⟩ := List.pairwise_cons.mp h
    obtain ⟨b, k'⟩ := List.pairwise_cons.mp k
    have xy : x = y := by
      rcases List.mem_cons.mp ((e x).mp (.head _)) with z | z
      · exact z
      · rcases List.mem_cons.mp ((e y).mpr (.head _)) with q | q
        · exact q.symm
        · have := b x z; have := a y q; omega
    subst xy
    refine congrArg (x :: ·) (rise_eq h' k' fun z => ⟨fun hz => ?_, fun hz => ?_⟩)
    · exact (List.mem_cons.mp ((e z).mp (.tail _ hz))).elim (fun q => absurd (a z hz) (by omega)) id
    · exact (List.mem_cons.mp ((e z).mpr (.tail _ hz))).elim (fun q => absurd (b z hz) (by omega)) id
section
variable {Γ : Wd} {E : XK} {w : World} {ta : TA} {ea : EA} {B B0 : Br} {m : List Addr} {h : MH} {H : Hp}
theorem intsD_reps : ∀ {ds : List D} {ns : List Int} {vs : List V}, intsD ds = some ns → reps Γ B H ds vs → vs = ns.map V.int
  | [], _, _, e, r => by cases e; unfold reps at r; exact r
  | d :: ds, ns, vs, e, r => by
    unfold reps at r
    obtain ⟨v, q, rfl, a, b⟩ := r
    cases d with
    | int i =>
      unfold intsD at e
      cases e1 : intsD ds with
      | none => rw [e1] at e; cases e
      | some ms =>
        rw [e1] at e; cases e
        unfold rep at a
        rw [a, intsD_reps e1 b]; rfl
    | _ => cases e
theorem setW_run {ws : List W} {vs : List V} {ns : List Int} (R : Rm Γ B0 m h H) (r : repWs Γ (Bar B0 m h) m H ws vs) (e : setW ws = some ns) : ∃ p, vs = [.ref p] ∧ SqL Γ.K H p (ns.map V.int) ∧ ns.length < 64 := by
  unfold setW at e
  split at e
  · next ds =>
    obtain ⟨v, _, rfl, a, rfl⟩ := r
    have a : rep Γ (Bar B0 m h) H (.lst ds) v := a
    unfold rep at a
    obtain ⟨p, vs, rfl, g, _, b⟩ := a
    cases e1 : intsD ds with
    | none => rw [e1] at e; cases e
    | some ms =>
      rw [e1] at e
      simp only [Option.bind_some] at e
      split at e
      · cases e; exact ⟨p, rfl, intsD_reps e1 b ▸ SqL.of g, by assumption⟩
      · cases e
  · cases e
instance [ha : EvA Γ E ta ea] : EvE Γ E (tCB (rLenO w) (tCons (tCB (rSetL Γ.K w) ta) tNil)) (eCB gLenSet ea) := ⟨fun {B0 m h H s σ Q} R es q => by
  refine ha.run R es (q.bind fun ws h1 m1 H1 vs R1 x1 r1 q1 => ?_)
  unfold gLenSet at q1
  cases e : setW ws with
  | none => rw [e] at q1; exact q1.elim
  | some ns =>
    rw [e] at q1
    obtain ⟨p, rfl, hl, few⟩ := setW_run R1 r1 e
    refine ⟨p, ns, rfl, hl, few, fun y hy => ⟨y, _, _, rfl, upd_same, ?_⟩⟩
    obtain ⟨R2, x2⟩ := R1.same (same_new (u := SetO w y (fun j => decide (j ∈ ns)) (uniq ns).length) hy)
    exact q1 m1 _ _ R2 x2 (w_int (Γ := Γ))⟩
theorem uniq_le : ∀ xs : List Int, (uniq xs).length ≤ xs.length
  | [] => Nat.le_refl _
  | x :: xs => by
    unfold uniq
    have := uniq_le xs
    split
    · exact Nat.le_succ_of_le this
    · exact Nat.succ_le_succ this
theorem reps_numbers : ∀ {ns : List Int}, reps Γ B H (ns.map .int) (ns.map V.int)
  | [] => by unfold reps; rfl
  | n :: ns => by
    simp only [List.map_cons]
    unfold reps
    exact ⟨_, _, rfl, rep_int, reps_numbers⟩
instance [ha : EvA Γ E ta ea] : EvE Γ E (tCB (rSortedSet w) (tCons (tCB (rSetL Γ.K w) ta) tNil)) (eCB gSortSet ea) := ⟨fun {B0 m h H s σ Q} R es q => by
  refine ha.run R es (q.bind fun ws h1 m1 H1 vs R1 x1 r1 q1 => ?_)
  unfold gSortSet at q1
  cases e : setW ws with
  | none => rw [e] at q1; exact q1.elim
  | some ns =>
    rw [e] at q1
    obtain ⟨p, rfl, hl, few⟩ := setW_run R1 r1 e
    refine ⟨p, ns, rfl, hl, few, fun y hy => ⟨y, _, _, rfl, upd_same, Nat.lt_of_le_of_lt (uniq_le ns) few, fun up z rise mem _ hz => ?_⟩⟩
    obtain ⟨R2, x2⟩ := R1.same (same_new (u := SetO w y (fun j => decide (j ∈ ns)) (uniq ns).length) hy)
    obtain ⟨R3, x3⟩ := R2.same (same_new (u := .lst (up.map V.int)) hz)
    obtain rfl : up = upOf ns := rise_eq rise (upOf_rise ns) fun k => by rw [mem k, decide_eq_true_eq, mem_upOf]
    exact q1 m1 _ _ R3 (x2.trans x3) (rep_newL R2 reps_numbers hz)⟩
end
end S
end

section
/-! ZID: the ground knows sys.modules as a dict, so nothing of ours stands there; repr of data with empty dicts in it -/
namespace Z
open PySem PySem.Spec PyProof.Rows L2 LamX
def SysD (h : Heap) : Prop := ∃ mm, h.Ns sysModules mm
/-- LawG, told over a ground with sys.modules -/
def LawD (l : PySem.W.OpenLaw) (w : World) (K : PySem.W.Frag) (k n : Nat) (x : Str) (mg : Str → Option Value) (fa : Addr) (h : Heap) : Prop :=
  ∃ (fd : FuncData) (cs : List (Addr × Addr)) (sp : Sp), (∀ p ∈ cs, h.get? p.2 = some tabO ∧ K.lookup p.2 = none ∧ PySem.W.CodeHd h p.1 p.2) ∧ (∀ (s : Shared) (u : Value), BindsTo s fd ⟨[u], []⟩ [(x, u)]) ∧
    (∀ (H : Hp) (a : Addr) (ns : List Int), ns.length ≤ n → (∀ p ∈ cs, H p.2 = some (.tbl #[])) → SqL K H a (ns.map V.int) → sp [.ref a] H (fun v _ => v = .bl true) fun _ _ _ => False) ∧
    ∀ base : Heap, K.In base → base.Ns mainGlobals mg → SysD base → (∀ p ∈ cs, TabB base mg p.1 p.2) → FnG l.prog w K mg base (L2.CX l.prog w) k fa fd [x] sp
section
variable {l : PySem.W.OpenLaw} {n k : Nat} {q : Program} {loose : List Str} {XP : (Str → Option Value) → Heap → Prop} {YP : World → Heap → Prop} {d : DefRec} {K : Params → PySem.W.Frag} {x : Str}
theorem walk_D (most : l.most = some n) (few : n ≤ sizeLine) (plain : d.params.defaults = []) (room : Room k callerA) (seen : importsNone q = true) (frag : ∀ (w : World) (h : Heap), YP w h → (K w.params).In h)
    (F : ∀ (w : World) (mg : Str → Option Value) (fa : Addr) (h : Heap), YP w h → (K w.params).In h → h.Ns mainGlobals mg → mg d.name = some (.ref fa) → LawD l w (K w.params) k n x mg fa h) :
    PySem.W.WalkO q loose XP YP l.row.toRowW d [] (fun f us => PySem.call f us) := by
  refine Att.attach_callB most plain fun w s0 s1 mg mb fa o pm cd doc a vs ns G Y ho hd hcd at_ obj nums len bits gens => ?_
  have KX := frag w _ Y
  obtain ⟨fd, cs, sp, tabs, binds, asks, runs⟩ := F w mg fa _ Y KX G.T.g at_
  have sys : SysD s1.heap := (G.T.seer seen).mods.imp fun _ z => z.1
  exact law_callG KX G.T.g G.T.b G.T.builtins G.T.nolimit gens (fun p hp => (tabs p hp).1) (fun p hp => (tabs p hp).2.1) (fun p hp => (tabs p hp).2.2) G.T.bmain obj nums (Nat.le_trans len few) room
    (Z := SysD) (fun keep => sys.imp fun _ z => keep z) runs binds fun H t1 t2 => asks H a ns len t1 t2
end
section
variable {X : Cx} {pins : List (Addr × Obj)} {σ : L2.St} {H : Hp} {s : Shared} {a : Addr} {xs : List V}
theorem no_sys (sm : SysD X.base) (I : Inv X pins σ H s) : H sysModules = none :=
  let ⟨_, o, _, _, e, _⟩ := sm
  (I.bs _ o e).2
theorem list_sys (sm : SysD X.base) (I : Inv X pins σ H s) (h : SqL X.K H a xs) : a ≠ sysModules := by
  rintro rfl
  have none := no_sys sm I
  rcases h with (h | ⟨o, h⟩) | ⟨o, its, k, lk, _, _, hd, _⟩
  · rw [h] at none; cases none
  · rw [h] at none; cases none
  · obtain ⟨_, o2, es, ep, e, d2, _⟩ := sm
    rw [I.ok.mod.kin _ _ lk] at e
    cases e
    rw [hd] at d2; cases d2
theorem dict_sys {kvs : List (Key × V)} (sm : SysD X.base) (I : Inv X pins σ H s) (h : H a = some (.dK kvs)) : a ≠ sysModules := by
  rintro rfl
  rw [no_sys sm I] at h; cases h
end
/-! ### data with empty dicts -/
mutual
def Dx (K : PySem.W.Frag) (H : Hp) : PyData → V → Prop
  | .none, v => v = .non
  | .bool b, v => v = .bl b
  | .int i, v => v = .int i
  | .str t, v => v = .str t
  | .list ds, v => ∃ a xs, v = .ref a ∧ SqL K H a xs ∧ DxA K H ds xs
  | .tuple ds, v => ∃ a xs, v = .ref a ∧ SqT K H a xs ∧ DxA K H ds xs
  | .dict kvs, v => kvs = [] ∧ ∃ a, v = .ref a ∧ H a = some (.dK [])
def DxA (K : PySem.W.Frag) (H : Hp) : List PyData → List V → Prop
  | [], vs => vs = []
  | d :: ds, vs => ∃ v r, vs = v :: r ∧ Dx K H d v ∧ DxA K H ds r
end
section
variable {X : Cx} {pins : List (Addr × Obj)} {σ : L2.St} {H : Hp} {s : Shared}
mutual
theorem dx_reads (sm : SysD X.base) (I : Inv X pins σ H s) : ∀ (d : PyData) (v : V) (u : Value), Dx X.K H d v → RelV v u → ∃ as, Reads s.heap u d as ∧ sysModules ∉ as
  | .none, _, _, h, r => by unfold Dx at h; subst h; cases (show _ = Value.none from r); exact ⟨[], .none, by simp⟩
  | .bool b, _, _, h, r => by unfold Dx at h; subst h; cases (show _ = Value.bool b from r); exact ⟨[], .bool b, by simp⟩
  | .int i, _, _, h, r => by unfold Dx at h; subst h; obtain ⟨t, rfl⟩ := r; exact ⟨[], .int i t, by simp⟩
  | .str x, _, _, h, r => by unfold Dx at h; subst h; obtain ⟨t, rfl⟩ := r; exact ⟨[], .str x t, by simp⟩
  | .list ds, _, _, h, r => by
    unfold Dx at h
    obtain ⟨a, xs, rfl, sq, all⟩ := h
    cases (show _ = Value.ref a from r)
    obtain ⟨its, rv, ⟨o, n, ho, hc, _, hd⟩, _⟩ := I.list sq
    obtain ⟨as, rs, no⟩ := dxA_reads sm I ds xs its all rv
    exact ⟨a :: as, .list ho hc hd (by simpa using rs), fun m => (List.mem_cons.mp m).elim (fun e => list_sys sm I sq e.symm) no⟩
  | .tuple ds, _, _, h, r => by
    unfold Dx at h
    obtain ⟨a, xs, rfl, sq, all⟩ := h
    cases (show _ = Value.ref a from r)
    obtain ⟨its, rv, ⟨o, ho, hc, n, hd⟩, _⟩ := I.tuple sq
    obtain ⟨as, rs, no⟩ := dxA_reads sm I ds xs its all rv
    exact ⟨as, .tuple ho hc hd (by simpa using rs), no⟩
  | .dict kvs, _, _, h, r => by
    unfold Dx at h
    obtain ⟨rfl, a, rfl, ha⟩ := h
    cases (show _ = Value.ref a from r)
    obtain ⟨_, _, vs, kv, o, es, ep, ho, hx, hd, _, pr, _⟩ := dk_rd I.hok (show Rd H a (.dK []) from .inl ha)
    obtain rfl : vs = [] := List.eq_nil_of_length_eq_zero (Paired.length kv).symm
    have none : es.toList = [] := by
      match es.toList, pr with
      | [], _ => rfl
    exact ⟨[a], Reads.dict (kvs := []) (as := []) (bs := []) ho hx.1 hd (by rw [none]; exact .nil) (by rw [none]; exact .nil), fun m => dict_sys sm I ha (List.mem_singleton.mp m).symm⟩
theorem dxA_reads (sm : SysD X.base) (I : Inv X pins σ H s) : ∀ (ds : List PyData) (vs : List V) (us : List Value), DxA X.K H ds vs → Vals vs us → ∃ as, ReadsAll s.heap us ds as ∧ sysModules ∉ as
  | [], _, _, h, r => by unfold DxA at h; subst h; cases r; exact ⟨[], .nil, by simp⟩
  | d :: ds, _, _, h, r => by
    unfold DxA at h
    obtain ⟨v, q, rfl, one, rest⟩ := h
    cases r with
    | cons r1 r2 =>
      obtain ⟨as, x1, n1⟩ := dx_reads sm I d v _ one r1
      obtain ⟨bs, x2, n2⟩ := dxA_reads sm I ds q _ rest r2
      exact ⟨as ++ bs, .cons x1 x2, fun m => (List.mem_append.mp m).elim n1 n2⟩
end
/-- repr(x), x data that may hold empty dicts -/
def aReprD (K : PySem.W.Frag) : RC := fun xs H Q => ∃ a d, xs = [.ref a] ∧ Dx K H d (.ref a) ∧ d.showable = true ∧ d.depth ≤ 60 ∧ d.shown.length ≤ sizeLine ∧ Q (.str d.shown) H
theorem c_reprD (g : NoG X.A) (sm : SysD X.base) (hu : X.A.units + 64 < cLine) : CallR X (.builtin "repr") (aReprD X.K) := by
  intro pins s σ H xs us Q I rel h
  obtain ⟨a, d, rfl, dx, show_, deep, size, q⟩ := h
  obtain ⟨_, rfl, rfl⟩ := vals1 rel
  obtain ⟨as, rd, no⟩ := dx_reads sm I d (.ref a) (.ref a) dx rfl
  exact repr_of_reads' rd show_ (fun _ => no) g (by omega) (fun _ _ z => z) (fun h' u tk keep => ⟨.str d.shown, H, I.kept (t' := tk) keep, ⟨u, rfl⟩, q⟩) size
theorem k_reprD (K : PySem.W.Frag) (g : NoG X.A) (sm : SysD X.base) (hu : X.A.units + 64 < cLine) (h : X.K = K := by rfl) : CallR X (.builtin "repr") (aReprD K) := h ▸ c_reprD g sm hu
end
end Z
end

section
/-! SR: the shallow form of repr of data with empty dicts; lists and tuples times a number -/
namespace S
open PySem PySem.Spec PyProof.Rows L2 Z LamX
mutual
def toPd : D → Option PyData
  | .non => some .none
  | .bl b => some (.bool b)
  | .int i => some (.int i)
  | .str x => some (.str x)
  | .lst ds => (toPds ds).map .list
  | .tup ds => (toPds ds).map .tuple
  | .dic [] [] => some (.dict [])
  | _ => none
def toPds : List D → Option (List PyData)
  | [] => some []
  | d :: ds => (toPd d).bind fun x => (toPds ds).map (x :: ·)
end
section
variable {Γ : Wd} {B : Br} {H : Hp}
mutual
theorem toPd_rep : ∀ (d : D) (v : V) (x : PyData), rep Γ B H d v → toPd d = some x → Dx Γ.K H x v
  | .non, _, _, r, e => by unfold toPd at e; cases e; unfold rep at r; unfold Dx; exact r
  | .bl _, _, _, r, e => by unfold toPd at e; cases e; unfold rep at r; unfold Dx; exact r
  | .int _, _, _, r, e => by unfold toPd at e; cases e; unfold rep at r; unfold Dx; exact r
  | .str _, _, _, r, e => by unfold toPd at e; cases e; unfold rep at r; unfold Dx; exact r
  | .lst ds, _, _, r, e => by
    unfold toPd at e; unfold rep at r
    obtain ⟨p, vs, rfl, g, _, a⟩ := r
    obtain ⟨xs, e2, rfl⟩ := Option.map_eq_some_iff.mp e
    unfold Dx
    exact ⟨p, vs, rfl, SqL.of g, toPds_rep ds vs xs a e2⟩
  | .tup ds, _, _, r, e => by
    unfold toPd at e; unfold rep at r
    obtain ⟨p, vs, rfl, g, a⟩ := r
    obtain ⟨xs, e2, rfl⟩ := Option.map_eq_some_iff.mp e
    unfold Dx
    exact ⟨p, vs, rfl, g, toPds_rep ds vs xs a e2⟩
  | .dic [] [], _, _, r, e => by
    unfold toPd at e; cases e; unfold rep at r
    obtain ⟨p, vs, rfl, g, _, _, a⟩ := r
    unfold Dx
    exact ⟨rfl, p, rfl, by simpa using g⟩
  | .dic (_ :: _) _, _, _, _, e => by unfold toPd at e; cases e
  | .dic [] (_ :: _), _, _, _, e => by unfold toPd at e; cases e
  | .ty _, _, _, _, e => by unfold toPd at e; cases e
  | .cls _, _, _, _, e => by unfold toPd at e; cases e
  | .scr _, _, _, _, e => by unfold toPd at e; cases e
  | .obj _ _ _, _, _, _, e => by unfold toPd at e; cases e
  | .exc _ _ _, _, _, _, e => by unfold toPd at e; cases e
theorem toPds_rep : ∀ (ds : List D) (vs : List V) (xs : List PyData), reps Γ B H ds vs → toPds ds = some xs → DxA Γ.K H xs vs
  | [], _, _, r, e => by unfold toPds at e; cases e; unfold reps at r; unfold DxA; exact r
  | d :: ds, _, _, r, e => by
    unfold toPds at e; unfold reps at r
    obtain ⟨v, q, rfl, a, b⟩ := r
    obtain ⟨x, e1, e2⟩ := Option.bind_eq_some_iff.mp e
    obtain ⟨xs, e3, e4⟩ := Option.map_eq_some_iff.mp e2
    cases e4
    unfold DxA
    exact ⟨v, q, rfl, toPd_rep d v x a e1, toPds_rep ds q xs b e3⟩
end
end
def shownOf (x : PyData) : Option D := if x.showable = true ∧ x.depth ≤ 60 ∧ x.shown.length ≤ sizeLine then some (.str x.shown) else none
def gReprD : List D → Option D
  | [.lst ds] => (toPd (.lst ds)).bind shownOf
  | [.tup ds] => (toPd (.tup ds)).bind shownOf
  | _ => none
section
variable {Γ : Wd} {B : Br} {H : Hp}
theorem shown_run {x : PyData} {d : D} {p : Addr} {Q : VK} (dx : Dx Γ.K H x (.ref p)) (e : shownOf x = some d) (q : ∀ t, d = .str t → Q (.str t) H) : aReprD Γ.K [.ref p] H Q := by
  unfold shownOf at e
  split at e
  · next l => cases e; exact ⟨p, x, rfl, dx, l.1, l.2.1, l.2.2, q _ rfl⟩
  · cases e
instance : GN Γ (aReprD Γ.K) gReprD := ⟨fun {B0 m h H x d v Q} R r e q => by
  unfold gReprD at e
  split at e
  · next ds =>
    obtain ⟨u, rfl, a⟩ := repVs1 r
    obtain ⟨x, e1, e2⟩ := Option.bind_eq_some_iff.mp e
    obtain ⟨p, vs, rfl, g, a⟩ := a
    obtain ⟨xs, e3, rfl⟩ := Option.map_eq_some_iff.mp (by unfold toPd at e1; exact e1)
    exact shown_run (by unfold Dx; exact ⟨p, vs, rfl, SqL.of g, toPds_rep ds vs xs a e3⟩) e2 fun t et => by subst et; exact q _ _ same_rfl rep_str
  · next ds =>
    obtain ⟨u, rfl, a⟩ := repVs1 r
    obtain ⟨x, e1, e2⟩ := Option.bind_eq_some_iff.mp e
    obtain ⟨p, vs, rfl, g, a⟩ := a
    obtain ⟨xs, e3, rfl⟩ := Option.map_eq_some_iff.mp (by unfold toPd at e1; exact e1)
    exact shown_run (by unfold Dx; exact ⟨p, vs, rfl, g, toPds_rep ds vs xs a e3⟩) e2 fun t et => by subst et; exact q _ _ same_rfl rep_str
  · cases e⟩
end
/-! ### [x] * n that is written to; (x,) * n -/
def mulM : W → W → MH → Res W := fun x y h => match x, y with
  | .dat (.lst xs), .dat (.int j) => if 0 ≤ j ∧ j < 1000000 ∧ xs.length * j.toNat ≤ sizeLine then .ok (.ref h.length) (h ++ [.lst ((List.replicate j.toNat xs).flatten.map .dat)]) else .stuck
  | _, _ => .stuck
def gMulT : D → D → Option D
  | .tup xs, .int j => if xs ≠ [] ∧ 2 ≤ j ∧ j ≤ 1000 ∧ xs.length ≤ 1000 then some (.tup (List.replicate j.toNat xs).flatten) else none
  | x, y => gMul x y
section
variable {Γ : Wd} {E : XK} {B B0 : Br} {m : List Addr} {h : MH} {H : Hp}
theorem reps_again {xs : List D} {vs : List V} (r : reps Γ B H xs vs) : ∀ n : Nat, reps Γ B H (List.replicate n xs).flatten (List.replicate n vs).flatten
  | 0 => by simp only [List.replicate_zero, List.flatten_nil]; unfold reps; rfl
  | n + 1 => by simp only [List.replicate_succ, List.flatten_cons]; exact reps_app r (reps_again r n)
instance : Op2 Γ E aMul mulM := ⟨fun {B0 m h H x y v u Q} R rx ry q => by
  unfold mulM at q
  split at q
  · next xs j =>
    split at q
    · next l =>
      have rx : rep Γ (Bar B0 m h) H (.lst xs) v := rx
      have ry : rep Γ (Bar B0 m h) H (.int j) u := ry
      unfold rep at rx ry
      obtain ⟨p, vs, rfl, g, _, a⟩ := rx
      subst ry
      refine .inr ⟨p, j, vs, rfl, rfl, g, by omega, by omega, by rw [← reps_len a]; exact l.2.2, fun y hy => ?_⟩
      obtain ⟨R2, x2⟩ := R.alloc (o := .lst ((List.replicate j.toNat xs).flatten.map .dat)) (same_new (u := .lst (List.replicate j.toNat vs).flatten) hy) hy ⟨_, upd_same, trivial⟩ fun x => ⟨_, upd_same, (reps_dat (reps_again a _)).mono R x⟩
      exact q _ _ _ R2 x2 ⟨y, by rw [← R.len]; simp, rfl⟩
    · exact q.elim
  · exact q.elim⟩
instance : G2 Γ (orR aMul (rRepT Γ.K)) gMulT := ⟨fun {B0 m h H x y d v u Q} R rx ry e q => by
  unfold gMulT at e
  split at e
  · next xs j =>
    split at e
    · next l =>
      cases e
      obtain ⟨p, vs, rfl, g, a⟩ := rx
      cases ry
      have ne : vs ≠ [] := fun z => l.1 (List.eq_nil_of_length_eq_zero (by rw [reps_len a, z]; rfl))
      exact .inr ⟨p, j, vs, rfl, rfl, g, ne, l.2.1, l.2.2.1, by rw [← reps_len a]; exact l.2.2.2, fun y hy => q _ _ (same_new hy) (rep_newT R (reps_again a _) hy)⟩
    · cases e
  · exact .inl ((inferInstance : G2 Γ aMul gMul).run R rx ry e q)⟩
theorem k_mulT {X : Cx} (K : PySem.W.Frag) (h : X.K = K := by rfl) : OpR X (binaryOp .Mult) (orR aMul (rRepT K)) := h ▸ orO o_mul op_repT
end
end S
end

section
/-! KM: a class method called by keywords alone -/
namespace Z
open PySem PySem.Spec PyProof.Rows L2 LamX
/-- C.m(k = v, ..): m names, gV the values in the def's own order -/
def tCMethK (C : Addr) (m : Nat) (sp : Sp) (gV : List V → List V → List V) (E : XK) (ta : TE) (tk : TA) : TE := fun σ H Q => ta σ H fun x H1 => x = .ref C ∧ tk σ H1 fun zs H2 => zs.length = m ∧ sp (gV [.ref C] zs) H2 Q E
section
variable {X : Cx} {CX : CXT} {k : Nat} {C p f : Addr} {mc : Value} {fd : FuncData} {ps ks : List Str} {sp : Sp} {E : XK} {o : Expr} {kws : List Keyword} {m : Str} {pos apos : Pos} {ta : TE} {tk : TA} {g : List Value → List Value → List Value} {gV : List V → List V → List V} {pl : Sem Bool}
theorem pe_cmethK (he : PE X o ta) (r : ClX.CRead X.K C mc) (c : ClX.CMet X.K C mc m p f) (isf : PySem.W.fnIn X.K f = true) (F : FnOk X.prog X.w X.K X.mg X.base CX k f fd ps sp) (room : Room k X.A) (hb : KBn X.K fd ps 1 ks g gV) (hx : Passes CX X E) (hkw : PK X kws tk)
    (all : (backToKw pos (keywordEach kws X.env)).all (·.1.isSome) = true := by rfl) (names : (backToKw pos (keywordEach kws X.env)).filterMap (·.1) = ks := by rfl)
    (flat : ((backTo pos (starEach [] X.env)).any (·.1) || (backToKw pos (keywordEach kws X.env)).any (·.1.isNone)) = false := by rfl)
    (ht : eval (.Call (.Attribute o m apos) [] kws pos) X.env = (do
      let ov ← eval o X.env
      standAt apos.atName
      let (f, first) ← holding [ov] (getMethod ov m pl)
      callWith pos f first (backTo pos (starEach [] X.env)) (backToKw pos (keywordEach kws X.env))) := by rfl) :
    PE X (.Call (.Attribute o m apos) [] kws pos) (tCMethK C ks.length sp gV E ta tk) := by
  refine ⟨fun pins s σ H Q I h => PySem.W.methodCall_KW (pl := pl) (thn (he.run pins s σ H _ I h) fun u s1 ⟨x, H1, I1, rx, ex, q⟩ => ?_) ht⟩
  subst ex
  obtain rfl : u = Value.ref C := rx
  refine ClX.getmethcm_ok I1 r c fun s2 I2 => ?_
  refine PySem.W.callWith_of flat (PySem.W.keeps_M (q := s1.heap.objs.size) (self := .ref C) isf) (evalArgs_kw2_nil all ?_)
  refine thn (hkw.run pos _ s2 σ H1 _ I2 q) fun ws s3 ⟨zs, H3, I3, rz, len, done⟩ => ⟨⟨ClX.pin_at I3, I3.kIn⟩, ?_⟩
  rw [names]
  have z : wpAny (model X.prog X.w) X.A (call (.ref s1.heap.objs.size) [] (ks.zip ws)) (EP X ((s1.heap.objs.size, PySem.W.methodObj (.ref f) (.ref C)) :: pins) σ Q) X.xe s3 := by
    refine wpAny_call (PySem.W.method_call (ClX.pin_at I3) (codeAny_mono (F.run X.A X.stack s3 H3 ⟨[.ref C], ks.zip ws⟩ (g [.ref C] ws) (gV [.ref C] zs) Q E room I3.env0 (hb.to s3 [.ref C] ws I3.kIn rfl (rz.length.symm.trans len)) (hb.rel (.cons rfl .nil) rz) done) ?_))
    rintro (er | fl) t out
    · exact hx _ σ H3 s3 er t I3 out
    · cases fl <;> first | exact I3.after out | exact out.elim
  exact thn z fun _ _ y => ClX.unpinE y
end
theorem pg_tupK {X : Cx} (K : PySem.W.Frag) {es : List Expr} {kk : Nat} {pos : Pos} {t : TGs} {n : Nat} (hc : X.calm = true) (h : PGs X es t) (hn : (assignEach es X.env).length = n := by rfl) (hst : (assignEach es X.env).findIdx? (·.1) = none := by rfl) (e : X.K = K := by rfl) :
    PG X (.Tuple es kk pos) (gTup K n t) := e ▸ pg_tup hc h hn hst
end Z
namespace S
open PySem PySem.Spec PyProof.Rows L2 Z LamX
section
variable {Γ : Wd} {E : XK} {C : String} {sp : Sp} {c : FF} {ta : TE} {ea : EE} {tk : TA} {ek : EA}
@[simp] def eCMK (C : String) (is : List Nat) (k : Nat) (c : FF) (o : EE) (b : EA) : EE := fun s h => (o s h).bind fun w h1 => if isCls C (some (some w)) = true then (b s h1).bind fun zs h2 => if zs.length = k then c (w :: pick is zs) h2 else .stuck else .stuck
instance {is : List Nat} {k : Nat} [ho : EvE Γ E ta ea] [hk : EvA Γ E tk ek] [hc : CallOk Γ E sp c] : EvE Γ E (tCMethK (Γ.cl C) k sp (gKw is) E ta tk) (eCMK C is k c ea ek) := ⟨fun {B0 m h H s σ Q} R es q => by
  refine ho.run R es (q.bind fun w h1 m1 H1 v R1 x1 r1 q1 => ?_)
  split at q1
  · next l =>
    cases isCls_run r1 l
    refine ⟨rfl, hk.run R1 (es.mono R x1) (q1.bind fun zs h2 m2 H2 vs R2 x2 r2 q2 => ?_)⟩
    split at q2
    · next len => exact ⟨by rw [← repWs_len r2]; exact len, hc.run (ws := w :: _) R2 ⟨_, _, rfl, r1.mono R1 x2, repWs_pick r2 is⟩ q2⟩
    · exact q2.elim
  · exact q1.elim⟩
end
end S
end

section
/-! ZCT: try: body / except x as n: suite, where the exception is kept behind the suite -/
namespace Z
open PySem PySem.Spec PyProof.Rows L2
section
variable {X : Cx} {pins : List (Addr × Obj)} {σ : L2.St} {H : Hp} {D : Ends}
/-- what the body of a try leaves, told outside it -/
theorem sp_outside {pn : List (Addr × Obj)} {xe : Value → Shared → Prop} (ok : X.Ok) (pe : pn = X.pn ++ pins) {f : Flow} {s : Shared} (h : SP (X.tr pn xe) [] D f s) : SP X pins D f s := by
  subst pe
  cases f
  case ret u => exact h.imp fun _ ⟨_, _, J, r, q⟩ => ⟨_, _, J.ofTry ok, r, q⟩
  all_goals exact h.imp fun _ ⟨_, J, q⟩ => ⟨_, J.ofTry ok, q⟩
theorem frame_or {q : Addr} (hst : X.stack = X.env :: X.outer) (hfm : X.env.frame = some X.env.locals) (m : q ∈ frs X.stack) : q = X.env.locals ∨ q ∈ X.fs := by
  rw [hst] at m
  have ⟨e, he, r⟩ := List.mem_filterMap.mp m
  cases he with
  | head => exact .inl (Option.some.inj (r.symm.trans hfm))
  | tail _ he => exact .inr (List.mem_filterMap.mpr ⟨e, he, r⟩)
theorem own_frame (hst : X.stack = X.env :: X.outer) (hfm : X.env.frame = some X.env.locals) : X.env.locals ∈ frs X.stack := by
  rw [hst]; exact List.mem_filterMap.mpr ⟨X.env, .head _, hfm⟩
theorem outer_frame {q : Addr} (hst : X.stack = X.env :: X.outer) (m : q ∈ X.fs) : q ∈ frs X.stack := by
  have ⟨e, he, r⟩ := List.mem_filterMap.mp m
  rw [hst]; exact List.mem_filterMap.mpr ⟨e, .tail _ he, r⟩
/-- an exception that flies is new: no frame, no pin, nothing of the entry -/
structure Apart (X : Cx) (pins : List (Addr × Obj)) (a : Addr) : Prop where
  here : a ≠ X.env.locals
  fs : a ∉ X.fs
  entry : X.s_0.heap.get? a = none
  pin : ∀ q ∈ X.pn ++ pins, q.1 ≠ a
theorem apart {a : Addr} {B h : Heap} {cls : Value} {d : Option Addr} {sI : Shared} (hex : X.ex = []) (hst : X.stack = X.env :: X.outer) (hfm : X.env.frame = some X.env.locals) (J : Inv X pins σ H sI)
    (nb : ∀ b o, sI.heap.get? b = some o → b ∉ frs X.stack → B.get? b = some o) (fly : HandSPX.FlyingZ B (X.env :: X.outer) a (Zc cls d) h) : Apart X pins a := by
  have ⟨oe, fv, g, _, hd⟩ := fly.there
  have frames : a ∉ frs X.stack := fun m => by
    have ⟨_, o, g', no⟩ := fly.2.2.1.mem (hst ▸ m)
    exact no fv (Option.some.inj (g.symm.trans g') ▸ hd)
  have older : ∀ q o, sI.heap.get? q = some o → q ∉ frs X.stack → q ≠ a := fun q o e n z => by
    have z1 := nb q o e n
    rw [z, fly.2.1] at z1; cases z1
  refine ⟨fun e => frames (e ▸ own_frame hst hfm), fun m => frames (outer_frame hst m), ?_, fun q hq => ?_⟩
  · match e : X.s_0.heap.get? a with
    | none => rfl
    | some o =>
      have ⟨o', g'⟩ := J.base.there a o e (by simp [hex])
      exact absurd rfl (older a o' g' frames)
  · have ⟨g, _, n1, n2, _⟩ := J.pin q hq
    exact older q.1 _ g fun m => (frame_or hst hfm m).elim n1 n2
end
section
variable {X : Cx} {x n : Str} {c : Value} {i : Nat} {body suite : List Stmt} {st0 : Stmt} {p1 p2 p3 : Pos} {tb : WX → TS} {ts : Addr → Value → Option Addr → TS} {Wo : WX} {D : Ends} {pins : List (Addr × Obj)} {σ : L2.St} {H : Hp}
/-- the clause is another class's: the exception goes on -/
theorem goes_on {a : Addr} {B : Heap} {cls : Value} {d : Option Addr} {sI s : Shared} {h : Heap} (hst : X.stack = X.env :: X.outer) (hfm : X.env.frame = some X.env.locals) (tk : Takes X Wo) (J : Inv X pins σ H sI)
    (nb : ∀ b o, sI.heap.get? b = some o → b ∉ frs X.stack → B.get? b = some o) (up : sI.heap.UpToSlots h) (na : H a = none) (os : s.os = sI.os) (ag : AllBare s.gens) (fly : HandSPX.FlyingZ B (X.env :: X.outer) a (Zc cls d) h) (w : Wo cls d σ H) :
    wpAny (model X.prog X.w) X.A (handleBy (.ref a) X.env []) (SP X pins D) X.xe { s with heap := h } := by
  have out : wpAny (model X.prog X.w) X.A (setFlight (.ref a) X.env.frame) (fun _ t => wpAny (model X.prog X.w) X.A (throw (.ref a) : Sem Flow) (SP X pins D) X.xe t) X.xe { s with heap := h } :=
    hfm ▸ HandSPX.setFlight_upZ fly fun h' held more => wpAny_throw (tk _ _ ⟨a, B, sI, pins, σ, H, cls, d, rfl, J, nb, up.trans more, .inr (.inr (hst ▸ held)), na, os, ag, w⟩)
  have ⟨_, _, _, oe, fv, Tr, _, _, he, _, hd, h1, _⟩ := fly
  unfold handleBy PySem.passOn
  refine wpAny_bind (wpAny_field he hd h1 ?_)
  rw [if_neg (by simp)]
  first
    | exact wpAny_bind (wpAny_pure (wpAny_bind out))
    | exact wpAny_bind out
/-- behind the suite: the name goes, the exception stays -/
theorem suite_ends {a : Addr} {oe : Obj} {fv : Array Value} {cls : Value} {d : Option Addr} (ok : X.Ok) (hN : X.N.Nodup) (hi : X.N[i]? = some n) (hln : X.env.kindOf n = some .local) (ap : Apart X pins a) (hz : Zc cls d oe) (hd : oe.data = .fields fv) {pos : Pos} {f : Flow} {s : Shared}
    (h : SP (X.suite a ((a, oe) :: (X.pn ++ pins))) [] { nx := fun σ' H' => D.nx (σ'.set i none) (upd H' a (ExV cls d a)), rt := fun _ _ => False } f s) :
    wpAny (model X.prog X.w) X.A (do bindName X.env n .none; unbindBehindTheSuite X.env n pos) (fun _ t => SP X pins D f t) X.xe s := by
  cases f
  case next => exact let ⟨_, _, S, q⟩ := h; gone_ok (unsuiteK S ok) hN hi hln fun t J => ⟨_, _, pin_track J hz hd ap.entry ap.pin, q⟩
  case ret => exact let ⟨_, _, _, _, _, q⟩ := h; q.elim
  all_goals exact let ⟨_, _, _, q⟩ := h; q.elim
/-- the class that a clause names -/
theorem class_read {Y : Cx} {pins : List (Addr × Obj)} {σ : L2.St} {H : Hp} {s : Shared} {E Q : Value → Shared → Prop} {p : Pos} (I : Inv Y pins σ H s) (hc : Names Y x c) (q : Q c s) : wpAny (model Y.prog Y.w) Y.A (eval (.Name x p) Y.env) Q E s := by
  obtain ⟨gl, nd, own | ⟨no, bl, vis⟩⟩ := hc
  · exact ld_glob I gl own q nd
  · exact ld_blt I gl no bl q vis nd
theorem ps_tryK (hex : X.ex = []) (hst : X.stack = X.env :: X.outer) (hfm : X.env.frame = some X.env.locals) (hN : X.N.Nodup) (hi : X.N[i]? = some n) (hln : X.env.kindOf n = some .local) (hc : Names X x c) (tk : Takes X Wo)
    (body_ok : ∀ (W : WX) (pn : List (Addr × Obj)) (xe : Value → Shared → Prop), Takes (X.tr pn xe) W → PassesOwn (model X.prog X.w) X.A X.env xe → PSs (X.tr pn xe) body (tb W))
    (suite_ok : ∀ (a : Addr) (oe : Obj) (cls : Value) (d : Option Addr) (pn : List (Addr × Obj)), Zc cls d oe → (∃ fv, oe.data = .fields fv) → PSs (X.suite a ((a, oe) :: pn)) (st0 :: suite) (ts a cls d)) :
    PS X (.Try body [.ExceptHandler (some (.Name x p1)) (some n) (st0 :: suite) p2] [] [] p3) (fun D σ H => tb (wKp X.N.length X.K c i ts Wo D) D σ H) := by
  refine ⟨fun pins s σ H D I h => ?_⟩
  have ok := I.ok
  have top : X.A.frames = some (X.env :: X.outer) := hst ▸ ok.frames
  refine wpAny_Try_except (wpAny_mono ((body_ok (wKp X.N.length X.K c i ts Wo D) (X.pn ++ pins) _ ?come PassesOwn.looking).run [] s σ H D (I.toTry _) h) (fun f t sp => ?flow) fun _ _ z => z)
  case flow =>
    have sp := sp_outside (pins := pins) ok rfl sp
    cases f
    case next => exact wpAny_execs_nil sp
    all_goals exact sp
  case come =>
    rintro _ t ⟨a, B, sI, _, σ', H', cls, d, rfl, J', nb, up, sky, na, os, ag, wish⟩
    have J : Inv X pins σ' H' sI := J'.ofTry ok
    obtain ⟨b, said, other, mine⟩ := wish J.len
    have sky : Sky B X.stack a (Zc cls d) X.env.locals t.heap := sky
    rw [hst] at sky
    refine Sky.land Zc.steady top hfm sky fun h3 fly more => ?_
    have ap := apart hex hst hfm J nb fly
    have ⟨oe, fv, g, hz, hd⟩ := fly.there
    have up3 := up.trans more
    have J3 : Inv X pins σ' H' { t with heap := h3 } := J.landed nb fly.1 up3 os ag
    have S3 := J3.suite g hd na ap.here ap.fs
    have is := PySem.W.exm_one (M := model X.prog X.w) J3.kIn (PySem.W.Looks.andThen (PySem.W.Looks.ld g) (hz.1.symm ▸ .now)) said
    refine wpAny_handleBy_cons (codeAny_handlers_test ?_) fun q => nomatch q
    refine class_read (Y := X.suite a ((a, oe) :: (X.pn ++ pins))) S3 hc (is.here ?_)
    cases b
    · exact goes_on hst hfm tk J nb up3 na os ag fly (other rfl)
    · refine codeAny_handlers_suite_as (HandSPX.lands_againZ fly fun h4 fly4 up4 => ?_)
      have ⟨oe4, fv4, g4, hz4, hd4⟩ := fly4.there
      have J4 : Inv X pins σ' H' { t with heap := h4 } := J.landed nb fly4.1 (up3.trans up4) os ag
      refine store_ok (X := X.suite a ((a, oe4) :: (X.pn ++ pins))) (v := .ref a) (J4.suite g4 hd4 na ap.here ap.fs) hN hi (.inl hln) rfl (fun s5 S5 => ?_) (.inr hln)
      exact wpAny_mono ((suite_ok a oe4 cls d _ hz4 ⟨_, hd4⟩).run [] s5 _ H' _ S5 (mine rfl a na)) (fun f s6 sp => suite_ends ok hN hi hln ap hz4 hd4 sp) fun _ _ z => z.elim
end
end Z
end

section
/-! HF: the def that hears where what is returned has the first slot, what is caught the second -/
namespace S
open PySem PySem.Spec PyProof.Rows L2 Z LamX
def heardF (xm : String → Bool) (n : Nat) (rest : SS) : (MH → Res W) → MH → Res W := fun f h => match f h with
  | .ok w h1 => noX (fin (rest (none :: some w :: some (.dat .non) :: none :: List.replicate n none) h1))
  | .exc C ns xs h1 => if xm C = true then noX (fin (rest (none :: none :: some (.dat (.exc C ns xs)) :: none :: List.replicate n none) h1)) else .stuck
  | .stuck => .stuck
instance {xm : String → Bool} {n : Nat} {rest : SS} : NoX (heardF xm n rest) := ⟨fun f h C ns xs h' => by
  unfold heardF
  split
  · exact noX_no
  · split
    · exact noX_no
    · exact fun z => by cases z
  · exact fun z => by cases z⟩
def tTryF (f c' : Addr) (q : Str) (tl : XK → Hp → VK → Prop) (W : WX) (D : Ends) (σ : L2.St) (H : Hp) : Prop := ∃ (Ech : XK) (Q0 : VK), (∀ cls d σ' H', Ech cls d H' → W cls d σ' H') ∧ σ[0]? = some (some (.ref f)) ∧ H c' = some (CodeO c' q) ∧ tl Ech H Q0 ∧ ∀ v H1, Q0 v H1 → D.nx (σ.set 1 (some v)) H1
section
variable {Γ : Wd} {B0 : Br} {m : List Addr} {h : MH} {H : Hp} {Q : VK} {rest : SS} {trest : TS}
theorem heard_runF {f c' : Addr} {q : Str} {tl : XK → Hp → VK → Prop} {n : Nat} {xm : String → Bool} {K : PySem.W.Frag} {c : Value} {Wo : WX} (er : EvS Γ EZ trest rest) (h0 : TTs Γ (heardF xm n rest) tl H Q) (hc : H c' = some (CodeO c' q))
    (hx : ∀ C, Γ.ok C → xm C = true → PySem.W.exmOne K (xvOf Γ C) c = some true) :
    tSeq (tAsg (tC .non) (gName 1)) (tSeq (tAsg (tC .non) (gName 2)) (tSeq (fun D σ H => tTryF f c' q tl (wKp (n + 4) K c 3 (fun _ _ _ => tAsg (tVar 3) (gName 2)) Wo D) D σ H) trest)) { nx := fun _ H' => Q .non H', rt := Q } (some (.ref f) :: none :: none :: none :: List.replicate n none) H := by
  obtain ⟨B0, m, h, fn, R, htl, q0⟩ := h0
  show tTryF f c' q tl _ _ (some (.ref f) :: some .non :: some .non :: none :: List.replicate n none) H
  refine ⟨fun cls d H' => ∀ σ', wKp (n + 4) K c 3 (fun _ _ _ => tAsg (tVar 3) (gName 2)) Wo { nx := trest { nx := fun _ H' => Q .non H', rt := Q }, rt := Q } cls d σ' H', fun v H1 => trest { nx := fun _ H' => Q .non H', rt := Q } ((some (.ref f) :: some .non :: some .non :: none :: List.replicate n none).set 1 (some v)) H1, fun _ _ σ' _ z => z σ', rfl, hc, ?_, fun _ _ z => z⟩
  refine htl m h H _ _ R Ex.refl ?_
  unfold heardF at q0
  cases e : fn h with
  | stuck => simp only [e] at q0; exact q0.elim
  | ok w h1 =>
    simp only [e] at q0
    intro m1 H1 v R1 x1 r1
    refine er.run R1 ?_ (fin_run (post.mono x1 (noX_run q0)))
    refine repE_rest (by simp) fun i w' g => ?_
    match i, g with
    | 0, g => cases g
    | 1, g => cases g; exact ⟨v, rfl, r1⟩
    | 2, g => cases g; exact ⟨.non, rfl, by show rep _ _ _ _ _; unfold rep; rfl⟩
    | 3, g => cases g
    | i + 4, g => exact (rep_none (show (List.replicate n (none : Option W))[i]? = some (some w') from g)).elim
  | exc C ns xs h1 =>
    simp only [e] at q0
    split at q0
    · next hm =>
      intro m1 H1 dd vs ok R1 x1 gd rx σ' hl
      refine ⟨true, hx C ok hm, (fun z => nomatch z), fun _ a ha => ?_⟩
      match σ', hl with
      | s0 :: s1 :: s2 :: s3 :: r, hl =>
        have hl : r.length = n := by simpa using hl
        refine ⟨.ref a, rfl, ?_⟩
        show trest _ _ _
        obtain ⟨R2, x2⟩ := R1.same (same_new (u := ExV (xvOf Γ C) dd a) ha)
        refine er.run R2 ?_ (fin_run (post.mono (x1.trans x2) (noX_run q0)))
        refine repE_rest (by simp [hl]) fun i w' g => ?_
        match i, g with
        | 0, g => cases g
        | 1, g => cases g
        | 2, g =>
          cases g
          refine ⟨.ref a, rfl, ?_⟩
          show rep _ _ _ _ _
          unfold rep
          exact ⟨a, dd, vs, rfl, upd_same, XD.same gd ha, ok, reps.same R1 (same_new ha) rx⟩
        | 3, g => cases g
        | i + 4, g => exact (rep_none (show (List.replicate n (none : Option W))[i]? = some (some w') from g)).elim
    · exact q0.elim
end
end S
end

section
/-! SV: readings put together step by step, for terms over which simp leads the kernel astray -/
namespace S
open PySem PySem.Spec PyProof.Rows L2 Z LamX
variable {s s1 : En} {h h1 h2 : MH} {w v : W} {ws : List W} {e o : EE} {a : EA} {c : FF} {C : String} {r : Res W} {b t : SS} {q : SRes} {g : GG} {i : Nat}
theorem var_of (e : s[i]? = some (some w)) : eVar i s h = .ok w h := by unfold eVar; rw [e]
theorem nil_of : eNil s h = .ok [] h := rfl
theorem cons_of (he : e s h = .ok w h1) (ha : a s h1 = .ok ws h2) : eCons e a s h = .ok (w :: ws) h2 := by unfold eCons; rw [he]; show (a s h1).bind _ = _; rw [ha]; rfl
theorem one_arg (he : e s h = .ok w h1) : eCons e eNil s h = .ok [w] h1 := cons_of he nil_of
theorem cb_of (ha : a s h = .ok ws h1) (hc : c ws h1 = r) : eCB c a s h = r := by unfold eCB; rw [ha]; exact hc
theorem cm_of (ho : o s h = .ok (.dat (.cls C)) h1) (ha : a s h1 = .ok ws h2) (hc : c (.dat (.cls C) :: ws) h2 = r) : eCM C c o a s h = r := by
  unfold eCM
  rw [ho]
  show (if isCls C (some (some (.dat (.cls C)))) = true then (a s h1).bind _ else .stuck) = _
  rw [if_pos (by simp), ha]
  exact hc
theorem ret_of (he : e s h = .ok w h1) : sRet e s h = .rt w h1 := by unfold sRet; rw [he]; rfl
theorem asg_of (he : e s h = .ok w h1) (hg : g w s h1 = q) : sAsg e g s h = q := by unfold sAsg; rw [he]; exact hg
theorem drop_of (he : e s h = .ok w h1) : sDrop e s h = .nx s h1 := by unfold sDrop; rw [he]; rfl
theorem seq_nx (e : b s h = .nx s1 h1) : sSeq b t s h = t s1 h1 := by unfold sSeq; rw [e]; rfl
theorem for_of {ds : List D} {it : EI} (he : it s h = .ok ds h1) (hl : loopS g b ds s h1 = q) : sFor it g b s h = q := by unfold sFor; rw [he]; exact hl
theorem loop_step (e1 : g w s h = .nx s1 h1) (e2 : b s1 h1 = q) : (g w s h).bind b = q := by rw [e1]; exact e2
theorem op_of {f : W → W → MH → Res W} {e2 : EE} {x y : W} (ha : e s h = .ok x h1) (hb : e2 s h1 = .ok y h2) (hf : f x y h2 = r) : eOp f e e2 s h = r := by
  unfold eOp; rw [ha]; show (e2 s h1).bind _ = _; rw [hb]; exact hf
theorem un_of {f : W → MH → Res W} {x : W} (ha : e s h = .ok x h1) (hf : f x h1 = r) : eUn f e s h = r := by unfold eUn; rw [ha]; exact hf
theorem ownS_of {ok : W → Bool} {c f : FF} {ns : List Str} {xs : List D} (hc : c [.dat (.obj C ns xs)] h = .ok w h1) (hb : ok w = true) : ownS C ok c f [.dat (.obj C ns xs)] h = .ok w h1 := by
  unfold ownS
  dsimp only
  rw [if_pos (by simp), hc]
  show (if ok w = true then Res.ok w h1 else .stuck) = _
  rw [if_pos hb]
theorem ownNe_of {c : FF} {f : W → W → MH → Res W} {ns : List Str} {xs : List D} {y : W} {b : Bool} (hy : okY C h y = true) (hc : c [.dat (.obj C ns xs), y] h = .ok (.dat (.bl b)) h1) : ownNe C c f (.dat (.obj C ns xs)) y h = .ok (.dat (.bl (!b))) h1 := by
  unfold ownNe
  rw [if_pos (by simp), if_pos hy, hc]; rfl
theorem andT_t {e2 : EE} (ha : e s h = .ok (.dat (.bl true)) h1) (hb : e2 s h1 = r) : eAndT e e2 s h = r := by
  unfold eAndT; rw [ha]; exact hb
theorem sub_of {i : EE} {ow iw : W} (ho : o s h = .ok ow h1) (hi : i s h1 = .ok iw h2) (hp : putI w ow iw s h2 = q) : gSubS o i w s h = q := by
  unfold gSubS; rw [ho]; show (i s h1).bindS _ = _; rw [hi]; exact hp
theorem fz_of {n : Nat} {d : D} (g : s[i]? = some (some (.ref n))) (v : vw h (.ref n) = some d) (hb : b (s.set i (some (.dat d))) (h.set n .dead) = q) : sFz i b s h = q := by
  unfold sFz
  simp only [g, v]
  exact hb
theorem lstM_of (ha : a s h = .ok ws h1) (l : ws.length ≤ sizeLine) : eLstM a s h = .ok (.ref h1.length) (h1 ++ [.lst ws]) := by
  unfold eLstM; rw [ha]; show (if _ then _ else _) = _; rw [if_pos l]
theorem bm_of {T : String} {f : W → List W → MH → Res W} (ho : o s h = .ok w h1) (ty : tyW T h1 w = true) (ha : a s h1 = .ok ws h2) (hf : f w ws h2 = r) : eBM T f o a s h = r := by
  unfold eBM; rw [ho]; show (if tyW T h1 w = true then (a s h1).bind _ else _) = _; rw [if_pos ty, ha]; exact hf
theorem if_of {c : ET} {k : Bool} (hc : c s h = .ok k h1) (hq : (if k = true then b s h1 else t s h1) = q) : sIf c b t s h = q := by
  unfold sIf; rw [hc]; exact hq
theorem test_of {k : Bool} (he : e s h = .ok (.dat (.bl k)) h1) : eTest e s h = .ok k h1 := by unfold eTest; rw [he]; rfl
theorem tr_of {k : Bool} (he : e s h = .ok (.dat (.bl k)) h1) : eTr e s h = .ok k h1 := by unfold eTr; rw [he]; rfl
theorem not_of {c : ET} {k : Bool} (hc : c s h = .ok k h1) : eNot c s h = .ok (!k) h1 := by unfold eNot; rw [hc]; rfl
theorem or_f {c d : ET} {k : Bool} (hc : c s h = .ok false h1) (hd : d s h1 = .ok k h2) : eOr c d s h = .ok k h2 := by unfold eOr; rw [hc]; exact hd
theorem or_t {c d : ET} (hc : c s h = .ok true h1) : eOr c d s h = .ok true h1 := by unfold eOr; rw [hc]; rfl
theorem and_t {c d : ET} {k : Bool} (hc : c s h = .ok true h1) (hd : d s h1 = .ok k h2) : eAnd c d s h = .ok k h2 := by unfold eAnd; rw [hc]; exact hd
theorem and_f {c d : ET} (hc : c s h = .ok false h1) : eAnd c d s h = .ok false h1 := by unfold eAnd; rw [hc]; rfl
theorem any_of_ {d : D} {ds : List D} (he : e s h = .ok (.dat d) h1) (hi : itD (.dat d) h1 = .ok ds h1) : iAnyS e s h = .ok ds h1 := by unfold iAnyS; rw [he]; exact hi
theorem lc_of {it : EI} {tt : ET} {vs : List Nat} {ds : List D} (hi : it s h = .ok ds h1) (hl : lcS g tt e ds (wipeS s vs) h1 [] = r) : eLc it g tt e vs s h = r := by unfold eLc; rw [hi]; exact hl
theorem rng_of {n : Nat} (ha : a s h = .ok [.dat (.int (n : Nat))] h1) (hn : n ≤ 1000000) : iRng1S a s h = .ok (rngD 0 n) h1 := by rw [rng1_eq ha]; exact rngR_nat hn
theorem cmk_of {is : List Nat} {k : Nat} (ho : o s h = .ok (.dat (.cls C)) h1) (ha : a s h1 = .ok ws h2) (l : ws.length = k) (hc : c (.dat (.cls C) :: pick is ws) h2 = r) : eCMK C is k c o a s h = r := by
  unfold eCMK
  rw [ho]
  show (if isCls C (some (some (.dat (.cls C)))) = true then (a s h1).bind _ else .stuck) = _
  rw [if_pos (by simp), ha]
  show (if _ then c (_ :: pick is ws) h2 else _) = _
  rw [if_pos l]
  exact hc
theorem loop_nx {d : D} {ds : List D} {s2 : En} (e1 : g (.dat d) s h = .nx s1 h1) (e2 : b s1 h1 = .nx s2 h2) (rest : loopS g b ds s2 h2 = q) : loopS g b (d :: ds) s h = q := by
  rw [loopS_cons, loop_step e1 e2]; exact rest
theorem loop_exc {d : D} {ds : List D} {C : String} {ns : List Str} {xs : List D} (e1 : g (.dat d) s h = .nx s1 h1) (e2 : b s1 h1 = .exc C ns xs h2) : loopS g b (d :: ds) s h = .exc C ns xs h2 := by
  rw [loopS_cons, loop_step e1 e2]; rfl
theorem seq_exc {C : String} {ns : List Str} {xs : List D} (e : b s h = .exc C ns xs h1) : sSeq b t s h = .exc C ns xs h1 := by unfold sSeq; rw [e]; rfl
end S
end

section
/-! VD: new lists that are written to, list(range(n)), xs[::-1], pop(i), split, join, raise with two fields, try in any def -/
namespace Z
open PySem PySem.Spec PyProof.Rows L2
/-- __init__(self, v, w): self.m = v; self.n = w -/
def spX2 (C : Addr) (m n : Str) : Sp := fun vs H Q _ => ∃ (a : Addr) (v w : V), vs = [.ref a, v, w] ∧ H a = some (exo a C none) ∧ ∀ dx, H dx = none → dx ≠ a → Q .non (upd (upd H dx (exd dx [(n, w), (m, v)])) a (exo a C (some dx)))
def tX2 (C : Addr) (m n : Str) (te tf : TE) : L2.St → Hp → XK → Prop := fun σ H Q => te σ H fun v H1 => tf σ H1 fun w H2 => ∀ d, H2 d = none → Q (.ref C) (some d) (upd H2 d (.xd [(n, w), (m, v)]))
section
variable {X : Cx} {CX : CXT} {k : Nat} {C fI : Addr} {fd : FuncData} {x m n q1 q2 q3 : Str} {p pos : Pos} {e f : Expr} {te tf : TE}
theorem pmk_x2 (T : XcT X.K X.mg x C fI) (F : FnOk X.prog X.w X.K X.mg X.base (L2.CX X.prog X.w) k fI fd [q1, q2, q3] (spX2 C m n)) (hr : Room (k + 1) X.A) (hb : Binds X.K fd [q1, q2, q3] []) (hg : Gl X x) (he : PE X e te) (hf : PE X f tf)
    (hdb : (x == ("__debug__" : Str)) = false := by decide) (hst : starEach (e :: [f]) X.env = (false, eval e X.env) :: starEach [f] X.env := by rfl) (hst2 : starEach (f :: []) X.env = (false, eval f X.env) :: starEach [] X.env := by rfl) (hpl : (backTo pos (starEach [f] X.env)).any (·.1) = false := by rfl) :
    PMk X (.Call (.Name x p) [e, f] [] pos) (tX2 C m n te tf) := by
  have P := pmk_oex (x := x) (p := p) (pos := pos) (es := [f]) (dvs := []) (ds := []) T.ox T.iC T.tI F hr hb .nil passL hg T.g (pa_cons (moE he) (pa_cons (moE hf) pa_nil hst2) hst) hdb hst hpl
  intro pins s σ H Q I h
  refine P pins s σ H Q I ⟨_, h, fun v H1 hq => ⟨_, hq, fun w H2 hq2 => ⟨by show 2 ≤ 1000; omega, fun a ha => ⟨a, v, w, rfl, upd_same, fun dx hdx ne => ⟨rfl, dx, [(n, w), (m, v)], upd_same, ?_, ?_, ?_⟩⟩⟩⟩⟩
  · rw [upd_ne ne, upd_same]
  · rw [upd_ne ne] at hdx
    exact hdx
  · rw [upd_ne ne] at hdx
    rw [upd_back ha ne]
    exact hq2 dx hdx
end
theorem two_set {H : Hp} {dx a : Addr} {o1 o2 u : HO} {Q : Hp → Prop} (ne : dx ≠ a) (q : Q (upd (upd H dx o2) a u)) : Q (upd (upd (upd H dx o1) a u) dx o2) := by
  have e : upd (upd (upd H dx o1) a u) dx o2 = upd (upd H dx o2) a u := by
    funext b
    by_cases h1 : b = dx
    · subst h1; rw [upd_same, upd_ne ne, upd_same]
    · rw [upd_ne h1]
      by_cases h2 : b = a
      · subst h2; rw [upd_same, upd_same]
      · rw [upd_ne h2, upd_ne h2, upd_ne h1, upd_ne h1]
  rw [e]; exact q
theorem pe_revK {X : Cx} (K : PySem.W.Frag) {e : Expr} {te : TE} {k : Nat} {p1 p2 p3 pos : Pos} (he : PE X e te) (h : X.K = K := by rfl) : PE X (.Subscript e (.Slice none none (some (.UnaryOp .USub (.Constant (.int 1) k p1) p2)) p3) pos) (tRevL K te) := h ▸ pe_revL he
theorem pe_bmK {X : Cx} (K : PySem.W.Frag) {o e : Expr} {es : List Expr} {to : TE} {t : TA} {name : Str} {apos cpos : Pos} {T id : String} {r : V → List V → Hp → VK → Prop} (pa : PlainAttrs T) (slot : Slot T name id) (hty : typeOf (.builtin id) = pure (.type "method_descriptor")) (hm : MtR X id r) (ho : PE X o to) (ha : PA X (e :: es) t)
    (b1 : attributeBase o name X.env (eval o X.env) = eval o X.env := by rfl)
    (b2 : ((backTo cpos (starEach (e :: es) X.env)).all (fun x => !x.1) && (backToKw cpos (keywordEach [] X.env)).all (fun x => x.1.isSome) && decide ((e :: es).length + ([] : List Keyword).length + (if ([] : List Keyword).isEmpty then 0 else 1) < 30)) = true := by rfl)
    (b3 : (apos.endLine == cpos.line) = true := by rfl) (b4 : starEach (e :: es) X.env = (false, eval e X.env) :: starEach es X.env := by rfl) (b5 : (backTo cpos (starEach es X.env)).any (·.1) = false := by rfl) (h : X.K = K := by rfl) :
    PE X (.Call (.Attribute o name apos) (e :: es) [] cpos) (tBM K T r to t) := h ▸ pe_bm pa slot hty hm ho ha b1 b2 b3 b4 b5
/-! ### try: x = e / except C as n: y = n -/
/-- the body: x = e, all that it raises is wished for by W -/
def tTryE (te : XK → TE) (f : Nat) (W : WX) : TS := fun D σ H => ∃ (Ech : XK) (Q0 : VK), (∀ cls d σ' H', Ech cls d H' → W cls d σ' H') ∧ te Ech σ H Q0 ∧ ∀ v H1, Q0 v H1 → D.nx (σ.set f (some v)) H1
section
variable {Y : Cx} {W : WX} {te : XK → TE} {e : Expr} {f : Nat} {st : Stmt}
theorem ps_tryE (mk : ∀ te', PE Y e te' → PS Y st (tAsg te' (gName f))) (pe : ∀ Ech : XK, (∀ cls d σ' H', Ech cls d H' → W cls d σ' H') → PE Y e (te Ech)) : PS Y st (tTryE te f W) := by
  refine ⟨fun pins s σ H D I h => ?_⟩
  obtain ⟨Ech, Q0, hW, h1, h2⟩ := h
  exact (mk _ (moE (pe Ech hW))).run pins s σ H D I ⟨Q0, h1, h2⟩
/-- the whole statement: the body x = e, the suite y = n -/
def tTryS (n : Nat) (K : PySem.W.Frag) (c : Value) (i f j : Nat) (te : XK → TE) (E : XK) : TS := fun D σ H => σ.length = n ∧ tTryE te f (wKp n K c i (fun _ _ _ => tAsg (tVar i) (gName j)) (fun cls d _ H => E cls d H) D) D σ H
theorem ps_tryS {X : Cx} {K : PySem.W.Frag} {E : XK} {x nm : Str} {c : Value} {n i f j : Nat} {te : XK → TE} {st0 bd : Stmt} {p1 p2 p3 : Pos} (hex : X.ex = []) (hst : X.stack = X.env :: X.outer) (hfm : X.env.frame = some X.env.locals) (hN : X.N.Nodup) (hi : X.N[i]? = some nm) (hln : X.env.kindOf nm = some .local) (hc : Names X x c) (tk : Takes X (fun cls d _ H => E cls d H))
    (body_ok : ∀ (W : WX) (pn : List (Addr × Obj)) (xe : Value → Shared → Prop), Takes (X.tr pn xe) W → PS (X.tr pn xe) bd (tTryE te f W))
    (suite_ok : ∀ (a : Addr) (oe : Obj) (pn : List (Addr × Obj)), PS (X.suite a ((a, oe) :: pn)) st0 (tAsg (tVar i) (gName j))) (hn : X.N.length = n := by rfl) (hK : X.K = K := by rfl) :
    PS X (.Try [bd] [.ExceptHandler (some (.Name x p1)) (some nm) [st0] p2] [] [] p3) (tTryS n K c i f j te E) := by
  subst hn hK
  refine ⟨fun pins s σ H D I h => ?_⟩
  exact (ps_tryK (tb := fun W => tTryE te f W) hex hst hfm hN hi hln hc tk (fun W pn xe a _ => pss_one (body_ok W pn xe a)) (fun a oe cls d pn _ _ => pss_one (suite_ok a oe pn))).run pins s σ H D I h.2
end
end Z
namespace S
open PySem PySem.Spec PyProof.Rows L2 Z LamX
section
variable {Γ : Wd} {E : XK} {B0 B B' : Br} {m m' m1 : List Addr} {h h' h1 : MH} {H H' H1 : Hp} {C : String} {ta tb : TE} {ea eb : EE} {tr : TA} {er : EA}
/-! ### list(x) that is written to -/
def listW (ws : List W) (h : MH) : Option (List D) := match vws h ws with
  | some [.lst xs] => some xs
  | some [.tup xs] => some xs
  | some [.scr xs] => some xs
  | _ => none
def eListM (a : EA) : EE := fun s h => (a s h).bind fun ws h1 => match listW ws h1 with
  | some xs => .ok (.ref h1.length) (h1 ++ [.lst (xs.map .dat)])
  | none => .stuck
theorem eListM_of {s : En} {ws : List W} {xs : List D} (he : er s h = .ok ws h1) (e : listW ws h1 = some xs) : eListM er s h = .ok (.ref h1.length) (h1 ++ [.lst (xs.map .dat)]) := by
  unfold eListM; rw [he]; show (match listW ws h1 with | some xs => _ | none => _) = _; rw [e]
theorem listW_run {ws : List W} {vs : List V} {xs : List D} (R : Rm Γ B0 m h H) (r : repWs Γ (Bar B0 m h) m H ws vs) (e : listW ws h = some xs) : ∃ p ys, vs = [.ref p] ∧ (SqL Γ.K H p ys ∨ SqT Γ.K H p ys) ∧ reps Γ (Bar B0 m h) H xs ys := by
  unfold listW at e
  split at e
  · next zs e1 =>
    cases e
    obtain ⟨u, rfl, a⟩ := repVs1 (vws_rep R r e1)
    obtain ⟨p, ys, rfl, g, a⟩ := a
    exact ⟨p, ys, rfl, .inl (SqL.of g), a⟩
  · next zs e1 =>
    cases e
    obtain ⟨u, rfl, a⟩ := repVs1 (vws_rep R r e1)
    obtain ⟨p, ys, rfl, g, a⟩ := a
    exact ⟨p, ys, rfl, .inr g, a⟩
  · next zs e1 =>
    cases e
    obtain ⟨u, rfl, a⟩ := repVs1 (vws_rep R r e1)
    obtain ⟨p, ys, rfl, g, a⟩ := a
    exact ⟨p, ys, rfl, .inl g, a⟩
  · cases e
theorem new_lst {xs : List D} {ys : List V} {p : Addr} (R : Rm Γ B0 m h H) (a : reps Γ (Bar B0 m h) H xs ys) (hp : H p = none) :
    Rm Γ B0 (m ++ [p]) (h ++ [.lst (xs.map .dat)]) (upd H p (.lst ys)) ∧ Ex m h H (m ++ [p]) (h ++ [.lst (xs.map .dat)]) (upd H p (.lst ys)) := R.alloc (o := .lst (xs.map .dat)) (same_new (u := .lst ys) hp) hp ⟨_, upd_same, trivial⟩ fun x => ⟨_, upd_same, (reps_dat a).mono R x⟩
theorem ref_new {p : Addr} (R : Rm Γ B0 m h H) {B : Br} {H' : Hp} : repW Γ B (m ++ [p]) H' (.ref h.length) (.ref p) := ⟨p, by rw [← R.len]; simp, rfl⟩
instance [ha : EvA Γ E tr er] : EvE Γ E (tCB (aList Γ.K) tr) (eListM er) := ⟨fun {B0 m h H s σ Q} R es q => by
  refine ha.run R es (q.bind fun ws h1 m1 H1 vs R1 x1 r1 q1 => ?_)
  cases e : listW ws h1 with
  | none => simp only [e] at q1; exact q1.elim
  | some xs =>
    simp only [e] at q1
    obtain ⟨p, ys, rfl, g, a⟩ := listW_run R1 r1 e
    refine ⟨p, ys, rfl, g, fun l hl => ?_⟩
    obtain ⟨R2, x2⟩ := new_lst R1 a hl
    exact q1 _ _ _ R2 x2 (ref_new R1)⟩
/-! ### list(range(n)) -/
def eRgM (a : EE) : EE := fun s h => (a s h).bind fun w h1 => match w with
  | .dat (.int n) => if 0 ≤ n ∧ n ≤ 1000000 then .ok (.ref h1.length) (h1 ++ [.lst ((rngD 0 n.toNat).map .dat)]) else .stuck
  | _ => .stuck
def eRgL (a : EE) : EE := fun s h => (a s h).bind fun w h1 => match w with
  | .dat (.int n) => if 0 ≤ n ∧ n ≤ 1000000 then .ok (.dat (.lst (rngD 0 n.toNat))) h1 else .stuck
  | _ => .stuck
theorem eRgM_of {s : En} {n : Nat} (he : ea s h = .ok (.dat (.int (n : Nat))) h1) (l : n ≤ 1000000) : eRgM ea s h = .ok (.ref h1.length) (h1 ++ [.lst ((rngD 0 n).map .dat)]) := by
  unfold eRgM; rw [he]; show (if _ then _ else _) = _; rw [if_pos ⟨by omega, by omega⟩, Int.toNat_natCast]
theorem eRgL_of {s : En} {n : Nat} (he : ea s h = .ok (.dat (.int (n : Nat))) h1) (l : n ≤ 1000000) : eRgL ea s h = .ok (.dat (.lst (rngD 0 n))) h1 := by
  unfold eRgL; rw [he]; show (if _ then _ else _) = _; rw [if_pos ⟨by omega, by omega⟩, Int.toNat_natCast]
theorem reps_rng {n : Nat} : reps Γ B H (rngD 0 n) (rgV 0 (n : Int)) := by
  unfold rngD rgV
  rw [show ((n : Int) - 0).toNat = n by omega]
  generalize List.range n = L
  induction L with
  | nil => unfold reps; rfl
  | cons i L ih =>
    rw [List.map_cons, List.map_cons]
    unfold reps
    exact ⟨_, _, rfl, rep_int, ih⟩
theorem rep_intE {n : Int} {v : V} (r : repW Γ B m H (.dat (.int n)) v) : v = .int n := by
  have r : rep Γ B H (.int n) v := r
  unfold rep at r
  exact r
theorem rg_ok {n : Int} (l : 0 ≤ n ∧ n ≤ 1000000) : L2.RgOk 0 n := by
  unfold L2.RgOk
  exact ⟨by omega, by omega, by omega, by omega, by omega⟩
instance [ha : EvE Γ E ta ea] : EvE Γ E (tLstRg (tRg1 ta)) (eRgM ea) := ⟨fun {B0 m h H s σ Q} R es q => by
  refine ha.run R es (q.bind fun w h1 m1 H1 v R1 x1 r1 q1 => ?_)
  obtain ⟨n, rfl⟩ : ∃ n, w = .dat (.int n) := by
    cases w with
    | ref k => exact q1.elim
    | fn k => exact q1.elim
    | dat d => cases d <;> first | exact ⟨_, rfl⟩ | exact q1.elim
  have r1 : v = .int n := rep_intE r1
  have q1 : post (fun Γ B m H => repW Γ B m H) Γ B0 m1 h1 H1 Q E (if 0 ≤ n ∧ n ≤ 1000000 then _ else _) := q1
  by_cases l : 0 ≤ n ∧ n ≤ 1000000
  · rw [if_pos l] at q1
    refine ⟨n, r1, rg_ok l, fun p hp => ?_⟩
    obtain ⟨R2, x2⟩ := new_lst (xs := rngD 0 n.toNat) R1 (by have := reps_rng (Γ := Γ) (B := Bar B0 m1 h1) (H := H1) (n := n.toNat); rw [show ((n.toNat : Nat) : Int) = n by omega] at this; exact this) hp
    exact q1 _ _ _ R2 x2 (ref_new R1)
  · rw [if_neg l] at q1
    exact q1.elim⟩
instance [ha : EvE Γ E ta ea] : EvE Γ E (tLstRg (tRg1 ta)) (eRgL ea) := ⟨fun {B0 m h H s σ Q} R es q => by
  refine ha.run R es (q.bind fun w h1 m1 H1 v R1 x1 r1 q1 => ?_)
  obtain ⟨n, rfl⟩ : ∃ n, w = .dat (.int n) := by
    cases w with
    | ref k => exact q1.elim
    | fn k => exact q1.elim
    | dat d => cases d <;> first | exact ⟨_, rfl⟩ | exact q1.elim
  have r1 : v = .int n := rep_intE r1
  have q1 : post (fun Γ B m H => repW Γ B m H) Γ B0 m1 h1 H1 Q E (if 0 ≤ n ∧ n ≤ 1000000 then _ else _) := q1
  by_cases l : 0 ≤ n ∧ n ≤ 1000000
  · rw [if_pos l] at q1
    refine ⟨n, r1, rg_ok l, fun p hp => ?_⟩
    have a := reps_rng (Γ := Γ) (B := Bar B0 m1 h1) (H := H1) (n := n.toNat)
    rw [show ((n.toNat : Nat) : Int) = n by omega] at a
    obtain ⟨R2, x2⟩ := R1.same (same_new (u := .lst (rgV 0 n)) hp)
    exact q1 _ _ _ R2 x2 (rep_newL R1 a hp)
  · rw [if_neg l] at q1
    exact q1.elim⟩
/-! ### xs[::-1] -/
def eRev (a : EE) : EE := fun s h => (a s h).bind fun w h1 => match vw h1 w with
  | some (.lst xs) => .ok (.dat (.lst xs.reverse)) h1
  | _ => .stuck
theorem eRev_of {s : En} {w : W} {xs : List D} (he : ea s h = .ok w h1) (v : vw h1 w = some (.lst xs)) : eRev ea s h = .ok (.dat (.lst xs.reverse)) h1 := by
  unfold eRev; rw [he]; show (match vw h1 w with | some (.lst xs) => _ | _ => _) = _; rw [v]
theorem reps_rev {xs : List D} {ys : List V} (a : reps Γ B H xs ys) : reps Γ B H xs.reverse ys.reverse := by
  induction xs generalizing ys with
  | nil => unfold reps at a; subst a; unfold reps; rfl
  | cons x xs ih =>
    unfold reps at a
    obtain ⟨v, q, rfl, a1, a2⟩ := a
    rw [List.reverse_cons, List.reverse_cons]
    exact reps_app (ih a2) (by unfold reps; exact ⟨v, [], rfl, a1, by unfold reps; rfl⟩)
instance [ha : EvE Γ E ta ea] : EvE Γ E (tRevL Γ.K ta) (eRev ea) := ⟨fun {B0 m h H s σ Q} R es q => by
  refine ha.run R es (q.bind fun w h1 m1 H1 v R1 x1 r1 q1 => ?_)
  split at q1
  · next xs e =>
    obtain ⟨p, ys, rfl, g, a⟩ := vw_rep R1 r1 e
    refine ⟨p, ys, rfl, SqL.of g, fun l hl => ?_⟩
    obtain ⟨R2, x2⟩ := R1.same (same_new (u := .lst ys.reverse) hl)
    exact q1 _ _ _ R2 x2 (rep_newL R1 (reps_rev a) hl)
  · exact q1.elim⟩
/-! ### xs.pop(i) -/
theorem k_popAt {X : Cx} : MtR X "list.pop" rPopAt := mt_popAt
def mPop : W → List W → MH → Res W := fun o ws h => match o, ws with
  | .ref n, [.dat (.int i)] => (match h[n]? with
    | some (.lst xs) => if 0 ≤ i ∧ i < 1000000 then (match xs[i.toNat]? with
      | some w => .ok w (h.set n (.lst (xs.eraseIdx i.toNat)))
      | none => .stuck) else .stuck
    | _ => .stuck)
  | _, _ => .stuck
theorem repWs_pos {xs : List W} {ys : List V} (a : repWs Γ B m H xs ys) {i : Nat} {w : W} (g : xs[i]? = some w) : ∃ v, ys[i]? = some v ∧ repW Γ B m H w v := by
  induction xs generalizing ys i with
  | nil => simp at g
  | cons x xs ih =>
    obtain ⟨v, q, rfl, a1, a2⟩ := a
    cases i with
    | zero => simp at g; subst g; exact ⟨v, rfl, a1⟩
    | succ i => simp at g; obtain ⟨v', g1, r⟩ := ih a2 g; exact ⟨v', by simpa using g1, r⟩
theorem repWs_del {xs : List W} {ys : List V} (a : repWs Γ B m H xs ys) (i : Nat) : repWs Γ B m H (xs.eraseIdx i) (ys.eraseIdx i) := by
  induction xs generalizing ys i with
  | nil => have a : ys = [] := a; subst a; rfl
  | cons x xs ih =>
    obtain ⟨v, q, rfl, a1, a2⟩ := a
    cases i with
    | zero => exact a2
    | succ i => exact ⟨v, _, rfl, a1, ih a2 i⟩
instance : MtOk Γ E rPopAt mPop := ⟨fun {B0 m h H x v ws vs Q} R rx r q => by
  unfold mPop at q
  split at q
  · next n i =>
    obtain ⟨u, rfl, a⟩ := repWs1 r
    have a : rep Γ (Bar B0 m h) H (.int i) u := a
    unfold rep at a
    subst a
    obtain ⟨p, g, rfl⟩ := rx
    obtain ⟨o, ho⟩ := R.at g
    have ob := R.ob n p o g ho
    rw [ho] at q
    cases o with
    | lst xs =>
      obtain ⟨us, g1, a1⟩ := ob
      simp only at q
      split at q
      · next l =>
        cases e : xs[i.toNat]? with
        | none => simp only [e] at q; exact q.elim
        | some w =>
          simp only [e] at q
          obtain ⟨y, gy, ry⟩ := repWs_pos a1 e
          have hl : i.toNat < us.length := by
            rcases Nat.lt_or_ge i.toNat us.length with z | z
            · exact z
            · rw [List.getElem?_eq_none z] at gy; cases gy
          refine ⟨p, us, i, i.toNat, y, rfl, rfl, g1, by omega, by omega, ?_, gy, ?_⟩
          · unfold seqIndex?
            simp; omega
          · obtain ⟨R3, x3⟩ := R.put (o' := .lst (xs.eraseIdx i.toNat)) (u := .lst (us.eraseIdx i.toNat)) g ho (fun z => by cases z) trivial fun x => ⟨_, upd_same, (repWs_del a1 _).mono R x⟩
            exact q m _ _ R3 x3 (ry.mono R x3)
      · exact q.elim
    | _ => exact q.elim
  · exact q.elim⟩
/-! ### a.split(b), a.join(xs) -/
def rSplit : V → List V → Hp → VK → Prop := fun x xs H Q => ∃ a b, x = .str a ∧ xs = [.str b] ∧ (b.length == 0) = false ∧ a.length + 2 ≤ sizeLine ∧ rNewStrs (Txt.split a b) H Q
theorem k_split {X : Cx} : MtR X "str.split" rSplit := mt_split
def mSplit : W → List W → MH → Res W := fun o ws h => match o, ws with
  | .dat (.str a), [.dat (.str b)] => if (b.length == 0) = false ∧ a.length + 2 ≤ sizeLine then .ok (.dat (.lst ((Txt.split a b).map .str))) h else .stuck
  | _, _ => .stuck
theorem reps_txts : ∀ {ns : List Str}, reps Γ B H (ns.map .str) (ns.map V.str)
  | [] => by unfold reps; rfl
  | n :: ns => by
    simp only [List.map_cons]
    unfold reps
    exact ⟨_, _, rfl, rep_str, reps_txts⟩
instance : MtOk Γ E rSplit mSplit := ⟨fun {B0 m h H x v ws vs Q} R rx r q => by
  unfold mSplit at q
  split at q
  · next a b =>
    obtain ⟨u, rfl, ru⟩ := repWs1 r
    have rx : rep Γ (Bar B0 m h) H (.str a) v := rx
    have ru : rep Γ (Bar B0 m h) H (.str b) u := ru
    unfold rep at rx ru
    subst rx ru
    split at q
    · next l =>
      refine ⟨a, b, rfl, rfl, l.1, l.2, fun p hp => ?_⟩
      obtain ⟨R2, x2⟩ := R.same (same_new (u := .lst ((Txt.split a b).map V.str)) hp)
      exact q m _ _ R2 x2 (rep_newL R reps_txts hp)
    · exact q.elim
  · exact q.elim⟩
def rJoin (K : PySem.W.Frag) : V → List V → Hp → VK → Prop := fun x xs H Q => ∃ a p, ∃ ys : List Str, x = .str a ∧ xs = [.ref p] ∧ (SqL K H p (ys.map V.str) ∨ SqT K H p (ys.map V.str)) ∧ (ys.map (·.length)).sum + ys.length * a.length ≤ 16777216 ∧ Q (.str (Txt.join a ys)) H
theorem k_join {X : Cx} (K : PySem.W.Frag) (h : X.K = K := by rfl) : MtR X "str.join" (rJoin K) := h ▸ mt_join
def mJoin : W → List W → MH → Res W := fun o ws h => match o, ws with
  | .dat (.str a), [.dat (.lst xs)] => (match strsD xs with
    | some ys => if (ys.map (·.length)).sum + ys.length * a.length ≤ 16777216 then .ok (.dat (.str (Txt.join a ys))) h else .stuck
    | none => .stuck)
  | _, _ => .stuck
instance : MtOk Γ E (rJoin Γ.K) mJoin := ⟨fun {B0 m h H x v ws vs Q} R rx r q => by
  unfold mJoin at q
  split at q
  · next a xs =>
    obtain ⟨u, rfl, ru⟩ := repWs1 r
    have rx : rep Γ (Bar B0 m h) H (.str a) v := rx
    have ru : rep Γ (Bar B0 m h) H (.lst xs) u := ru
    unfold rep at rx ru
    subst rx
    obtain ⟨p, vs, rfl, g, _, a1⟩ := ru
    cases e : strsD xs with
    | none => simp only [e] at q; exact q.elim
    | some ys =>
      simp only [e] at q
      split at q
      · next l =>
        rw [strsD_reps e a1] at g
        exact ⟨a, p, ys, rfl, rfl, .inl (SqL.of g), l, q m H _ R Ex.refl w_str⟩
      · exact q.elim
  · exact q.elim⟩
/-! ### raise with two fields -/
def tRaise2 (C : Addr) (m n : Str) (te tf : TE) (E : XK) : TS := fun _ σ H => tX2 C m n te tf σ H E
theorem ps_raise2 {X : Cx} {E : XK} {C : Addr} {m n : Str} {te tf : TE} {e : Expr} {pos : Pos} (hc : X.calm = true) (tk : Takes X (fun cls d _ H => E cls d H)) (he : PMk X e (tX2 C m n te tf)) : PS X (.Raise (some e) none pos) (tRaise2 C m n te tf E) := L2.ps_raise hc tk he
@[simp] def sRaise2 (C : String) (m n : Str) (a b : EE) : SS := fun s h => (a s h).bindS fun w h1 => (b s h1).bindS fun u h2 => match w, u with
  | .dat d, .dat e => .exc C [n, m] [e, d] h2
  | _, _ => .stuck
instance {n1 n2 : Str} [ok : IsOk Γ C] [xo : XOwn C] [ha : EvE Γ E ta ea] [hb : EvE Γ E tb eb] : EvS Γ E (tRaise2 (Γ.cl C) n1 n2 ta tb E) (sRaise2 C n1 n2 ea eb) := ⟨fun {B0 m h H s σ Dn} R es q => by
  refine ha.run R es (post.bindS q fun w h1 m1 H1 v R1 x1 r1 q1 => ?_)
  refine hb.run R1 (es.mono R x1) (post.bindS q1 fun u h2 m2 H2 z R2 x2 r2 q2 => ?_)
  match w, u, r1, r2, q2 with
  | .dat d, .dat e, r1, r2, q2 =>
    intro dd hd
    obtain ⟨R3, x3⟩ := R2.same (same_new (u := .xd [(n2, z), (n1, v)]) hd)
    rw [← xv_own (Γ := Γ) (C := C)]
    refine q2 m2 _ (some dd) [z, v] ok.h R3 x3 ⟨upd_same, rfl⟩ ?_
    have r1 : rep Γ (Bar B0 m2 h2) H2 d v := (x2.kpp R1).rep _ _ r1
    unfold reps
    exact ⟨z, [v], rfl, rep.same R2 (same_new hd) r2, by unfold reps; exact ⟨v, [], rfl, rep.same R2 (same_new hd) r1, by unfold reps; rfl⟩⟩⟩
/-! ### try: x = e / except C as n: y = n; of the other slots nothing is known behind the suite -/
def sTryE (xm : String → Bool) (f j : Nat) (e : EE) : SS := fun s h => match e s h with
  | .ok w h1 => .nx (s.set f (some w)) h1
  | .exc C ns xs h1 => if xm C = true ∧ j < s.length then .nx ((List.replicate s.length none).set j (some (.dat (.exc C ns xs)))) h1 else .stuck
  | .stuck => .stuck
theorem sTryE_ok {xm : String → Bool} {f j : Nat} {s : En} {w : W} (he : ea s h = .ok w h1) : sTryE xm f j ea s h = .nx (s.set f (some w)) h1 := by unfold sTryE; rw [he]
theorem sTryE_exc {xm : String → Bool} {f j : Nat} {s : En} {ns : List Str} {xs : List D} (he : ea s h = .exc C ns xs h1) (hm : xm C = true) (l : j < s.length) : sTryE xm f j ea s h = .nx ((List.replicate s.length none).set j (some (.dat (.exc C ns xs)))) h1 := by unfold sTryE; rw [he]; simp only [hm, l, and_self, if_true]
end
section
variable {Γ : Wd} {E : XK}
class XmC (Γ : Wd) (xm : String → Bool) (c : Value) : Prop where h : ∀ C, Γ.ok C → xm C = true → PySem.W.exmOne Γ.K (xvOf Γ C) c = some true
def sTryN (n : Nat) (xm : String → Bool) (i f j : Nat) (e : EE) : SS := fun s h => if s.length = n ∧ i < n ∧ i ≠ j then sTryE xm f j e s h else .stuck
theorem sTryN_eq {n : Nat} {xm : String → Bool} {i f j : Nat} {e : EE} {s : En} {h : MH} (a : s.length = n ∧ i < n ∧ i ≠ j) : sTryN n xm i f j e s h = sTryE xm f j e s h := by unfold sTryN; rw [if_pos a]
instance {xm : String → Bool} {n i f j : Nat} {te : XK → TE} {e : EE} {c : Value} [ev : ∀ E', EvE Γ E' (te E') e] [xc : XmC Γ xm c] :
    EvS Γ E (tTryS n Γ.K c i f j te E) (sTryN n xm i f j e) := ⟨fun {B0 m h H s σ Dn} R es q => by
  have hx := xc.h
  unfold sTryN at q
  split at q
  case isFalse => exact q.elim
  next hnn =>
  obtain ⟨hn, hi, ne⟩ := hnn
  refine ⟨by rw [← es.1]; exact hn, ?_⟩
  unfold sTryE at q
  refine ⟨fun cls d H' => ∀ σ', wKp n Γ.K c i (fun _ _ _ => tAsg (tVar i) (gName j)) (fun cls d _ H => E cls d H) Dn cls d σ' H', fun v H1 => Dn.nx (σ.set f (some v)) H1, fun _ _ σ' _ z => z σ', ?_, fun _ _ z => z⟩
  refine (ev _).run R es ?_
  cases e1 : e s h with
  | stuck => simp only [e1] at q; exact q.elim
  | ok w h1 =>
    simp only [e1] at q
    intro m1 H1 v R1 x1 r1
    exact q m1 H1 _ R1 x1 (repE_set (es.mono R x1) r1)
  | exc C ns xs h1 =>
    simp only [e1] at q
    split at q
    · next hm =>
      intro m1 H1 dd vs ok R1 x1 gd rx σ' hl
      have l1 : i < σ'.length := by rw [hl]; exact hi
      refine ⟨true, hx C ok hm.1, (fun z => nomatch z), fun _ a ha => ⟨.ref a, by rw [List.getElem?_set_self l1], ?_⟩⟩
      obtain ⟨R2, x2⟩ := R1.same (same_new (u := ExV (xvOf Γ C) dd a) ha)
      refine q m1 _ _ R2 (x1.trans x2) (repE_rest (by simp [hl, hn]) fun k w' g => ?_)
      rw [List.getElem?_set] at g
      split at g
      · next ek =>
        subst ek
        split at g
        · cases g
          refine ⟨.ref a, ?_, ?_⟩
          · rw [List.getElem?_set_ne ne, List.getElem?_set_self]
            rw [List.length_set, hl, ← hn]; exact hm.2
          · show rep _ _ _ _ _
            unfold rep
            exact ⟨a, dd, vs, rfl, upd_same, XD.same gd ha, ok, reps.same R1 (same_new ha) rx⟩
        · cases g
      · exact (rep_none g).elim
    · exact q.elim⟩
end
end S
end

section
namespace R
open PySem PySem.Spec PyProof.Rows L2 Z LamX S
abbrev FF' := FF
instance : XOwn "BadPlace" := ⟨by decide⟩
instance : XOwn "BadText" := ⟨by decide⟩
instance : XOwn "BadOrder" := ⟨by decide⟩
def flK : String → List Str := fun C => if C = "Order" then ["places", "goes"] else []
def xfK : String → List Str := fun C => if C = "BadPlace" then ["at"] else if C = "BadText" then ["line", "word"] else []
def xmK : String → Bool := fun C => decide (C = "BadText")
def sbK : Sb where
  cc := fun C D => if C = "Order" ∧ D = "Order" then some true else none
  ct := fun C D => none
  tc := fun C => decide (C = "Order")
  ec := fun C D => none
  et := fun C D => none
noncomputable section
def sh_is_integer : SS :=
  (sRet (eAndT (eCB (opN (gIsi sbK)) (eCons (eVar 0) (eCons (eC (.ty "int")) eNil))) (eNotT (eCB (opN (gIsi sbK)) (eCons (eVar 0) (eCons (eC (.ty "bool")) eNil))))))
def F_is_integer : FF := fnOf 0 sh_is_integer
def sh_is_between : SS :=
  (sRet (eAndT (eCB (callP 1 F_is_integer) (eCons (eVar 0) eNil)) (eChain (op2 gLe) (op2 gLe) (eVar 1) (eVar 0) (eVar 2))))
def F_is_between : FF := fnOf 0 sh_is_between
def sh_is_order : SS :=
  (sSeq (sIf (eOr (eNot (eTr (eIsM sbK [.ty "list", .ty "tuple"] (eVar 0)))) (eNot (eTest (eChain (op2 gLe) (op2 gLe) (eC (.int 1)) (eCB (opN gLen) (eCons (eVar 0) eNil)) (eC (.int 24))))))
        (sRet (eC (.bl false)))
        sNext)
      (sSeq (sIf (eNot (eTr (eCB (opN gAll) (eCons (eLc (iAnyS (eVar 0)) (gSet 1) eYes (eCB (callP 3 F_is_between) (eCons (eVar 1) (eCons (eC (.int 0)) (eCons (eOp (op2 gSub) (eCB (opN gLen) (eCons (eVar 0) eNil)) (eC (.int 1))) eNil)))) (List.map (fun x => x.snd) ([("place", 1)] : List (Str × Nat)))) eNil))))
        (sRet (eC (.bl false)))
        sNext)
      (sRet (eOp (op2 gEq) (eCB gLenSet (eCons (eLc (iAnyS (eVar 0)) (gSet 1) eYes (eCB (opN gInt) (eCons (eVar 1) eNil)) (List.map (fun x => x.snd) ([("place", 1)] : List (Str × Nat)))) eNil)) (eCB (opN gLen) (eCons (eVar 0) eNil))))))
def F_is_order : FF := fnOf 1 sh_is_order
def sh_inverse : SS :=
  (sRet (eCB (opN gTuple) (eCons (eLc (iRng1S (eCons (eCB (opN gLen) (eCons (eVar 0) eNil)) eNil)) (gSet 1) eYes (eOp (op2 gIx) (eLc (iEnS (eCons (eVar 0) eNil)) (gTupS 2 (gConsS (gSet 2) (gConsS (gSet 3) gNilS))) (eTest (eOp (op2 gEq) (eVar 3) (eVar 1))) (eVar 2) (List.map (fun x => x.snd) ([("at", 2), ("place", 3)] : List (Str × Nat)))) (eC (.int 0))) (List.map (fun x => x.snd) ([("goal", 1)] : List (Str × Nat)))) eNil)))
def F_inverse : FF := fnOf 3 sh_inverse
def sh_is_number_below : SS :=
  (sSeq (sIf (eOr (eTest (eOp (op2 gEq) (eVar 0) (eC (.str "")))) (eOr (eTest (eOp (op2 gGt) (eCB (opN gLen) (eCons (eVar 0) eNil)) (eC (.int 4)))) (eNot (eTr (eCB (opN gAll) (eCons (eLc (iAnyS (eVar 0)) (gSet 2) eYes (eOp (op2 gIn) (eVar 2) (eC (.str "0123456789"))) (List.map (fun x => x.snd) ([("sign", 2)] : List (Str × Nat)))) eNil))))))
        (sRet (eC (.bl false)))
        sNext)
      (sRet (eAndT (eOrT (eOp (op2 gEq) (eVar 0) (eC (.str "0"))) (eOp (op2 gNe) (eOp (op2 gIx) (eVar 0) (eC (.int 0))) (eC (.str "0")))) (eOp (op2 gLt) (eCB (opN gInt) (eCons (eVar 0) eNil)) (eVar 1)))))
def F_is_number_below : FF := fnOf 1 sh_is_number_below
def sh_Order___init__ : SS :=
  (sSeq (sIf (eNot (eTr (eCB (callP 1 F_is_order) (eCons (eVar 1) eNil))))
        (sRaise0 "BadOrder")
        sNext)
      (sSeq (sFldS flK "places" (eVar 0) (eCB (opN gTuple) (eCons (eVar 1) eNil)))
      (sFldS flK "goes" (eVar 0) (eCB (callP 1 F_inverse) (eCons (eUn (op1 (gFld flK "places")) (eVar 0)) eNil)))))
def F_Order___init__ : FF := fnOf 0 sh_Order___init__
def sh_Order_read : SS :=
  (sSeq (sIf (eNot (eTr (eCB (opN (gIsi sbK)) (eCons (eVar 1) (eCons (eC (.ty "str")) eNil)))))
        (sRaise2 "BadText" "line" "word" (eC (.int 0)) (eC (.int 0)))
        sNext)
      (sSeq (sAsg (eBM "str" mSplit (eVar 1) (eCons (eC (.str " ")) eNil)) (gSet 2))
      (sSeq (sAsg (eLstM eNil) (gSet 3))
      (sSeq (sFor (iEnS (eCons (eVar 2) eNil)) (gTupS 2 (gConsS (gSet 4) (gConsS (gSet 5) gNilS)))
        (sSeq (sIf (eOr (eTest (eOp (op2 gEq) (eVar 4) (eC (.int 24)))) (eOr (eNot (eTr (eCB (callP 2 F_is_number_below) (eCons (eVar 5) (eCons (eCB (opN gLen) (eCons (eVar 2) eNil)) eNil))))) (eTest (eOp (op2 gIn) (eCB (opN gInt) (eCons (eVar 5) eNil)) (eVar 3)))))
        (sRaise2 "BadText" "line" "word" (eC (.int 0)) (eVar 4))
        sNext)
      (sDrop (eBM "list" mApp (eVar 3) (eCons (eCB (opN gInt) (eCons (eVar 5) eNil)) eNil)))))
      (sFz 3 (sRet (eMakeL 0 "Order" (mkP "Order" 2 F_Order___init__) (eCons (eVar 3) eNil))))))))
def F_Order_read : FF := fnOf 4 sh_Order_read
def sh_Order_need_place : SS :=
  (sIf (eNot (eTr (eCB (callP 3 F_is_between) (eCons (eVar 1) (eCons (eC (.int 0)) (eCons (eOp (op2 gSub) (eCB (opN gLen) (eCons (eUn (op1 (gFld flK "places")) (eVar 0)) eNil)) (eC (.int 1))) eNil))))))
        (sRaise1 "BadPlace" "at" (eVar 1))
        sNext)
def F_Order_need_place : FF := fnOf 0 sh_Order_need_place
def sh_Order___len__ : SS :=
  (sRet (eCB (opN gLen) (eCons (eUn (op1 (gFld flK "places")) (eVar 0)) eNil)))
def F_Order___len__ : FF := fnOf 0 sh_Order___len__
def sh_Order___getitem__ : SS :=
  (sSeq (sDrop (eMeth "Order" "need_place" (callP 2 F_Order_need_place) (eVar 0) (eCons (eVar 1) eNil)))
      (sRet (eOp (op2 gIx) (eUn (op1 (gFld flK "places")) (eVar 0)) (eVar 1))))
def F_Order___getitem__ : FF := fnOf 0 sh_Order___getitem__
def sh_Order___eq__ : SS :=
  (sRet (eAndT (eCB (opN (gIsi sbK)) (eCons (eVar 1) (eCons (eC (.cls "Order")) eNil))) (eOp (op2 gEq) (eUn (op1 (gFld flK "places")) (eVar 0)) (eUn (op1 (gFld flK "places")) (eVar 1)))))
def F_Order___eq__ : FF := fnOf 0 sh_Order___eq__
def sh_Order___lt__ : SS :=
  (sSeq (sIf (eNot (eTr (eCB (opN (gIsi sbK)) (eCons (eVar 1) (eCons (eC (.cls "Order")) eNil)))))
        sNo
        sNext)
      (sRet (eOp (op2 gLtX) (eUn (op1 (gFld flK "places")) (eVar 0)) (eUn (op1 (gFld flK "places")) (eVar 1)))))
def F_Order___lt__ : FF := fnOf 0 sh_Order___lt__
def sh_Order___le__ : SS :=
  (sSeq (sIf (eNot (eTr (eCB (opN (gIsi sbK)) (eCons (eVar 1) (eCons (eC (.cls "Order")) eNil)))))
        sNo
        sNext)
      (sRet (eOp (op2 gLeX) (eUn (op1 (gFld flK "places")) (eVar 0)) (eUn (op1 (gFld flK "places")) (eVar 1)))))
def F_Order___le__ : FF := fnOf 0 sh_Order___le__
def sh_Order___gt__ : SS :=
  (sSeq (sIf (eNot (eTr (eCB (opN (gIsi sbK)) (eCons (eVar 1) (eCons (eC (.cls "Order")) eNil)))))
        sNo
        sNext)
      (sRet (eOp (op2 gGtX) (eUn (op1 (gFld flK "places")) (eVar 0)) (eUn (op1 (gFld flK "places")) (eVar 1)))))
def F_Order___gt__ : FF := fnOf 0 sh_Order___gt__
def sh_Order___ge__ : SS :=
  (sSeq (sIf (eNot (eTr (eCB (opN (gIsi sbK)) (eCons (eVar 1) (eCons (eC (.cls "Order")) eNil)))))
        sNo
        sNext)
      (sRet (eOp (op2 gGeX) (eUn (op1 (gFld flK "places")) (eVar 0)) (eUn (op1 (gFld flK "places")) (eVar 1)))))
def F_Order___ge__ : FF := fnOf 0 sh_Order___ge__
def sh_Order___str__ : SS :=
  (sRet (eBM "str" mJoin (eC (.str " ")) (eCons (eLc (iAnyS (eUn (op1 (gFld flK "places")) (eVar 0))) (gSet 1) eYes (eCB (opN gStr) (eCons (eVar 1) eNil)) (List.map (fun x => x.snd) ([("place", 1)] : List (Str × Nat)))) eNil)))
def F_Order___str__ : FF := fnOf 1 sh_Order___str__
def sh__law_pen : SS :=
  (sRet (eLstM (eCons (eCB (opN gList) (eCons (eSl (opS gSl) (eVar 0) eNoPart (ePart (eC (.int 63)))) eNil)) (eCons (eC (.int 0)) (eCons (eC (.int 0)) eNil)))))
def F__law_pen : FF := fnOf 0 sh__law_pen
def sh__law_draw : SS :=
  (sSeq (sIf (eTest (eOp (op2 gGt) (eOp (op2 gIx) (eVar 0) (eC (.int 2))) (eC (.int 0))))
        (sSeq (sAsg (eOp (op2 gMod) (eCB (opN gInt) (eCons (eOp (op2 gIx) (eVar 0) (eC (.int 2))) eNil)) (eVar 1)) (gSet 2))
      (sSeq (sAsg (eOp (op2 gDiv) (eOp (op2 gIx) (eVar 0) (eC (.int 2))) (eVar 1)) (gSubS (eVar 0) (eC (.int 2))))
      (sRet (eVar 2))))
        sNext)
      (sSeq (sAsg (eOp (op2 gIx) (eVar 0) (eC (.int 1))) (gSet 3))
      (sSeq (sAsg (eOp (op2 gAdd) (eVar 3) (eC (.int 1))) (gSubS (eVar 0) (eC (.int 1))))
      (sSeq (sAsg (eOp (op2 gAdd) (eOp (op2 gMul) (eC (.int 88117)) (eVar 3)) (eC (.int 59))) (gSet 4))
      (sSeq (sIf (eTest (eOp (op2 gNe) (eOp (op2 gIx) (eVar 0) (eC (.int 0))) (eLst eNil)))
        (sAsg (eOp (op2 gIx) (eOp (op2 gIx) (eVar 0) (eC (.int 0))) (eOp (op2 gMod) (eCB (opN gInt) (eCons (eVar 3) eNil)) (eCB (opN gLen) (eCons (eOp (op2 gIx) (eVar 0) (eC (.int 0))) eNil)))) (gSet 4))
        sNext)
      (sSeq (sIf (eAnd (eTest (eOp (op2 gLt) (eVar 3) (eCB (opN gLen) (eCons (eOp (op2 gIx) (eVar 0) (eC (.int 0))) eNil)))) (eTest (eOp (op2 gGe) (eCB (opN gAbs) (eCons (eVar 4) eNil)) (eOp (op2 gPow) (eC (.int 10)) (eC (.int 18))))))
        (sSeq (sAsg (eOp (op2 gAdd) (eOp (op2 gMul) (eC (.int 2)) (eCB (opN gAbs) (eCons (eVar 4) eNil))) (eCB (opN gInt) (eCons (eOp (op2 gLt) (eVar 4) (eC (.int 0))) eNil))) (gSet 5))
      (sSeq (sAsg (eOp (op2 gDiv) (eVar 5) (eVar 1)) (gSubS (eVar 0) (eC (.int 2))))
      (sRet (eOp (op2 gMod) (eCB (opN gInt) (eCons (eVar 5) eNil)) (eVar 1)))))
        sNext)
      (sSeq (sAsg (eOp (op2 gMod) (eOp (op2 gPow) (eCB (opN gInt) (eCons (eOp (op2 gAdd) (eOp (op2 gAdd) (eOp (op2 gMod) (eCB (opN gInt) (eCons (eVar 4) eNil)) (eC (.int 2147483563))) (eOp (op2 gMul) (eC (.int 70297)) (eVar 3))) (eC (.int 43))) eNil)) (eC (.int 3))) (eC (.int 2147483587))) (gSet 6))
      (sSeq (sAsg (eOp (op2 gMod) (eOp (op2 gPow) (eCB (opN gInt) (eCons (eOp (op2 gAdd) (eOp (op2 gMul) (eVar 6) (eOp (op2 gAdd) (eOp (op2 gMul) (eC (.int 2)) (eVar 3)) (eC (.int 13)))) (eC (.int 81649))) eNil)) (eC (.int 3))) (eC (.int 2147483549))) (gSet 6))
      (sRet (eOp (op2 gMod) (eCB (opN gInt) (eCons (eOp (op2 gDiv) (eVar 6) (eC (.int 16))) eNil)) (eVar 1)))))))))))
def F__law_draw : FF := fnOf 5 sh__law_draw
def sh__law_pick : SS :=
  (sRet (eOp (op2 gIx) (eVar 1) (eCB (callT 2 F__law_draw) (eCons (eVar 0) (eCons (eCB (opN gLen) (eCons (eVar 1) eNil)) eNil)))))
def F__law_pick : FF := fnOf 0 sh__law_pick
def sh__law_mixed : SS :=
  (sSeq (sAsg (eListM (eCons (eVar 1) eNil)) (gSet 2))
      (sRet (eLc (iRng1S (eCons (eCB (opN gLen) (eCons (eVar 2) eNil)) eNil)) (gSet 3) eYes (eBM "list" mPop (eVar 2) (eCons (eCB (callT 2 F__law_draw) (eCons (eVar 0) (eCons (eCB (opN gLen) (eCons (eVar 2) eNil)) eNil))) eNil)) (List.map (fun x => x.snd) ([("_law_turn", 3)] : List (Str × Nat))))))
def F__law_mixed : FF := fnOf 2 sh__law_mixed
def sh__law_spots : SS :=
  (sSeq (sAsg (eCB (callT 2 F__law_draw) (eCons (eVar 0) (eCons (eC (.int 6)) eNil))) (gSet 2))
      (sSeq (sAsg (eRgM (eVar 1)) (gSet 3))
      (sSeq (sIf (eTest (eOp (op2 gEq) (eVar 2) (eC (.int 1))))
        (sRet (eRev (eVar 3)))
        sNext)
      (sSeq (sIf (eTest (eOp (op2 gEq) (eVar 2) (eC (.int 2))))
        (sSeq (sAsg (eCB (callT 2 F__law_draw) (eCons (eVar 0) (eCons (eVar 1) eNil))) (gSet 4))
      (sRet (eOp (op2 gAdd) (eSl (opS gSl) (eVar 3) (ePart (eVar 4)) eNoPart) (eSl (opS gSl) (eVar 3) eNoPart (ePart (eVar 4))))))
        sNext)
      (sSeq (sIf (eTest (eOp (op2 gEq) (eVar 2) (eC (.int 3))))
        (sSeq (sAsg (eCB (callT 2 F__law_draw) (eCons (eVar 0) (eCons (eVar 1) eNil))) (gSet 5))
      (sSeq (sAsg (eCB (callT 2 F__law_draw) (eCons (eVar 0) (eCons (eVar 1) eNil))) (gSet 6))
      (sSeq (sAsg (eVar 6) (gSubS (eVar 3) (eVar 5)))
      (sAsg (eVar 5) (gSubS (eVar 3) (eVar 6))))))
        sNext)
      (sSeq (sIf (eTest (eOp (op2 gGt) (eVar 2) (eC (.int 3))))
        (sRet (eCB (callT 2 F__law_mixed) (eCons (eVar 0) (eCons (eVar 3) eNil))))
        sNext)
      (sRet (eVar 3))))))))
def F__law_spots : FF := fnOf 5 sh__law_spots
def sh__law_worths : SS :=
  (sRet (eLc (iRng1S (eCons (eCB (ownS "Order" isLenW (callP 1 F_Order___len__) (opN gLen)) (eCons (eVar 0) eNil)) eNil)) (gSet 1) eYes (eOp (ixOF "Order" (callP 2 F_Order___getitem__)) (eVar 0) (eVar 1)) (List.map (fun x => x.snd) ([("_law_at", 1)] : List (Str × Nat)))))
def F__law_worths : FF := fnOf 1 sh__law_worths
def sh__law_compared : SS :=
  (sSeq (sAsg (eCB (mkP "Order" 2 F_Order___init__) (eCons (eVar 0) eNil)) (gSet 2))
      (sSeq (sAsg (eCB (mkP "Order" 2 F_Order___init__) (eCons (eVar 1) eNil)) (gSet 3))
      (sSeq (sAsg (eLst (eCons (eOp (ownL "Order" (callP 2 F_Order___lt__) (op2 gLtX)) (eVar 2) (eVar 3)) (eCons (eOp (ownL "Order" (callP 2 F_Order___le__) (op2 gLeX)) (eVar 2) (eVar 3)) (eCons (eOp (ownL "Order" (callP 2 F_Order___gt__) (op2 gGtX)) (eVar 2) (eVar 3)) (eCons (eOp (ownL "Order" (callP 2 F_Order___ge__) (op2 gGeX)) (eVar 2) (eVar 3)) (eCons (eOp (ownEqR "Order" (callP 2 F_Order___eq__) (ownL "Order" (callP 2 F_Order___eq__) (op2 gEq))) (eVar 2) (eVar 3)) (eCons (eOp (ownNe "Order" (callP 2 F_Order___eq__) (op2 gNe)) (eVar 2) (eVar 3)) eNil))))))) (gSet 4))
      (sRet (eOp (op2 gEq) (eVar 4) (eLst (eCons (eOp (op2 gLtX) (eVar 0) (eVar 1)) (eCons (eOp (op2 gLeX) (eVar 0) (eVar 1)) (eCons (eOp (op2 gGtX) (eVar 0) (eVar 1)) (eCons (eOp (op2 gGeX) (eVar 0) (eVar 1)) (eCons (eOp (op2 gEq) (eVar 0) (eVar 1)) (eCons (eOp (op2 gNe) (eVar 0) (eVar 1)) eNil))))))))))))
def F__law_compared : FF := fnOf 3 sh__law_compared
def sh__law_bent : SS :=
  (sSeq (sAsg (eCB (callT 2 F__law_draw) (eCons (eVar 0) (eCons (eCB (opN gLen) (eCons (eVar 1) eNil)) eNil))) (gSet 2))
      (sSeq (sAsg (eLst (eCons (eOp (op2 gIx) (eVar 1) (eOp (op2 gSub) (eVar 2) (eC (.int 1)))) (eCons (eCB (opN gStr) (eCons (eCB (opN gLen) (eCons (eVar 1) eNil)) eNil)) (eCons (eOp (op2 gAdd) (eC (.str "0")) (eOp (op2 gIx) (eVar 1) (eVar 2))) (eCons (eC (.str "")) (eCons (eOp (op2 gAdd) (eC (.str "-")) (eOp (op2 gIx) (eVar 1) (eVar 2))) (eCons (eC (.str "x")) (eCons (eOp (op2 gAdd) (eOp (op2 gIx) (eVar 1) (eVar 2)) (eC (.str "\n"))) (eCons (eC (.str "+1")) (eCons (eC (.str "00")) eNil)))))))))) (gSet 3))
      (sSeq (sAsg (eOp (op2 gAdd) (eVar 3) (eLst (eCons (eC (.str "1 ")) (eCons (eCB (opN gStr) (eCons (eOp (op2 gPow) (eC (.int 10)) (eC (.int 40))) eNil)) (eCons (eC (.str "24")) (eCons (eOp (op2 gIx) (eVar 1) (eVar 2)) (eCons (eC (.str " ")) eNil))))))) (gSet 3))
      (sSeq (sAsg (eCB (callT 2 F__law_pick) (eCons (eVar 0) (eCons (eVar 3) eNil))) (gSet 4))
      (sSeq (sAsg (eCB (callT 2 F__law_draw) (eCons (eVar 0) (eCons (eC (.int 5)) eNil))) (gSet 5))
      (sSeq (sIf (eTest (eOp (op2 gEq) (eVar 5) (eC (.int 0))))
        (sRet (eOp (op2 gAdd) (eSl (opS gSl) (eVar 1) eNoPart (ePart (eVar 2))) (eSl (opS gSl) (eVar 1) (ePart (eOp (op2 gAdd) (eVar 2) (eC (.int 1)))) eNoPart)))
        sNext)
      (sSeq (sIf (eTest (eOp (op2 gEq) (eVar 5) (eC (.int 1))))
        (sRet (eOp (op2 gAdd) (eOp (op2 gAdd) (eSl (opS gSl) (eVar 1) eNoPart (ePart (eVar 2))) (eLst (eCons (eVar 4) eNil))) (eSl (opS gSl) (eVar 1) (ePart (eVar 2)) eNoPart)))
        sNext)
      (sSeq (sIf (eTest (eOp (op2 gEq) (eVar 5) (eC (.int 2))))
        (sRet (eOp (op2 gAdd) (eVar 1) (eLc (iRng1S (eCons (eCB (callT 2 F__law_draw) (eCons (eVar 0) (eCons (eC (.int 30)) eNil))) eNil)) (gSet 6) eYes (eCB (opN gStr) (eCons (eOp (op2 gAdd) (eCB (opN gLen) (eCons (eVar 1) eNil)) (eVar 6)) eNil)) (List.map (fun x => x.snd) ([("_law_k", 6)] : List (Str × Nat))))))
        sNext)
      (sRet (eOp (op2 gAdd) (eOp (op2 gAdd) (eSl (opS gSl) (eVar 1) eNoPart (ePart (eVar 2))) (eLst (eCons (eVar 4) eNil))) (eSl (opS gSl) (eVar 1) (ePart (eOp (op2 gAdd) (eVar 2) (eC (.int 1)))) eNoPart)))))))))))
def F__law_bent : FF := fnOf 5 sh__law_bent
def sh__law_fault : SS :=
  (sSeq (sAsg (eBM "str" mSplit (eVar 0) (eCons (eC (.str " ")) eNil)) (gSet 1))
      (sSeq (sAsg (eLc (iRng1S (eCons (eCB (opN gLen) (eCons (eVar 1) eNil)) eNil)) (gSet 6) eYes (eCB (opN gStr) (eCons (eVar 6) eNil)) (List.map (fun x => x.snd) ([("_law_k", 6)] : List (Str × Nat)))) (gSet 2))
      (sSeq (sAsg (eLstM eNil) (gSet 3))
      (sSeq (sFor (iEnS (eCons (eVar 1) eNil)) (gTupS 2 (gConsS (gSet 4) (gConsS (gSet 5) gNilS)))
        (sSeq (sIf (eOr (eTest (eOp (op2 gEq) (eVar 4) (eC (.int 24)))) (eOr (eTest (eOp (op2 gNin) (eVar 5) (eVar 2))) (eTest (eOp (op2 gIn) (eCB (opN gInt) (eCons (eVar 5) eNil)) (eVar 3)))))
        (sRet (eTup (eCons (eVar 4) (eCons (eC .non) eNil))))
        sNext)
      (sDrop (eBM "list" mApp (eVar 3) (eCons (eCB (opN gInt) (eCons (eVar 5) eNil)) eNil)))))
      (sFz 3 (sRet (eTup (eCons (eC .non) (eCons (eVar 3) eNil)))))))))
def F__law_fault : FF := fnOf 6 sh__law_fault
def sh__law_read : SS :=
  (sSeq (sAsg (eC .non) (gSet 1))
      (sSeq (sAsg (eC .non) (gSet 2))
      (sSeq (sTryN 4 xmK 3 1 2 (eCM "Order" (callP 2 F_Order_read) (eC (.cls "Order")) (eCons (eVar 0) eNil)))
      (sSeq (sIf (eTest (eOp (op2 gIsnt) (eVar 2) (eC .non)))
        (sRet (eLst (eCons (eC (.str "text")) (eCons (eUn (op1 (gXf xfK "line")) (eVar 2)) (eCons (eUn (op1 (gXf xfK "word")) (eVar 2)) eNil)))))
        sNext)
      (sRet (eCB (callP 1 F__law_worths) (eCons (eVar 1) eNil)))))))
def F__law_read : FF := fnOf 3 sh__law_read
def sh_law : SS :=
  (sSeq (sAsg (eCB (callF 1 F__law_pen) (eCons (eVar 0) eNil)) (gSet 1))
      (sSeq (sFor (iRng1S (eCons (eC (.int 4)) eNil)) (gSet 2)
        (sSeq (sAsg (eOp (op2 gAdd) (eC (.int 1)) (eCB (callT 2 F__law_draw) (eCons (eVar 1) (eCons (eC (.int 24)) eNil)))) (gSet 3))
      (sSeq (sAsg (eCB (callT 2 F__law_spots) (eCons (eVar 1) (eCons (eVar 3) eNil))) (gSet 4))
      (sSeq (sAsg (eListM (eCons (eVar 4) eNil)) (gSet 5))
      (sSeq (sAsg (eCB (callT 2 F__law_draw) (eCons (eVar 1) (eCons (eVar 3) eNil))) (gSet 6))
      (sSeq (sAsg (eOp (op2 gIx) (eVar 4) (eOp (op2 gSub) (eVar 3) (eC (.int 1)))) (gSubS (eVar 5) (eVar 6)))
      (sSeq (sAsg (eOp (op2 gIx) (eVar 4) (eVar 6)) (gSubS (eVar 5) (eOp (op2 gSub) (eVar 3) (eC (.int 1)))))
      (sSeq (sAsg (eCB (callT 2 F__law_spots) (eCons (eVar 1) (eCons (eOp (op2 gAdd) (eC (.int 1)) (eCB (callT 2 F__law_draw) (eCons (eVar 1) (eCons (eC (.int 24)) eNil)))) eNil))) (gSet 7))
      (sSeq (sFz 5 (sFor (iAnyS (eLst (eCons (eVar 5) (eCons (eVar 7) (eCons (eVar 4) eNil))))) (gSet 8)
        (sIf (eOr (eNot (eTr (eCB (callP 2 F__law_compared) (eCons (eVar 4) (eCons (eVar 8) eNil))))) (eNot (eTr (eCB (callP 2 F__law_compared) (eCons (eVar 8) (eCons (eVar 4) eNil))))))
        (sRet (eC (.bl false)))
        sNext)))
      (sSeq (sAsg (eCB (ownS "Order" isStrW (callP 1 F_Order___str__) (opN gStr)) (eCons (eCB (mkP "Order" 2 F_Order___init__) (eCons (eVar 4) eNil)) eNil)) (gSet 9))
      (sSeq (sIf (eOr (eTest (eOp (ownNe "Order" (callP 2 F_Order___eq__) (op2 gNe)) (eCM "Order" (callP 2 F_Order_read) (eC (.cls "Order")) (eCons (eVar 9) eNil)) (eCB (mkP "Order" 2 F_Order___init__) (eCons (eVar 4) eNil)))) (eTest (eOp (ownNe "Order" (callP 2 F_Order___eq__) (op2 gNe)) (eCMK "Order" [0] 1 (callP 2 F_Order_read) (eC (.cls "Order")) (eCons (eVar 9) eNil)) (eCB (mkP "Order" 2 F_Order___init__) (eCons (eVar 4) eNil)))))
        (sRet (eC (.bl false)))
        sNext)
      (sSeq (sFor (iRng1S (eCons (eC (.int 6)) eNil)) (gSet 10)
        (sSeq (sAsg (eBM "str" mJoin (eC (.str " ")) (eCons (eCB (callT 2 F__law_bent) (eCons (eVar 1) (eCons (eBM "str" mSplit (eVar 9) (eCons (eC (.str " ")) eNil)) eNil))) eNil)) (gSet 11))
      (sSeq (sAsg (eCB (callP 1 F__law_fault) (eCons (eVar 11) eNil)) (gTupS 2 (gConsS (gSet 6) (gConsS (gSet 12) gNilS))))
      (sIf (eTest (eOp (op2 gNe) (eCB (callP 1 F__law_read) (eCons (eVar 11) eNil)) (eIf (eTest (eOp (op2 gIs) (eVar 6) (eC .non))) (eVar 12) (eLst (eCons (eC (.str "text")) (eCons (eC (.int 0)) (eCons (eVar 6) eNil)))))))
        (sRet (eC (.bl false)))
        sNext))))
      (sSeq (sAsg (eCB (callT 2 F__law_pick) (eCons (eVar 1) (eCons (eLst (eCons (eC .non) (eCons (eC (.int 0)) (eCons (eC (.bl true)) (eCons (eVar 4) (eCons (eCB (opN gTuple) (eCons (eVar 4) eNil)) (eCons (eC (.dic [] [])) (eCons (eLst eNil) eNil)))))))) eNil))) (gSet 13))
      (sIf (eTest (eOp (op2 gNe) (eCB (callP 1 F__law_read) (eCons (eVar 13) eNil)) (eLst (eCons (eC (.str "text")) (eCons (eC (.int 0)) (eCons (eC (.int 0)) eNil))))))
        (sRet (eC (.bl false)))
        sNext))))))))))))))
      (sRet (eAndT (eOp (op2 gEq) (eCB (callP 1 F__law_read) (eCons (eC (.str "")) eNil)) (eLst (eCons (eC (.str "text")) (eCons (eC (.int 0)) (eCons (eC (.int 0)) eNil))))) (eOp (op2 gEq) (eCB (callP 1 F__law_read) (eCons (eC (.str "0")) eNil)) (eLst (eCons (eC (.int 0)) eNil)))))))
def F_law : FF := fnOf 13 sh_law
end
end R
end

section
namespace R
open PySem PySem.Spec PyProof.Rows L2 Z LamX S
def topS (i : Nat) : Stmt := PySem.Challenge.pw_rowshapes_k33_orders_compared_and_read.main.body.getD i (.Pass ⟨0, 0, 0, 0⟩)
abbrev s_is_integer : Stmt := topS 2
abbrev N_is_integer : List Str := ["thing"]
abbrev P_is_integer : List Str := ["thing"]
theorem sc_is_integer : FnScope N_is_integer P_is_integer (defScope s_is_integer) := ⟨rfl, rfl, rfl, by decide +kernel, rfl, by decide +kernel, by decide +kernel⟩
abbrev s_is_between : Stmt := topS 3
abbrev N_is_between : List Str := ["thing", "least", "most"]
abbrev P_is_between : List Str := ["thing", "least", "most"]
theorem sc_is_between : FnScope N_is_between P_is_between (defScope s_is_between) := ⟨rfl, rfl, rfl, by decide +kernel, rfl, by decide +kernel, by decide +kernel⟩
abbrev s_BadPlace___init__ : Stmt := inClass (topS 7) 0
abbrev N_BadPlace___init__ : List Str := ["self", "at"]
abbrev P_BadPlace___init__ : List Str := ["self", "at"]
theorem sc_BadPlace___init__ : FnScope N_BadPlace___init__ P_BadPlace___init__ (defScope s_BadPlace___init__) := ⟨rfl, rfl, rfl, by decide +kernel, rfl, by decide +kernel, by decide +kernel⟩
abbrev s_BadText___init__ : Stmt := inClass (topS 9) 0
abbrev N_BadText___init__ : List Str := ["self", "line", "word"]
abbrev P_BadText___init__ : List Str := ["self", "line", "word"]
theorem sc_BadText___init__ : FnScope N_BadText___init__ P_BadText___init__ (defScope s_BadText___init__) := ⟨rfl, rfl, rfl, by decide +kernel, rfl, by decide +kernel, by decide +kernel⟩
abbrev s_is_order : Stmt := topS 13
abbrev N_is_order : List Str := ["goals", "place"]
abbrev P_is_order : List Str := ["goals"]
theorem sc_is_order : FnScope N_is_order P_is_order (defScope s_is_order) := ⟨rfl, rfl, rfl, by decide +kernel, rfl, by decide +kernel, by decide +kernel⟩
abbrev s_inverse : Stmt := topS 14
abbrev N_inverse : List Str := ["goals", "goal", "at", "place"]
abbrev P_inverse : List Str := ["goals"]
theorem sc_inverse : FnScope N_inverse P_inverse (defScope s_inverse) := ⟨rfl, rfl, rfl, by decide +kernel, rfl, by decide +kernel, by decide +kernel⟩
abbrev s_is_number_below : Stmt := topS 16
abbrev N_is_number_below : List Str := ["word", "most", "sign"]
abbrev P_is_number_below : List Str := ["word", "most"]
theorem sc_is_number_below : FnScope N_is_number_below P_is_number_below (defScope s_is_number_below) := ⟨rfl, rfl, rfl, by decide +kernel, rfl, by decide +kernel, by decide +kernel⟩
abbrev s_Order___init__ : Stmt := inClass (topS 17) 0
abbrev N_Order___init__ : List Str := ["self", "places"]
abbrev P_Order___init__ : List Str := ["self", "places"]
theorem sc_Order___init__ : FnScope N_Order___init__ P_Order___init__ (defScope s_Order___init__) := ⟨rfl, rfl, rfl, by decide +kernel, rfl, by decide +kernel, by decide +kernel⟩
abbrev s_Order_read : Stmt := inClass (topS 17) 5
abbrev N_Order_read : List Str := ["cls", "text", "words", "found", "at", "word"]
abbrev P_Order_read : List Str := ["cls", "text"]
theorem sc_Order_read : FnScope N_Order_read P_Order_read (defScope s_Order_read) := ⟨rfl, rfl, rfl, by decide +kernel, rfl, by decide +kernel, by decide +kernel⟩
abbrev s_Order_need_place : Stmt := inClass (topS 17) 7
abbrev N_Order_need_place : List Str := ["self", "at"]
abbrev P_Order_need_place : List Str := ["self", "at"]
theorem sc_Order_need_place : FnScope N_Order_need_place P_Order_need_place (defScope s_Order_need_place) := ⟨rfl, rfl, rfl, by decide +kernel, rfl, by decide +kernel, by decide +kernel⟩
abbrev s_Order___len__ : Stmt := inClass (topS 17) 8
abbrev N_Order___len__ : List Str := ["self"]
abbrev P_Order___len__ : List Str := ["self"]
theorem sc_Order___len__ : FnScope N_Order___len__ P_Order___len__ (defScope s_Order___len__) := ⟨rfl, rfl, rfl, by decide +kernel, rfl, by decide +kernel, by decide +kernel⟩
abbrev s_Order___getitem__ : Stmt := inClass (topS 17) 10
abbrev N_Order___getitem__ : List Str := ["self", "at"]
abbrev P_Order___getitem__ : List Str := ["self", "at"]
theorem sc_Order___getitem__ : FnScope N_Order___getitem__ P_Order___getitem__ (defScope s_Order___getitem__) := ⟨rfl, rfl, rfl, by decide +kernel, rfl, by decide +kernel, by decide +kernel⟩
abbrev s_Order___eq__ : Stmt := inClass (topS 17) 16
abbrev N_Order___eq__ : List Str := ["self", "other"]
abbrev P_Order___eq__ : List Str := ["self", "other"]
theorem sc_Order___eq__ : FnScope N_Order___eq__ P_Order___eq__ (defScope s_Order___eq__) := ⟨rfl, rfl, rfl, by decide +kernel, rfl, by decide +kernel, by decide +kernel⟩
abbrev s_Order___lt__ : Stmt := inClass (topS 17) 17
abbrev N_Order___lt__ : List Str := ["self", "other"]
abbrev P_Order___lt__ : List Str := ["self", "other"]
theorem sc_Order___lt__ : FnScope N_Order___lt__ P_Order___lt__ (defScope s_Order___lt__) := ⟨rfl, rfl, rfl, by decide +kernel, rfl, by decide +kernel, by decide +kernel⟩
abbrev s_Order___le__ : Stmt := inClass (topS 17) 18
abbrev N_Order___le__ : List Str := ["self", "other"]
abbrev P_Order___le__ : List Str := ["self", "other"]
theorem sc_Order___le__ : FnScope N_Order___le__ P_Order___le__ (defScope s_Order___le__) := ⟨rfl, rfl, rfl, by decide +kernel, rfl, by decide +kernel, by decide +kernel⟩
abbrev s_Order___gt__ : Stmt := inClass (topS 17) 19
abbrev N_Order___gt__ : List Str := ["self", "other"]
abbrev P_Order___gt__ : List Str := ["self", "other"]
theorem sc_Order___gt__ : FnScope N_Order___gt__ P_Order___gt__ (defScope s_Order___gt__) := ⟨rfl, rfl, rfl, by decide +kernel, rfl, by decide +kernel, by decide +kernel⟩
abbrev s_Order___ge__ : Stmt := inClass (topS 17) 20
abbrev N_Order___ge__ : List Str := ["self", "other"]
abbrev P_Order___ge__ : List Str := ["self", "other"]
theorem sc_Order___ge__ : FnScope N_Order___ge__ P_Order___ge__ (defScope s_Order___ge__) := ⟨rfl, rfl, rfl, by decide +kernel, rfl, by decide +kernel, by decide +kernel⟩
abbrev s_Order___str__ : Stmt := inClass (topS 17) 26
abbrev N_Order___str__ : List Str := ["self", "place"]
abbrev P_Order___str__ : List Str := ["self"]
theorem sc_Order___str__ : FnScope N_Order___str__ P_Order___str__ (defScope s_Order___str__) := ⟨rfl, rfl, rfl, by decide +kernel, rfl, by decide +kernel, by decide +kernel⟩
abbrev s__law_pen : Stmt := topS 19
abbrev N__law_pen : List Str := ["_law_script"]
abbrev P__law_pen : List Str := ["_law_script"]
theorem sc__law_pen : FnScope N__law_pen P__law_pen (defScope s__law_pen) := ⟨rfl, rfl, rfl, by decide +kernel, rfl, by decide +kernel, by decide +kernel⟩
abbrev s__law_draw : Stmt := topS 20
abbrev N__law_draw : List Str := ["_law_pen_here", "_law_most", "_law_digit", "_law_turn", "_law_cell", "_law_great", "_law_mixed_here"]
abbrev P__law_draw : List Str := ["_law_pen_here", "_law_most"]
theorem sc__law_draw : FnScope N__law_draw P__law_draw (defScope s__law_draw) := ⟨rfl, rfl, rfl, by decide +kernel, rfl, by decide +kernel, by decide +kernel⟩
abbrev s__law_pick : Stmt := topS 21
abbrev N__law_pick : List Str := ["_law_pen_here", "_law_some"]
abbrev P__law_pick : List Str := ["_law_pen_here", "_law_some"]
theorem sc__law_pick : FnScope N__law_pick P__law_pick (defScope s__law_pick) := ⟨rfl, rfl, rfl, by decide +kernel, rfl, by decide +kernel, by decide +kernel⟩
abbrev s__law_mixed : Stmt := topS 22
abbrev N__law_mixed : List Str := ["_law_pen_here", "_law_some", "_law_left", "_law_turn"]
abbrev P__law_mixed : List Str := ["_law_pen_here", "_law_some"]
theorem sc__law_mixed : FnScope N__law_mixed P__law_mixed (defScope s__law_mixed) := ⟨rfl, rfl, rfl, by decide +kernel, rfl, by decide +kernel, by decide +kernel⟩
abbrev s__law_spots : Stmt := topS 23
abbrev N__law_spots : List Str := ["_law_pen_here", "_law_many", "_law_way", "_law_found", "_law_cut", "_law_one", "_law_other"]
abbrev P__law_spots : List Str := ["_law_pen_here", "_law_many"]
theorem sc__law_spots : FnScope N__law_spots P__law_spots (defScope s__law_spots) := ⟨rfl, rfl, rfl, by decide +kernel, rfl, by decide +kernel, by decide +kernel⟩
abbrev s__law_worths : Stmt := topS 24
abbrev N__law_worths : List Str := ["_law_order", "_law_at"]
abbrev P__law_worths : List Str := ["_law_order"]
theorem sc__law_worths : FnScope N__law_worths P__law_worths (defScope s__law_worths) := ⟨rfl, rfl, rfl, by decide +kernel, rfl, by decide +kernel, by decide +kernel⟩
abbrev s__law_compared : Stmt := topS 25
abbrev N__law_compared : List Str := ["_law_one", "_law_other", "_law_a", "_law_b", "_law_found"]
abbrev P__law_compared : List Str := ["_law_one", "_law_other"]
theorem sc__law_compared : FnScope N__law_compared P__law_compared (defScope s__law_compared) := ⟨rfl, rfl, rfl, by decide +kernel, rfl, by decide +kernel, by decide +kernel⟩
abbrev s__law_bent : Stmt := topS 26
abbrev N__law_bent : List Str := ["_law_pen_here", "_law_words", "_law_at", "_law_some", "_law_one", "_law_way", "_law_k"]
abbrev P__law_bent : List Str := ["_law_pen_here", "_law_words"]
theorem sc__law_bent : FnScope N__law_bent P__law_bent (defScope s__law_bent) := ⟨rfl, rfl, rfl, by decide +kernel, rfl, by decide +kernel, by decide +kernel⟩
abbrev s__law_fault : Stmt := topS 27
abbrev N__law_fault : List Str := ["_law_told", "_law_words", "_law_numbers", "_law_spots_here", "_law_at", "_law_word", "_law_k"]
abbrev P__law_fault : List Str := ["_law_told"]
theorem sc__law_fault : FnScope N__law_fault P__law_fault (defScope s__law_fault) := ⟨rfl, rfl, rfl, by decide +kernel, rfl, by decide +kernel, by decide +kernel⟩
abbrev s__law_read : Stmt := topS 28
abbrev N__law_read : List Str := ["_law_thing", "_law_found", "_law_caught", "e"]
abbrev P__law_read : List Str := ["_law_thing"]
theorem sc__law_read : FnScope N__law_read P__law_read (defScope s__law_read) := ⟨rfl, rfl, rfl, by decide +kernel, rfl, by decide +kernel, by decide +kernel⟩
abbrev s_law : Stmt := topS 29
abbrev N_law : List Str := ["_law_script", "_law_pen_here", "_law_turn", "_law_many", "_law_spots_here", "_law_near", "_law_at", "_law_far", "_law_other", "_law_told", "_law_again", "_law_bent_here", "_law_due", "_law_thing"]
abbrev P_law : List Str := ["_law_script"]
theorem sc_law : FnScope N_law P_law (defScope s_law) := ⟨rfl, rfl, rfl, by decide +kernel, rfl, by decide +kernel, by decide +kernel⟩
structure Ad where
  f_is_integer : Addr
  fd_is_integer : FuncData
  f_is_between : Addr
  fd_is_between : FuncData
  f_BadPlace___init__ : Addr
  fd_BadPlace___init__ : FuncData
  f_BadText___init__ : Addr
  fd_BadText___init__ : FuncData
  f_is_order : Addr
  fd_is_order : FuncData
  f_inverse : Addr
  fd_inverse : FuncData
  f_is_number_below : Addr
  fd_is_number_below : FuncData
  f_Order___init__ : Addr
  fd_Order___init__ : FuncData
  f_Order_read : Addr
  fd_Order_read : FuncData
  f_Order_need_place : Addr
  fd_Order_need_place : FuncData
  f_Order___len__ : Addr
  fd_Order___len__ : FuncData
  f_Order___getitem__ : Addr
  fd_Order___getitem__ : FuncData
  f_Order___eq__ : Addr
  fd_Order___eq__ : FuncData
  f_Order___lt__ : Addr
  fd_Order___lt__ : FuncData
  f_Order___le__ : Addr
  fd_Order___le__ : FuncData
  f_Order___gt__ : Addr
  fd_Order___gt__ : FuncData
  f_Order___ge__ : Addr
  fd_Order___ge__ : FuncData
  f_Order___str__ : Addr
  fd_Order___str__ : FuncData
  f__law_pen : Addr
  fd__law_pen : FuncData
  f__law_draw : Addr
  fd__law_draw : FuncData
  f__law_pick : Addr
  fd__law_pick : FuncData
  f__law_mixed : Addr
  fd__law_mixed : FuncData
  f__law_spots : Addr
  fd__law_spots : FuncData
  f__law_worths : Addr
  fd__law_worths : FuncData
  f__law_compared : Addr
  fd__law_compared : FuncData
  f__law_bent : Addr
  fd__law_bent : FuncData
  f__law_fault : Addr
  fd__law_fault : FuncData
  f__law_read : Addr
  fd__law_read : FuncData
  f_law : Addr
  fd_law : FuncData
  r_Order_read : Addr
  mc_Order : Value
structure Tx (Γ : Wd) (mg : Str → Option Value) (a : Ad) : Prop where
  z_ValueError : mg "ValueError" = none
  z_abs : mg "abs" = none
  z_all : mg "all" = none
  z_bool : mg "bool" = none
  z_enumerate : mg "enumerate" = none
  z_int : mg "int" = none
  z_isinstance : mg "isinstance" = none
  z_len : mg "len" = none
  z_list : mg "list" = none
  z_range : mg "range" = none
  z_set : mg "set" = none
  z_str : mg "str" = none
  z_tuple : mg "tuple" = none
  c_FIGURES : ∃ u, mg "FIGURES" = some u ∧ RelV (.str "0123456789") u
  c_MOST_ROWS : ∃ u, mg "MOST_ROWS" = some u ∧ RelV (.int 24) u
  F_is_integer : Fun Γ.K "is_integer" "is_integer" s_is_integer a.f_is_integer a.fd_is_integer
  b_is_integer : Binds Γ.K a.fd_is_integer P_is_integer []
  g_is_integer : mg "is_integer" = some (.ref a.f_is_integer)
  F_is_between : Fun Γ.K "is_between" "is_between" s_is_between a.f_is_between a.fd_is_between
  b_is_between : Binds Γ.K a.fd_is_between P_is_between []
  g_is_between : mg "is_between" = some (.ref a.f_is_between)
  F_BadPlace___init__ : Fun Γ.K "__init__" "BadPlace.__init__" s_BadPlace___init__ a.f_BadPlace___init__ a.fd_BadPlace___init__
  b_BadPlace___init__ : Binds Γ.K a.fd_BadPlace___init__ P_BadPlace___init__ []
  F_BadText___init__ : Fun Γ.K "__init__" "BadText.__init__" s_BadText___init__ a.f_BadText___init__ a.fd_BadText___init__
  b_BadText___init__ : Binds Γ.K a.fd_BadText___init__ P_BadText___init__ []
  F_is_order : Fun Γ.K "is_order" "is_order" s_is_order a.f_is_order a.fd_is_order
  b_is_order : Binds Γ.K a.fd_is_order P_is_order []
  g_is_order : mg "is_order" = some (.ref a.f_is_order)
  F_inverse : Fun Γ.K "inverse" "inverse" s_inverse a.f_inverse a.fd_inverse
  b_inverse : Binds Γ.K a.fd_inverse P_inverse []
  g_inverse : mg "inverse" = some (.ref a.f_inverse)
  F_is_number_below : Fun Γ.K "is_number_below" "is_number_below" s_is_number_below a.f_is_number_below a.fd_is_number_below
  b_is_number_below : Binds Γ.K a.fd_is_number_below P_is_number_below []
  g_is_number_below : mg "is_number_below" = some (.ref a.f_is_number_below)
  F_Order___init__ : Fun Γ.K "__init__" "Order.__init__" s_Order___init__ a.f_Order___init__ a.fd_Order___init__
  b_Order___init__ : Binds Γ.K a.fd_Order___init__ P_Order___init__ []
  F_Order_read : Fun Γ.K "read" "Order.read" s_Order_read a.f_Order_read a.fd_Order_read
  b_Order_read : Binds Γ.K a.fd_Order_read P_Order_read []
  F_Order_need_place : Fun Γ.K "need_place" "Order.need_place" s_Order_need_place a.f_Order_need_place a.fd_Order_need_place
  b_Order_need_place : Binds Γ.K a.fd_Order_need_place P_Order_need_place []
  m_Order_need_place : Meth Γ.K (Γ.cl "Order") "need_place" a.f_Order_need_place
  F_Order___len__ : Fun Γ.K "__len__" "Order.__len__" s_Order___len__ a.f_Order___len__ a.fd_Order___len__
  b_Order___len__ : Binds Γ.K a.fd_Order___len__ P_Order___len__ []
  m_Order___len__ : Meth Γ.K (Γ.cl "Order") "__len__" a.f_Order___len__
  F_Order___getitem__ : Fun Γ.K "__getitem__" "Order.__getitem__" s_Order___getitem__ a.f_Order___getitem__ a.fd_Order___getitem__
  b_Order___getitem__ : Binds Γ.K a.fd_Order___getitem__ P_Order___getitem__ []
  m_Order___getitem__ : Meth Γ.K (Γ.cl "Order") "__getitem__" a.f_Order___getitem__
  F_Order___eq__ : Fun Γ.K "__eq__" "Order.__eq__" s_Order___eq__ a.f_Order___eq__ a.fd_Order___eq__
  b_Order___eq__ : Binds Γ.K a.fd_Order___eq__ P_Order___eq__ []
  m_Order___eq__ : Meth Γ.K (Γ.cl "Order") "__eq__" a.f_Order___eq__
  F_Order___lt__ : Fun Γ.K "__lt__" "Order.__lt__" s_Order___lt__ a.f_Order___lt__ a.fd_Order___lt__
  b_Order___lt__ : Binds Γ.K a.fd_Order___lt__ P_Order___lt__ []
  m_Order___lt__ : Meth Γ.K (Γ.cl "Order") "__lt__" a.f_Order___lt__
  F_Order___le__ : Fun Γ.K "__le__" "Order.__le__" s_Order___le__ a.f_Order___le__ a.fd_Order___le__
  b_Order___le__ : Binds Γ.K a.fd_Order___le__ P_Order___le__ []
  m_Order___le__ : Meth Γ.K (Γ.cl "Order") "__le__" a.f_Order___le__
  F_Order___gt__ : Fun Γ.K "__gt__" "Order.__gt__" s_Order___gt__ a.f_Order___gt__ a.fd_Order___gt__
  b_Order___gt__ : Binds Γ.K a.fd_Order___gt__ P_Order___gt__ []
  m_Order___gt__ : Meth Γ.K (Γ.cl "Order") "__gt__" a.f_Order___gt__
  F_Order___ge__ : Fun Γ.K "__ge__" "Order.__ge__" s_Order___ge__ a.f_Order___ge__ a.fd_Order___ge__
  b_Order___ge__ : Binds Γ.K a.fd_Order___ge__ P_Order___ge__ []
  m_Order___ge__ : Meth Γ.K (Γ.cl "Order") "__ge__" a.f_Order___ge__
  F_Order___str__ : Fun Γ.K "__str__" "Order.__str__" s_Order___str__ a.f_Order___str__ a.fd_Order___str__
  b_Order___str__ : Binds Γ.K a.fd_Order___str__ P_Order___str__ []
  m_Order___str__ : Meth Γ.K (Γ.cl "Order") "__str__" a.f_Order___str__
  F__law_pen : Fun Γ.K "_law_pen" "_law_pen" s__law_pen a.f__law_pen a.fd__law_pen
  b__law_pen : Binds Γ.K a.fd__law_pen P__law_pen []
  g__law_pen : mg "_law_pen" = some (.ref a.f__law_pen)
  F__law_draw : Fun Γ.K "_law_draw" "_law_draw" s__law_draw a.f__law_draw a.fd__law_draw
  b__law_draw : Binds Γ.K a.fd__law_draw P__law_draw []
  g__law_draw : mg "_law_draw" = some (.ref a.f__law_draw)
  F__law_pick : Fun Γ.K "_law_pick" "_law_pick" s__law_pick a.f__law_pick a.fd__law_pick
  b__law_pick : Binds Γ.K a.fd__law_pick P__law_pick []
  g__law_pick : mg "_law_pick" = some (.ref a.f__law_pick)
  F__law_mixed : Fun Γ.K "_law_mixed" "_law_mixed" s__law_mixed a.f__law_mixed a.fd__law_mixed
  b__law_mixed : Binds Γ.K a.fd__law_mixed P__law_mixed []
  g__law_mixed : mg "_law_mixed" = some (.ref a.f__law_mixed)
  F__law_spots : Fun Γ.K "_law_spots" "_law_spots" s__law_spots a.f__law_spots a.fd__law_spots
  b__law_spots : Binds Γ.K a.fd__law_spots P__law_spots []
  g__law_spots : mg "_law_spots" = some (.ref a.f__law_spots)
  F__law_worths : Fun Γ.K "_law_worths" "_law_worths" s__law_worths a.f__law_worths a.fd__law_worths
  b__law_worths : Binds Γ.K a.fd__law_worths P__law_worths []
  g__law_worths : mg "_law_worths" = some (.ref a.f__law_worths)
  F__law_compared : Fun Γ.K "_law_compared" "_law_compared" s__law_compared a.f__law_compared a.fd__law_compared
  b__law_compared : Binds Γ.K a.fd__law_compared P__law_compared []
  g__law_compared : mg "_law_compared" = some (.ref a.f__law_compared)
  F__law_bent : Fun Γ.K "_law_bent" "_law_bent" s__law_bent a.f__law_bent a.fd__law_bent
  b__law_bent : Binds Γ.K a.fd__law_bent P__law_bent []
  g__law_bent : mg "_law_bent" = some (.ref a.f__law_bent)
  F__law_fault : Fun Γ.K "_law_fault" "_law_fault" s__law_fault a.f__law_fault a.fd__law_fault
  b__law_fault : Binds Γ.K a.fd__law_fault P__law_fault []
  g__law_fault : mg "_law_fault" = some (.ref a.f__law_fault)
  F__law_read : Fun Γ.K "_law_read" "_law_read" s__law_read a.f__law_read a.fd__law_read
  b__law_read : Binds Γ.K a.fd__law_read P__law_read []
  g__law_read : mg "_law_read" = some (.ref a.f__law_read)
  F_law : Fun Γ.K "law" "law" s_law a.f_law a.fd_law
  b_law : Binds Γ.K a.fd_law P_law []
  g_law : mg "law" = some (.ref a.f_law)
  g_RowError : mg "RowError" = some (.ref (Γ.cl "RowError"))
  g_BadInput : mg "BadInput" = some (.ref (Γ.cl "BadInput"))
  g_BadOrder : mg "BadOrder" = some (.ref (Γ.cl "BadOrder"))
  g_BadPlace : mg "BadPlace" = some (.ref (Γ.cl "BadPlace"))
  g_BadText : mg "BadText" = some (.ref (Γ.cl "BadText"))
  g_Order : mg "Order" = some (.ref (Γ.cl "Order"))
  mk_Order : Mk Γ.K (Γ.cl "Order") a.f_Order___init__
  cl_Order : Cls Γ.K (Γ.cl "Order")
  in_Order : InsT Γ.K (Γ.cl "Order")
  n_Order_places : NoAttr Γ.K (Γ.cl "Order") "places"
  n_Order_goes : NoAttr Γ.K (Γ.cl "Order") "goes"
  x_BadOrder : XcN Γ.K mg "BadOrder" (Γ.cl "BadOrder")
  e_BadOrder : ExcC Γ.K (Γ.cl "BadOrder")
  x_BadPlace : XcT Γ.K mg "BadPlace" (Γ.cl "BadPlace") a.f_BadPlace___init__
  e_BadPlace : ExcC Γ.K (Γ.cl "BadPlace")
  xf_BadPlace : XfC Γ.K (Γ.cl "BadPlace")
  n_BadPlace_at : PySem.W.findIn Γ.K (.ref (Γ.cl "BadPlace")) "at" = some none
  x_BadText : XcT Γ.K mg "BadText" (Γ.cl "BadText") a.f_BadText___init__
  e_BadText : ExcC Γ.K (Γ.cl "BadText")
  xf_BadText : XfC Γ.K (Γ.cl "BadText")
  n_BadText_line : PySem.W.findIn Γ.K (.ref (Γ.cl "BadText")) "line" = some none
  n_BadText_word : PySem.W.findIn Γ.K (.ref (Γ.cl "BadText")) "word" = some none
  ex_BadText : PySem.W.exmOne Γ.K (.ref (Γ.cl "BadText")) (.ref (Γ.cl "BadText")) = some true
  k_Order_Order : PySem.W.kitOne Γ.K (.ref (Γ.cl "Order")) (.ref (Γ.cl "Order")) = some true
  tc_Order : ∀ t ∈ tyTs, PySem.W.kitOne Γ.K (.type t) (.ref (Γ.cl "Order")) = some false
  cr_Order : ClX.CRead Γ.K (Γ.cl "Order") a.mc_Order
  cm_Order_read : ClX.CMet Γ.K (Γ.cl "Order") a.mc_Order "read" a.r_Order_read a.f_Order_read
  ostr_Order : OwnU Γ.K (Γ.cl "Order") a.f_Order___str__ "__str__"
  okA : ∀ C, Γ.ok C
  tgA : ∀ C, Γ.tg C
  one_Order : PySem.W.findIn Γ.K (.ref (Γ.cl "Order")) "__ne__" = some (some (.builtin "object.__ne__"))
  obt_Order : ∀ t ∈ btTs, PySem.W.subIn Γ.K (.ref (Γ.cl "Order")) (.type t) = some false
section
variable {Γ : Wd} {mg : Str → Option Value} {a : Ad}
theorem flOk (T : Tx Γ mg a) : FlOk Γ flK := by
  constructor
  · intro C f ok h
    by_cases e_Order : C = "Order"
    · subst e_Order
      exact T.cl_Order
    · skip
      simp only [flK] at h
      simp only [if_neg e_Order] at h
      cases h
  · intro C f ok h
    by_cases e_Order : C = "Order"
    · subst e_Order
      have h : f ∈ (["places", "goes"] : List Str) := h
      simp only [List.mem_cons, List.not_mem_nil, or_false] at h
      rcases h with rfl | rfl
      · exact T.n_Order_places
      · exact T.n_Order_goes
    · skip
      simp only [flK] at h
      simp only [if_neg e_Order] at h
      cases h
theorem xfOk (T : Tx Γ mg a) : XfOk Γ xfK := by
  constructor
  · intro C f ok h
    by_cases e_BadPlace : C = "BadPlace"
    · subst e_BadPlace
      unfold xvOf; rw [if_neg (by decide)]
    · skip
      by_cases e_BadText : C = "BadText"
      · subst e_BadText
        unfold xvOf; rw [if_neg (by decide)]
      · skip
        simp only [xfK] at h
        simp only [if_neg e_BadPlace, if_neg e_BadText] at h
        cases h
  · intro C f ok h
    by_cases e_BadPlace : C = "BadPlace"
    · subst e_BadPlace
      exact T.xf_BadPlace
    · skip
      by_cases e_BadText : C = "BadText"
      · subst e_BadText
        exact T.xf_BadText
      · skip
        simp only [xfK] at h
        simp only [if_neg e_BadPlace, if_neg e_BadText] at h
        cases h
  · intro C f ok h
    by_cases e_BadPlace : C = "BadPlace"
    · subst e_BadPlace
      have h : f ∈ (["at"] : List Str) := h
      simp only [List.mem_cons, List.not_mem_nil, or_false] at h
      subst h
      exact T.n_BadPlace_at
    · skip
      by_cases e_BadText : C = "BadText"
      · subst e_BadText
        have h : f ∈ (["line", "word"] : List Str) := h
        simp only [List.mem_cons, List.not_mem_nil, or_false] at h
        rcases h with rfl | rfl
        · exact T.n_BadText_line
        · exact T.n_BadText_word
      · skip
        simp only [xfK] at h
        simp only [if_neg e_BadPlace, if_neg e_BadText] at h
        cases h
theorem sbOk (T : Tx Γ mg a) : SbOk Γ sbK := by
  constructor
  · intro C D b _ _ h
    simp only [sbK] at h
    split at h
    · next e => obtain ⟨rfl, rfl⟩ := e; cases h; exact ⟨T.in_Order, T.k_Order_Order⟩
    cases h
  · intro C D b _ h
    simp only [sbK] at h
    cases h
  · intro C _ h
    simp only [sbK] at h
    simp only [Bool.or_eq_true, decide_eq_true_eq] at h
    subst h
    exact T.tc_Order
  · intro C D b _ _ h
    simp only [sbK] at h
    cases h
  · intro C D b _ h
    simp only [sbK] at h
    cases h
theorem xmOk (T : Tx Γ mg a) : ∀ C, Γ.ok C → xmK C = true → PySem.W.exmOne Γ.K (xvOf Γ C) (.ref (Γ.cl "BadText")) = some true := by
  intro C _ h
  simp only [xmK, Bool.or_eq_true, decide_eq_true_eq] at h
  subst h
  unfold xvOf; rw [if_neg (by decide)]
  exact T.ex_BadText
theorem kb_Order_read_text (T : Tx Γ mg a) : KBn Γ.K a.fd_Order_read P_Order_read 1 ["text"] (fun us ws => us ++ pick [0] ws) (gKw [0]) := by
  refine ⟨fun s us ws X l1 l2 => ?_, fun r1 r2 => ?_⟩
  · obtain ⟨oc, od, kV, doc, pm, an, cdv, ct, osl, e, lk, hcd⟩ := T.F_Order_read.ex
    rw [e]
    match us, ws, l1, l2 with
    | [u], [w0], _, _ => exact .of_eq rfl
  · exact r1.append (vals_pick r2 _)
end
end R
end

section
namespace R
open PySem PySem.Spec PyProof.Rows L2 Z LamX S
section
variable {P : Program} {w : World} {mg : Str → Option Value} {base : Heap} {Γ : Wd} {a : Ad}
theorem ok_is_integer (T : Tx Γ mg a) : FnOk P w Γ.K mg base (L2.CX P w) 1 a.f_is_integer a.fd_is_integer P_is_integer (spOf Γ 1 F_is_integer) := by
  haveI := flOk T; haveI := xfOk T; haveI := sbOk T; haveI : ∀ C, IsOk Γ C := fun C => ⟨T.okA C⟩; haveI : ∀ C, IsTg Γ C := fun C => ⟨T.tgA C⟩; haveI : InsOk Γ "Order" := ⟨T.in_Order⟩; haveI : XmC Γ xmK (.ref (Γ.cl "BadText")) := ⟨xmOk T⟩
  exact okS (j := 0) (b := sh_is_integer) T.F_is_integer sc_is_integer rfl (fun cdv A outer s H E hr => ⟨_, (pss_one (ps_ret (pe_andK Γ.K (pe_callB (k_isx Γ.K) (by rfl) T.z_isinstance (by decide +kernel) (pa_cons (pv 0) (pa_cons (pe_bltn (v := .ty "int") (by rfl) T.z_int (by decide +kernel) rfl) pa_nil))) (pe_one (pe_notK Γ.K (pe_callB (k_isx Γ.K) (by rfl) T.z_isinstance (by decide +kernel) (pa_cons (pv 0) (pa_cons (pe_bltn (v := .ty "bool") (by rfl) T.z_bool (by decide +kernel) rfl) pa_nil)))))))), by unfold sh_is_integer; (try dsimp only [cxOf]); infer_instance⟩)
theorem ok_is_between (T : Tx Γ mg a)
    (G_is_integer : FnOk P w Γ.K mg base (L2.CX P w) 1 a.f_is_integer a.fd_is_integer P_is_integer (spOf Γ 1 F_is_integer)) : FnOk P w Γ.K mg base (L2.CX P w) 2 a.f_is_between a.fd_is_between P_is_between (spOf Γ 3 F_is_between) := by
  haveI := flOk T; haveI := xfOk T; haveI := sbOk T; haveI : ∀ C, IsOk Γ C := fun C => ⟨T.okA C⟩; haveI : ∀ C, IsTg Γ C := fun C => ⟨T.tgA C⟩; haveI : InsOk Γ "Order" := ⟨T.in_Order⟩; haveI : XmC Γ xmK (.ref (Γ.cl "BadText")) := ⟨xmOk T⟩
  exact okS (j := 0) (b := sh_is_between) T.F_is_between sc_is_between rfl (fun cdv A outer s H E hr => ⟨_, (pss_one (ps_ret (pe_andK Γ.K (pe_call G_is_integer (hr.mono (by decide)) (by rfl) T.g_is_integer T.F_is_integer.kp T.b_is_integer .nil (passes_call (takes_of rfl rfl rfl rfl) fun _ _ _ _ h => h) (pa_cons (pv 0) pa_nil)) (pe_one (pe_chain o_le o_le (pv 1) (pv 0) (pv 2)))))), by unfold sh_is_between; (try dsimp only [cxOf]); infer_instance⟩)
theorem ok_BadPlace___init__ (T : Tx Γ mg a) : FnOk P w Γ.K mg base (L2.CX P w) 1 a.f_BadPlace___init__ a.fd_BadPlace___init__ P_BadPlace___init__ (spX1 (Γ.cl "BadPlace") "at") := by
  refine T.F_BadPlace___init__.okX sc_BadPlace___init__ (fun vs H Q E h => ?_) (fun cdv A outer s H vs Q E hr h => ?_)
  · obtain ⟨_, _, rfl, _⟩ := h
    rfl
  · obtain ⟨x, v, rfl, hx, q⟩ := h
    refine ⟨_, (pss_one (ps_ost (pv 0) (pv 1))), ?_⟩
    refine ⟨_, rfl, ⟨_, rfl, x, (Γ.cl "BadPlace"), rfl, T.x_BadPlace.ox, T.n_BadPlace_at, .inl ⟨hx, q⟩⟩⟩
theorem ok_BadText___init__ (T : Tx Γ mg a) : FnOk P w Γ.K mg base (L2.CX P w) 1 a.f_BadText___init__ a.fd_BadText___init__ P_BadText___init__ (spX2 (Γ.cl "BadText") "line" "word") := by
  refine T.F_BadText___init__.okX sc_BadText___init__ (fun vs H Q E h => ?_) (fun cdv A outer s H vs Q E hr h => ?_)
  · obtain ⟨_, _, _, rfl, _⟩ := h
    rfl
  · obtain ⟨x, v, u, rfl, hx, q⟩ := h
    refine ⟨_, (pss_cons (ps_ost (pv 0) (pv 1)) (pss_one (ps_ost (pv 0) (pv 2)))), ?_⟩
    refine ⟨_, rfl, ⟨_, rfl, x, (Γ.cl "BadText"), rfl, T.x_BadText.ox, T.n_BadText_line, .inl ⟨hx, fun dx hd ne => ?_⟩⟩⟩
    refine ⟨_, rfl, ⟨_, rfl, x, (Γ.cl "BadText"), rfl, T.x_BadText.ox, T.n_BadText_word, .inr ⟨dx, _, upd_same, by rw [upd_ne ne, upd_same], by show 1 ≤ 900; omega, ?_⟩⟩⟩
    exact two_set ne (q dx hd ne)
theorem ok_is_order (T : Tx Γ mg a)
    (G_is_between : FnOk P w Γ.K mg base (L2.CX P w) 2 a.f_is_between a.fd_is_between P_is_between (spOf Γ 3 F_is_between)) : FnOk P w Γ.K mg base (L2.CX P w) 3 a.f_is_order a.fd_is_order P_is_order (spOf Γ 1 F_is_order) := by
  haveI := flOk T; haveI := xfOk T; haveI := sbOk T; haveI : ∀ C, IsOk Γ C := fun C => ⟨T.okA C⟩; haveI : ∀ C, IsTg Γ C := fun C => ⟨T.tgA C⟩; haveI : InsOk Γ "Order" := ⟨T.in_Order⟩; haveI : XmC Γ xmK (.ref (Γ.cl "BadText")) := ⟨xmOk T⟩
  exact okS (j := 1) (b := sh_is_order) T.F_is_order sc_is_order rfl (fun cdv A outer s H E hr => ⟨_, (pss_cons (ps_if (PW.pt (pw_or (pt_not (pt_trK Γ.K (pe_callB (c_isM Γ.K) (by rfl) T.z_isinstance (by decide +kernel) (pa_cons (pv 0) (pa_cons (pe_tup (pa_cons (pe_bltn (v := .ty "list") (by rfl) T.z_list (by decide +kernel) rfl) (pa_cons (pe_bltn (v := .ty "tuple") (by rfl) T.z_tuple (by decide +kernel) rfl) pa_nil))) pa_nil))) (by intro _; rfl))) (pw_or1 (pt_not (pt_chain o_le o_le pe_int (pe_callB (k_len Γ.K) (by rfl) T.z_len (by decide +kernel) (pa_cons (pv 0) pa_nil)) (C8.pe_gc (by rfl) T.c_MOST_ROWS))))))
        (pss_one (ps_ret pe_bl))
        pss_nil)
      (pss_cons (ps_if (pt_not (pt_trK Γ.K (pe_callB (k_all Γ.K rfl) (by rfl) T.z_all (by decide +kernel) (pa_cons (pe_lc (own := [("place", 1)]) rfl sc_is_order.nd (pi_any Γ.K (pv 0)) (blkOk_by (own := [("place", 1)]) (N := N_is_order) (sc := defScope s_is_order) (by decide +kernel)) (fun _ _ _ _ _ => (pg_name (i := 1) sc_is_order.nd rfl (.inl rfl))) (fun _ _ _ _ _ => pts_nil) (fun _ _ _ _ _ => (pe_call G_is_between (hr.mono (by decide)) (by rfl) T.g_is_between T.F_is_between.kp T.b_is_between .nil passL (pa_cons (pv 1) (pa_cons pe_int (pa_cons (pe_op o_sub (pe_callB (k_len Γ.K) (by rfl) T.z_len (by decide +kernel) (pa_cons (pv 0) pa_nil)) pe_int) pa_nil)))))) pa_nil)) (by intro _; rfl)))
        (pss_one (ps_ret pe_bl))
        pss_nil)
      (pss_one (ps_ret (pe_cmpR (k_eq Γ.K hr.units) (pe_callB c_lenSet (by rfl) T.z_len (by decide +kernel) (pa_cons (pe_callTy (k_setL Γ.K rfl) (by rfl) T.z_set (by decide +kernel) (pa_cons (pe_lc (own := [("place", 1)]) rfl sc_is_order.nd (pi_any Γ.K (pv 0)) (blkOk_by (own := [("place", 1)]) (N := N_is_order) (sc := defScope s_is_order) (by decide +kernel)) (fun _ _ _ _ _ => (pg_name (i := 1) sc_is_order.nd rfl (.inl rfl))) (fun _ _ _ _ _ => pts_nil) (fun _ _ _ _ _ => (pe_callTy c_int (by rfl) T.z_int (by decide +kernel) (pa_cons (pv 1) pa_nil)))) pa_nil)) pa_nil)) (pe_callB (k_len Γ.K) (by rfl) T.z_len (by decide +kernel) (pa_cons (pv 0) pa_nil)) (nomark _)))))), by unfold sh_is_order; (try dsimp only [cxOf]); infer_instance⟩)
theorem ok_inverse (T : Tx Γ mg a) : FnOk P w Γ.K mg base (L2.CX P w) 1 a.f_inverse a.fd_inverse P_inverse (spOf Γ 1 F_inverse) := by
  haveI := flOk T; haveI := xfOk T; haveI := sbOk T; haveI : ∀ C, IsOk Γ C := fun C => ⟨T.okA C⟩; haveI : ∀ C, IsTg Γ C := fun C => ⟨T.tgA C⟩; haveI : InsOk Γ "Order" := ⟨T.in_Order⟩; haveI : XmC Γ xmK (.ref (Γ.cl "BadText")) := ⟨xmOk T⟩
  exact okS (j := 3) (b := sh_inverse) T.F_inverse sc_inverse rfl (fun cdv A outer s H E hr => ⟨_, (pss_one (ps_ret (pe_callTy (k_tuple Γ.K) (by rfl) T.z_tuple (by decide +kernel) (pa_cons (pe_lc (own := [("goal", 1)]) rfl sc_inverse.nd (pi_range1 (by rfl) T.z_range (pa_cons (pe_callB (k_len Γ.K) (by rfl) T.z_len (by decide +kernel) (pa_cons (pv 0) pa_nil)) pa_nil)) (blkOk_by (own := [("goal", 1)]) (N := N_inverse) (sc := defScope s_inverse) (by decide +kernel)) (fun _ _ _ _ _ => (pg_name (i := 1) sc_inverse.nd rfl (.inr rfl))) (fun _ _ _ _ _ => pts_nil) (fun _ _ _ _ _ => (pe_ix (k_ix Γ.K) (pe_lc (own := [("at", 2), ("place", 3)]) rfl sc_inverse.nd (pi_enX Γ.K (by rfl) T.z_enumerate (pa_cons (pv 0) pa_nil)) (blkOk_by (own := [("at", 2), ("place", 3)]) (N := N_inverse) (by rfl)) (fun _ _ _ _ _ => (pg_tupK Γ.K (n := 2) (by rfl) (pgs_cons (pg_name (i := 2) sc_inverse.nd rfl (.inl rfl)) (pgs_cons (pg_name (i := 3) sc_inverse.nd rfl (.inl rfl)) pgs_nil)))) (fun _ _ _ _ _ => (pts_one (pt_cmpR (k_eq Γ.K hr.units) (pv 3) (pv 1) (nomark _)))) (fun _ _ _ _ _ => (pv 2))) pe_int (fun _ _ => rfl)))) pa_nil)))), by unfold sh_inverse; (try dsimp only [cxOf]); infer_instance⟩)
theorem ok_is_number_below (T : Tx Γ mg a) : FnOk P w Γ.K mg base (L2.CX P w) 1 a.f_is_number_below a.fd_is_number_below P_is_number_below (spOf Γ 2 F_is_number_below) := by
  haveI := flOk T; haveI := xfOk T; haveI := sbOk T; haveI : ∀ C, IsOk Γ C := fun C => ⟨T.okA C⟩; haveI : ∀ C, IsTg Γ C := fun C => ⟨T.tgA C⟩; haveI : InsOk Γ "Order" := ⟨T.in_Order⟩; haveI : XmC Γ xmK (.ref (Γ.cl "BadText")) := ⟨xmOk T⟩
  exact okS (j := 1) (b := sh_is_number_below) T.F_is_number_below sc_is_number_below rfl (fun cdv A outer s H E hr => ⟨_, (pss_cons (ps_if (PW.pt (pw_or (pt_cmpR (k_eq Γ.K hr.units) (pv 0) pe_str (nomark _)) (pw_or (pt_cmpR o_gt (pe_callB (k_len Γ.K) (by rfl) T.z_len (by decide +kernel) (pa_cons (pv 0) pa_nil)) pe_int (nomark _)) (pw_or1 (pt_not (pt_trK Γ.K (pe_callB (k_all Γ.K rfl) (by rfl) T.z_all (by decide +kernel) (pa_cons (pe_lc (own := [("sign", 2)]) rfl sc_is_number_below.nd (pi_any Γ.K (pv 0)) (blkOk_by (own := [("sign", 2)]) (N := N_is_number_below) (sc := defScope s_is_number_below) (by decide +kernel)) (fun _ _ _ _ _ => (pg_name (i := 2) sc_is_number_below.nd rfl (.inl rfl))) (fun _ _ _ _ _ => pts_nil) (fun _ _ _ _ _ => (pe_cmpR (k_in Γ.K) (pv 2) (C8.pe_gc (by rfl) T.c_FIGURES) (by rfl)))) pa_nil)) (by intro _; rfl)))))))
        (pss_one (ps_ret pe_bl))
        pss_nil)
      (pss_one (ps_ret (pe_andK Γ.K (pe_orK Γ.K (pe_cmpR (k_eq Γ.K hr.units) (pv 0) pe_str (nomark _)) (pe_one (pe_cmpR (k_ne Γ.K hr.units) (pe_ix (k_ix Γ.K) (pv 0) pe_int (fun _ _ => rfl)) pe_str (nomark _)))) (pe_one (pe_cmpR o_lt (pe_callTy c_int (by rfl) T.z_int (by decide +kernel) (pa_cons (pv 0) pa_nil)) (pv 1) (nomark _))))))), by unfold sh_is_number_below; (try dsimp only [cxOf]); infer_instance⟩)
theorem ok_Order___init__ (T : Tx Γ mg a)
    (G_is_order : FnOk P w Γ.K mg base (L2.CX P w) 3 a.f_is_order a.fd_is_order P_is_order (spOf Γ 1 F_is_order))
    (G_inverse : FnOk P w Γ.K mg base (L2.CX P w) 1 a.f_inverse a.fd_inverse P_inverse (spOf Γ 1 F_inverse)) : FnOk P w Γ.K mg base (L2.CX P w) 4 a.f_Order___init__ a.fd_Order___init__ P_Order___init__ (spOf Γ 2 F_Order___init__) := by
  haveI := flOk T; haveI := xfOk T; haveI := sbOk T; haveI : ∀ C, IsOk Γ C := fun C => ⟨T.okA C⟩; haveI : ∀ C, IsTg Γ C := fun C => ⟨T.tgA C⟩; haveI : InsOk Γ "Order" := ⟨T.in_Order⟩; haveI : XmC Γ xmK (.ref (Γ.cl "BadText")) := ⟨xmOk T⟩
  exact okS (j := 0) (b := sh_Order___init__) T.F_Order___init__ sc_Order___init__ rfl (fun cdv A outer s H E hr => ⟨_, (pss_cons (ps_if (pt_not (pt_trK Γ.K (pe_call G_is_order (hr.mono (by decide)) (by rfl) T.g_is_order T.F_is_order.kp T.b_is_order .nil (passes_call (takes_of rfl rfl rfl rfl) fun _ _ _ _ h => h) (pa_cons (pv 1) pa_nil)) (by intro _; rfl)))
        (pss_one (ps_raise0 rfl (takes_of rfl rfl rfl rfl) T.x_BadOrder (by rfl)))
        pss_nil)
      (pss_cons (ps_fldK Γ.K (pv 0) (pe_callTy (k_tuple Γ.K) (by rfl) T.z_tuple (by decide +kernel) (pa_cons (pv 1) pa_nil)) rfl)
      (pss_one (ps_fldK Γ.K (pv 0) (pe_call G_inverse (hr.mono (by decide)) (by rfl) T.g_inverse T.F_inverse.kp T.b_inverse .nil (passes_call (takes_of rfl rfl rfl rfl) fun _ _ _ _ h => h) (pa_cons (pe_attK Γ.K (pv 0)) pa_nil)) rfl)))), by unfold sh_Order___init__; (try dsimp only [cxOf]); infer_instance⟩)
theorem ok_Order_read (T : Tx Γ mg a)
    (G_BadText___init__ : FnOk P w Γ.K mg base (L2.CX P w) 1 a.f_BadText___init__ a.fd_BadText___init__ P_BadText___init__ (spX2 (Γ.cl "BadText") "line" "word"))
    (G_is_number_below : FnOk P w Γ.K mg base (L2.CX P w) 1 a.f_is_number_below a.fd_is_number_below P_is_number_below (spOf Γ 2 F_is_number_below))
    (G_Order___init__ : FnOk P w Γ.K mg base (L2.CX P w) 4 a.f_Order___init__ a.fd_Order___init__ P_Order___init__ (spOf Γ 2 F_Order___init__)) : FnOk P w Γ.K mg base (L2.CX P w) 6 a.f_Order_read a.fd_Order_read P_Order_read (spOf Γ 2 F_Order_read) := by
  haveI := flOk T; haveI := xfOk T; haveI := sbOk T; haveI : ∀ C, IsOk Γ C := fun C => ⟨T.okA C⟩; haveI : ∀ C, IsTg Γ C := fun C => ⟨T.tgA C⟩; haveI : InsOk Γ "Order" := ⟨T.in_Order⟩; haveI : XmC Γ xmK (.ref (Γ.cl "BadText")) := ⟨xmOk T⟩
  exact okS (j := 4) (b := sh_Order_read) T.F_Order_read sc_Order_read rfl (fun cdv A outer s H E hr => ⟨_, (pss_cons (ps_if (pt_not (pt_trK Γ.K (pe_callB (k_isx Γ.K) (by rfl) T.z_isinstance (by decide +kernel) (pa_cons (pv 1) (pa_cons (pe_bltn (v := .ty "str") (by rfl) T.z_str (by decide +kernel) rfl) pa_nil))) (by intro _; rfl)))
        (pss_one (ps_raise2 rfl (takes_of rfl rfl rfl rfl) (pmk_x2 T.x_BadText G_BadText___init__ (hr.mono (by decide)) T.b_BadText___init__ (by rfl) pe_int pe_int)))
        pss_nil)
      (pss_cons (ps_set (i := 2) sc_Order_read.nd rfl (.inl rfl) (pe_bm PySem.F.plainAttrs_str PySem.F.slot_str_split PySem.F.type_str_split k_split (pv 1) (pa_cons pe_str pa_nil)))
      (pss_cons (ps_set (i := 3) sc_Order_read.nd rfl (.inl rfl) (pe_lst pa_nil))
      (pss_cons (ps_for (passes_of rfl) rfl (pi_enX Γ.K (by rfl) T.z_enumerate (pa_cons (pv 2) pa_nil)) (pg_tup (n := 2) (by rfl) (pgs_cons (pg_name (i := 4) sc_Order_read.nd rfl (.inl rfl)) (pgs_cons (pg_name (i := 5) sc_Order_read.nd rfl (.inl rfl)) pgs_nil)))
        (pss_cons (ps_if (PW.pt (pw_or (pt_cmpR (k_eq Γ.K hr.units) (pv 4) (C8.pe_gc (by rfl) T.c_MOST_ROWS) (nomark _)) (pw_or (pt_not (pt_trK Γ.K (pe_call G_is_number_below (hr.mono (by decide)) (by rfl) T.g_is_number_below T.F_is_number_below.kp T.b_is_number_below .nil (passes_call (takes_of rfl rfl rfl rfl) fun _ _ _ _ h => h) (pa_cons (pv 5) (pa_cons (pe_callB (k_len Γ.K) (by rfl) T.z_len (by decide +kernel) (pa_cons (pv 2) pa_nil)) pa_nil))) (by intro _; rfl))) (pw_or1 (pt_cmpR (k_in Γ.K) (pe_callTy c_int (by rfl) T.z_int (by decide +kernel) (pa_cons (pv 5) pa_nil)) (pv 3) (by rfl))))))
        (pss_one (ps_raise2 rfl (takes_of rfl rfl rfl rfl) (pmk_x2 T.x_BadText G_BadText___init__ (hr.mono (by decide)) T.b_BadText___init__ (by rfl) pe_int (pv 4))))
        pss_nil)
      (pss_one (ps_expr (pe_bm PySem.F.plainAttrs_list PySem.F.slot_list_append PySem.F.type_list_append mt_append (pv 3) (pa_cons (pe_callTy c_int (by rfl) T.z_int (by decide +kernel) (pa_cons (pv 5) pa_nil)) pa_nil))))))
      (pss_one (ps_ret (pe_makeL T.mk_Order G_Order___init__ (hr.mono (by decide)) T.b_Order___init__ (passes_call (takes_of rfl rfl rfl rfl) fun _ _ _ _ h => h) 0 (pa_cons (pv 3) pa_nil)))))))), by unfold sh_Order_read; (try dsimp only [cxOf]); infer_instance⟩)
theorem ok_Order_need_place (T : Tx Γ mg a)
    (G_is_between : FnOk P w Γ.K mg base (L2.CX P w) 2 a.f_is_between a.fd_is_between P_is_between (spOf Γ 3 F_is_between))
    (G_BadPlace___init__ : FnOk P w Γ.K mg base (L2.CX P w) 1 a.f_BadPlace___init__ a.fd_BadPlace___init__ P_BadPlace___init__ (spX1 (Γ.cl "BadPlace") "at")) : FnOk P w Γ.K mg base (L2.CX P w) 3 a.f_Order_need_place a.fd_Order_need_place P_Order_need_place (spOf Γ 2 F_Order_need_place) := by
  haveI := flOk T; haveI := xfOk T; haveI := sbOk T; haveI : ∀ C, IsOk Γ C := fun C => ⟨T.okA C⟩; haveI : ∀ C, IsTg Γ C := fun C => ⟨T.tgA C⟩; haveI : InsOk Γ "Order" := ⟨T.in_Order⟩; haveI : XmC Γ xmK (.ref (Γ.cl "BadText")) := ⟨xmOk T⟩
  exact okS (j := 0) (b := sh_Order_need_place) T.F_Order_need_place sc_Order_need_place rfl (fun cdv A outer s H E hr => ⟨_, (pss_one (ps_if (pt_not (pt_trK Γ.K (pe_call G_is_between (hr.mono (by decide)) (by rfl) T.g_is_between T.F_is_between.kp T.b_is_between .nil (passes_call (takes_of rfl rfl rfl rfl) fun _ _ _ _ h => h) (pa_cons (pv 1) (pa_cons pe_int (pa_cons (pe_op o_sub (pe_callB (k_len Γ.K) (by rfl) T.z_len (by decide +kernel) (pa_cons (pe_attK Γ.K (pv 0)) pa_nil)) pe_int) pa_nil)))) (by intro _; rfl)))
        (pss_one (ps_raise1 rfl (takes_of rfl rfl rfl rfl) (pmk_x1 T.x_BadPlace G_BadPlace___init__ (hr.mono (by decide)) T.b_BadPlace___init__ (by rfl) (pv 1))))
        pss_nil)), by unfold sh_Order_need_place; (try dsimp only [cxOf]); infer_instance⟩)
theorem ok_Order___len__ (T : Tx Γ mg a) : FnOk P w Γ.K mg base (L2.CX P w) 1 a.f_Order___len__ a.fd_Order___len__ P_Order___len__ (spOf Γ 1 F_Order___len__) := by
  haveI := flOk T; haveI := xfOk T; haveI := sbOk T; haveI : ∀ C, IsOk Γ C := fun C => ⟨T.okA C⟩; haveI : ∀ C, IsTg Γ C := fun C => ⟨T.tgA C⟩; haveI : InsOk Γ "Order" := ⟨T.in_Order⟩; haveI : XmC Γ xmK (.ref (Γ.cl "BadText")) := ⟨xmOk T⟩
  exact okS (j := 0) (b := sh_Order___len__) T.F_Order___len__ sc_Order___len__ rfl (fun cdv A outer s H E hr => ⟨_, (pss_one (ps_ret (pe_callB (k_len Γ.K) (by rfl) T.z_len (by decide +kernel) (pa_cons (pe_attK Γ.K (pv 0)) pa_nil)))), by unfold sh_Order___len__; (try dsimp only [cxOf]); infer_instance⟩)
theorem ok_Order___getitem__ (T : Tx Γ mg a)
    (G_Order_need_place : FnOk P w Γ.K mg base (L2.CX P w) 3 a.f_Order_need_place a.fd_Order_need_place P_Order_need_place (spOf Γ 2 F_Order_need_place)) : FnOk P w Γ.K mg base (L2.CX P w) 4 a.f_Order___getitem__ a.fd_Order___getitem__ P_Order___getitem__ (spOf Γ 2 F_Order___getitem__) := by
  haveI := flOk T; haveI := xfOk T; haveI := sbOk T; haveI : ∀ C, IsOk Γ C := fun C => ⟨T.okA C⟩; haveI : ∀ C, IsTg Γ C := fun C => ⟨T.tgA C⟩; haveI : InsOk Γ "Order" := ⟨T.in_Order⟩; haveI : XmC Γ xmK (.ref (Γ.cl "BadText")) := ⟨xmOk T⟩
  exact okS (j := 0) (b := sh_Order___getitem__) T.F_Order___getitem__ sc_Order___getitem__ rfl (fun cdv A outer s H E hr => ⟨_, (pss_cons (ps_expr (pe_meth (pv 0) T.cl_Order T.m_Order_need_place G_Order_need_place (hr.mono (by decide)) T.b_Order_need_place .nil (passes_call (takes_of rfl rfl rfl rfl) fun _ _ _ _ h => h) (pa_cons (pv 1) pa_nil)))
      (pss_one (ps_ret (pe_ix (k_ix Γ.K) (pe_attK Γ.K (pv 0)) (pv 1) (fun _ _ => rfl))))), by unfold sh_Order___getitem__; (try dsimp only [cxOf]); infer_instance⟩)
theorem ok_Order___eq__ (T : Tx Γ mg a) : FnOk P w Γ.K mg base (L2.CX P w) 1 a.f_Order___eq__ a.fd_Order___eq__ P_Order___eq__ (spOf Γ 2 F_Order___eq__) := by
  haveI := flOk T; haveI := xfOk T; haveI := sbOk T; haveI : ∀ C, IsOk Γ C := fun C => ⟨T.okA C⟩; haveI : ∀ C, IsTg Γ C := fun C => ⟨T.tgA C⟩; haveI : InsOk Γ "Order" := ⟨T.in_Order⟩; haveI : XmC Γ xmK (.ref (Γ.cl "BadText")) := ⟨xmOk T⟩
  exact okS (j := 0) (b := sh_Order___eq__) T.F_Order___eq__ sc_Order___eq__ rfl (fun cdv A outer s H E hr => ⟨_, (pss_one (ps_ret (pe_andK Γ.K (pe_callB (k_isx Γ.K) (by rfl) T.z_isinstance (by decide +kernel) (pa_cons (pv 1) (pa_cons (pe_glob (v := .ref (Γ.cl "Order")) (by rfl) T.g_Order rfl) pa_nil))) (pe_one (pe_cmpR (k_eq Γ.K hr.units) (pe_attK Γ.K (pv 0)) (pe_attK Γ.K (pv 1)) (nomark _)))))), by unfold sh_Order___eq__; (try dsimp only [cxOf]); infer_instance⟩)
theorem ok_Order___lt__ (T : Tx Γ mg a) : FnOk P w Γ.K mg base (L2.CX P w) 1 a.f_Order___lt__ a.fd_Order___lt__ P_Order___lt__ (spOf Γ 2 F_Order___lt__) := by
  haveI := flOk T; haveI := xfOk T; haveI := sbOk T; haveI : ∀ C, IsOk Γ C := fun C => ⟨T.okA C⟩; haveI : ∀ C, IsTg Γ C := fun C => ⟨T.tgA C⟩; haveI : InsOk Γ "Order" := ⟨T.in_Order⟩; haveI : XmC Γ xmK (.ref (Γ.cl "BadText")) := ⟨xmOk T⟩
  exact okS (j := 0) (b := sh_Order___lt__) T.F_Order___lt__ sc_Order___lt__ rfl (fun cdv A outer s H E hr => ⟨_, (pss_cons (ps_if (pt_not (pt_trK Γ.K (pe_callB (k_isx Γ.K) (by rfl) T.z_isinstance (by decide +kernel) (pa_cons (pv 1) (pa_cons (pe_glob (v := .ref (Γ.cl "Order")) (by rfl) T.g_Order rfl) pa_nil))) (by intro _; rfl)))
        (pss_one ps_no)
        pss_nil)
      (pss_one (ps_ret (pe_cmpR (k_ltX Γ.K hr.units) (pe_attK Γ.K (pv 0)) (pe_attK Γ.K (pv 1)) (nomark _))))), by unfold sh_Order___lt__; (try dsimp only [cxOf]); infer_instance⟩)
theorem ok_Order___le__ (T : Tx Γ mg a) : FnOk P w Γ.K mg base (L2.CX P w) 1 a.f_Order___le__ a.fd_Order___le__ P_Order___le__ (spOf Γ 2 F_Order___le__) := by
  haveI := flOk T; haveI := xfOk T; haveI := sbOk T; haveI : ∀ C, IsOk Γ C := fun C => ⟨T.okA C⟩; haveI : ∀ C, IsTg Γ C := fun C => ⟨T.tgA C⟩; haveI : InsOk Γ "Order" := ⟨T.in_Order⟩; haveI : XmC Γ xmK (.ref (Γ.cl "BadText")) := ⟨xmOk T⟩
  exact okS (j := 0) (b := sh_Order___le__) T.F_Order___le__ sc_Order___le__ rfl (fun cdv A outer s H E hr => ⟨_, (pss_cons (ps_if (pt_not (pt_trK Γ.K (pe_callB (k_isx Γ.K) (by rfl) T.z_isinstance (by decide +kernel) (pa_cons (pv 1) (pa_cons (pe_glob (v := .ref (Γ.cl "Order")) (by rfl) T.g_Order rfl) pa_nil))) (by intro _; rfl)))
        (pss_one ps_no)
        pss_nil)
      (pss_one (ps_ret (pe_cmpR (k_leX Γ.K hr.units) (pe_attK Γ.K (pv 0)) (pe_attK Γ.K (pv 1)) (nomark _))))), by unfold sh_Order___le__; (try dsimp only [cxOf]); infer_instance⟩)
theorem ok_Order___gt__ (T : Tx Γ mg a) : FnOk P w Γ.K mg base (L2.CX P w) 1 a.f_Order___gt__ a.fd_Order___gt__ P_Order___gt__ (spOf Γ 2 F_Order___gt__) := by
  haveI := flOk T; haveI := xfOk T; haveI := sbOk T; haveI : ∀ C, IsOk Γ C := fun C => ⟨T.okA C⟩; haveI : ∀ C, IsTg Γ C := fun C => ⟨T.tgA C⟩; haveI : InsOk Γ "Order" := ⟨T.in_Order⟩; haveI : XmC Γ xmK (.ref (Γ.cl "BadText")) := ⟨xmOk T⟩
  exact okS (j := 0) (b := sh_Order___gt__) T.F_Order___gt__ sc_Order___gt__ rfl (fun cdv A outer s H E hr => ⟨_, (pss_cons (ps_if (pt_not (pt_trK Γ.K (pe_callB (k_isx Γ.K) (by rfl) T.z_isinstance (by decide +kernel) (pa_cons (pv 1) (pa_cons (pe_glob (v := .ref (Γ.cl "Order")) (by rfl) T.g_Order rfl) pa_nil))) (by intro _; rfl)))
        (pss_one ps_no)
        pss_nil)
      (pss_one (ps_ret (pe_cmpR (k_gtX Γ.K hr.units) (pe_attK Γ.K (pv 0)) (pe_attK Γ.K (pv 1)) (nomark _))))), by unfold sh_Order___gt__; (try dsimp only [cxOf]); infer_instance⟩)
theorem ok_Order___ge__ (T : Tx Γ mg a) : FnOk P w Γ.K mg base (L2.CX P w) 1 a.f_Order___ge__ a.fd_Order___ge__ P_Order___ge__ (spOf Γ 2 F_Order___ge__) := by
  haveI := flOk T; haveI := xfOk T; haveI := sbOk T; haveI : ∀ C, IsOk Γ C := fun C => ⟨T.okA C⟩; haveI : ∀ C, IsTg Γ C := fun C => ⟨T.tgA C⟩; haveI : InsOk Γ "Order" := ⟨T.in_Order⟩; haveI : XmC Γ xmK (.ref (Γ.cl "BadText")) := ⟨xmOk T⟩
  exact okS (j := 0) (b := sh_Order___ge__) T.F_Order___ge__ sc_Order___ge__ rfl (fun cdv A outer s H E hr => ⟨_, (pss_cons (ps_if (pt_not (pt_trK Γ.K (pe_callB (k_isx Γ.K) (by rfl) T.z_isinstance (by decide +kernel) (pa_cons (pv 1) (pa_cons (pe_glob (v := .ref (Γ.cl "Order")) (by rfl) T.g_Order rfl) pa_nil))) (by intro _; rfl)))
        (pss_one ps_no)
        pss_nil)
      (pss_one (ps_ret (pe_cmpR (k_geX Γ.K hr.units) (pe_attK Γ.K (pv 0)) (pe_attK Γ.K (pv 1)) (nomark _))))), by unfold sh_Order___ge__; (try dsimp only [cxOf]); infer_instance⟩)
theorem ok_Order___str__ (T : Tx Γ mg a) : FnOk P w Γ.K mg base (L2.CX P w) 1 a.f_Order___str__ a.fd_Order___str__ P_Order___str__ (spOf Γ 1 F_Order___str__) := by
  haveI := flOk T; haveI := xfOk T; haveI := sbOk T; haveI : ∀ C, IsOk Γ C := fun C => ⟨T.okA C⟩; haveI : ∀ C, IsTg Γ C := fun C => ⟨T.tgA C⟩; haveI : InsOk Γ "Order" := ⟨T.in_Order⟩; haveI : XmC Γ xmK (.ref (Γ.cl "BadText")) := ⟨xmOk T⟩
  exact okS (j := 1) (b := sh_Order___str__) T.F_Order___str__ sc_Order___str__ rfl (fun cdv A outer s H E hr => ⟨_, (pss_one (ps_ret (pe_bm PySem.F.plainAttrs_str PySem.F.slot_str_join PySem.F.type_str_join (k_join Γ.K) pe_str (pa_cons (pe_lc (own := [("place", 1)]) rfl sc_Order___str__.nd (pi_any Γ.K (pe_attK Γ.K (pv 0))) (blkOk_by (own := [("place", 1)]) (N := N_Order___str__) (sc := defScope s_Order___str__) (by decide +kernel)) (fun _ _ _ _ _ => (pg_name (i := 1) sc_Order___str__.nd rfl (.inl rfl))) (fun _ _ _ _ _ => pts_nil) (fun _ _ _ _ _ => (pe_callTy c_str (by rfl) T.z_str (by decide +kernel) (pa_cons (pv 1) pa_nil)))) pa_nil)))), by unfold sh_Order___str__; (try dsimp only [cxOf]); infer_instance⟩)
end
end R
end

section
namespace R
open PySem PySem.Spec PyProof.Rows L2 Z LamX S
section
variable {P : Program} {w : World} {mg : Str → Option Value} {base : Heap} {Γ : Wd} {a : Ad}
theorem ok__law_pen (T : Tx Γ mg a) : FnOk P w Γ.K mg base (L2.CX P w) 1 a.f__law_pen a.fd__law_pen P__law_pen (spOf Γ 1 F__law_pen) := by
  haveI := flOk T; haveI := xfOk T; haveI := sbOk T; haveI : ∀ C, IsOk Γ C := fun C => ⟨T.okA C⟩; haveI : ∀ C, IsTg Γ C := fun C => ⟨T.tgA C⟩; haveI : InsOk Γ "Order" := ⟨T.in_Order⟩; haveI : XmC Γ xmK (.ref (Γ.cl "BadText")) := ⟨xmOk T⟩
  exact okS (j := 0) (b := sh__law_pen) T.F__law_pen sc__law_pen rfl (fun cdv A outer s H E hr => ⟨_, (pss_one (ps_ret (pe_lst (pa_cons (pe_callTy (k_list Γ.K) (by rfl) T.z_list (by decide +kernel) (pa_cons (pe_slice (k_sl Γ.K) (pv 0) po_none (po_some pe_int)) pa_nil)) (pa_cons pe_int (pa_cons pe_int pa_nil)))))), by unfold sh__law_pen; (try dsimp only [cxOf]); infer_instance⟩)
theorem ok__law_draw (T : Tx Γ mg a) : FnOk P w Γ.K mg base (L2.CX P w) 1 a.f__law_draw a.fd__law_draw P__law_draw (spOf Γ 2 F__law_draw) := by
  haveI := flOk T; haveI := xfOk T; haveI := sbOk T; haveI : ∀ C, IsOk Γ C := fun C => ⟨T.okA C⟩; haveI : ∀ C, IsTg Γ C := fun C => ⟨T.tgA C⟩; haveI : InsOk Γ "Order" := ⟨T.in_Order⟩; haveI : XmC Γ xmK (.ref (Γ.cl "BadText")) := ⟨xmOk T⟩
  exact okS (j := 5) (b := sh__law_draw) T.F__law_draw sc__law_draw rfl (fun cdv A outer s H E hr => ⟨_, (pss_cons (ps_if (pt_cmpR o_gt (pe_ix (k_ix Γ.K) (pv 0) pe_int (fun _ _ => rfl)) pe_int (nomark _))
        (pss_cons (ps_set (i := 2) sc__law_draw.nd rfl (.inl rfl) (pe_op o_mod (pe_callTy c_int (by rfl) T.z_int (by decide +kernel) (pa_cons (pe_ix (k_ix Γ.K) (pv 0) pe_int (fun _ _ => rfl)) pa_nil)) (pv 1)))
      (pss_cons (ps_asg (pe_op o_div (pe_ix (k_ix Γ.K) (pv 0) pe_int (fun _ _ => rfl)) (pv 1)) (pg_sub (pv 0) pe_int set_list))
      (pss_one (ps_ret (pv 2)))))
        pss_nil)
      (pss_cons (ps_set (i := 3) sc__law_draw.nd rfl (.inl rfl) (pe_ix (k_ix Γ.K) (pv 0) pe_int (fun _ _ => rfl)))
      (pss_cons (ps_asg (pe_op (k_add Γ.K) (pv 3) pe_int) (pg_sub (pv 0) pe_int set_list))
      (pss_cons (ps_set (i := 4) sc__law_draw.nd rfl (.inl rfl) (pe_op (k_add Γ.K) (pe_op o_mul pe_int (pv 3)) pe_int))
      (pss_cons (ps_if (pt_cmpR (k_ne Γ.K hr.units) (pe_ix (k_ix Γ.K) (pv 0) pe_int (fun _ _ => rfl)) (pe_lst pa_nil) (nomark _))
        (pss_one (ps_set (i := 4) sc__law_draw.nd rfl (.inl rfl) (pe_ix (k_ix Γ.K) (pe_ix (k_ix Γ.K) (pv 0) pe_int (fun _ _ => rfl)) (pe_op o_mod (pe_callTy c_int (by rfl) T.z_int (by decide +kernel) (pa_cons (pv 3) pa_nil)) (pe_callB (k_len Γ.K) (by rfl) T.z_len (by decide +kernel) (pa_cons (pe_ix (k_ix Γ.K) (pv 0) pe_int (fun _ _ => rfl)) pa_nil))) (fun _ _ => rfl))))
        pss_nil)
      (pss_cons (ps_if (PW.pt (pw_and (pt_cmpR o_lt (pv 3) (pe_callB (k_len Γ.K) (by rfl) T.z_len (by decide +kernel) (pa_cons (pe_ix (k_ix Γ.K) (pv 0) pe_int (fun _ _ => rfl)) pa_nil)) (nomark _)) (pw_and1 (pt_cmpR o_ge (pe_callB c_abs (by rfl) T.z_abs (by decide +kernel) (pa_cons (pv 4) pa_nil)) (pe_op o_pow pe_int pe_int) (nomark _)))))
        (pss_cons (ps_set (i := 5) sc__law_draw.nd rfl (.inl rfl) (pe_op (k_add Γ.K) (pe_op o_mul pe_int (pe_callB c_abs (by rfl) T.z_abs (by decide +kernel) (pa_cons (pv 4) pa_nil))) (pe_callTy c_int (by rfl) T.z_int (by decide +kernel) (pa_cons (pe_cmpR o_lt (pv 4) pe_int (nomark _)) pa_nil))))
      (pss_cons (ps_asg (pe_op o_div (pv 5) (pv 1)) (pg_sub (pv 0) pe_int set_list))
      (pss_one (ps_ret (pe_op o_mod (pe_callTy c_int (by rfl) T.z_int (by decide +kernel) (pa_cons (pv 5) pa_nil)) (pv 1))))))
        pss_nil)
      (pss_cons (ps_set (i := 6) sc__law_draw.nd rfl (.inl rfl) (pe_op o_mod (pe_op o_pow (pe_callTy c_int (by rfl) T.z_int (by decide +kernel) (pa_cons (pe_op (k_add Γ.K) (pe_op (k_add Γ.K) (pe_op o_mod (pe_callTy c_int (by rfl) T.z_int (by decide +kernel) (pa_cons (pv 4) pa_nil)) pe_int) (pe_op o_mul pe_int (pv 3))) pe_int) pa_nil)) pe_int) pe_int))
      (pss_cons (ps_set (i := 6) sc__law_draw.nd rfl (.inl rfl) (pe_op o_mod (pe_op o_pow (pe_callTy c_int (by rfl) T.z_int (by decide +kernel) (pa_cons (pe_op (k_add Γ.K) (pe_op o_mul (pv 6) (pe_op (k_add Γ.K) (pe_op o_mul pe_int (pv 3)) pe_int)) pe_int) pa_nil)) pe_int) pe_int))
      (pss_one (ps_ret (pe_op o_mod (pe_callTy c_int (by rfl) T.z_int (by decide +kernel) (pa_cons (pe_op o_div (pv 6) pe_int) pa_nil)) (pv 1)))))))))))), by unfold sh__law_draw; (try dsimp only [cxOf]); infer_instance⟩)
theorem ok__law_pick (T : Tx Γ mg a)
    (G__law_draw : FnOk P w Γ.K mg base (L2.CX P w) 1 a.f__law_draw a.fd__law_draw P__law_draw (spOf Γ 2 F__law_draw)) : FnOk P w Γ.K mg base (L2.CX P w) 2 a.f__law_pick a.fd__law_pick P__law_pick (spOf Γ 2 F__law_pick) := by
  haveI := flOk T; haveI := xfOk T; haveI := sbOk T; haveI : ∀ C, IsOk Γ C := fun C => ⟨T.okA C⟩; haveI : ∀ C, IsTg Γ C := fun C => ⟨T.tgA C⟩; haveI : InsOk Γ "Order" := ⟨T.in_Order⟩; haveI : XmC Γ xmK (.ref (Γ.cl "BadText")) := ⟨xmOk T⟩
  exact okS (j := 0) (b := sh__law_pick) T.F__law_pick sc__law_pick rfl (fun cdv A outer s H E hr => ⟨_, (pss_one (ps_ret (pe_ix (k_ix Γ.K) (pv 1) (pe_call G__law_draw (hr.mono (by decide)) (by rfl) T.g__law_draw T.F__law_draw.kp T.b__law_draw .nil (passes_call (takes_of rfl rfl rfl rfl) fun _ _ _ _ h => h) (pa_cons (pv 0) (pa_cons (pe_callB (k_len Γ.K) (by rfl) T.z_len (by decide +kernel) (pa_cons (pv 1) pa_nil)) pa_nil))) (fun _ _ => rfl)))), by unfold sh__law_pick; (try dsimp only [cxOf]); infer_instance⟩)
theorem ok__law_mixed (T : Tx Γ mg a)
    (G__law_draw : FnOk P w Γ.K mg base (L2.CX P w) 1 a.f__law_draw a.fd__law_draw P__law_draw (spOf Γ 2 F__law_draw)) : FnOk P w Γ.K mg base (L2.CX P w) 2 a.f__law_mixed a.fd__law_mixed P__law_mixed (spOf Γ 2 F__law_mixed) := by
  haveI := flOk T; haveI := xfOk T; haveI := sbOk T; haveI : ∀ C, IsOk Γ C := fun C => ⟨T.okA C⟩; haveI : ∀ C, IsTg Γ C := fun C => ⟨T.tgA C⟩; haveI : InsOk Γ "Order" := ⟨T.in_Order⟩; haveI : XmC Γ xmK (.ref (Γ.cl "BadText")) := ⟨xmOk T⟩
  exact okS (j := 2) (b := sh__law_mixed) T.F__law_mixed sc__law_mixed rfl (fun cdv A outer s H E hr => ⟨_, (pss_cons (ps_set (i := 2) sc__law_mixed.nd rfl (.inr rfl) (pe_callTy (k_list Γ.K) (by rfl) T.z_list (by decide +kernel) (pa_cons (pv 1) pa_nil)))
      (pss_one (ps_ret (pe_lc (own := [("_law_turn", 3)]) rfl sc__law_mixed.nd (pi_range1 (by rfl) T.z_range (pa_cons (pe_callB (k_len Γ.K) (by rfl) T.z_len (by decide +kernel) (pa_cons (pv 2) pa_nil)) pa_nil)) (blkOk_by (own := [("_law_turn", 3)]) (N := N__law_mixed) (sc := defScope s__law_mixed) (by decide +kernel)) (fun _ _ _ _ _ => (pg_name (i := 3) sc__law_mixed.nd rfl (.inl rfl))) (fun _ _ _ _ _ => pts_nil) (fun _ _ _ _ _ => (pe_bmK Γ.K PySem.F.plainAttrs_list PySem.F.slot_list_pop PySem.F.type_list_pop k_popAt (pv 2) (pa_cons (pe_call G__law_draw (hr.mono (by decide)) (by rfl) T.g__law_draw T.F__law_draw.kp T.b__law_draw .nil passL (pa_cons (pv 0) (pa_cons (pe_callB (k_len Γ.K) (by rfl) T.z_len (by decide +kernel) (pa_cons (pv 2) pa_nil)) pa_nil))) pa_nil))))))), by unfold sh__law_mixed; (try dsimp only [cxOf]); infer_instance⟩)
theorem ok__law_spots (T : Tx Γ mg a)
    (G__law_draw : FnOk P w Γ.K mg base (L2.CX P w) 1 a.f__law_draw a.fd__law_draw P__law_draw (spOf Γ 2 F__law_draw))
    (G__law_mixed : FnOk P w Γ.K mg base (L2.CX P w) 2 a.f__law_mixed a.fd__law_mixed P__law_mixed (spOf Γ 2 F__law_mixed)) : FnOk P w Γ.K mg base (L2.CX P w) 3 a.f__law_spots a.fd__law_spots P__law_spots (spOf Γ 2 F__law_spots) := by
  haveI := flOk T; haveI := xfOk T; haveI := sbOk T; haveI : ∀ C, IsOk Γ C := fun C => ⟨T.okA C⟩; haveI : ∀ C, IsTg Γ C := fun C => ⟨T.tgA C⟩; haveI : InsOk Γ "Order" := ⟨T.in_Order⟩; haveI : XmC Γ xmK (.ref (Γ.cl "BadText")) := ⟨xmOk T⟩
  exact okS (j := 5) (b := sh__law_spots) T.F__law_spots sc__law_spots rfl (fun cdv A outer s H E hr => ⟨_, (pss_cons (ps_set (i := 2) sc__law_spots.nd rfl (.inl rfl) (pe_call G__law_draw (hr.mono (by decide)) (by rfl) T.g__law_draw T.F__law_draw.kp T.b__law_draw .nil (passes_call (takes_of rfl rfl rfl rfl) fun _ _ _ _ h => h) (pa_cons (pv 0) (pa_cons pe_int pa_nil))))
      (pss_cons (ps_set (i := 3) sc__law_spots.nd rfl (.inl rfl) (pe_listRg rfl (by rfl) T.z_list (prg_1 (by rfl) T.z_range (pv 1))))
      (pss_cons (ps_if (pt_cmpR (k_eq Γ.K hr.units) (pv 2) pe_int (nomark _))
        (pss_one (ps_ret (pe_revK Γ.K (pv 3))))
        pss_nil)
      (pss_cons (ps_if (pt_cmpR (k_eq Γ.K hr.units) (pv 2) pe_int (nomark _))
        (pss_cons (ps_set (i := 4) sc__law_spots.nd rfl (.inl rfl) (pe_call G__law_draw (hr.mono (by decide)) (by rfl) T.g__law_draw T.F__law_draw.kp T.b__law_draw .nil (passes_call (takes_of rfl rfl rfl rfl) fun _ _ _ _ h => h) (pa_cons (pv 0) (pa_cons (pv 1) pa_nil))))
      (pss_one (ps_ret (pe_op (k_add Γ.K) (pe_slice (k_sl Γ.K) (pv 3) (po_some (pv 4)) po_none) (pe_slice (k_sl Γ.K) (pv 3) po_none (po_some (pv 4)))))))
        pss_nil)
      (pss_cons (ps_if (pt_cmpR (k_eq Γ.K hr.units) (pv 2) pe_int (nomark _))
        (pss_cons (ps_set (i := 5) sc__law_spots.nd rfl (.inl rfl) (pe_call G__law_draw (hr.mono (by decide)) (by rfl) T.g__law_draw T.F__law_draw.kp T.b__law_draw .nil (passes_call (takes_of rfl rfl rfl rfl) fun _ _ _ _ h => h) (pa_cons (pv 0) (pa_cons (pv 1) pa_nil))))
      (pss_cons (ps_set (i := 6) sc__law_spots.nd rfl (.inl rfl) (pe_call G__law_draw (hr.mono (by decide)) (by rfl) T.g__law_draw T.F__law_draw.kp T.b__law_draw .nil (passes_call (takes_of rfl rfl rfl rfl) fun _ _ _ _ h => h) (pa_cons (pv 0) (pa_cons (pv 1) pa_nil))))
      (pss_cons (ps_asg (pv 6) (pg_sub (pv 3) (pv 5) set_list))
      (pss_one (ps_asg (pv 5) (pg_sub (pv 3) (pv 6) set_list))))))
        pss_nil)
      (pss_cons (ps_if (pt_cmpR o_gt (pv 2) pe_int (nomark _))
        (pss_one (ps_ret (pe_call G__law_mixed (hr.mono (by decide)) (by rfl) T.g__law_mixed T.F__law_mixed.kp T.b__law_mixed .nil (passes_call (takes_of rfl rfl rfl rfl) fun _ _ _ _ h => h) (pa_cons (pv 0) (pa_cons (pv 3) pa_nil)))))
        pss_nil)
      (pss_one (ps_ret (pv 3))))))))), by unfold sh__law_spots; (try dsimp only [cxOf]); infer_instance⟩)
theorem ok__law_worths (T : Tx Γ mg a)
    (G_Order___len__ : FnOk P w Γ.K mg base (L2.CX P w) 1 a.f_Order___len__ a.fd_Order___len__ P_Order___len__ (spOf Γ 1 F_Order___len__))
    (G_Order___getitem__ : FnOk P w Γ.K mg base (L2.CX P w) 4 a.f_Order___getitem__ a.fd_Order___getitem__ P_Order___getitem__ (spOf Γ 2 F_Order___getitem__)) : FnOk P w Γ.K mg base (L2.CX P w) 7 a.f__law_worths a.fd__law_worths P__law_worths (spOf Γ 1 F__law_worths) := by
  haveI := flOk T; haveI := xfOk T; haveI := sbOk T; haveI : ∀ C, IsOk Γ C := fun C => ⟨T.okA C⟩; haveI : ∀ C, IsTg Γ C := fun C => ⟨T.tgA C⟩; haveI : InsOk Γ "Order" := ⟨T.in_Order⟩; haveI : XmC Γ xmK (.ref (Γ.cl "BadText")) := ⟨xmOk T⟩
  exact okS (j := 1) (b := sh__law_worths) T.F__law_worths sc__law_worths rfl (fun cdv A outer s H E hr => ⟨_, (pss_one (ps_ret (pe_lc (own := [("_law_at", 1)]) rfl sc__law_worths.nd (pi_range1 (by rfl) T.z_range (pa_cons (pe_callB (cr_or (k_len Γ.K) (c_lenO (own_of T.m_Order___len__) G_Order___len__ (hr.mono (by decide)) T.b_Order___len__ (passes_call (takes_of rfl rfl rfl rfl) fun _ _ _ _ h => h))) (by rfl) T.z_len (by decide +kernel) (pa_cons (pv 0) pa_nil)) pa_nil)) (blkOk_by (own := [("_law_at", 1)]) (N := N__law_worths) (sc := defScope s__law_worths) (by decide +kernel)) (fun _ _ _ _ _ => (pg_name (i := 1) sc__law_worths.nd rfl (.inl rfl))) (fun _ _ _ _ _ => pts_nil) (fun _ _ _ _ _ => (pe_ixO (own_of T.m_Order___getitem__) (fnIn_of T.F_Order___getitem__) G_Order___getitem__ (hr.mono (by decide)) T.b_Order___getitem__ passL (pv 0) (pv 1) (fun _ _ => rfl)))))), by unfold sh__law_worths; (try dsimp only [cxOf]); infer_instance⟩)
theorem ok__law_compared (T : Tx Γ mg a)
    (G_Order___init__ : FnOk P w Γ.K mg base (L2.CX P w) 4 a.f_Order___init__ a.fd_Order___init__ P_Order___init__ (spOf Γ 2 F_Order___init__))
    (G_Order___eq__ : FnOk P w Γ.K mg base (L2.CX P w) 1 a.f_Order___eq__ a.fd_Order___eq__ P_Order___eq__ (spOf Γ 2 F_Order___eq__))
    (G_Order___ge__ : FnOk P w Γ.K mg base (L2.CX P w) 1 a.f_Order___ge__ a.fd_Order___ge__ P_Order___ge__ (spOf Γ 2 F_Order___ge__))
    (G_Order___gt__ : FnOk P w Γ.K mg base (L2.CX P w) 1 a.f_Order___gt__ a.fd_Order___gt__ P_Order___gt__ (spOf Γ 2 F_Order___gt__))
    (G_Order___le__ : FnOk P w Γ.K mg base (L2.CX P w) 1 a.f_Order___le__ a.fd_Order___le__ P_Order___le__ (spOf Γ 2 F_Order___le__))
    (G_Order___lt__ : FnOk P w Γ.K mg base (L2.CX P w) 1 a.f_Order___lt__ a.fd_Order___lt__ P_Order___lt__ (spOf Γ 2 F_Order___lt__)) : FnOk P w Γ.K mg base (L2.CX P w) 6 a.f__law_compared a.fd__law_compared P__law_compared (spOf Γ 2 F__law_compared) := by
  haveI := flOk T; haveI := xfOk T; haveI := sbOk T; haveI : ∀ C, IsOk Γ C := fun C => ⟨T.okA C⟩; haveI : ∀ C, IsTg Γ C := fun C => ⟨T.tgA C⟩; haveI : InsOk Γ "Order" := ⟨T.in_Order⟩; haveI : XmC Γ xmK (.ref (Γ.cl "BadText")) := ⟨xmOk T⟩
  exact okS (j := 3) (b := sh__law_compared) T.F__law_compared sc__law_compared rfl (fun cdv A outer s H E hr => ⟨_, (pss_cons (ps_set (i := 2) sc__law_compared.nd rfl (.inl rfl) (pe_make T.mk_Order G_Order___init__ (hr.mono (by decide)) (by rfl) T.g_Order T.b_Order___init__ .nil (passes_call (takes_of rfl rfl rfl rfl) fun _ _ _ _ h => h) (pa_cons (pv 0) pa_nil)))
      (pss_cons (ps_set (i := 3) sc__law_compared.nd rfl (.inl rfl) (pe_make T.mk_Order G_Order___init__ (hr.mono (by decide)) (by rfl) T.g_Order T.b_Order___init__ .nil (passes_call (takes_of rfl rfl rfl rfl) fun _ _ _ _ h => h) (pa_cons (pv 1) pa_nil)))
      (pss_cons (ps_set (i := 4) sc__law_compared.nd rfl (.inl rfl) (pe_lst (pa_cons (pe_cmpR (orR_or (k_ltX Γ.K hr.units) (o_cmpL (fun _ _ => rfl) (own_of T.m_Order___lt__) G_Order___lt__ (hr.mono (by decide)) T.b_Order___lt__ (passes_call (takes_of rfl rfl rfl rfl) fun _ _ _ _ h => h))) (pv 2) (pv 3) (nomark _)) (pa_cons (pe_cmpR (orR_or (k_leX Γ.K hr.units) (o_cmpL (fun _ _ => rfl) (own_of T.m_Order___le__) G_Order___le__ (hr.mono (by decide)) T.b_Order___le__ (passes_call (takes_of rfl rfl rfl rfl) fun _ _ _ _ h => h))) (pv 2) (pv 3) (nomark _)) (pa_cons (pe_cmpR (orR_or (k_gtX Γ.K hr.units) (o_cmpL (fun _ _ => rfl) (own_of T.m_Order___gt__) G_Order___gt__ (hr.mono (by decide)) T.b_Order___gt__ (passes_call (takes_of rfl rfl rfl rfl) fun _ _ _ _ h => h))) (pv 2) (pv 3) (nomark _)) (pa_cons (pe_cmpR (orR_or (k_geX Γ.K hr.units) (o_cmpL (fun _ _ => rfl) (own_of T.m_Order___ge__) G_Order___ge__ (hr.mono (by decide)) T.b_Order___ge__ (passes_call (takes_of rfl rfl rfl rfl) fun _ _ _ _ h => h))) (pv 2) (pv 3) (nomark _)) (pa_cons (pe_cmpR (orR_or (orR_or (k_eq Γ.K hr.units) (o_cmpL (fun _ _ => rfl) (own_of T.m_Order___eq__) G_Order___eq__ (hr.mono (by decide)) T.b_Order___eq__ (passes_call (takes_of rfl rfl rfl rfl) fun _ _ _ _ h => h))) (o_eqR T.obt_Order (own_of T.m_Order___eq__) G_Order___eq__ (hr.mono (by decide)) T.b_Order___eq__ (passes_call (takes_of rfl rfl rfl rfl) fun _ _ _ _ h => h))) (pv 2) (pv 3) (nomark _)) (pa_cons (pe_cmpR (orR_or (k_ne Γ.K hr.units) (o_neL T.one_Order T.in_Order.c.hm (own_of T.m_Order___eq__) G_Order___eq__ (hr.mono (by decide)) T.b_Order___eq__ (passes_call (takes_of rfl rfl rfl rfl) fun _ _ _ _ h => h))) (pv 2) (pv 3) (nomark _)) pa_nil))))))))
      (pss_one (ps_ret (pe_cmpR (k_eq Γ.K hr.units) (pv 4) (pe_lst (pa_cons (pe_cmpR (k_ltX Γ.K hr.units) (pv 0) (pv 1) (nomark _)) (pa_cons (pe_cmpR (k_leX Γ.K hr.units) (pv 0) (pv 1) (nomark _)) (pa_cons (pe_cmpR (k_gtX Γ.K hr.units) (pv 0) (pv 1) (nomark _)) (pa_cons (pe_cmpR (k_geX Γ.K hr.units) (pv 0) (pv 1) (nomark _)) (pa_cons (pe_cmpR (k_eq Γ.K hr.units) (pv 0) (pv 1) (nomark _)) (pa_cons (pe_cmpR (k_ne Γ.K hr.units) (pv 0) (pv 1) (nomark _)) pa_nil))))))) (nomark _))))))), by unfold sh__law_compared; (try dsimp only [cxOf]); infer_instance⟩)
theorem ok__law_bent (T : Tx Γ mg a)
    (G__law_draw : FnOk P w Γ.K mg base (L2.CX P w) 1 a.f__law_draw a.fd__law_draw P__law_draw (spOf Γ 2 F__law_draw))
    (G__law_pick : FnOk P w Γ.K mg base (L2.CX P w) 2 a.f__law_pick a.fd__law_pick P__law_pick (spOf Γ 2 F__law_pick)) : FnOk P w Γ.K mg base (L2.CX P w) 3 a.f__law_bent a.fd__law_bent P__law_bent (spOf Γ 2 F__law_bent) := by
  haveI := flOk T; haveI := xfOk T; haveI := sbOk T; haveI : ∀ C, IsOk Γ C := fun C => ⟨T.okA C⟩; haveI : ∀ C, IsTg Γ C := fun C => ⟨T.tgA C⟩; haveI : InsOk Γ "Order" := ⟨T.in_Order⟩; haveI : XmC Γ xmK (.ref (Γ.cl "BadText")) := ⟨xmOk T⟩
  exact okS (j := 5) (b := sh__law_bent) T.F__law_bent sc__law_bent rfl (fun cdv A outer s H E hr => ⟨_, (pss_cons (ps_set (i := 2) sc__law_bent.nd rfl (.inl rfl) (pe_call G__law_draw (hr.mono (by decide)) (by rfl) T.g__law_draw T.F__law_draw.kp T.b__law_draw .nil (passes_call (takes_of rfl rfl rfl rfl) fun _ _ _ _ h => h) (pa_cons (pv 0) (pa_cons (pe_callB (k_len Γ.K) (by rfl) T.z_len (by decide +kernel) (pa_cons (pv 1) pa_nil)) pa_nil))))
      (pss_cons (ps_set (i := 3) sc__law_bent.nd rfl (.inl rfl) (pe_lst (pa_cons (pe_ix (k_ix Γ.K) (pv 1) (pe_op o_sub (pv 2) pe_int) (fun _ _ => rfl)) (pa_cons (pe_callTy c_str (by rfl) T.z_str (by decide +kernel) (pa_cons (pe_callB (k_len Γ.K) (by rfl) T.z_len (by decide +kernel) (pa_cons (pv 1) pa_nil)) pa_nil)) (pa_cons (pe_op (k_add Γ.K) pe_str (pe_ix (k_ix Γ.K) (pv 1) (pv 2) (fun _ _ => rfl))) (pa_cons pe_str (pa_cons (pe_op (k_add Γ.K) pe_str (pe_ix (k_ix Γ.K) (pv 1) (pv 2) (fun _ _ => rfl))) (pa_cons pe_str (pa_cons (pe_op (k_add Γ.K) (pe_ix (k_ix Γ.K) (pv 1) (pv 2) (fun _ _ => rfl)) pe_str) (pa_cons pe_str (pa_cons pe_str pa_nil)))))))))))
      (pss_cons (ps_set (i := 3) sc__law_bent.nd rfl (.inl rfl) (pe_op (k_add Γ.K) (pv 3) (pe_lst (pa_cons pe_str (pa_cons (pe_callTy c_str (by rfl) T.z_str (by decide +kernel) (pa_cons (pe_op o_pow pe_int pe_int) pa_nil)) (pa_cons pe_str (pa_cons (pe_ix (k_ix Γ.K) (pv 1) (pv 2) (fun _ _ => rfl)) (pa_cons pe_str pa_nil))))))))
      (pss_cons (ps_set (i := 4) sc__law_bent.nd rfl (.inl rfl) (pe_call G__law_pick (hr.mono (by decide)) (by rfl) T.g__law_pick T.F__law_pick.kp T.b__law_pick .nil (passes_call (takes_of rfl rfl rfl rfl) fun _ _ _ _ h => h) (pa_cons (pv 0) (pa_cons (pv 3) pa_nil))))
      (pss_cons (ps_set (i := 5) sc__law_bent.nd rfl (.inl rfl) (pe_call G__law_draw (hr.mono (by decide)) (by rfl) T.g__law_draw T.F__law_draw.kp T.b__law_draw .nil (passes_call (takes_of rfl rfl rfl rfl) fun _ _ _ _ h => h) (pa_cons (pv 0) (pa_cons pe_int pa_nil))))
      (pss_cons (ps_if (pt_cmpR (k_eq Γ.K hr.units) (pv 5) pe_int (nomark _))
        (pss_one (ps_ret (pe_op (k_add Γ.K) (pe_slice (k_sl Γ.K) (pv 1) po_none (po_some (pv 2))) (pe_slice (k_sl Γ.K) (pv 1) (po_some (pe_op (k_add Γ.K) (pv 2) pe_int)) po_none))))
        pss_nil)
      (pss_cons (ps_if (pt_cmpR (k_eq Γ.K hr.units) (pv 5) pe_int (nomark _))
        (pss_one (ps_ret (pe_op (k_add Γ.K) (pe_op (k_add Γ.K) (pe_slice (k_sl Γ.K) (pv 1) po_none (po_some (pv 2))) (pe_lst (pa_cons (pv 4) pa_nil))) (pe_slice (k_sl Γ.K) (pv 1) (po_some (pv 2)) po_none))))
        pss_nil)
      (pss_cons (ps_if (pt_cmpR (k_eq Γ.K hr.units) (pv 5) pe_int (nomark _))
        (pss_one (ps_ret (pe_op (k_add Γ.K) (pv 1) (pe_lc (own := [("_law_k", 6)]) rfl sc__law_bent.nd (pi_range1 (by rfl) T.z_range (pa_cons (pe_call G__law_draw (hr.mono (by decide)) (by rfl) T.g__law_draw T.F__law_draw.kp T.b__law_draw .nil (passes_call (takes_of rfl rfl rfl rfl) fun _ _ _ _ h => h) (pa_cons (pv 0) (pa_cons pe_int pa_nil))) pa_nil)) (blkOk_by (own := [("_law_k", 6)]) (N := N__law_bent) (sc := defScope s__law_bent) (by decide +kernel)) (fun _ _ _ _ _ => (pg_name (i := 6) sc__law_bent.nd rfl (.inl rfl))) (fun _ _ _ _ _ => pts_nil) (fun _ _ _ _ _ => (pe_callTy c_str (by rfl) T.z_str (by decide +kernel) (pa_cons (pe_op (k_add Γ.K) (pe_callB (k_len Γ.K) (by rfl) T.z_len (by decide +kernel) (pa_cons (pv 1) pa_nil)) (pv 6)) pa_nil)))))))
        pss_nil)
      (pss_one (ps_ret (pe_op (k_add Γ.K) (pe_op (k_add Γ.K) (pe_slice (k_sl Γ.K) (pv 1) po_none (po_some (pv 2))) (pe_lst (pa_cons (pv 4) pa_nil))) (pe_slice (k_sl Γ.K) (pv 1) (po_some (pe_op (k_add Γ.K) (pv 2) pe_int)) po_none)))))))))))), by unfold sh__law_bent; (try dsimp only [cxOf]); infer_instance⟩)
end
end R
end

section
namespace R
open PySem PySem.Spec PyProof.Rows L2 Z LamX S
section
variable {P : Program} {w : World} {mg : Str → Option Value} {base : Heap} {Γ : Wd} {a : Ad}
theorem ok__law_fault (T : Tx Γ mg a) : FnOk P w Γ.K mg base (L2.CX P w) 1 a.f__law_fault a.fd__law_fault P__law_fault (spOf Γ 1 F__law_fault) := by
  haveI := flOk T; haveI := xfOk T; haveI := sbOk T; haveI : ∀ C, IsOk Γ C := fun C => ⟨T.okA C⟩; haveI : ∀ C, IsTg Γ C := fun C => ⟨T.tgA C⟩; haveI : InsOk Γ "Order" := ⟨T.in_Order⟩; haveI : XmC Γ xmK (.ref (Γ.cl "BadText")) := ⟨xmOk T⟩
  exact okS (j := 6) (b := sh__law_fault) T.F__law_fault sc__law_fault rfl (fun cdv A outer s H E hr => ⟨_, (pss_cons (ps_set (i := 1) sc__law_fault.nd rfl (.inl rfl) (pe_bm PySem.F.plainAttrs_str PySem.F.slot_str_split PySem.F.type_str_split k_split (pv 0) (pa_cons pe_str pa_nil)))
      (pss_cons (ps_setLc (i := 2) (own := [("_law_k", 6)]) rfl sc__law_fault.nd rfl rfl (sw_true rfl rfl rfl (by decide +kernel)) (pi_range1 (by rfl) T.z_range (pa_cons (pe_callB (k_len Γ.K) (by rfl) T.z_len (by decide +kernel) (pa_cons (pv 1) pa_nil)) pa_nil)) (blkOk_by (own := [("_law_k", 6)]) (N := N__law_fault) (sc := defScope s__law_fault) (by decide +kernel)) (fun _ _ _ _ _ => (pg_name (i := 6) sc__law_fault.nd rfl (.inl rfl))) (fun _ _ _ _ _ => pts_nil) (fun _ _ _ _ _ => (pe_callTy c_str (by rfl) T.z_str (by decide +kernel) (pa_cons (pv 6) pa_nil))))
      (pss_cons (ps_set (i := 3) sc__law_fault.nd rfl (.inl rfl) (pe_lst pa_nil))
      (pss_cons (ps_for (passes_of rfl) rfl (pi_enX Γ.K (by rfl) T.z_enumerate (pa_cons (pv 1) pa_nil)) (pg_tup (n := 2) (by rfl) (pgs_cons (pg_name (i := 4) sc__law_fault.nd rfl (.inl rfl)) (pgs_cons (pg_name (i := 5) sc__law_fault.nd rfl (.inl rfl)) pgs_nil)))
        (pss_cons (ps_if (PW.pt (pw_or (pt_cmpR (k_eq Γ.K hr.units) (pv 4) pe_int (nomark _)) (pw_or (pt_cmpR (k_nin Γ.K) (pv 5) (pv 2) (by rfl)) (pw_or1 (pt_cmpR (k_in Γ.K) (pe_callTy c_int (by rfl) T.z_int (by decide +kernel) (pa_cons (pv 5) pa_nil)) (pv 3) (by rfl))))))
        (pss_one (ps_ret (pe_tup (pa_cons (pv 4) (pa_cons pe_non pa_nil)))))
        pss_nil)
      (pss_one (ps_expr (pe_bm PySem.F.plainAttrs_list PySem.F.slot_list_append PySem.F.type_list_append mt_append (pv 3) (pa_cons (pe_callTy c_int (by rfl) T.z_int (by decide +kernel) (pa_cons (pv 5) pa_nil)) pa_nil))))))
      (pss_one (ps_ret (pe_tup (pa_cons pe_non (pa_cons (pv 3) pa_nil))))))))), by unfold sh__law_fault; (try dsimp only [cxOf]); infer_instance⟩)
theorem ok__law_read (T : Tx Γ mg a)
    (G_Order_read : FnOk P w Γ.K mg base (L2.CX P w) 6 a.f_Order_read a.fd_Order_read P_Order_read (spOf Γ 2 F_Order_read))
    (G__law_worths : FnOk P w Γ.K mg base (L2.CX P w) 7 a.f__law_worths a.fd__law_worths P__law_worths (spOf Γ 1 F__law_worths)) : FnOk P w Γ.K mg base (L2.CX P w) 8 a.f__law_read a.fd__law_read P__law_read (spOf Γ 1 F__law_read) := by
  haveI := flOk T; haveI := xfOk T; haveI := sbOk T; haveI : ∀ C, IsOk Γ C := fun C => ⟨T.okA C⟩; haveI : ∀ C, IsTg Γ C := fun C => ⟨T.tgA C⟩; haveI : InsOk Γ "Order" := ⟨T.in_Order⟩; haveI : XmC Γ xmK (.ref (Γ.cl "BadText")) := ⟨xmOk T⟩
  exact okS (j := 3) (b := sh__law_read) T.F__law_read sc__law_read rfl (fun cdv A outer s H E hr => ⟨_, (pss_cons (ps_set (i := 1) sc__law_read.nd rfl (.inl rfl) pe_non)
      (pss_cons (ps_set (i := 2) sc__law_read.nd rfl (.inl rfl) pe_non)
      (pss_cons (ps_tryS (K := Γ.K) (c := .ref (Γ.cl "BadText")) (n := 4) (i := 3) (f := 1) (j := 2) (te := fun Ech => _) rfl rfl rfl sc__law_read.nd rfl rfl ⟨by rfl, by decide, .inl T.g_BadText⟩ (takes_of rfl rfl rfl rfl) (fun W pn xe tk => ps_tryE (fun te' he => ps_set (i := 1) sc__law_read.nd rfl (.inl rfl) he) (fun Ech hW => (ClX.pe_cmeth (pe_glob (v := .ref (Γ.cl "Order")) (by rfl) T.g_Order rfl) T.cr_Order T.cm_Order_read (fnR_of G_Order_read T.b_Order_read) (hr.mono (by decide)) (passes_call tk fun _ _ _ _ z => hW _ _ _ _ z) (pa_cons (pv 0) pa_nil)))) (fun a oe pn => ps_set (i := 2) sc__law_read.nd rfl (.inl rfl) (pv 3)))
      (pss_cons (ps_if (pt_cmpR o_isnt (pv 2) pe_non (nomark _))
        (pss_one (ps_ret (pe_lst (pa_cons pe_str (pa_cons (pe_xfK Γ.K (pv 2)) (pa_cons (pe_xfK Γ.K (pv 2)) pa_nil))))))
        pss_nil)
      (pss_one (ps_ret (pe_call G__law_worths (hr.mono (by decide)) (by rfl) T.g__law_worths T.F__law_worths.kp T.b__law_worths .nil (passes_call (takes_of rfl rfl rfl rfl) fun _ _ _ _ h => h) (pa_cons (pv 1) pa_nil)))))))), by unfold sh__law_read; (try dsimp only [cxOf]); infer_instance⟩)
theorem ok_law (T : Tx Γ mg a)
    (G__law_pen : FnOk P w Γ.K mg base (L2.CX P w) 1 a.f__law_pen a.fd__law_pen P__law_pen (spOf Γ 1 F__law_pen))
    (G__law_draw : FnOk P w Γ.K mg base (L2.CX P w) 1 a.f__law_draw a.fd__law_draw P__law_draw (spOf Γ 2 F__law_draw))
    (G__law_spots : FnOk P w Γ.K mg base (L2.CX P w) 3 a.f__law_spots a.fd__law_spots P__law_spots (spOf Γ 2 F__law_spots))
    (G__law_compared : FnOk P w Γ.K mg base (L2.CX P w) 6 a.f__law_compared a.fd__law_compared P__law_compared (spOf Γ 2 F__law_compared))
    (G_Order___init__ : FnOk P w Γ.K mg base (L2.CX P w) 4 a.f_Order___init__ a.fd_Order___init__ P_Order___init__ (spOf Γ 2 F_Order___init__))
    (G_Order___str__ : FnOk P w Γ.K mg base (L2.CX P w) 1 a.f_Order___str__ a.fd_Order___str__ P_Order___str__ (spOf Γ 1 F_Order___str__))
    (G_Order___eq__ : FnOk P w Γ.K mg base (L2.CX P w) 1 a.f_Order___eq__ a.fd_Order___eq__ P_Order___eq__ (spOf Γ 2 F_Order___eq__))
    (G_Order_read : FnOk P w Γ.K mg base (L2.CX P w) 6 a.f_Order_read a.fd_Order_read P_Order_read (spOf Γ 2 F_Order_read))
    (G__law_bent : FnOk P w Γ.K mg base (L2.CX P w) 3 a.f__law_bent a.fd__law_bent P__law_bent (spOf Γ 2 F__law_bent))
    (G__law_fault : FnOk P w Γ.K mg base (L2.CX P w) 1 a.f__law_fault a.fd__law_fault P__law_fault (spOf Γ 1 F__law_fault))
    (G__law_read : FnOk P w Γ.K mg base (L2.CX P w) 8 a.f__law_read a.fd__law_read P__law_read (spOf Γ 1 F__law_read))
    (G__law_pick : FnOk P w Γ.K mg base (L2.CX P w) 2 a.f__law_pick a.fd__law_pick P__law_pick (spOf Γ 2 F__law_pick)) : FnG P w Γ.K mg base (L2.CX P w) 9 a.f_law a.fd_law P_law (spOf Γ 1 F_law) := by
  haveI := flOk T; haveI := xfOk T; haveI := sbOk T; haveI : ∀ C, IsOk Γ C := fun C => ⟨T.okA C⟩; haveI : ∀ C, IsTg Γ C := fun C => ⟨T.tgA C⟩; haveI : InsOk Γ "Order" := ⟨T.in_Order⟩; haveI : XmC Γ xmK (.ref (Γ.cl "BadText")) := ⟨xmOk T⟩
  exact okSG (j := 13) (b := sh_law) T.F_law sc_law rfl (fun cdv A outer s H E hcd hg hr => ⟨_, (pss_cons (ps_set (i := 1) sc_law.nd rfl (.inl rfl) (pe_call G__law_pen (hr.mono (by decide)) (by rfl) T.g__law_pen T.F__law_pen.kp T.b__law_pen .nil (passes_call (takes_of rfl rfl rfl rfl) fun _ _ _ _ h => h) (pa_cons (pv 0) pa_nil)))
      (pss_cons (ps_for (passes_of rfl) rfl (pi_range1 (by rfl) T.z_range (pa_cons pe_int pa_nil)) (pg_name (i := 2) sc_law.nd rfl (.inl rfl))
        (pss_cons (ps_set (i := 3) sc_law.nd rfl (.inl rfl) (pe_op (k_add Γ.K) pe_int (pe_call G__law_draw (hr.mono (by decide)) (by rfl) T.g__law_draw T.F__law_draw.kp T.b__law_draw .nil (passes_call (takes_of rfl rfl rfl rfl) fun _ _ _ _ h => h) (pa_cons (pv 1) (pa_cons pe_int pa_nil)))))
      (pss_cons (ps_set (i := 4) sc_law.nd rfl (.inl rfl) (pe_call G__law_spots (hr.mono (by decide)) (by rfl) T.g__law_spots T.F__law_spots.kp T.b__law_spots .nil (passes_call (takes_of rfl rfl rfl rfl) fun _ _ _ _ h => h) (pa_cons (pv 1) (pa_cons (pv 3) pa_nil))))
      (pss_cons (ps_set (i := 5) sc_law.nd rfl (.inl rfl) (pe_callTy (k_list Γ.K) (by rfl) T.z_list (by decide +kernel) (pa_cons (pv 4) pa_nil)))
      (pss_cons (ps_set (i := 6) sc_law.nd rfl (.inl rfl) (pe_call G__law_draw (hr.mono (by decide)) (by rfl) T.g__law_draw T.F__law_draw.kp T.b__law_draw .nil (passes_call (takes_of rfl rfl rfl rfl) fun _ _ _ _ h => h) (pa_cons (pv 1) (pa_cons (pv 3) pa_nil))))
      (pss_cons (ps_asg (pe_ix (k_ix Γ.K) (pv 4) (pe_op o_sub (pv 3) pe_int) (fun _ _ => rfl)) (pg_sub (pv 5) (pv 6) set_list))
      (pss_cons (ps_asg (pe_ix (k_ix Γ.K) (pv 4) (pv 6) (fun _ _ => rfl)) (pg_sub (pv 5) (pe_op o_sub (pv 3) pe_int) set_list))
      (pss_cons (ps_set (i := 7) sc_law.nd rfl (.inl rfl) (pe_call G__law_spots (hr.mono (by decide)) (by rfl) T.g__law_spots T.F__law_spots.kp T.b__law_spots .nil (passes_call (takes_of rfl rfl rfl rfl) fun _ _ _ _ h => h) (pa_cons (pv 1) (pa_cons (pe_op (k_add Γ.K) pe_int (pe_call G__law_draw (hr.mono (by decide)) (by rfl) T.g__law_draw T.F__law_draw.kp T.b__law_draw .nil (passes_call (takes_of rfl rfl rfl rfl) fun _ _ _ _ h => h) (pa_cons (pv 1) (pa_cons pe_int pa_nil)))) pa_nil))))
      (pss_cons (ps_for (passes_of rfl) rfl (pi_any Γ.K (pe_lst (pa_cons (pv 5) (pa_cons (pv 7) (pa_cons (pv 4) pa_nil))))) (pg_name (i := 8) sc_law.nd rfl (.inl rfl))
        (pss_one (ps_if (PW.pt (pw_or (pt_not (pt_trK Γ.K (pe_call G__law_compared (hr.mono (by decide)) (by rfl) T.g__law_compared T.F__law_compared.kp T.b__law_compared .nil (passes_call (takes_of rfl rfl rfl rfl) fun _ _ _ _ h => h) (pa_cons (pv 4) (pa_cons (pv 8) pa_nil))) (by intro _; rfl))) (pw_or1 (pt_not (pt_trK Γ.K (pe_call G__law_compared (hr.mono (by decide)) (by rfl) T.g__law_compared T.F__law_compared.kp T.b__law_compared .nil (passes_call (takes_of rfl rfl rfl rfl) fun _ _ _ _ h => h) (pa_cons (pv 8) (pa_cons (pv 4) pa_nil))) (by intro _; rfl))))))
        (pss_one (ps_ret pe_bl))
        pss_nil)))
      (pss_cons (ps_set (i := 9) sc_law.nd rfl (.inl rfl) (pe_callTy (cr_or c_str (c_strO T.ostr_Order G_Order___str__ (hr.mono (by decide)) T.b_Order___str__ (passes_call (takes_of rfl rfl rfl rfl) fun _ _ _ _ h => h))) (by rfl) T.z_str (by decide +kernel) (pa_cons (pe_make T.mk_Order G_Order___init__ (hr.mono (by decide)) (by rfl) T.g_Order T.b_Order___init__ .nil (passes_call (takes_of rfl rfl rfl rfl) fun _ _ _ _ h => h) (pa_cons (pv 4) pa_nil)) pa_nil)))
      (pss_cons (ps_if (PW.pt (pw_or (pt_cmpR (orR_or (k_ne Γ.K hr.units) (o_neL T.one_Order T.in_Order.c.hm (own_of T.m_Order___eq__) G_Order___eq__ (hr.mono (by decide)) T.b_Order___eq__ (passes_call (takes_of rfl rfl rfl rfl) fun _ _ _ _ h => h))) (ClX.pe_cmeth (pe_glob (v := .ref (Γ.cl "Order")) (by rfl) T.g_Order rfl) T.cr_Order T.cm_Order_read (fnR_of G_Order_read T.b_Order_read) (hr.mono (by decide)) (passes_call (takes_of rfl rfl rfl rfl) fun _ _ _ _ h => h) (pa_cons (pv 9) pa_nil)) (pe_make T.mk_Order G_Order___init__ (hr.mono (by decide)) (by rfl) T.g_Order T.b_Order___init__ .nil (passes_call (takes_of rfl rfl rfl rfl) fun _ _ _ _ h => h) (pa_cons (pv 4) pa_nil)) (nomark _)) (pw_or1 (pt_cmpR (orR_or (k_ne Γ.K hr.units) (o_neL T.one_Order T.in_Order.c.hm (own_of T.m_Order___eq__) G_Order___eq__ (hr.mono (by decide)) T.b_Order___eq__ (passes_call (takes_of rfl rfl rfl rfl) fun _ _ _ _ h => h))) (pe_cmethK (gV := gKw [0]) (pe_glob (v := .ref (Γ.cl "Order")) (by rfl) T.g_Order rfl) T.cr_Order T.cm_Order_read (fnIn_of T.F_Order_read) G_Order_read (hr.mono (by decide)) (kb_Order_read_text T) (passes_call (takes_of rfl rfl rfl rfl) fun _ _ _ _ h => h) (pk_cons (pv 9) pk_nil)) (pe_make T.mk_Order G_Order___init__ (hr.mono (by decide)) (by rfl) T.g_Order T.b_Order___init__ .nil (passes_call (takes_of rfl rfl rfl rfl) fun _ _ _ _ h => h) (pa_cons (pv 4) pa_nil)) (nomark _)))))
        (pss_one (ps_ret pe_bl))
        pss_nil)
      (pss_cons (ps_for (passes_of rfl) rfl (pi_range1 (by rfl) T.z_range (pa_cons pe_int pa_nil)) (pg_name (i := 10) sc_law.nd rfl (.inl rfl))
        (pss_cons (ps_set (i := 11) sc_law.nd rfl (.inl rfl) (pe_bm PySem.F.plainAttrs_str PySem.F.slot_str_join PySem.F.type_str_join (k_join Γ.K) pe_str (pa_cons (pe_call G__law_bent (hr.mono (by decide)) (by rfl) T.g__law_bent T.F__law_bent.kp T.b__law_bent .nil (passes_call (takes_of rfl rfl rfl rfl) fun _ _ _ _ h => h) (pa_cons (pv 1) (pa_cons (pe_bm PySem.F.plainAttrs_str PySem.F.slot_str_split PySem.F.type_str_split k_split (pv 9) (pa_cons pe_str pa_nil)) pa_nil))) pa_nil)))
      (pss_cons (ps_asg (pe_call G__law_fault (hr.mono (by decide)) (by rfl) T.g__law_fault T.F__law_fault.kp T.b__law_fault .nil (passes_call (takes_of rfl rfl rfl rfl) fun _ _ _ _ h => h) (pa_cons (pv 11) pa_nil)) (pg_tup (n := 2) (by rfl) (pgs_cons (pg_name (i := 6) sc_law.nd rfl (.inl rfl)) (pgs_cons (pg_name (i := 12) sc_law.nd rfl (.inl rfl)) pgs_nil))))
      (pss_one (ps_if (pt_cmpR (k_ne Γ.K hr.units) (pe_call G__law_read (hr.mono (by decide)) (by rfl) T.g__law_read T.F__law_read.kp T.b__law_read .nil (passes_call (takes_of rfl rfl rfl rfl) fun _ _ _ _ h => h) (pa_cons (pv 11) pa_nil)) (pe_ifExp (pt_cmpR o_is (pv 6) pe_non (nomark _)) (pv 12) (pe_lst (pa_cons pe_str (pa_cons pe_int (pa_cons (pv 6) pa_nil))))) (nomark _))
        (pss_one (ps_ret pe_bl))
        pss_nil)))))
      (pss_cons (ps_set (i := 13) sc_law.nd rfl (.inl rfl) (pe_call G__law_pick (hr.mono (by decide)) (by rfl) T.g__law_pick T.F__law_pick.kp T.b__law_pick .nil (passes_call (takes_of rfl rfl rfl rfl) fun _ _ _ _ h => h) (pa_cons (pv 1) (pa_cons (pe_lst (pa_cons pe_non (pa_cons pe_int (pa_cons pe_bl (pa_cons (pv 4) (pa_cons (pe_callTy (k_tuple Γ.K) (by rfl) T.z_tuple (by decide +kernel) (pa_cons (pv 4) pa_nil)) (pa_cons pe_dnewK (pa_cons (pe_lst pa_nil) pa_nil)))))))) pa_nil))))
      (pss_one (ps_if (pt_cmpR (k_ne Γ.K hr.units) (pe_call G__law_read (hr.mono (by decide)) (by rfl) T.g__law_read T.F__law_read.kp T.b__law_read .nil (passes_call (takes_of rfl rfl rfl rfl) fun _ _ _ _ h => h) (pa_cons (pv 13) pa_nil)) (pe_lst (pa_cons pe_str (pa_cons pe_int (pa_cons pe_int pa_nil)))) (nomark _))
        (pss_one (ps_ret pe_bl))
        pss_nil)))))))))))))))
      (pss_one (ps_ret (pe_andK Γ.K (pe_cmpR (k_eq Γ.K hr.units) (pe_call G__law_read (hr.mono (by decide)) (by rfl) T.g__law_read T.F__law_read.kp T.b__law_read .nil (passes_call (takes_of rfl rfl rfl rfl) fun _ _ _ _ h => h) (pa_cons pe_str pa_nil)) (pe_lst (pa_cons pe_str (pa_cons pe_int (pa_cons pe_int pa_nil)))) (nomark _)) (pe_one (pe_cmpR (k_eq Γ.K hr.units) (pe_call G__law_read (hr.mono (by decide)) (by rfl) T.g__law_read T.F__law_read.kp T.b__law_read .nil (passes_call (takes_of rfl rfl rfl rfl) fun _ _ _ _ h => h) (pa_cons pe_str pa_nil)) (pe_lst (pa_cons pe_int pa_nil)) (nomark _)))))))), by unfold sh_law; (try dsimp only [cxOf]); infer_instance⟩)
end
end R
end

section
namespace R
open PySem PySem.Spec PyProof.Rows L2 Z LamX S
/-! ### k33: the draw -/
theorem draws : Draws F__law_draw := drawsQ rfl
end R
end

section
namespace R
open PySem PySem.Spec PyProof.Rows L2 Z LamX S
/-! ### k33: numbers of rows, places -/
/-- a value of data, no class, no object -/
def Plain : D → Prop
  | .ty _ => False
  | .cls _ => False
  | .scr _ => False
  | .obj _ _ _ => False
  | .exc _ _ _ => False
  | _ => True
def isI : D → Bool
  | .int _ => true
  | _ => false
def inD (lo hi : Int) : D → Bool
  | .int i => decide (lo ≤ i ∧ i ≤ hi)
  | _ => false
theorem is_integer_eq {d : D} (a : Plain d) : F_is_integer [.dat d] [] = .ok (.dat (.bl (isI d))) [] := by
  cases d <;> first | exact a.elim | simp [F_is_integer, fnOf, sh_is_integer, isiT, tyN, isTyB, isI, tyNs]
theorem is_between_eq {d : D} (a : Plain d) (lo hi : Int) : F_is_between [.dat d, .dat (.int lo), .dat (.int hi)] [] = .ok (.dat (.bl (inD lo hi d))) [] := by
  have c := callP_ok (n := 1) (F := F_is_integer) (ds := [d]) (h := []) rfl (is_integer_eq a)
  simp only [List.map_cons, List.map_nil] at c
  cases d <;> first | exact a.elim | skip
  case int i =>
    simp only [F_is_between, fnOf, sh_is_between]
    simp [c, isI, inD]
    by_cases h1 : lo ≤ i <;> by_cases h2 : i ≤ hi <;> simp [h1, h2]
  all_goals
    simp only [F_is_between, fnOf, sh_is_between]
    simp [c, isI, inD]
theorem boolsD_true : ∀ n : Nat, boolsD (List.replicate n (.bl true)) = some (List.replicate n true)
  | 0 => rfl
  | n + 1 => by rw [List.replicate_succ, List.replicate_succ]; unfold boolsD; rw [boolsD_true n]; rfl
theorem intsD_ints : ∀ ps : List Int, intsD (ps.map .int) = some ps
  | [] => rfl
  | p :: ps => by rw [List.map_cons]; unfold intsD; rw [intsD_ints ps]; rfl
theorem is_order_good {ps : List Int} (h1 : 1 ≤ ps.length) (h2 : ps.length ≤ 24) (hr : ∀ p ∈ ps, 0 ≤ p ∧ p ≤ (ps.length : Int) - 1) (nd : ps.Nodup) : F_is_order [.dat (.lst (ps.map .int))] [] = .ok (.dat (.bl true)) [] := by
  have sz : (ps.map D.int).length ≤ sizeLine := by rw [List.length_map, sizeLine_eq]; omega
  have sz0 : ([] : List D).length + ps.length ≤ sizeLine := by simp [sizeLine_eq]; omega
  have len : gLen [.lst (ps.map .int)] = some (.int (ps.length : Nat)) := by simp [gLen]
  have all : ∀ p ∈ ps, callP 3 F_is_between [.dat (.int p), .dat (.int 0), .dat (.int ((ps.length : Int) - 1))] [] = .ok (.dat (.bl true)) [] := fun p hp => by
    have c := callP_ok (n := 3) (F := F_is_between) (ds := [.int p, .int 0, .int ((ps.length : Int) - 1)]) (h := []) rfl (is_between_eq (d := .int p) trivial 0 ((ps.length : Int) - 1))
    simp only [List.map_cons, List.map_nil] at c
    rw [c]
    simp [inD, (hr p hp).1, (hr p hp).2]
  have first : ∀ te : EE, (∀ p ∈ ps, te [some (.dat (.lst (ps.map .int))), some (.dat (.int p))] [] = .ok (.dat (.bl true)) []) →
      lcS (gSet 1) eYes te (ps.map .int) [some (.dat (.lst (ps.map .int))), none] [] [] = .ok (.dat (.lst (List.replicate ps.length (.bl true)))) [] := fun te hte => by
    rw [lcS_of (f := D.int) (s1 := fun p => [some (.dat (.lst (ps.map .int))), some (.dat (.int p))]) (b := fun _ => true) (y := fun _ => .bl true) (fun p hp => ⟨rfl, rfl, fun _ => hte p hp⟩) sz0, List.filter_eq_self.mpr fun _ _ => rfl]
    simp [List.map_const']
  have second : ∀ te : EE, (∀ p ∈ ps, te [some (.dat (.lst (ps.map .int))), some (.dat (.int p))] [] = .ok (.dat (.int p)) []) →
      lcS (gSet 1) eYes te (ps.map .int) [some (.dat (.lst (ps.map .int))), none] [] [] = .ok (.dat (.lst (ps.map .int))) [] := fun te hte => by
    rw [lcS_of (f := D.int) (s1 := fun p => [some (.dat (.lst (ps.map .int))), some (.dat (.int p))]) (b := fun _ => true) (y := D.int) (fun p hp => ⟨rfl, rfl, fun _ => hte p hp⟩) sz0, List.filter_eq_self.mpr fun _ _ => rfl]
    simp
  have set_ : gLenSet [.dat (.lst (ps.map .int))] [] = .ok (.dat (.int (ps.length : Nat))) [] := by
    simp [gLenSet, setW, intsD_ints, show ps.length < 64 by omega, uniq_same nd]
  have isl : isiAny sbK (.lst (ps.map .int)) [.ty "list", .ty "tuple"] = some true := by simp [isiAny, isiOne, isiT, tyN, isTyB, tyNs]
  have lo : (1 : Int) ≤ (ps.length : Nat) := by omega
  have hi : ((ps.length : Nat) : Int) ≤ 24 := by omega
  have f1 := first (eCB (callP 3 F_is_between) (eCons (eVar 1) (eCons (eC (.int 0)) (eCons (eOp (op2 gSub) (eCB (opN gLen) (eCons (eVar 0) eNil)) (eC (.int 1))) eNil)))) (fun p hp => by simpa [len] using all p hp)
  have f2 := second (eCB (opN gInt) (eCons (eVar 1) eNil)) (fun p hp => by simp [gInt])
  have al : gAll [.lst (List.replicate ps.length (.bl true))] = some (.bl true) := by simp [gAll, boolsD_true]
  simp only [F_is_order, fnOf, sh_is_order]
  simp [eIsM, isl, len, lo, hi, wipeS, f1, f2, al, set_, gEq]
/-- enumerate of numbers -/
theorem enD_ints (ps : List Int) : enD (ps.map .int) = (List.range ps.length).map fun i => .tup [.int (i : Nat), .int (ps.getD i 0)] := by
  unfold enD
  apply List.ext_getElem
  · simp
  · intro i h1 h2
    simp at h1
    simp [List.getD_eq_getElem?_getD, h1]
/-- the place of g -/
theorem inner_good {ps : List Int} {s : En} {g : Int} (hg : g ∈ ps) (h24 : ps.length ≤ 24) (te : EE) (tt : ET) (st : Nat → En) (set_ : ∀ i, gTupS 2 (gConsS (gSet 2) (gConsS (gSet 3) gNilS)) (.dat (.tup [.int (i : Nat), .int (ps.getD i 0)])) s [] = .nx (st i) [])
    (test : ∀ i, tt (st i) [] = .ok (decide (ps.getD i 0 = g)) []) (elt : ∀ i, te (st i) [] = .ok (.dat (.int (i : Nat))) []) :
    ∃ i : Nat, ∃ r, lcS (gTupS 2 (gConsS (gSet 2) (gConsS (gSet 3) gNilS))) tt te (enD (ps.map .int)) s [] [] = .ok (.dat (.lst (.int (i : Nat) :: r))) [] := by
  rw [enD_ints, lcS_of (f := fun i : Nat => D.tup [.int (i : Nat), .int (ps.getD i 0)]) (s1 := st) (b := fun i => decide (ps.getD i 0 = g)) (y := fun i : Nat => .int (i : Nat)) (fun i _ => ⟨set_ i, test i, fun _ => elt i⟩) (by simp [sizeLine_eq]; omega)]
  obtain ⟨k, hk, ek⟩ := List.getElem_of_mem hg
  have mem : k ∈ (List.range ps.length).filter fun i => decide (ps.getD i 0 = g) := by
    simp [List.mem_filter, hk, List.getD_eq_getElem?_getD, ek]
  cases e : (List.range ps.length).filter fun i => decide (ps.getD i 0 = g) with
  | nil => rw [e] at mem; cases mem
  | cons i r => exact ⟨i, r.map fun i : Nat => .int (i : Nat), by simp⟩
theorem inv_rng (ps : List Int) (h24 : ps.length ≤ 24) : iRng1S (eCons (eCB (opN gLen) (eCons (eVar 0) eNil)) eNil) [some (.dat (.tup (ps.map .int))), none, none, none] [] = .ok (rngD 0 ps.length) [] := by
  have len : gLen [.tup (ps.map .int)] = some (.int (ps.length : Nat)) := by simp [gLen]
  rw [rng1_eq (h1 := []) (j := (ps.length : Nat)) (by simp [len])]
  exact rngR_nat (by omega)
def invElt : EE := eOp (op2 gIx) (eLc (iEnS (eCons (eVar 0) eNil)) (gTupS 2 (gConsS (gSet 2) (gConsS (gSet 3) gNilS))) (eTest (eOp (op2 gEq) (eVar 3) (eVar 1))) (eVar 2) [2, 3]) (eC (.int 0))
theorem inv_item {ps : List Int} (h24 : ps.length ≤ 24) {g : Int} (hg : g ∈ ps) : ∃ i : Nat, invElt [some (.dat (.tup (ps.map .int))), some (.dat (.int g)), none, none] [] = .ok (.dat (.int (i : Nat))) [] := by
  have en : iEnS (eCons (eVar 0) eNil) [some (.dat (.tup (ps.map .int))), some (.dat (.int g)), none, none] [] = .ok (enD (ps.map .int)) [] := by
    rw [iEn_eq (ws := [.dat (.tup (ps.map .int))]) (h1 := []) (by simp)]; rfl
  obtain ⟨i, r, e⟩ := inner_good (ps := ps) (s := [some (.dat (.tup (ps.map .int))), some (.dat (.int g)), none, none]) (g := g) hg h24 (eVar 2) (eTest (eOp (op2 gEq) (eVar 3) (eVar 1)))
    (fun i => [some (.dat (.tup (ps.map .int))), some (.dat (.int g)), some (.dat (.int (i : Nat))), some (.dat (.int (ps.getD i 0)))]) (fun i => by simp) (fun i => by simp [gEq]) (fun i => by simp)
  exact ⟨i, by simp [invElt, en, e, wipeS]⟩
theorem inv_run {ps : List Int} (h24 : ps.length ≤ 24) (all : ∀ g : Nat, g < ps.length → (g : Int) ∈ ps) : ∃ ys, lcS (gSet 1) eYes invElt (rngD 0 ps.length) [some (.dat (.tup (ps.map .int))), none, none, none] [] [] = .ok (.dat (.lst ys)) [] := by
  obtain ⟨ys, h', run, _, _, rfl⟩ := lcS_gen (g := gSet 1) (te := invElt) (s := [some (.dat (.tup (ps.map .int))), none, none, none]) (fun _ => True) (fun _ h => h = []) (rngD 0 ps.length) [] [] 0 rfl (fun j d h hj hd _ => by
      subst hj
      unfold rngD at hd
      obtain ⟨g, hg, rfl⟩ := List.mem_map.mp hd
      rw [Int.zero_add]
      obtain ⟨i, e⟩ := inv_item h24 (all g (List.mem_range.mp hg))
      exact ⟨[some (.dat (.tup (ps.map .int))), some (.dat (.int (g : Nat))), none, none], .int (i : Nat), [], rfl, e, trivial, rfl⟩)
    (by rw [rngD_len]; exact Nat.le_trans (by simpa using h24) (by decide : 24 ≤ sizeLine))
  exact ⟨_, run⟩
theorem ret_tuple {e : EE} {s : En} {h : MH} {ys : List D} (he : e s h = .ok (.dat (.lst ys)) h) : fin (sRet (eCB (opN gTuple) (eCons e eNil)) s h) = .ok (.dat (.tup ys)) h := by simp [he]
def invLc : EE := eLc (iRng1S (eCons (eCB (opN gLen) (eCons (eVar 0) eNil)) eNil)) (gSet 1) eYes invElt [1]
theorem inv_lc {ps : List Int} (h24 : ps.length ≤ 24) (all : ∀ g : Nat, g < ps.length → (g : Int) ∈ ps) : ∃ ys, invLc [some (.dat (.tup (ps.map .int))), none, none, none] [] = .ok (.dat (.lst ys)) [] := by
  obtain ⟨ys, e⟩ := inv_run h24 all
  refine ⟨ys, ?_⟩
  unfold invLc eLc
  rw [inv_rng ps h24]
  exact e
theorem inv_def : F_inverse = fnOf 3 (sRet (eCB (opN gTuple) (eCons invLc eNil))) := rfl
theorem inverse_good {ps : List Int} (h24 : ps.length ≤ 24) (all : ∀ g : Nat, g < ps.length → (g : Int) ∈ ps) : ∃ ys, F_inverse [.dat (.tup (ps.map .int))] [] = .ok (.dat (.tup ys)) [] := by
  obtain ⟨ys, e⟩ := inv_lc h24 all
  refine ⟨ys, ?_⟩
  rw [inv_def]
  unfold fnOf
  exact ret_tuple e
abbrev zs (L : List Nat) : List Int := L.map fun i : Nat => (i : Int)
def IsOrd (L : List Nat) (d : D) : Prop := ∃ gs, d = .obj "Order" ["places", "goes"] [.tup ((zs L).map .int), .tup gs]
def ini1 : SS := (sIf (eNot (eTr (eCB (callP 1 F_is_order) (eCons (eVar 1) eNil)))) (sRaise0 "BadOrder") sNext)
def ini2 : SS := (sFldS flK "places" (eVar 0) (eCB (opN gTuple) (eCons (eVar 1) eNil)))
def ini3 : SS := (sFldS flK "goes" (eVar 0) (eCB (callP 1 F_inverse) (eCons (eUn (op1 (gFld flK "places")) (eVar 0)) eNil)))
theorem ini_def : F_Order___init__ = fnOf 0 (sSeq ini1 (sSeq ini2 ini3)) := rfl
theorem goes_set {e : EE} {xs gs : List D} (he : e [some (.ref 0), some (.dat (.lst xs))] [.ins "Order" ["places"] [.dat (.tup xs)]] = .ok (.dat (.tup gs)) [.ins "Order" ["places"] [.dat (.tup xs)]]) : (sFldS flK "goes" (eVar 0) e) [some (.ref 0), some (.dat (.lst xs))] [.ins "Order" ["places"] [.dat (.tup xs)]] = .nx [some (.ref 0), some (.dat (.lst xs))] [.ins "Order" ["places", "goes"] [.dat (.tup xs), .dat (.tup gs)]] := by simp [he, flK]
theorem init_good {L : List Nat} {n : Nat} (p : L.Perm (List.range n)) (h1 : 1 ≤ n) (h2 : n ≤ 24) (h : MH) : ∃ d, IsOrd L d ∧ mkP "Order" 2 F_Order___init__ [.dat (.lst ((zs L).map .int))] h = .ok (.dat d) h := by
  have len : (zs L).length = n := by rw [List.length_map, p.length_eq, List.length_range]
  have io := is_order_good (ps := zs L) (by omega) (by omega) (fun q hq => by
    obtain ⟨i, hi, rfl⟩ := List.mem_map.mp hq
    have := List.mem_range.mp (p.mem_iff.mp hi)
    rw [len]; omega) (by
    rw [List.Nodup, List.pairwise_map]
    exact (p.nodup_iff.mpr List.nodup_range).imp fun {a b} h e => h (by omega))
  obtain ⟨gs, iv⟩ := inverse_good (ps := zs L) (by omega) (fun g hg => List.mem_map.mpr ⟨g, p.mem_iff.mpr (List.mem_range.mpr (by rw [← len]; exact hg)), rfl⟩)
  have c1 := callP_ok (n := 1) (F := F_is_order) (ds := [.lst ((zs L).map .int)]) (h := [.ins "Order" [] []]) rfl io
  have c2 := callP_ok (n := 1) (F := F_inverse) (ds := [.tup ((zs L).map .int)]) (h := [.ins "Order" ["places"] [.dat (.tup ((zs L).map .int))]]) rfl iv
  simp only [List.map_cons, List.map_nil] at c1 c2
  refine ⟨_, ⟨gs, rfl⟩, ?_⟩
  generalize (zs L).map D.int = xs at *
  have s1 : ini1 [some (.ref 0), some (.dat (.lst xs))] [.ins "Order" [] []] = .nx [some (.ref 0), some (.dat (.lst xs))] [.ins "Order" [] []] := by simp [ini1, c1]
  have s2 : ini2 [some (.ref 0), some (.dat (.lst xs))] [.ins "Order" [] []] = .nx [some (.ref 0), some (.dat (.lst xs))] [.ins "Order" ["places"] [.dat (.tup xs)]] := by simp [ini2, flK]
  have o : op1 (gFld flK "places") (.ref 0) [.ins "Order" ["places"] [.dat (.tup xs)]] = .ok (.dat (.tup xs)) [.ins "Order" ["places"] [.dat (.tup xs)]] := by
    have v : vw [.ins "Order" ["places"] [.dat (.tup xs)]] (.ref 0) = some (.obj "Order" ["places"] [.tup xs]) := rfl
    unfold op1
    rw [v]
    simp [flK]
  have a3 : eCons (eUn (op1 (gFld flK "places")) (eVar 0)) eNil [some (.ref 0), some (.dat (.lst xs))] [.ins "Order" ["places"] [.dat (.tup xs)]] = .ok [.dat (.tup xs)] [.ins "Order" ["places"] [.dat (.tup xs)]] := by simp [o]
  have s3 : ini3 [some (.ref 0), some (.dat (.lst xs))] [.ins "Order" ["places"] [.dat (.tup xs)]] = .nx [some (.ref 0), some (.dat (.lst xs))] [.ins "Order" ["places", "goes"] [.dat (.tup xs), .dat (.tup gs)]] := goes_set (cb_of a3 c2)
  have f : F_Order___init__ [.ref 0, .dat (.lst xs)] [.ins "Order" [] []] = .ok (.dat .non) [.ins "Order" ["places", "goes"] [.dat (.tup xs), .dat (.tup gs)]] := by
    rw [ini_def]
    unfold fnOf
    show fin (sSeq ini1 _ [some (.ref 0), some (.dat (.lst xs))] _) = _
    rw [seq_nx s1, seq_nx s2, s3]; rfl
  unfold mkP
  rw [if_pos (show [W.dat (.lst xs)].length + 1 = 2 from rfl)]
  simp only [datAll_cons, datAll_nil, Option.map_some, List.map_cons, List.map_nil, f]
  rfl
end R
end

section
namespace R
open PySem PySem.Spec PyProof.Rows L2 Z LamX S
open NumText (AllDigits digitsVal)
/-! ### k33: numbers as words, texts as words -/
def natS (k : Nat) : Str := Str.ofString (toString ((k : Nat) : Int))
theorem natS_cps (k : Nat) : (natS k).cps.toList = TL.numL k := PySem.W.KIN.signs_num k
theorem str_eq {a b : Str} (h : a.cps.toList = b.cps.toList) : a = b := by
  cases a; cases b
  congr 1
  exact Array.toList_inj.mp h
theorem natS_inj {m n : Nat} (h : natS m = natS n) : m = n := TL.numL_inj (by rw [← natS_cps, ← natS_cps, h])
theorem len_cps (w : Str) : w.cps.toList.length = w.length := by simp [Str.length]
theorem natS_len {k j : Nat} (hj : 0 < j) (h : k < 10 ^ j) : (natS k).length ≤ j := by
  rw [← len_cps, natS_cps]; exact TL.numL_len hj h
theorem natS_int {k : Nat} (h : k < 100000) : gInt [.str (natS k)] = some (.int (k : Nat)) := by
  have l := natS_len (j := 5) (k := k) (by omega) (by omega)
  have e : PySem.intText? (natS k) = some ((k : Nat) : Int) := PySem.W.KIN.num_reads (by omega) (by omega)
  unfold gInt
  simp only [e]
  rw [if_pos (by omega)]
theorem natS_str {k : Nat} (h : k < 1000000) : gStr [.int (k : Nat)] = some (.str (natS k)) := by
  unfold gStr
  dsimp only
  rw [if_pos]; · rfl
  rw [Int.natAbs_natCast]
  rcases Nat.eq_zero_or_pos k with z | z
  · rw [z]; decide
  · exact (Nat.log2_lt (by omega)).mpr (by
      have : (1000000 : Nat) < 2 ^ 20 := by decide
      have : (2 : Nat) ^ 20 ≤ 2 ^ 1920 := Nat.pow_le_pow_right (by omega) (by omega)
      omega)
/-- no nought ahead -/
theorem numL_head : ∀ n : Nat, 0 < n → ∃ c r, TL.numL n = c :: r ∧ 49 ≤ c := by
  intro n
  induction n using Nat.strongRecOn with
  | _ n ih =>
    intro h
    by_cases h10 : n < 10
    · exact ⟨48 + n, [], TL.numL_lt h10, by omega⟩
    · obtain ⟨c, r, e, l⟩ := ih (n / 10) (by omega) (by omega)
      exact ⟨c, r ++ [48 + n % 10], by rw [TL.numL_step (by omega), e]; rfl, l⟩
def valW (w : Str) : Nat := digitsVal w.cps.toList
theorem valW_nat (k : Nat) : valW (natS k) = k := by unfold valW; rw [natS_cps]; exact TL.numL_val k
/-- a word of digits without noughts ahead is its number's word -/
theorem word_num {w : Str} (ne : w.cps.toList ≠ []) (ad : AllDigits w.cps.toList) (hd : w.cps.toList = [48] ∨ ∃ c r, w.cps.toList = c :: r ∧ c ≠ 48) : w = natS (valW w) := by
  refine str_eq ?_
  rw [natS_cps]
  unfold valW TL.numL
  have l : ∃ n, w.cps.toList.length = n + 1 := by
    cases e : w.cps.toList with
    | nil => exact absurd e ne
    | cons c r => exact ⟨r.length, rfl⟩
  obtain ⟨n, hn⟩ := l
  rw [NumText.toDigits_digitsVal n _ hn ad (by
    rcases hd with e | ⟨c, r, e, h⟩
    · left; rw [e] at hn; simpa using hn.symm
    · right
      refine ⟨c, r, e, ?_⟩
      have := ad c (by rw [e]; exact List.mem_cons_self)
      omega), List.map_map]
  conv => lhs; rw [← List.map_id w.cps.toList]
  refine List.map_congr_left fun c hc => ?_
  have := ad c hc
  have : c = 48 ∨ c = 49 ∨ c = 50 ∨ c = 51 ∨ c = 52 ∨ c = 53 ∨ c = 54 ∨ c = 55 ∨ c = 56 ∨ c = 57 := by omega
  rcases this with rfl | rfl | rfl | rfl | rfl | rfl | rfl | rfl | rfl | rfl <;> rfl
abbrev nums (n : Nat) : List Str := (List.range n).map natS
theorem mem_nums {w : Str} {n : Nat} : w ∈ nums n ↔ ∃ k, k < n ∧ w = natS k := by
  rw [List.mem_map]
  exact ⟨fun ⟨k, h, e⟩ => ⟨k, List.mem_range.mp h, e.symm⟩, fun ⟨k, h, e⟩ => ⟨k, List.mem_range.mpr h, e.symm⟩⟩
theorem nums_val {w : Str} {n : Nat} (h : w ∈ nums n) : valW w < n ∧ w = natS (valW w) := by
  obtain ⟨k, hk, rfl⟩ := mem_nums.mp h
  rw [valW_nat]; exact ⟨hk, rfl⟩
/-- what is_number_below looks at -/
def digB (w : Str) : Bool := w.cps.toList.all fun c => decide (48 ≤ c ∧ c ≤ 57)
def nbB (w : Str) (n : Nat) : Bool := decide (w.cps.toList ≠ []) && (decide (w.length ≤ 4) && (digB w && ((decide (w.cps.toList = [48]) || decide (w.cps.toList.head? ≠ some 48)) && decide (valW w < n))))
theorem nb_iff {w : Str} {n : Nat} (hn : n ≤ 9999) : nbB w n = decide (w ∈ nums n) := by
  rw [Bool.eq_iff_iff, decide_eq_true_eq]
  unfold nbB digB
  simp only [Bool.and_eq_true, decide_eq_true_eq, Bool.or_eq_true, List.all_eq_true]
  constructor
  · rintro ⟨ne, l, ad, hd, lt⟩
    refine mem_nums.mpr ⟨valW w, lt, word_num ne ad ?_⟩
    rcases hd with e | h
    · exact .inl e
    · right
      cases e : w.cps.toList with
      | nil => exact absurd e ne
      | cons c r => exact ⟨c, r, rfl, fun z => h (by rw [e, z]; rfl)⟩
  · intro h
    obtain ⟨lt, e⟩ := nums_val h
    have c := natS_cps (valW w)
    rw [← e] at c
    refine ⟨by rw [c]; exact TL.numL_ne _, ?_, by rw [c]; exact TL.numL_digits _, ?_, lt⟩
    · rw [e]; exact natS_len (by omega) (by omega)
    · rcases Nat.eq_zero_or_pos (valW w) with z | z
      · left; rw [c, z]; exact TL.numL_lt (by omega)
      · right
        obtain ⟨d, r, e2, l⟩ := numL_head _ z
        rw [c, e2]
        simp only [List.head?_cons, ne_eq, Option.some.injEq]
        omega
/-! words of a text -/
abbrev spc : Str := " "
theorem spc_cps : spc = SX.S [32] := by decide +kernel
def wordsT (a : Str) : List Str := Txt.split a spc
theorem wordsT_eq (a : Str) : wordsT a = (TL.spl [32] 0 [] a.cps.toList).map SX.S := by
  unfold wordsT
  rw [spc_cps]
  conv => lhs; rw [← SX.S_tl a]
  exact SX.split_S (by simp) (by decide)
theorem spl_len : ∀ (l : List Nat) (k : Nat) (acc : List Nat), 1 ≤ (TL.spl [32] k acc l).length ∧ (TL.spl [32] k acc l).length ≤ l.length + 1
  | [], k, acc => by rw [TL.spl_nil]; simp
  | c :: r, 0, acc => by
    unfold TL.spl
    split
    · have := spl_len r 0 []
      show 1 ≤ (acc :: TL.spl [32] 0 [] r).length ∧ (acc :: TL.spl [32] 0 [] r).length ≤ _
      simp only [List.length_cons]; omega
    · have := spl_len r 0 (acc ++ [c])
      simp only [List.length_cons]; omega
  | c :: r, k + 1, acc => by
    unfold TL.spl
    have := spl_len r k acc
    simp only [List.length_cons]; omega
theorem words_len (a : Str) : 1 ≤ (wordsT a).length ∧ (wordsT a).length ≤ a.length + 1 := by
  rw [wordsT_eq, List.length_map, ← len_cps]
  exact spl_len _ _ _
/-- the words of a joined text -/
theorem words_join {ws : List Str} (ne : ws ≠ []) (h : ∀ w ∈ ws, 32 ∉ w.cps.toList) : wordsT (Txt.join spc ws) = ws := by
  have e : ws = (ws.map fun w => w.cps.toList).map SX.S := by
    rw [List.map_map]
    conv => lhs; rw [← List.map_id ws]
    exact List.map_congr_left fun w _ => (SX.S_tl w).symm
  have j : Txt.join spc ws = SX.S (TL.joinL [32] (ws.map fun w => w.cps.toList)) := by
    rw [spc_cps]
    conv => lhs; rw [e]
    exact SX.join_S _ _
  rw [wordsT_eq, j, show (SX.S (TL.joinL [32] (ws.map fun w => w.cps.toList))).cps.toList = TL.joinL [32] (ws.map fun w => w.cps.toList) from by simp [SX.S]]
  rw [SX.spl_join (by simpa using ne) (fun p hp => by obtain ⟨w, hw, rfl⟩ := List.mem_map.mp hp; exact h w hw)]
  exact e.symm
theorem nat_free (k : Nat) : 32 ∉ (natS k).cps.toList := by rw [natS_cps]; exact TL.numL_free (by omega)
end R
end

section
namespace R
open PySem PySem.Spec PyProof.Rows L2 Z LamX S
open NumText (AllDigits digitsVal)
/-! ### k33: the two readers -/
noncomputable section
def nu1c : EE := (eLc (iAnyS (eVar 0)) (gSet 2) eYes (eOp (op2 gIn) (eVar 2) (eC (.str "0123456789"))) [2])
def nu1 : SS := (sIf (eOr (eTest (eOp (op2 gEq) (eVar 0) (eC (.str "")))) (eOr (eTest (eOp (op2 gGt) (eCB (opN gLen) (eCons (eVar 0) eNil)) (eC (.int 4)))) (eNot (eTr (eCB (opN gAll) (eCons nu1c eNil)))))) (sRet (eC (.bl false))) sNext)
def nu2 : SS := (sRet (eAndT (eOrT (eOp (op2 gEq) (eVar 0) (eC (.str "0"))) (eOp (op2 gNe) (eOp (op2 gIx) (eVar 0) (eC (.int 0))) (eC (.str "0")))) (eOp (op2 gLt) (eCB (opN gInt) (eCons (eVar 0) eNil)) (eVar 1))))
theorem nu_def : F_is_number_below = fnOf 1 (sSeq nu1 nu2) := rfl
def rd1 : SS := (sIf (eNot (eTr (eCB (opN (gIsi sbK)) (eCons (eVar 1) (eCons (eC (.ty "str")) eNil))))) (sRaise2 "BadText" "line" "word" (eC (.int 0)) (eC (.int 0))) sNext)
def rd2 : SS := (sAsg (eBM "str" mSplit (eVar 1) (eCons (eC (.str " ")) eNil)) (gSet 2))
def rd3 : SS := (sAsg (eLstM eNil) (gSet 3))
def rd4b1 : SS := (sIf (eOr (eTest (eOp (op2 gEq) (eVar 4) (eC (.int 24)))) (eOr (eNot (eTr (eCB (callP 2 F_is_number_below) (eCons (eVar 5) (eCons (eCB (opN gLen) (eCons (eVar 2) eNil)) eNil))))) (eTest (eOp (op2 gIn) (eCB (opN gInt) (eCons (eVar 5) eNil)) (eVar 3))))) (sRaise2 "BadText" "line" "word" (eC (.int 0)) (eVar 4)) sNext)
def rd4b2 : SS := (sDrop (eBM "list" mApp (eVar 3) (eCons (eCB (opN gInt) (eCons (eVar 5) eNil)) eNil)))
abbrev rd4b : SS := (sSeq rd4b1 rd4b2)
def rd4 : SS := (sFor (iEnS (eCons (eVar 2) eNil)) (gTupS 2 (gConsS (gSet 4) (gConsS (gSet 5) gNilS))) rd4b)
def rd5 : SS := (sFz 3 (sRet (eMakeL 0 "Order" (mkP "Order" 2 F_Order___init__) (eCons (eVar 3) eNil))))
theorem rd_def : F_Order_read = fnOf 4 (sSeq rd1 (sSeq rd2 (sSeq rd3 (sSeq rd4 rd5)))) := rfl
def fa1 : SS := (sAsg (eBM "str" mSplit (eVar 0) (eCons (eC (.str " ")) eNil)) (gSet 1))
def fa2c : EE := (eLc (iRng1S (eCons (eCB (opN gLen) (eCons (eVar 1) eNil)) eNil)) (gSet 6) eYes (eCB (opN gStr) (eCons (eVar 6) eNil)) [6])
def fa2 : SS := (sAsg fa2c (gSet 2))
def fa3 : SS := (sAsg (eLstM eNil) (gSet 3))
def fa4b1 : SS := (sIf (eOr (eTest (eOp (op2 gEq) (eVar 4) (eC (.int 24)))) (eOr (eTest (eOp (op2 gNin) (eVar 5) (eVar 2))) (eTest (eOp (op2 gIn) (eCB (opN gInt) (eCons (eVar 5) eNil)) (eVar 3))))) (sRet (eTup (eCons (eVar 4) (eCons (eC .non) eNil)))) sNext)
def fa4b2 : SS := (sDrop (eBM "list" mApp (eVar 3) (eCons (eCB (opN gInt) (eCons (eVar 5) eNil)) eNil)))
abbrev fa4b : SS := (sSeq fa4b1 fa4b2)
def fa4 : SS := (sFor (iEnS (eCons (eVar 1) eNil)) (gTupS 2 (gConsS (gSet 4) (gConsS (gSet 5) gNilS))) fa4b)
def fa5 : SS := (sFz 3 (sRet (eTup (eCons (eC .non) (eCons (eVar 3) eNil)))))
theorem fa_def : F__law_fault = fnOf 6 (sSeq fa1 (sSeq fa2 (sSeq fa3 (sSeq fa4 fa5)))) := rfl
end
theorem small {n : Nat} (h : n ≤ 100000) : n ≤ sizeLine := by rw [sizeLine_eq]; omega
theorem flatDs_ints : ∀ cs : List Int, flatDs (cs.map .int) = some (cs.map V.int)
  | [] => rfl
  | c :: cs => by rw [List.map_cons]; unfold flatDs; rw [flatDs_ints cs]; rfl
theorem inV_ints {i : Int} {cs : List Int} : inV (.int i) (cs.map V.int) = decide (i ∈ cs) := by
  unfold inV
  induction cs with
  | nil => rfl
  | cons c cs ih =>
    rw [List.map_cons, List.any_cons, ih]
    have e : eqV (.int c) (.int i) = decide (c = i) := by
      show (c == i) = _
      by_cases h : c = i <;> simp [h]
    rw [e]
    by_cases h : c = i
    · subst h; simp
    · have h' : ¬ i = c := fun z => h z.symm
      simp [h, h']
theorem pin_ints {i : Int} {cs : List Int} : pin (.int i) (.lst (cs.map .int)) = some (decide (i ∈ cs)) := by
  simp [pin, flatD, flatDs_ints, inV_ints]
theorem flatDs_strs : ∀ cs : List Str, flatDs (cs.map .str) = some (cs.map V.str)
  | [] => rfl
  | c :: cs => by rw [List.map_cons]; unfold flatDs; rw [flatDs_strs cs]; rfl
theorem pin_strs {i : Str} {cs : List Str} : pin (.str i) (.lst (cs.map .str)) = some (decide (i ∈ cs)) := by
  simp [pin, flatD, flatDs_strs, inV_strs]
theorem op2_r {g : D → D → Option D} {a d : D} {y : W} {h : MH} (v : vw h y = some d) : op2 g (.dat a) y h = ofO (g a d) h := by
  unfold op2
  rw [vw_dat, v]
variable {w x : Str} {n : Nat} {h : MH}
/-! a number below another one -/
theorem dig_cps : (Str.ofString "0123456789").cps.toList = [48, 49, 50, 51, 52, 53, 54, 55, 56, 57] := by decide +kernel
theorem nu_dig {v : Option W} (hl : w.length ≤ 100000) : nu1c [some (.dat (.str w)), some (.dat (.int (n : Nat))), v] h = .ok (.dat (.lst (w.cps.toList.map fun c => .bl (decide (48 ≤ c ∧ c ≤ 57))))) h := by
  unfold nu1c
  refine lc_of (ds := chrD w) rfl ?_
  unfold chrD
  show lcS (gSet 2) eYes (eOp (op2 gIn) (eVar 2) (eC (.str "0123456789"))) (w.cps.toList.map fun c => .str ⟨#[c]⟩) [some (.dat (.str w)), some (.dat (.int (n : Nat))), none] h [] = _
  rw [lcS_of (f := fun c : Nat => D.str ⟨#[c]⟩) (s1 := fun c => [some (.dat (.str w)), some (.dat (.int (n : Nat))), some (.dat (.str ⟨#[c]⟩))]) (b := fun _ => true) (y := fun c => .bl (decide (48 ≤ c ∧ c ≤ 57))) (fun c _ => ⟨rfl, rfl, fun _ => ?_⟩) (by rw [List.length_nil, len_cps, Nat.zero_add]; exact small hl)]
  · rw [List.filter_eq_self.mpr fun _ _ => rfl, List.nil_append]
  · refine op_of rfl rfl ?_
    rw [op2_dat, gIn_def, chr_in, dig_cps]
    have e : decide (c ∈ [48, 49, 50, 51, 52, 53, 54, 55, 56, 57]) = decide (48 ≤ c ∧ c ≤ 57) := by
      rw [Bool.eq_iff_iff]
      simp only [List.mem_cons, List.not_mem_nil, or_false, decide_eq_true_eq]
      omega
    rw [e]; rfl
theorem empty_iff : (w = Str.ofString "") ↔ w.cps.toList = [] := by
  have e : (Str.ofString "").cps.toList = [] := by decide +kernel
  exact ⟨fun h => by rw [h, e], fun h => str_eq (by rw [h, e])⟩
theorem nought_iff : (w = Str.ofString "0") ↔ w.cps.toList = [48] := by
  have e : (Str.ofString "0").cps.toList = [48] := by decide +kernel
  exact ⟨fun h => by rw [h, e], fun h => str_eq (by rw [h, e])⟩
theorem dig_all : gAll [.lst (w.cps.toList.map fun c => .bl (decide (48 ≤ c ∧ c ≤ 57)))] = some (.bl (digB w)) := by
  show (boolsD (w.cps.toList.map fun c => .bl (decide (48 ≤ c ∧ c ≤ 57)))).map _ = _
  rw [boolsD_map]
  simp [List.all_map, digB]
theorem below_eq (hl : w.length ≤ 100000) : F_is_number_below [.dat (.str w), .dat (.int (n : Nat))] [] = .ok (.dat (.bl (nbB w n))) [] := by
  have t1 : eTest (eOp (op2 gEq) (eVar 0) (eC (.str ""))) [some (.dat (.str w)), some (.dat (.int (n : Nat))), none] [] = .ok (decide (w = Str.ofString "")) [] := test_of (op_of rfl rfl rfl)
  have t2 : eTest (eOp (op2 gGt) (eCB (opN gLen) (eCons (eVar 0) eNil)) (eC (.int 4))) [some (.dat (.str w)), some (.dat (.int (n : Nat))), none] [] = .ok (decide ((4 : Int) < (w.length : Nat))) [] :=
    test_of (op_of (cb_of (one_arg rfl) (by rw [opN_1, gLen_str, if_pos (small hl)]; rfl)) rfl rfl)
  have t3 : eNot (eTr (eCB (opN gAll) (eCons nu1c eNil))) [some (.dat (.str w)), some (.dat (.int (n : Nat))), none] [] = .ok (!digB w) [] :=
    not_of (tr_of (cb_of (one_arg (nu_dig hl)) (by rw [opN_1, dig_all]; rfl)))
  have out : nu1 [some (.dat (.str w)), some (.dat (.int (n : Nat))), none] [] = .rt (.dat (.bl false)) [] → nbB w n = false → fin (sSeq nu1 nu2 [some (.dat (.str w)), some (.dat (.int (n : Nat))), none] []) = .ok (.dat (.bl (nbB w n))) [] := fun a b => by
    unfold sSeq; rw [a, b]; rfl
  rw [nu_def]
  unfold fnOf
  show fin (sSeq nu1 nu2 [some (.dat (.str w)), some (.dat (.int (n : Nat))), none] []) = _
  by_cases h1 : w = Str.ofString ""
  · refine out (if_of (k := true) (or_t (by rw [t1, decide_eq_true h1])) rfl) ?_
    unfold nbB
    rw [decide_eq_false (fun z => z (empty_iff.mp h1))]; rfl
  · rw [decide_eq_false h1] at t1
    by_cases h2 : (4 : Int) < (w.length : Nat)
    · rw [decide_eq_true h2] at t2
      refine out (if_of (k := true) (or_f t1 (or_t t2)) rfl) ?_
      unfold nbB
      rw [decide_eq_false (show ¬ w.length ≤ 4 by omega), Bool.false_and, Bool.and_false]
    · rw [decide_eq_false h2] at t2
      cases h3 : digB w with
      | false =>
        rw [h3] at t3
        refine out (if_of (k := true) (or_f t1 (or_f t2 t3)) rfl) ?_
        unfold nbB
        rw [h3, Bool.false_and, Bool.and_false, Bool.and_false]
      | true =>
        rw [h3] at t3
        rw [seq_nx (show nu1 _ [] = .nx [some (.dat (.str w)), some (.dat (.int (n : Nat))), none] [] from if_of (k := false) (or_f t1 (or_f t2 t3)) rfl)]
        have ne : w.cps.toList ≠ [] := fun z => h1 (empty_iff.mpr z)
        have l4 : w.length ≤ 4 := by omega
        have e0 : nbB w n = ((decide (w.cps.toList = [48]) || decide (w.cps.toList.head? ≠ some 48)) && decide (valW w < n)) := by
          unfold nbB
          rw [decide_eq_true ne, decide_eq_true l4, h3]; rfl
        have iv : PySem.intText? w = some ((valW w : Nat) : Int) := PySem.intText_digits (fun c hc => by
          have := List.all_eq_true.mp h3 c hc
          exact of_decide_eq_true this) ne (by omega)
        have gi : gInt [.str w] = some (.int (valW w : Nat)) := by
          unfold gInt
          simp only [iv]
          rw [if_pos (by omega)]
        have lt : eOp (op2 gLt) (eCB (opN gInt) (eCons (eVar 0) eNil)) (eVar 1) [some (.dat (.str w)), some (.dat (.int (n : Nat))), none] [] = .ok (.dat (.bl (decide (valW w < n)))) [] :=
          op_of (cb_of (one_arg rfl) (by rw [opN_1, gi]; rfl)) rfl (by
            rw [op2_dat, gLt_int]
            show Res.ok _ _ = _
            congr 3
            rw [Bool.eq_iff_iff, decide_eq_true_eq, decide_eq_true_eq]; omega)
        have z0 : eOp (op2 gEq) (eVar 0) (eC (.str "0")) [some (.dat (.str w)), some (.dat (.int (n : Nat))), none] [] = .ok (.dat (.bl (decide (w = Str.ofString "0")))) [] := op_of rfl rfl rfl
        obtain ⟨c, r, ec⟩ : ∃ c r, w.cps.toList = c :: r := by
          cases e : w.cps.toList with
          | nil => exact absurd e ne
          | cons c r => exact ⟨c, r, rfl⟩
        have z1 : eOp (op2 gNe) (eOp (op2 gIx) (eVar 0) (eC (.int 0))) (eC (.str "0")) [some (.dat (.str w)), some (.dat (.int (n : Nat))), none] [] = .ok (.dat (.bl (decide (c ≠ 48)))) [] := by
          refine op_of (op_of (h1 := []) rfl rfl (show op2 gIx (.dat (.str w)) (.dat (.int 0)) [] = .ok (.dat (.str ⟨#[c]⟩)) [] from ?_)) rfl ?_
          · rw [op2_dat, gIx_str, if_pos (small hl), ec, atI_0]; rfl
          · rw [op2_dat, gNe_def, peq_str]
            have q : ((⟨#[c]⟩ : Str) = Str.ofString "0") ↔ c = 48 := by
              rw [nought_iff]
              simp
            have e : (!decide ((⟨#[c]⟩ : Str) = Str.ofString "0")) = decide (c ≠ 48) := by
              rw [Bool.eq_iff_iff, Bool.not_eq_true', decide_eq_false_iff_not, decide_eq_true_eq, q]
            show Res.ok (W.dat (.bl (!decide ((⟨#[c]⟩ : Str) = Str.ofString "0")))) _ = _
            rw [e]
        have hb : (decide (w.cps.toList = [48]) || decide (w.cps.toList.head? ≠ some 48)) = (decide (w = Str.ofString "0") || decide (c ≠ 48)) := by
          rw [show decide (w = Str.ofString "0") = decide (w.cps.toList = [48]) from decide_eq_decide.mpr (nought_iff (w := w))]
          simp [ec]
        rw [e0, hb]
        by_cases q0 : w = Str.ofString "0"
        · rw [decide_eq_true q0] at z0 ⊢
          have o : eOrT (eOp (op2 gEq) (eVar 0) (eC (.str "0"))) (eOp (op2 gNe) (eOp (op2 gIx) (eVar 0) (eC (.int 0))) (eC (.str "0"))) [some (.dat (.str w)), some (.dat (.int (n : Nat))), none] [] = .ok (.dat (.bl true)) [] := by
            unfold eOrT; rw [z0]; rfl
          rw [show nu2 _ _ = _ from ret_of (andT_t o lt)]; rfl
        · rw [decide_eq_false q0] at z0 ⊢
          have o : eOrT (eOp (op2 gEq) (eVar 0) (eC (.str "0"))) (eOp (op2 gNe) (eOp (op2 gIx) (eVar 0) (eC (.int 0))) (eC (.str "0"))) [some (.dat (.str w)), some (.dat (.int (n : Nat))), none] [] = .ok (.dat (.bl (decide (c ≠ 48)))) [] := by
            unfold eOrT; rw [z0]; exact z1
          by_cases q1 : c ≠ 48
          · rw [decide_eq_true q1] at o ⊢
            rw [show nu2 _ _ = _ from ret_of (andT_t o lt)]; rfl
          · rw [decide_eq_false q1] at o ⊢
            have a : eAndT (eOrT (eOp (op2 gEq) (eVar 0) (eC (.str "0"))) (eOp (op2 gNe) (eOp (op2 gIx) (eVar 0) (eC (.int 0))) (eC (.str "0")))) (eOp (op2 gLt) (eCB (opN gInt) (eCons (eVar 0) eNil)) (eVar 1)) [some (.dat (.str w)), some (.dat (.int (n : Nat))), none] [] = .ok (.dat (.bl false)) [] := by
              unfold eAndT; rw [o]; rfl
            rw [show nu2 _ _ = _ from ret_of a]; rfl
end R
end

section
namespace R
open PySem PySem.Spec PyProof.Rows L2 Z LamX S
/-! ### k33: the scan of words -/
/-- the place of the first word that cannot stand, or the numbers -/
def scanW (n : Nat) : List Str → Nat → List Nat → Sum Nat (List Nat)
  | [], _, f => .inr f
  | w :: ws, i, f => if i = 24 ∨ w ∉ nums n ∨ valW w ∈ f then .inl i else scanW n ws (i + 1) (f ++ [valW w])
theorem scan_inl {n : Nat} : ∀ {ws : List Str} {i k : Nat} {f : List Nat}, scanW n ws i f = .inl k → i ≤ k ∧ k < i + ws.length
  | [], _, _, _, e => by cases e
  | w :: ws, i, k, f, e => by
    unfold scanW at e
    split at e
    · cases e; exact ⟨Nat.le_refl _, by rw [List.length_cons]; omega⟩
    · have := scan_inl e
      rw [List.length_cons]; omega
theorem scan_inr {n : Nat} : ∀ {ws : List Str} {i : Nat} {f g : List Nat}, scanW n ws i f = .inr g → i ≤ 24 → f.Nodup → (∀ k ∈ f, k < n) → g = f ++ ws.map valW ∧ g.Nodup ∧ (∀ k ∈ g, k < n) ∧ i + ws.length ≤ 24
  | [], i, f, g, e, hi, nd, lt => by cases e; exact ⟨by simp, nd, lt, by simpa using hi⟩
  | w :: ws, i, f, g, e, hi, nd, lt => by
    unfold scanW at e
    split at e
    · cases e
    · next no =>
      have h1 : i ≠ 24 := fun z => no (.inl z)
      have h2 : w ∈ nums n := Decidable.not_not.mp fun z => no (.inr (.inl z))
      have h3 : valW w ∉ f := fun z => no (.inr (.inr z))
      obtain ⟨a, b, c, d⟩ := scan_inr e (by omega) (by
        rw [List.nodup_append]
        exact ⟨nd, by simp, fun x hx y hy => by
          rw [List.mem_singleton.mp hy]
          exact fun z => h3 (z ▸ hx)⟩) (fun k hk => (List.mem_append.mp hk).elim (lt k) fun hk => by rw [List.mem_singleton.mp hk]; exact (nums_val h2).1)
      refine ⟨by rw [a]; simp, b, c, by rw [List.length_cons]; omega⟩
theorem scan_all {n : Nat} : ∀ (L f : List Nat) (i : Nat), (f ++ L).Nodup → (∀ k ∈ L, k < n) → i + L.length ≤ 24 → scanW n (L.map natS) i f = .inr (f ++ L)
  | [], f, i, _, _, _ => by simp [scanW]
  | k :: L, f, i, nd, lt, l => by
    rw [List.length_cons] at l
    rw [List.map_cons]
    unfold scanW
    have hk := lt k (.head _)
    have h2 : natS k ∈ nums n := mem_nums.mpr ⟨k, hk, rfl⟩
    have nd2 : (f ++ [k] ++ L).Nodup := by simpa using nd
    have h3 : k ∉ f := by
      rw [List.append_assoc, List.nodup_append] at nd2
      exact fun z => nd2.2.2 k z k (by simp) rfl
    rw [valW_nat, if_neg (by rintro (z | z | z); · omega
                             · exact z h2
                             · exact h3 z), scan_all L (f ++ [k]) (i + 1) nd2 (fun j hj => lt j (.tail _ hj)) (by omega)]
    simp
/-- what enumerate tells, from a place on -/
def enF : Nat → List Str → List D
  | _, [] => []
  | i, w :: ws => .tup [.int (i : Nat), .str w] :: enF (i + 1) ws
theorem enF_eq (ws : List Str) : enD (ws.map .str) = enF 0 ws := by
  have main : ∀ (ws : List Str) (i : Nat), (List.range' i (ws.map D.str).length).zipWith (fun (i : Nat) d => D.tup [.int (i : Nat), d]) (ws.map D.str) = enF i ws := by
    intro ws
    induction ws with
    | nil => intro i; rfl
    | cons w ws ih =>
      intro i
      rw [List.map_cons, List.length_cons, List.range'_succ, List.zipWith_cons_cons, ih]; rfl
  unfold enD
  rw [List.range_eq_range']
  exact main ws 0
variable {x w : Str} {n i : Nat} {f : List Nat}
abbrev foundO (f : List Nat) : O := .lst (((zs f).map .int).map .dat)
theorem found_vw : vw [foundO f] (.ref 0) = some (.lst ((zs f).map .int)) := by
  unfold vw foundO
  show (match some (O.lst (((zs f).map D.int).map .dat)) with | some (.lst ws) => (datAll ws).map D.lst | _ => none) = _
  simp only [datAll_map, Option.map_some]
theorem in_found {k : Nat} : op2 gIn (.dat (.int (k : Nat))) (.ref 0) [foundO f] = .ok (.dat (.bl (decide (k ∈ f)))) [foundO f] := by
  rw [op2_r found_vw, gIn_def, pin_ints]
  have e : decide ((k : Int) ∈ zs f) = decide (k ∈ f) := by
    rw [Bool.eq_iff_iff, decide_eq_true_eq, decide_eq_true_eq, List.mem_map]
    exact ⟨fun ⟨j, hj, e⟩ => by rw [← Int.ofNat.inj e]; exact hj, fun h => ⟨k, h, rfl⟩⟩
  rw [e]; rfl
theorem app_found {k : Nat} (l : f.length ≤ 100) : mApp (.ref 0) [.dat (.int (k : Nat))] [foundO f] = .ok (.dat .non) [foundO (f ++ [k])] := by
  show (if (((zs f).map D.int).map W.dat).length < sizeLine then _ else _) = _
  rw [if_pos (by simp only [List.length_map]; exact Nat.lt_of_lt_of_le (show f.length < 101 by omega) (small (by omega)))]
  simp
theorem val_int (h : w ∈ nums n) (hn : n ≤ 9999) : opN gInt [.dat (.str w)] [foundO f] = .ok (.dat (.int (valW w : Nat))) [foundO f] := by
  obtain ⟨lt, e⟩ := nums_val h
  have := natS_int (k := valW w) (by omega)
  rw [← e] at this
  rw [opN_1, this]; rfl
/-! ### the law's own reader -/
abbrev faE (x : Str) (ws : List Str) (n : Nat) (v4 v5 : Option W) : En := [some (.dat (.str x)), some (.dat (.lst (ws.map .str))), some (.dat (.lst ((nums n).map .str))), some (.ref 0), v4, v5, none]
theorem fa_loop {ws0 : List Str} (hn : n ≤ 9999) : ∀ (ws : List Str) (i : Nat) (f : List Nat) (v4 v5 : Option W), i = f.length → i ≤ 24 →
    match scanW n ws i f with
    | .inl k => ∃ h, loopS (gTupS 2 (gConsS (gSet 4) (gConsS (gSet 5) gNilS))) fa4b (enF i ws) (faE x ws0 n v4 v5) [foundO f] = .rt (.dat (.tup [.int (k : Nat), .non])) h
    | .inr g => ∃ u4 u5, loopS (gTupS 2 (gConsS (gSet 4) (gConsS (gSet 5) gNilS))) fa4b (enF i ws) (faE x ws0 n v4 v5) [foundO f] = .nx (faE x ws0 n u4 u5) [foundO g]
  | [], i, f, v4, v5, _, _ => ⟨v4, v5, rfl⟩
  | w :: ws, i, f, v4, v5, hf, h24 => by
    have g1 : gTupS 2 (gConsS (gSet 4) (gConsS (gSet 5) gNilS)) (.dat (.tup [.int (i : Nat), .str w])) (faE x ws0 n v4 v5) [foundO f] = .nx (faE x ws0 n (some (.dat (.int (i : Nat)))) (some (.dat (.str w)))) [foundO f] := by simp
    have t1 : eTest (eOp (op2 gEq) (eVar 4) (eC (.int 24))) (faE x ws0 n (some (.dat (.int (i : Nat)))) (some (.dat (.str w)))) [foundO f] = .ok (decide (i = 24)) [foundO f] := test_of (op_of rfl rfl (by
      rw [op2_dat, gEq_def, peq_int]
      show Res.ok _ _ = _
      have e : decide ((i : Int) = 24) = decide (i = 24) := by rw [Bool.eq_iff_iff, decide_eq_true_eq, decide_eq_true_eq]; omega
      rw [e]))
    have t2 : eTest (eOp (op2 gNin) (eVar 5) (eVar 2)) (faE x ws0 n (some (.dat (.int (i : Nat)))) (some (.dat (.str w)))) [foundO f] = .ok (!decide (w ∈ nums n)) [foundO f] := test_of (op_of rfl rfl (by
      rw [op2_dat, gNin_def, pin_strs]; rfl))
    have bad : scanW n (w :: ws) i f = .inl i → fa4b1 (faE x ws0 n (some (.dat (.int (i : Nat)))) (some (.dat (.str w)))) [foundO f] = .rt (.dat (.tup [.int (i : Nat), .non])) [foundO f] →
        match scanW n (w :: ws) i f with
        | .inl k => ∃ h, loopS (gTupS 2 (gConsS (gSet 4) (gConsS (gSet 5) gNilS))) fa4b (enF i (w :: ws)) (faE x ws0 n v4 v5) [foundO f] = .rt (.dat (.tup [.int (k : Nat), .non])) h
        | .inr g => ∃ u4 u5, loopS (gTupS 2 (gConsS (gSet 4) (gConsS (gSet 5) gNilS))) fa4b (enF i (w :: ws)) (faE x ws0 n v4 v5) [foundO f] = .nx (faE x ws0 n u4 u5) [foundO g] := fun es e => by
      rw [es]
      refine ⟨[foundO f], ?_⟩
      show loopS _ _ (.tup [.int (i : Nat), .str w] :: enF (i + 1) ws) _ _ = _
      rw [loopS_cons, loop_step (b := fa4b) g1 (show fa4b _ _ = .rt (.dat (.tup [.int (i : Nat), .non])) [foundO f] from by unfold fa4b sSeq; rw [e]; rfl)]; rfl
    have tup : sRet (eTup (eCons (eVar 4) (eCons (eC .non) eNil))) (faE x ws0 n (some (.dat (.int (i : Nat)))) (some (.dat (.str w)))) [foundO f] = .rt (.dat (.tup [.int (i : Nat), .non])) [foundO f] := ret_of (by simp)
    by_cases c1 : i = 24
    · rw [decide_eq_true c1] at t1
      exact bad (by unfold scanW; rw [if_pos (.inl c1)]) (if_of (k := true) (or_t t1) tup)
    · rw [decide_eq_false c1] at t1
      by_cases c2 : w ∈ nums n
      · rw [decide_eq_true c2] at t2
        have vi := val_int (f := f) c2 hn
        have t3 : eTest (eOp (op2 gIn) (eCB (opN gInt) (eCons (eVar 5) eNil)) (eVar 3)) (faE x ws0 n (some (.dat (.int (i : Nat)))) (some (.dat (.str w)))) [foundO f] = .ok (decide (valW w ∈ f)) [foundO f] := test_of (op_of (cb_of (one_arg rfl) vi) rfl in_found)
        by_cases c3 : valW w ∈ f
        · rw [decide_eq_true c3] at t3
          exact bad (by unfold scanW; rw [if_pos (.inr (.inr c3))]) (if_of (k := true) (or_f t1 (or_f t2 t3)) tup)
        · rw [decide_eq_false c3] at t3
          have e1 : fa4b1 (faE x ws0 n (some (.dat (.int (i : Nat)))) (some (.dat (.str w)))) [foundO f] = .nx (faE x ws0 n (some (.dat (.int (i : Nat)))) (some (.dat (.str w)))) [foundO f] := if_of (k := false) (or_f t1 (or_f t2 t3)) rfl
          have e2 : fa4b2 (faE x ws0 n (some (.dat (.int (i : Nat)))) (some (.dat (.str w)))) [foundO f] = .nx (faE x ws0 n (some (.dat (.int (i : Nat)))) (some (.dat (.str w)))) [foundO (f ++ [valW w])] := drop_of (bm_of (ws := [.dat (.int (valW w : Nat))]) rfl rfl (one_arg (cb_of (one_arg rfl) vi)) (app_found (by omega)))
          have es : scanW n (w :: ws) i f = scanW n ws (i + 1) (f ++ [valW w]) := by
            conv => lhs; unfold scanW
            rw [if_neg (by rintro (z | z | z); · exact c1 z
                           · exact z c2
                           · exact c3 z)]
          have step : fa4b (faE x ws0 n (some (.dat (.int (i : Nat)))) (some (.dat (.str w)))) [foundO f] = .nx (faE x ws0 n (some (.dat (.int (i : Nat)))) (some (.dat (.str w)))) [foundO (f ++ [valW w])] := by
            unfold fa4b; rw [seq_nx e1, e2]
          have ih := fa_loop (ws0 := ws0) hn ws (i + 1) (f ++ [valW w]) (some (.dat (.int (i : Nat)))) (some (.dat (.str w))) (by simp [hf]) (by omega)
          rw [es]
          cases e : scanW n ws (i + 1) (f ++ [valW w]) with
          | inl k =>
            rw [e] at ih
            obtain ⟨h, ih⟩ := ih
            exact ⟨h, loop_nx g1 step ih⟩
          | inr g =>
            rw [e] at ih
            obtain ⟨v4, v5, ih⟩ := ih
            exact ⟨v4, v5, loop_nx g1 step ih⟩
      · rw [decide_eq_false c2] at t2
        exact bad (by unfold scanW; rw [if_pos (.inr (.inl c2))]) (if_of (k := true) (or_f t1 (or_t t2)) tup)
/-- the words of a text, split -/
theorem split_eq {h : MH} (l : x.length ≤ 9000) : mSplit (.dat (.str x)) [.dat (.str " ")] h = .ok (.dat (.lst ((wordsT x).map .str))) h := by
  unfold mSplit
  dsimp only
  rw [if_pos ⟨by decide +kernel, small (by omega)⟩]; rfl
def dueT (x : Str) : Sum Nat (List Nat) := scanW (wordsT x).length (wordsT x) 0 []
def faultD : Sum Nat (List Nat) → D
  | .inl k => .tup [.int (k : Nat), .non]
  | .inr g => .tup [.non, .lst ((zs g).map .int)]
theorem fault_eq (l : x.length ≤ 9000) : ∃ h, F__law_fault [.dat (.str x)] [] = .ok (.dat (faultD (dueT x))) h := by
  have wl := words_len x
  have s1 : fa1 [some (.dat (.str x)), none, none, none, none, none, none] [] = .nx [some (.dat (.str x)), some (.dat (.lst ((wordsT x).map .str))), none, none, none, none, none] [] := asg_of (bm_of rfl rfl (one_arg rfl) (split_eq l)) rfl
  have lc : fa2c [some (.dat (.str x)), some (.dat (.lst ((wordsT x).map .str))), none, none, none, none, none] [] = .ok (.dat (.lst ((nums (wordsT x).length).map .str))) [] := by
    unfold fa2c
    refine lc_of (rng_of (n := (wordsT x).length) (one_arg (cb_of (one_arg rfl) (by rw [opN_1, gLen_lst, List.length_map]; rfl))) (by omega)) ?_
    unfold rngD
    show lcS (gSet 6) eYes (eCB (opN gStr) (eCons (eVar 6) eNil)) ((List.range (wordsT x).length).map fun i => .int (0 + (i : Nat))) [some (.dat (.str x)), some (.dat (.lst ((wordsT x).map .str))), none, none, none, none, none] [] [] = _
    rw [lcS_of (f := fun i : Nat => D.int (0 + (i : Nat))) (s1 := fun i => [some (.dat (.str x)), some (.dat (.lst ((wordsT x).map .str))), none, none, none, none, some (.dat (.int (0 + (i : Nat))))]) (b := fun _ => true) (y := fun i => .str (natS i)) (fun i hi => ⟨rfl, rfl, fun _ => ?_⟩) (by rw [List.length_nil, List.length_range, Nat.zero_add]; exact small (by omega))]
    · rw [List.filter_eq_self.mpr fun _ _ => rfl, List.nil_append, List.map_map]; rfl
    · have := List.mem_range.mp hi
      refine cb_of (one_arg rfl) ?_
      rw [opN_1, Int.zero_add, natS_str (by omega)]; rfl
  have s2 : fa2 [some (.dat (.str x)), some (.dat (.lst ((wordsT x).map .str))), none, none, none, none, none] [] = .nx [some (.dat (.str x)), some (.dat (.lst ((wordsT x).map .str))), some (.dat (.lst ((nums (wordsT x).length).map .str))), none, none, none, none] [] := asg_of lc rfl
  have s3 : fa3 [some (.dat (.str x)), some (.dat (.lst ((wordsT x).map .str))), some (.dat (.lst ((nums (wordsT x).length).map .str))), none, none, none, none] [] = .nx (faE x (wordsT x) (wordsT x).length none none) [foundO []] := asg_of (lstM_of nil_of (small (by simp))) rfl
  have en : iEnS (eCons (eVar 1) eNil) (faE x (wordsT x) (wordsT x).length none none) [foundO []] = .ok (enF 0 (wordsT x)) [foundO []] := by
    rw [iEn_eq (ws := [.dat (.lst ((wordsT x).map .str))]) (h1 := [foundO []]) rfl, enW_lst, enF_eq]
  have lp := fa_loop (x := x) (ws0 := wordsT x) (n := (wordsT x).length) (by omega) (wordsT x) 0 [] none none rfl (by omega)
  have fz : ∀ (g : List Nat) v4 v5, fa5 (faE x (wordsT x) (wordsT x).length v4 v5) [foundO g] = .rt (.dat (.tup [.non, .lst ((zs g).map .int)])) [.dead] := fun g v4 v5 => by
    refine fz_of rfl found_vw (ret_of ?_)
    generalize (zs g).map D.int = zz
    simp
  rw [fa_def]
  unfold fnOf
  show ∃ h, fin (sSeq fa1 _ [some (.dat (.str x)), none, none, none, none, none, none] []) = _
  rw [seq_nx s1, seq_nx s2, seq_nx s3]
  unfold dueT
  cases e : scanW (wordsT x).length (wordsT x) 0 [] with
  | inl k =>
    rw [e] at lp
    obtain ⟨h, lp⟩ := lp
    refine ⟨h, ?_⟩
    have s4 : fa4 (faE x (wordsT x) (wordsT x).length none none) [foundO []] = _ := for_of en lp
    unfold sSeq
    rw [s4]; rfl
  | inr g =>
    rw [e] at lp
    obtain ⟨v4, v5, lp⟩ := lp
    refine ⟨[.dead], ?_⟩
    have s4 : fa4 (faE x (wordsT x) (wordsT x).length none none) [foundO []] = _ := for_of en lp
    rw [seq_nx s4, fz]; rfl
/-! ### Order.read -/
abbrev rdE (x : Str) (ws : List Str) (v4 v5 : Option W) : En := [some (.dat (.cls "Order")), some (.dat (.str x)), some (.dat (.lst (ws.map .str))), some (.ref 0), v4, v5]
theorem rd_loop {ws0 : List Str} (hn : ws0.length ≤ 9999) : ∀ (ws : List Str) (i : Nat) (f : List Nat) (v4 v5 : Option W), i = f.length → i ≤ 24 → (∀ w ∈ ws, w.length ≤ 9000) →
    match scanW ws0.length ws i f with
    | .inl k => ∃ h, loopS (gTupS 2 (gConsS (gSet 4) (gConsS (gSet 5) gNilS))) rd4b (enF i ws) (rdE x ws0 v4 v5) [foundO f] = .exc "BadText" ["word", "line"] [.int (k : Nat), .int 0] h
    | .inr g => ∃ u4 u5, loopS (gTupS 2 (gConsS (gSet 4) (gConsS (gSet 5) gNilS))) rd4b (enF i ws) (rdE x ws0 v4 v5) [foundO f] = .nx (rdE x ws0 u4 u5) [foundO g]
  | [], i, f, v4, v5, _, _, _ => ⟨v4, v5, rfl⟩
  | w :: ws, i, f, v4, v5, hf, h24, wl => by
    have g1 : gTupS 2 (gConsS (gSet 4) (gConsS (gSet 5) gNilS)) (.dat (.tup [.int (i : Nat), .str w])) (rdE x ws0 v4 v5) [foundO f] = .nx (rdE x ws0 (some (.dat (.int (i : Nat)))) (some (.dat (.str w)))) [foundO f] := by simp
    have t1 : eTest (eOp (op2 gEq) (eVar 4) (eC (.int 24))) (rdE x ws0 (some (.dat (.int (i : Nat)))) (some (.dat (.str w)))) [foundO f] = .ok (decide (i = 24)) [foundO f] := test_of (op_of rfl rfl (by
      rw [op2_dat, gEq_def, peq_int]
      show Res.ok _ _ = _
      have e : decide ((i : Int) = 24) = decide (i = 24) := by rw [Bool.eq_iff_iff, decide_eq_true_eq, decide_eq_true_eq]; omega
      rw [e]))
    have bl := below_eq (w := w) (n := ws0.length) (by have := wl w (.head _); omega)
    rw [nb_iff hn] at bl
    have cb := callP_ok (n := 2) (F := F_is_number_below) (ds := [.str w, .int (ws0.length : Nat)]) (h := [foundO f]) rfl bl
    simp only [List.map_cons, List.map_nil] at cb
    have t2 : eNot (eTr (eCB (callP 2 F_is_number_below) (eCons (eVar 5) (eCons (eCB (opN gLen) (eCons (eVar 2) eNil)) eNil)))) (rdE x ws0 (some (.dat (.int (i : Nat)))) (some (.dat (.str w)))) [foundO f] = .ok (!decide (w ∈ nums ws0.length)) [foundO f] :=
      not_of (tr_of (cb_of (cons_of rfl (one_arg (cb_of (one_arg rfl) (by rw [opN_1, gLen_lst, List.length_map]; rfl)))) cb))
    have bad : scanW ws0.length (w :: ws) i f = .inl i → rd4b1 (rdE x ws0 (some (.dat (.int (i : Nat)))) (some (.dat (.str w)))) [foundO f] = .exc "BadText" ["word", "line"] [.int (i : Nat), .int 0] [foundO f] →
        match scanW ws0.length (w :: ws) i f with
        | .inl k => ∃ h, loopS (gTupS 2 (gConsS (gSet 4) (gConsS (gSet 5) gNilS))) rd4b (enF i (w :: ws)) (rdE x ws0 v4 v5) [foundO f] = .exc "BadText" ["word", "line"] [.int (k : Nat), .int 0] h
        | .inr g => ∃ u4 u5, loopS (gTupS 2 (gConsS (gSet 4) (gConsS (gSet 5) gNilS))) rd4b (enF i (w :: ws)) (rdE x ws0 v4 v5) [foundO f] = .nx (rdE x ws0 u4 u5) [foundO g] := fun es e => by
      rw [es]
      refine ⟨[foundO f], ?_⟩
      show loopS _ _ (.tup [.int (i : Nat), .str w] :: enF (i + 1) ws) _ _ = _
      exact loop_exc (b := rd4b) g1 (seq_exc e)
    have exc : sRaise2 "BadText" "line" "word" (eC (.int 0)) (eVar 4) (rdE x ws0 (some (.dat (.int (i : Nat)))) (some (.dat (.str w)))) [foundO f] = .exc "BadText" ["word", "line"] [.int (i : Nat), .int 0] [foundO f] := rfl
    by_cases c1 : i = 24
    · rw [decide_eq_true c1] at t1
      exact bad (by unfold scanW; rw [if_pos (.inl c1)]) (if_of (k := true) (or_t t1) exc)
    · rw [decide_eq_false c1] at t1
      by_cases c2 : w ∈ nums ws0.length
      · rw [decide_eq_true c2] at t2
        have vi := val_int (f := f) c2 hn
        have t3 : eTest (eOp (op2 gIn) (eCB (opN gInt) (eCons (eVar 5) eNil)) (eVar 3)) (rdE x ws0 (some (.dat (.int (i : Nat)))) (some (.dat (.str w)))) [foundO f] = .ok (decide (valW w ∈ f)) [foundO f] := test_of (op_of (cb_of (one_arg rfl) vi) rfl in_found)
        by_cases c3 : valW w ∈ f
        · rw [decide_eq_true c3] at t3
          exact bad (by unfold scanW; rw [if_pos (.inr (.inr c3))]) (if_of (k := true) (or_f t1 (or_f t2 t3)) exc)
        · rw [decide_eq_false c3] at t3
          have e1 : rd4b1 (rdE x ws0 (some (.dat (.int (i : Nat)))) (some (.dat (.str w)))) [foundO f] = .nx (rdE x ws0 (some (.dat (.int (i : Nat)))) (some (.dat (.str w)))) [foundO f] := if_of (k := false) (or_f t1 (or_f t2 t3)) rfl
          have e2 : rd4b2 (rdE x ws0 (some (.dat (.int (i : Nat)))) (some (.dat (.str w)))) [foundO f] = .nx (rdE x ws0 (some (.dat (.int (i : Nat)))) (some (.dat (.str w)))) [foundO (f ++ [valW w])] := drop_of (bm_of (ws := [.dat (.int (valW w : Nat))]) rfl rfl (one_arg (cb_of (one_arg rfl) vi)) (app_found (by omega)))
          have es : scanW ws0.length (w :: ws) i f = scanW ws0.length ws (i + 1) (f ++ [valW w]) := by
            conv => lhs; unfold scanW
            rw [if_neg (by rintro (z | z | z); · exact c1 z
                           · exact z c2
                           · exact c3 z)]
          have step : rd4b (rdE x ws0 (some (.dat (.int (i : Nat)))) (some (.dat (.str w)))) [foundO f] = .nx (rdE x ws0 (some (.dat (.int (i : Nat)))) (some (.dat (.str w)))) [foundO (f ++ [valW w])] := by
            unfold rd4b; rw [seq_nx e1, e2]
          have ih := rd_loop (ws0 := ws0) hn ws (i + 1) (f ++ [valW w]) (some (.dat (.int (i : Nat)))) (some (.dat (.str w))) (by simp [hf]) (by omega) (fun w h => wl w (.tail _ h))
          rw [es]
          cases e : scanW ws0.length ws (i + 1) (f ++ [valW w]) with
          | inl k =>
            rw [e] at ih
            obtain ⟨h, ih⟩ := ih
            exact ⟨h, loop_nx g1 step ih⟩
          | inr g =>
            rw [e] at ih
            obtain ⟨v4, v5, ih⟩ := ih
            exact ⟨v4, v5, loop_nx g1 step ih⟩
      · rw [decide_eq_false c2] at t2
        exact bad (by unfold scanW; rw [if_pos (.inr (.inl c2))]) (if_of (k := true) (or_f t1 (or_t t2)) exc)
end R
end

section
namespace R
open PySem PySem.Spec PyProof.Rows L2 Z LamX S
/-! == -/
theorem peq_ints (cs : List Int) : deq (.tup (cs.map .int)) (.tup (cs.map .int)) = some true ∧ deq (.lst (cs.map .int)) (.lst (cs.map .int)) = some true := by
  have e1 : toP (.tup (cs.map .int)) = some (.tuple (cs.map .int)) := by unfold toP; rw [toPs_ints]; rfl
  have e2 : toP (.lst (cs.map .int)) = some (.list (cs.map .int)) := by unfold toP; rw [toPs_ints]; rfl
  have sh := shaped_ints cs
  have sh2 : SeqAt.shaped (.tuple (cs.map .int)) = true := sh
  refine ⟨?_, ?_⟩
  · unfold deq
    simp only [e1]
    rw [if_pos ⟨sh2, sh2⟩, SeqAt.eqv_refl _ (by unfold SeqAt.shaped at sh2; rw [Bool.and_eq_true] at sh2; exact sh2.1)]
  · unfold deq
    simp only [e2]
    rw [if_pos ⟨sh, sh⟩, SeqAt.eqv_refl _ (by unfold SeqAt.shaped at sh; rw [Bool.and_eq_true] at sh; exact sh.1)]
theorem order_eq {L : List Nat} {d e : D} (h : IsOrd L d) (k : IsOrd L e) : F_Order___eq__ [.dat d, .dat e] [] = .ok (.dat (.bl true)) [] := by
  obtain ⟨gs, rfl⟩ := h
  obtain ⟨fs, rfl⟩ := k
  have q := (peq_ints (zs L)).1
  generalize (zs L).map D.int = zz at q
  simp [F_Order___eq__, fnOf, sh_Order___eq__, isiC, sbK, flK, q]
theorem zs_at {L : List Nat} {i : Nat} (h : i < L.length) : atI ((zs L).map D.int) (i : Int) = some (.int ((L.getD i 0 : Nat) : Int)) := by
  rw [atI_of (by omega) (by rw [List.length_map, List.length_map]; omega)]
  simp [List.getD_eq_getElem?_getD, h]
section
variable {L : List Nat} {d : D}
theorem len_eq (h : IsOrd L d) : F_Order___len__ [.dat d] [] = .ok (.dat (.int (L.length : Nat))) [] := by
  obtain ⟨gs, rfl⟩ := h
  have e : ((zs L).map D.int).length = L.length := by simp
  generalize (zs L).map D.int = zz at e
  simp [F_Order___len__, fnOf, sh_Order___len__, flK, gLen, e]
theorem place_eq (h : IsOrd L d) {i : Nat} (hi : i < L.length) : F_Order_need_place [.dat d, .dat (.int (i : Nat))] [] = .ok (.dat .non) [] := by
  obtain ⟨gs, rfl⟩ := h
  have e : ((zs L).map D.int).length = L.length := by simp
  have k := callP_ok (n := 3) (F := F_is_between) (ds := [.int (i : Nat), .int 0, .int ((L.length : Int) - 1)]) (h := []) rfl (is_between_eq (d := .int (i : Nat)) trivial 0 ((L.length : Int) - 1))
  rw [show inD 0 ((L.length : Int) - 1) (.int (i : Nat)) = true from decide_eq_true ⟨by omega, by omega⟩] at k
  simp only [List.map_cons, List.map_nil] at k
  generalize (zs L).map D.int = zz at e
  simp [F_Order_need_place, fnOf, sh_Order_need_place, flK, gLen, e, k]
theorem item_eq (h : IsOrd L d) {i : Nat} (hi : i < L.length) : F_Order___getitem__ [.dat d, .dat (.int (i : Nat))] [] = .ok (.dat (.int ((L.getD i 0 : Nat) : Int))) [] := by
  have k := callP_ok (n := 2) (F := F_Order_need_place) (ds := [d, .int (i : Nat)]) (h := []) rfl (place_eq h hi)
  simp only [List.map_cons, List.map_nil] at k
  obtain ⟨gs, rfl⟩ := h
  have e := zs_at hi
  generalize (zs L).map D.int = zz at e k
  generalize ((L.getD i 0 : Nat) : Int) = y at e
  simp [F_Order___getitem__, fnOf, sh_Order___getitem__, flK, k, e]
def woLc : EE := eLc (iRng1S (eCons (eCB (ownS "Order" isLenW (callP 1 F_Order___len__) (opN gLen)) (eCons (eVar 0) eNil)) eNil)) (gSet 1) eYes (eOp (ixOF "Order" (callP 2 F_Order___getitem__)) (eVar 0) (eVar 1)) [1]
theorem wo_def : F__law_worths = fnOf 1 (sRet woLc) := rfl
theorem own_len (h : IsOrd L d) (hl : L.length ≤ 24) (m : MH) : ownS "Order" isLenW (callP 1 F_Order___len__) (opN gLen) [.dat d] m = .ok (.dat (.int (L.length : Nat))) m := by
  have k := callP_ok (n := 1) (F := F_Order___len__) (ds := [d]) (h := m) rfl (len_eq h)
  simp only [List.map_cons, List.map_nil] at k
  obtain ⟨gs, rfl⟩ := h
  exact ownS_of k (by unfold isLenW; simp; omega)
theorem worths_eq (h : IsOrd L d) (hl : L.length ≤ 24) : F__law_worths [.dat d] [] = .ok (.dat (.lst ((zs L).map .int))) [] := by
  have lc : woLc [some (.dat d), none] [] = .ok (.dat (.lst ((zs L).map .int))) [] := by
    unfold woLc eLc
    have ol := own_len h hl []
    rw [show iRng1S (eCons (eCB (ownS "Order" isLenW (callP 1 F_Order___len__) (opN gLen)) (eCons (eVar 0) eNil)) eNil) [some (.dat d), none] [] = .ok (rngD 0 L.length) [] from by
      rw [rng1_eq (h1 := []) (j := (L.length : Nat)) (one_arg (cb_of (one_arg rfl) ol))]; exact rngR_nat (by omega)]
    unfold rngD
    show lcS (gSet 1) eYes (eOp (ixOF "Order" (callP 2 F_Order___getitem__)) (eVar 0) (eVar 1)) ((List.range L.length).map fun i => .int (0 + (i : Nat))) [some (.dat d), none] [] [] = _
    rw [lcS_of (f := fun i : Nat => D.int (0 + (i : Nat))) (s1 := fun i => [some (.dat d), some (.dat (.int (0 + (i : Nat))))]) (b := fun _ => true) (y := fun i => .int ((L.getD i 0 : Nat) : Int)) (fun i hi => ⟨rfl, rfl, fun _ => ?_⟩) (by simpa using small (by omega))]
    · rw [List.filter_eq_self.mpr fun _ _ => rfl, List.nil_append]
      congr 3
      apply List.ext_getElem
      · simp
      · intro i h1 h2
        simp at h1
        simp [List.getD_eq_getElem?_getD, h1]
    · have k := callP_ok (n := 2) (F := F_Order___getitem__) (ds := [d, .int (i : Nat)]) (h := []) rfl (item_eq h (List.mem_range.mp hi))
      simp only [List.map_cons, List.map_nil] at k
      obtain ⟨gs, rfl⟩ := h
      rw [Int.zero_add]
      exact op_of rfl rfl (by rw [ixOF_obj]; exact k)
  rw [wo_def]
  unfold fnOf
  show fin (sRet woLc [some (.dat d), none] []) = _
  rw [ret_of lc]; rfl
end
/-! ### k33: what is read -/
noncomputable section
def lr1 : SS := (sAsg (eC .non) (gSet 1))
def lr2 : SS := (sAsg (eC .non) (gSet 2))
def lr3 : SS := (sTryN 4 xmK 3 1 2 (eCM "Order" (callP 2 F_Order_read) (eC (.cls "Order")) (eCons (eVar 0) eNil)))
def lr4 : SS := (sIf (eTest (eOp (op2 gIsnt) (eVar 2) (eC .non))) (sRet (eLst (eCons (eC (.str "text")) (eCons (eUn (op1 (gXf xfK "line")) (eVar 2)) (eCons (eUn (op1 (gXf xfK "word")) (eVar 2)) eNil))))) sNext)
def lr5 : SS := (sRet (eCB (callP 1 F__law_worths) (eCons (eVar 1) eNil)))
theorem lr_def : F__law_read = fnOf 3 (sSeq lr1 (sSeq lr2 (sSeq lr3 (sSeq lr4 lr5)))) := rfl
end
theorem nodup_le : ∀ (n : Nat) (g : List Nat), g.Nodup → (∀ k ∈ g, k < n) → g.length ≤ n
  | 0, g, _, h => by
    cases g with
    | nil => exact Nat.le_refl _
    | cons k g => exact absurd (h k (.head _)) (by omega)
  | n + 1, g, nd, h => by
    have e := nodup_le n (g.erase n) (nd.erase n) (fun k hk => by
      have := (List.Nodup.mem_erase_iff nd).mp hk
      have := h k this.2
      omega)
    have := List.length_erase (l := g) (a := n)
    split at this <;> omega
theorem perm_range {n : Nat} {g : List Nat} (nd : g.Nodup) (lt : ∀ k ∈ g, k < n) (l : g.length = n) : g.Perm (List.range n) := by
  refine (List.perm_ext_iff_of_nodup nd List.nodup_range).mpr fun k => ⟨fun h => List.mem_range.mpr (lt k h), fun h => ?_⟩
  have hk := List.mem_range.mp h
  refine Classical.byContradiction fun no => ?_
  have := nodup_le n (k :: g) (List.nodup_cons.mpr ⟨no, nd⟩) (fun j hj => (List.mem_cons.mp hj).elim (fun e => e ▸ hk) (lt j))
  rw [List.length_cons] at this
  omega
theorem makeL_of {s : En} {h h1 : MH} {i : Nat} {C : String} {c : FF} {a : EA} {ws : List W} {r : Res W} (hs : s[i]? = some (some (.dat (.cls C)))) (ha : a s h = .ok ws h1) (hc : c ws h1 = r) : eMakeL i C c a s h = r := by
  unfold eMakeL
  rw [hs, if_pos (by simp), ha]; exact hc
theorem spl_word : ∀ (l : List Nat) (k : Nat) (acc : List Nat), ∀ w ∈ TL.spl [32] k acc l, w.length ≤ acc.length + l.length
  | [], k, acc, w, hw => by
    rw [TL.spl_nil] at hw
    rw [List.mem_singleton.mp hw]; simp
  | c :: r, 0, acc, w, hw => by
    unfold TL.spl at hw
    rw [List.length_cons]
    split at hw
    · rcases List.mem_cons.mp hw with rfl | hw
      · omega
      · have := spl_word r 0 [] w hw
        rw [List.length_nil] at this; omega
    · have := spl_word r 0 (acc ++ [c]) w hw
      rw [List.length_append, List.length_singleton] at this; omega
  | c :: r, k + 1, acc, w, hw => by
    unfold TL.spl at hw
    have := spl_word r k acc w hw
    rw [List.length_cons]; omega
variable {x : Str}
theorem word_le {w : Str} (h : w ∈ wordsT x) : w.length ≤ x.length := by
  rw [wordsT_eq] at h
  obtain ⟨l, hl, rfl⟩ := List.mem_map.mp h
  have := spl_word _ _ _ l hl
  rw [List.length_nil, len_cps] at this
  have e : (SX.S l).length = l.length := SX.S_len l
  rw [e]; omega
/-- what Order.read answers -/
theorem read_eq (l : x.length ≤ 9000) : (∃ k h, dueT x = .inl k ∧ F_Order_read [.dat (.cls "Order"), .dat (.str x)] [] = .exc "BadText" ["word", "line"] [.int (k : Nat), .int 0] h) ∨
    ∃ g d h, dueT x = .inr g ∧ IsOrd g d ∧ g.length ≤ 24 ∧ F_Order_read [.dat (.cls "Order"), .dat (.str x)] [] = .ok (.dat d) h := by
  have wl := words_len x
  have s1 : rd1 [some (.dat (.cls "Order")), some (.dat (.str x)), none, none, none, none] [] = .nx [some (.dat (.cls "Order")), some (.dat (.str x)), none, none, none, none] [] :=
    if_of (k := false) (not_of (tr_of (cb_of (cons_of rfl (one_arg rfl)) (show opN (gIsi sbK) [.dat (.str x), .dat (.ty "str")] [] = .ok (.dat (.bl true)) [] by simp [isiT, tyN, isTyB, tyNs])))) rfl
  have s2 : rd2 [some (.dat (.cls "Order")), some (.dat (.str x)), none, none, none, none] [] = .nx [some (.dat (.cls "Order")), some (.dat (.str x)), some (.dat (.lst ((wordsT x).map .str))), none, none, none] [] := asg_of (bm_of rfl rfl (one_arg rfl) (split_eq l)) rfl
  have s3 : rd3 [some (.dat (.cls "Order")), some (.dat (.str x)), some (.dat (.lst ((wordsT x).map .str))), none, none, none] [] = .nx (rdE x (wordsT x) none none) [foundO []] := asg_of (lstM_of nil_of (small (by simp))) rfl
  have en : iEnS (eCons (eVar 2) eNil) (rdE x (wordsT x) none none) [foundO []] = .ok (enF 0 (wordsT x)) [foundO []] := by
    rw [iEn_eq (ws := [.dat (.lst ((wordsT x).map .str))]) (h1 := [foundO []]) rfl, enW_lst, enF_eq]
  have lp := rd_loop (x := x) (ws0 := wordsT x) (by omega) (wordsT x) 0 [] none none rfl (by omega) (fun w h => Nat.le_trans (word_le h) l)
  rw [rd_def]
  unfold fnOf
  have start : ∀ r, fin (sSeq rd4 rd5 (rdE x (wordsT x) none none) [foundO []]) = r → fin (sSeq rd1 (sSeq rd2 (sSeq rd3 (sSeq rd4 rd5))) ([W.dat (.cls "Order"), .dat (.str x)].map some ++ List.replicate 4 none) []) = r := fun r e => by
    show fin (sSeq rd1 _ [some (.dat (.cls "Order")), some (.dat (.str x)), none, none, none, none] []) = _
    rw [seq_nx s1, seq_nx s2, seq_nx s3, e]
  unfold dueT
  cases e : scanW (wordsT x).length (wordsT x) 0 [] with
  | inl k =>
    rw [e] at lp
    obtain ⟨h, lp⟩ := lp
    refine .inl ⟨k, h, rfl, start _ ?_⟩
    have s4 : rd4 (rdE x (wordsT x) none none) [foundO []] = _ := for_of en lp
    rw [seq_exc s4]; rfl
  | inr g =>
    rw [e] at lp
    obtain ⟨v4, v5, lp⟩ := lp
    obtain ⟨eg, nd, lt, l24⟩ := scan_inr e (by omega) List.nodup_nil (fun k h => nomatch h)
    have lg : g.length = (wordsT x).length := by rw [eg]; simp
    obtain ⟨d, od, mk⟩ := init_good (perm_range nd lt lg) wl.1 (by omega) [.dead]
    refine .inr ⟨g, d, [.dead], rfl, od, by omega, start _ ?_⟩
    have s4 : rd4 (rdE x (wordsT x) none none) [foundO []] = _ := for_of en lp
    have s5 : rd5 (rdE x (wordsT x) v4 v5) [foundO g] = .rt (.dat d) [.dead] := fz_of rfl found_vw (ret_of (makeL_of rfl (one_arg rfl) mk))
    rw [seq_nx s4, s5]; rfl
theorem read_odd {y : D} (no : opN (gIsi sbK) [.dat y, .dat (.ty "str")] [] = .ok (.dat (.bl false)) []) : F_Order_read [.dat (.cls "Order"), .dat y] [] = .exc "BadText" ["word", "line"] [.int 0, .int 0] [] := by
  have s1 : rd1 [some (.dat (.cls "Order")), some (.dat y), none, none, none, none] [] = .exc "BadText" ["word", "line"] [.int 0, .int 0] [] := if_of (k := true) (not_of (tr_of (cb_of (cons_of rfl (one_arg rfl)) no))) rfl
  rw [rd_def]
  unfold fnOf
  show fin (sSeq rd1 _ [some (.dat (.cls "Order")), some (.dat y), none, none, none, none] []) = _
  rw [seq_exc s1]; rfl
/-! the law's look at it -/
def readD : Sum Nat (List Nat) → D
  | .inl k => .lst [.str "text", .int 0, .int (k : Nat)]
  | .inr g => .lst ((zs g).map .int)
theorem look_exc {y : D} {k : Int} {h : MH} (e : F_Order_read [.dat (.cls "Order"), .dat y] [] = .exc "BadText" ["word", "line"] [.int k, .int 0] h) : F__law_read [.dat y] [] = .ok (.dat (.lst [.str "text", .int 0, .int k])) [] := by
  have c := callP_exc (n := 2) (F := F_Order_read) (ds := [.cls "Order", y]) (h := []) rfl e
  simp only [List.map_cons, List.map_nil] at c
  have s3 : lr3 [some (.dat y), some (.dat .non), some (.dat .non), none] [] = .nx [none, none, some (.dat (.exc "BadText" ["word", "line"] [.int k, .int 0])), none] [] := by
    unfold lr3 sTryN
    rw [if_pos ⟨rfl, by omega, by omega⟩]
    exact sTryE_exc (cm_of rfl (one_arg rfl) c) (by simp [xmK]) (by simp)
  have s4 : lr4 [none, none, some (.dat (.exc "BadText" ["word", "line"] [.int k, .int 0])), none] [] = .rt (.dat (.lst [.str "text", .int 0, .int k])) [] :=
    if_of (k := true) (test_of (h1 := []) (op_of (h2 := []) rfl rfl (by simp))) (ret_of (w := .dat (.lst [.str "text", .int 0, .int k])) (h1 := []) (by simp [xfK]))
  rw [lr_def]
  unfold fnOf
  show fin (sSeq lr1 _ [some (.dat y), none, none, none] []) = _
  rw [seq_nx (show lr1 _ [] = .nx [some (.dat y), some (.dat .non), none, none] [] from asg_of rfl rfl), seq_nx (show lr2 _ [] = .nx [some (.dat y), some (.dat .non), some (.dat .non), none] [] from asg_of rfl rfl), seq_nx s3]
  unfold sSeq
  rw [s4]; rfl
theorem look_ok {y d : D} {g : List Nat} {h : MH} (od : IsOrd g d) (l : g.length ≤ 24) (e : F_Order_read [.dat (.cls "Order"), .dat y] [] = .ok (.dat d) h) : F__law_read [.dat y] [] = .ok (.dat (.lst ((zs g).map .int))) [] := by
  have c := callP_ok (n := 2) (F := F_Order_read) (ds := [.cls "Order", y]) (h := []) rfl e
  have c2 := callP_ok (n := 1) (F := F__law_worths) (ds := [d]) (h := []) rfl (worths_eq od l)
  simp only [List.map_cons, List.map_nil] at c c2
  have s3 : lr3 [some (.dat y), some (.dat .non), some (.dat .non), none] [] = .nx [some (.dat y), some (.dat d), some (.dat .non), none] [] := by
    unfold lr3 sTryN
    rw [if_pos ⟨rfl, by omega, by omega⟩]
    exact sTryE_ok (cm_of rfl (one_arg rfl) c)
  have s4 : lr4 [some (.dat y), some (.dat d), some (.dat .non), none] [] = .nx [some (.dat y), some (.dat d), some (.dat .non), none] [] := by
    obtain ⟨gs, rfl⟩ := od
    exact if_of (k := false) (test_of (h1 := []) (op_of (h2 := []) rfl rfl rfl)) rfl
  have s5 : lr5 [some (.dat y), some (.dat d), some (.dat .non), none] [] = .rt (.dat (.lst ((zs g).map .int))) [] := ret_of (cb_of (one_arg rfl) c2)
  rw [lr_def]
  unfold fnOf
  show fin (sSeq lr1 _ [some (.dat y), none, none, none] []) = _
  rw [seq_nx (show lr1 _ [] = .nx [some (.dat y), some (.dat .non), none, none] [] from asg_of rfl rfl), seq_nx (show lr2 _ [] = .nx [some (.dat y), some (.dat .non), some (.dat .non), none] [] from asg_of rfl rfl), seq_nx s3, seq_nx s4, s5]; rfl
theorem look_eq (l : x.length ≤ 9000) : F__law_read [.dat (.str x)] [] = .ok (.dat (readD (dueT x))) [] := by
  rcases read_eq l with ⟨k, h, e1, e2⟩ | ⟨g, d, h, e1, od, lg, e2⟩
  · rw [e1]; exact look_exc e2
  · rw [e1]; exact look_ok od lg e2
end R
end

section
namespace R
open PySem PySem.Spec PyProof.Rows L2 Z LamX S
open PySem.W (alike alikeAll dataLt dataLe keyToks keyToksAll)
/-! ### k33: texts of orders, comparisons -/
noncomputable section
def olt1 : SS := (sIf (eNot (eTr (eCB (opN (gIsi sbK)) (eCons (eVar 1) (eCons (eC (.cls "Order")) eNil))))) sNo sNext)
def olt2 : SS := (sRet (eOp (op2 gLtX) (eUn (op1 (gFld flK "places")) (eVar 0)) (eUn (op1 (gFld flK "places")) (eVar 1))))
theorem olt_def : F_Order___lt__ = fnOf 0 (sSeq olt1 olt2) := rfl
def ole1 : SS := (sIf (eNot (eTr (eCB (opN (gIsi sbK)) (eCons (eVar 1) (eCons (eC (.cls "Order")) eNil))))) sNo sNext)
def ole2 : SS := (sRet (eOp (op2 gLeX) (eUn (op1 (gFld flK "places")) (eVar 0)) (eUn (op1 (gFld flK "places")) (eVar 1))))
theorem ole_def : F_Order___le__ = fnOf 0 (sSeq ole1 ole2) := rfl
def ogt1 : SS := (sIf (eNot (eTr (eCB (opN (gIsi sbK)) (eCons (eVar 1) (eCons (eC (.cls "Order")) eNil))))) sNo sNext)
def ogt2 : SS := (sRet (eOp (op2 gGtX) (eUn (op1 (gFld flK "places")) (eVar 0)) (eUn (op1 (gFld flK "places")) (eVar 1))))
theorem ogt_def : F_Order___gt__ = fnOf 0 (sSeq ogt1 ogt2) := rfl
def oge1 : SS := (sIf (eNot (eTr (eCB (opN (gIsi sbK)) (eCons (eVar 1) (eCons (eC (.cls "Order")) eNil))))) sNo sNext)
def oge2 : SS := (sRet (eOp (op2 gGeX) (eUn (op1 (gFld flK "places")) (eVar 0)) (eUn (op1 (gFld flK "places")) (eVar 1))))
theorem oge_def : F_Order___ge__ = fnOf 0 (sSeq oge1 oge2) := rfl
def osc : EE := (eLc (iAnyS (eUn (op1 (gFld flK "places")) (eVar 0))) (gSet 1) eYes (eCB (opN gStr) (eCons (eVar 1) eNil)) [1])
def os : SS := (sRet (eBM "str" mJoin (eC (.str " ")) (eCons osc eNil)))
theorem os_def : F_Order___str__ = fnOf 1 os := rfl
def cp1 : SS := (sAsg (eCB (mkP "Order" 2 F_Order___init__) (eCons (eVar 0) eNil)) (gSet 2))
def cp2 : SS := (sAsg (eCB (mkP "Order" 2 F_Order___init__) (eCons (eVar 1) eNil)) (gSet 3))
def cp3 : SS := (sAsg (eLst (eCons (eOp (ownL "Order" (callP 2 F_Order___lt__) (op2 gLtX)) (eVar 2) (eVar 3)) (eCons (eOp (ownL "Order" (callP 2 F_Order___le__) (op2 gLeX)) (eVar 2) (eVar 3)) (eCons (eOp (ownL "Order" (callP 2 F_Order___gt__) (op2 gGtX)) (eVar 2) (eVar 3)) (eCons (eOp (ownL "Order" (callP 2 F_Order___ge__) (op2 gGeX)) (eVar 2) (eVar 3)) (eCons (eOp (ownEqR "Order" (callP 2 F_Order___eq__) (ownL "Order" (callP 2 F_Order___eq__) (op2 gEq))) (eVar 2) (eVar 3)) (eCons (eOp (ownNe "Order" (callP 2 F_Order___eq__) (op2 gNe)) (eVar 2) (eVar 3)) eNil))))))) (gSet 4))
def cp4 : SS := (sRet (eOp (op2 gEq) (eVar 4) (eLst (eCons (eOp (op2 gLtX) (eVar 0) (eVar 1)) (eCons (eOp (op2 gLeX) (eVar 0) (eVar 1)) (eCons (eOp (op2 gGtX) (eVar 0) (eVar 1)) (eCons (eOp (op2 gGeX) (eVar 0) (eVar 1)) (eCons (eOp (op2 gEq) (eVar 0) (eVar 1)) (eCons (eOp (op2 gNe) (eVar 0) (eVar 1)) eNil)))))))))
theorem cp_def : F__law_compared = fnOf 3 (sSeq cp1 (sSeq cp2 (sSeq cp3 cp4))) := rfl
end
section
variable {L M : List Nat} {d e : D}
theorem strsD_strs : ∀ ws : List Str, strsD (ws.map .str) = some ws
  | [] => rfl
  | w :: ws => by rw [List.map_cons]; unfold strsD; rw [strsD_strs ws]; rfl
theorem sum_le {ws : List Str} {b : Nat} (h : ∀ w ∈ ws, w.length ≤ b) : (ws.map (·.length)).sum ≤ b * ws.length := by
  induction ws with
  | nil => simp
  | cons w ws ih =>
    have h1 := h w (.head _)
    have h2 := ih fun w hw => h w (.tail _ hw)
    rw [List.map_cons, List.sum_cons, List.length_cons, Nat.mul_add, Nat.mul_one]
    omega
theorem join_eq {ws : List Str} {b : Nat} {h : MH} (hw : ∀ w ∈ ws, w.length ≤ b) (hb : b ≤ 100) (hl : ws.length ≤ 1000) : mJoin (.dat (.str " ")) [.dat (.lst (ws.map .str))] h = .ok (.dat (.str (Txt.join spc ws))) h := by
  have s := sum_le hw
  have m : b * ws.length ≤ 100 * 1000 := Nat.mul_le_mul hb hl
  have o : (Str.ofString " ").length = 1 := by decide +kernel
  show (match strsD (ws.map .str) with | some ys => _ | none => _) = _
  rw [strsD_strs]
  show (if (ws.map (·.length)).sum + ws.length * (Str.ofString " ").length ≤ 16777216 then _ else _) = _
  rw [o, if_pos (by omega)]
theorem join_len : ∀ {ws : List Str} {b : Nat}, (∀ w ∈ ws, w.length ≤ b) → (Txt.join spc ws).length ≤ (b + 1) * ws.length
  | [], b, _ => by
    rw [TL.join_eq]
    show (PySem.Str.empty).length ≤ _
    simp [PySem.Str.empty, Str.length]
  | [w], b, h => by
    have := h w (.head _)
    rw [TL.join_eq]
    show w.length ≤ _
    simp only [List.length_cons, List.length_nil]; omega
  | w :: v :: ws, b, h => by
    have ih := join_len (ws := v :: ws) (b := b) fun w hw => h w (.tail _ hw)
    have h1 := h w (.head _)
    have o : spc.length = 1 := by decide +kernel
    rw [TL.join_eq] at ih ⊢
    show ((w ++ spc) ++ Str.join spc (v :: ws)).length ≤ _
    rw [app_lenZ, app_lenZ, o, List.length_cons, Nat.mul_add, Nat.mul_one]
    omega
def textO (L : List Nat) : Str := Txt.join spc (L.map natS)
theorem str_ok (od : IsOrd L d) (l : L.length ≤ 24) (lt : ∀ k ∈ L, k < 24) : F_Order___str__ [.dat d] [] = .ok (.dat (.str (textO L))) [] := by
  obtain ⟨gs, rfl⟩ := od
  have pl : eUn (op1 (gFld flK "places")) (eVar 0) [some (.dat (.obj "Order" ["places", "goes"] [.tup ((zs L).map .int), .tup gs])), none] [] = .ok (.dat (.tup ((zs L).map .int))) [] := by
    generalize (zs L).map D.int = zz
    simp [flK]
  have lc : osc [some (.dat (.obj "Order" ["places", "goes"] [.tup ((zs L).map .int), .tup gs])), none] [] = .ok (.dat (.lst ((L.map natS).map .str))) [] := by
    unfold osc
    have e : (zs L).map D.int = L.map fun i : Nat => D.int (i : Nat) := by rw [List.map_map]; rfl
    refine lc_of (ds := L.map fun i : Nat => D.int (i : Nat)) (any_of_ pl (by rw [← e]; rfl)) ?_
    show lcS (gSet 1) eYes (eCB (opN gStr) (eCons (eVar 1) eNil)) (L.map fun i : Nat => D.int (i : Nat)) [some (.dat (.obj "Order" ["places", "goes"] [.tup ((zs L).map .int), .tup gs])), none] [] [] = _
    rw [lcS_of (f := fun i : Nat => D.int (i : Nat)) (s1 := fun i => [some (.dat (.obj "Order" ["places", "goes"] [.tup ((zs L).map .int), .tup gs])), some (.dat (.int (i : Nat)))]) (b := fun _ => true) (y := fun i => .str (natS i)) (fun i hi => ⟨rfl, rfl, fun _ => ?_⟩) (by rw [List.length_nil, Nat.zero_add]; exact small (by omega))]
    · rw [List.filter_eq_self.mpr fun _ _ => rfl, List.nil_append, List.map_map]; rfl
    · exact cb_of (one_arg rfl) (by rw [opN_1, natS_str (by have := lt i hi; omega)]; rfl)
  have jn := join_eq (ws := L.map natS) (b := 2) (h := []) (fun w hw => by obtain ⟨k, hk, rfl⟩ := List.mem_map.mp hw; exact natS_len (by omega) (by have := lt k hk; omega)) (by omega) (by rw [List.length_map]; omega)
  rw [os_def]
  unfold fnOf
  show fin (os [some (.dat (.obj "Order" ["places", "goes"] [.tup ((zs L).map .int), .tup gs])), none] []) = _
  rw [show os _ _ = _ from ret_of (bm_of rfl rfl (one_arg lc) jn)]; rfl
/-! comparisons -/
abbrev psP (L : List Nat) : List PyData := (zs L).map .int
theorem toP_t : toP (.tup ((zs L).map .int)) = some (.tuple (psP L)) := by unfold toP; rw [toPs_ints]; rfl
theorem toP_l : toP (.lst ((zs L).map .int)) = some (.list (psP L)) := by unfold toP; rw [toPs_ints]; rfl
theorem alike_ints : ∀ xs ys : List Int, alikeAll (xs.map .int) (ys.map .int) = true
  | [], [] => rfl
  | [], _ :: _ => rfl
  | _ :: _, [] => rfl
  | x :: xs, y :: ys => by rw [List.map_cons, List.map_cons, alikeAll, alike_ints xs ys]; rfl
theorem depth_ints : ∀ xs : List Int, PyData.depthAll (xs.map .int) = 0
  | [] => rfl
  | x :: xs => by rw [List.map_cons]; simp [PyData.depthAll, PyData.depth, depth_ints xs]
theorem ord_t {f : PyData → PyData → Bool} : ordD f (.tup ((zs L).map .int)) (.tup ((zs M).map .int)) = some (.bl (f (.tuple (psP L)) (.tuple (psP M)))) := by
  unfold ordD
  rw [toP_t, toP_t]
  simp only
  rw [if_pos ⟨by rw [alike]; exact alike_ints _ _, rfl, by rw [PyData.depth, depth_ints]; omega⟩]
theorem ord_l {f : PyData → PyData → Bool} : ordD f (.lst ((zs L).map .int)) (.lst ((zs M).map .int)) = some (.bl (f (.list (psP L)) (.list (psP M)))) := by
  unfold ordD
  rw [toP_l, toP_l]
  simp only
  rw [if_pos ⟨by rw [alike]; exact alike_ints _ _, rfl, by rw [PyData.depth, depth_ints]; omega⟩]
def ltB (L M : List Nat) : Bool := dataLt (.list (psP L)) (.list (psP M))
theorem lt_t : dataLt (.tuple (psP L)) (.tuple (psP M)) = ltB L M := by unfold ltB dataLt; simp only [keyToks]
def eqB (L M : List Nat) : Bool := PyData.eqv (.list (psP L)) (.list (psP M))
theorem deq_l : deq (.lst ((zs L).map .int)) (.lst ((zs M).map .int)) = some (eqB L M) := by
  unfold deq
  rw [toP_l, toP_l]
  simp only
  rw [if_pos ⟨shaped_ints _, shaped_ints _⟩]; rfl
theorem deq_t : deq (.tup ((zs L).map .int)) (.tup ((zs M).map .int)) = some (eqB L M) := by
  unfold deq
  rw [toP_t, toP_t]
  simp only
  rw [if_pos ⟨(shaped_ints (zs L) : SeqAt.shaped (.tuple (psP L)) = true), (shaped_ints (zs M) : SeqAt.shaped (.tuple (psP M)) = true)⟩]
  unfold eqB
  simp only [PyData.eqv]
theorem fld_eq (od : IsOrd L d) {s : En} {i : Nat} {h : MH} (hs : s[i]? = some (some (.dat d))) : eUn (op1 (gFld flK "places")) (eVar i) s h = .ok (.dat (.tup ((zs L).map .int))) h := by
  obtain ⟨gs, rfl⟩ := od
  refine un_of (var_of hs) ?_
  generalize (zs L).map D.int = zz
  simp [flK]
theorem isi_eq (od : IsOrd L d) {h : MH} : opN (gIsi sbK) [.dat d, .dat (.cls "Order")] h = .ok (.dat (.bl true)) h := by
  obtain ⟨gs, rfl⟩ := od
  simp [isiC, sbK]
theorem cmp_of (od : IsOrd L d) (oe : IsOrd M e) {g : D → D → Option D} {b : Bool} (hg : g (.tup ((zs L).map .int)) (.tup ((zs M).map .int)) = some (.bl b)) :
    fin (sSeq (sIf (eNot (eTr (eCB (opN (gIsi sbK)) (eCons (eVar 1) (eCons (eC (.cls "Order")) eNil))))) sNo sNext) (sRet (eOp (op2 g) (eUn (op1 (gFld flK "places")) (eVar 0)) (eUn (op1 (gFld flK "places")) (eVar 1)))) [some (.dat d), some (.dat e)] []) = .ok (.dat (.bl b)) [] := by
  rw [seq_nx (show sIf _ sNo sNext [some (.dat d), some (.dat e)] [] = .nx [some (.dat d), some (.dat e)] [] from if_of (k := false) (not_of (tr_of (cb_of (cons_of rfl (one_arg rfl)) (isi_eq oe)))) rfl)]
  rw [ret_of (op_of (fld_eq od rfl) (fld_eq oe rfl) (show op2 g _ _ [] = .ok (.dat (.bl b)) [] by rw [op2_dat, hg]; rfl))]; rfl
theorem lt_ok (od : IsOrd L d) (oe : IsOrd M e) : F_Order___lt__ [.dat d, .dat e] [] = .ok (.dat (.bl (ltB L M))) [] := cmp_of od oe (by unfold gLtX; rw [if_pos (show isSeqD (D.tup ((zs L).map .int)) = true from rfl), ord_t, lt_t])
theorem le_ok (od : IsOrd L d) (oe : IsOrd M e) : F_Order___le__ [.dat d, .dat e] [] = .ok (.dat (.bl (!ltB M L))) [] := cmp_of od oe (by unfold gLeX; rw [if_pos (show isSeqD (D.tup ((zs L).map .int)) = true from rfl), ord_t, lt_t])
theorem gt_ok (od : IsOrd L d) (oe : IsOrd M e) : F_Order___gt__ [.dat d, .dat e] [] = .ok (.dat (.bl (ltB M L))) [] := cmp_of od oe (by unfold gGtX; rw [if_pos (show isSeqD (D.tup ((zs L).map .int)) = true from rfl), ord_t, lt_t])
theorem ge_ok (od : IsOrd L d) (oe : IsOrd M e) : F_Order___ge__ [.dat d, .dat e] [] = .ok (.dat (.bl (!ltB L M))) [] := cmp_of od oe (by unfold gGeX; rw [if_pos (show isSeqD (D.tup ((zs L).map .int)) = true from rfl), ord_t, lt_t])
theorem eq_def2 : F_Order___eq__ = fnOf 0 (sRet (eAndT (eCB (opN (gIsi sbK)) (eCons (eVar 1) (eCons (eC (.cls "Order")) eNil))) (eOp (op2 gEq) (eUn (op1 (gFld flK "places")) (eVar 0)) (eUn (op1 (gFld flK "places")) (eVar 1))))) := rfl
theorem eq_ok (od : IsOrd L d) (oe : IsOrd M e) : F_Order___eq__ [.dat d, .dat e] [] = .ok (.dat (.bl (eqB L M))) [] := by
  rw [eq_def2]
  unfold fnOf
  show fin (sRet _ [some (.dat d), some (.dat e)] []) = _
  rw [ret_of (andT_t (cb_of (cons_of rfl (one_arg rfl)) (isi_eq oe)) (op_of (fld_eq od rfl) (fld_eq oe rfl) (show op2 gEq _ _ [] = .ok (.dat (.bl (eqB L M))) [] by rw [op2_dat, gEq_def, peq_tup, deq_t]; rfl)))]; rfl
theorem ownL_of {C : String} {c : FF} {f : W → W → MH → Res W} {x y : W} {h : MH} {r : Res W} (hx : isObj C h x = true) (hy : okY C h y = true) (hc : c [x, y] h = r) : ownL C c f x y h = r := by
  unfold ownL; rw [if_pos hx, if_pos hy]; exact hc
theorem ownEqR_of {C : String} {c : FF} {f : W → W → MH → Res W} {x y : W} {h : MH} {r : Res W} (hy : isObj C h y = true) (hx : isBt h x = false) (hf : f x y h = r) : ownEqR C c f x y h = r := by
  unfold ownEqR; rw [if_pos hy, if_neg (by rw [hx]; exact Bool.false_ne_true)]; exact hf
theorem ord_obj (od : IsOrd L d) (h : MH) : isObj "Order" h (.dat d) = true ∧ okY "Order" h (.dat d) = true ∧ isBt h (.dat d) = false := by
  obtain ⟨gs, rfl⟩ := od
  exact ⟨by simp, by simp [okY], by simp [isBt, tyN]⟩
theorem bools_eq {bs : List Bool} : deq (.lst (bs.map .bl)) (.lst (bs.map .bl)) = some true := by
  have e : ∀ bs : List Bool, toPs (bs.map .bl) = some (bs.map .bool) := by
    intro bs
    induction bs with
    | nil => simp [toPs]
    | cons b bs ih => rw [List.map_cons, List.map_cons]; simp [toPs, toP, ih]
  have e1 : toP (.lst (bs.map .bl)) = some (.list (bs.map .bool)) := by unfold toP; rw [e]; rfl
  have c : ∀ bs : List Bool, PyData.canLayAll0 (bs.map .bool) = true := by
    intro bs
    induction bs with
    | nil => simp [PyData.canLayAll0]
    | cons b bs ih => rw [List.map_cons]; simp [PyData.canLayAll0, PyData.canLay0, ih]
  have dp : ∀ bs : List Bool, PyData.depthAll (bs.map .bool) = 0 := by
    intro bs
    induction bs with
    | nil => simp [PyData.depthAll]
    | cons b bs ih => rw [List.map_cons]; simp [PyData.depthAll, PyData.depth, ih]
  have sh : SeqAt.shaped (.list (bs.map .bool)) = true := by
    unfold SeqAt.shaped
    rw [Bool.and_eq_true]
    refine ⟨?_, by simp [PyData.depth, dp]⟩
    show PyData.canLay0 (.list _) = true
    rw [PyData.canLay0]; exact c bs
  unfold deq
  simp only [e1]
  rw [if_pos ⟨sh, sh⟩, SeqAt.eqv_refl _ (by rw [PyData.canLay0]; exact c bs)]
def cmpBs (L M : List Nat) : List Bool := [ltB L M, !ltB M L, ltB M L, !ltB L M, eqB L M, !eqB L M]
theorem six {a b c d e f : EE} {s : En} {h : MH} {x1 x2 x3 x4 x5 x6 : Bool} (h1 : a s h = .ok (.dat (.bl x1)) h) (h2 : b s h = .ok (.dat (.bl x2)) h) (h3 : c s h = .ok (.dat (.bl x3)) h) (h4 : d s h = .ok (.dat (.bl x4)) h) (h5 : e s h = .ok (.dat (.bl x5)) h) (h6 : f s h = .ok (.dat (.bl x6)) h) :
    eLst (eCons a (eCons b (eCons c (eCons d (eCons e (eCons f eNil)))))) s h = .ok (.dat (.lst ([x1, x2, x3, x4, x5, x6].map .bl))) h := by simp [h1, h2, h3, h4, h5, h6]
theorem compared_eq {n m : Nat} (pL : L.Perm (List.range n)) (pM : M.Perm (List.range m)) (n1 : 1 ≤ n) (n2 : n ≤ 24) (m1 : 1 ≤ m) (m2 : m ≤ 24) : F__law_compared [.dat (.lst ((zs L).map .int)), .dat (.lst ((zs M).map .int))] [] = .ok (.dat (.bl true)) [] := by
  obtain ⟨d, od, k1⟩ := init_good pL n1 n2 []
  obtain ⟨e, oe, k2⟩ := init_good pM m1 m2 []
  have c1 := callP_ok (n := 2) (F := F_Order___lt__) (ds := [d, e]) (h := []) rfl (lt_ok od oe)
  have c2 := callP_ok (n := 2) (F := F_Order___le__) (ds := [d, e]) (h := []) rfl (le_ok od oe)
  have c3 := callP_ok (n := 2) (F := F_Order___gt__) (ds := [d, e]) (h := []) rfl (gt_ok od oe)
  have c4 := callP_ok (n := 2) (F := F_Order___ge__) (ds := [d, e]) (h := []) rfl (ge_ok od oe)
  have c5 := callP_ok (n := 2) (F := F_Order___eq__) (ds := [d, e]) (h := []) rfl (eq_ok od oe)
  simp only [List.map_cons, List.map_nil] at c1 c2 c3 c4 c5
  obtain ⟨o1, o2, o3⟩ := ord_obj od []
  obtain ⟨q1, q2, q3⟩ := ord_obj oe []
  have s1 : cp1 [some (.dat (.lst ((zs L).map .int))), some (.dat (.lst ((zs M).map .int))), none, none, none] [] = .nx [some (.dat (.lst ((zs L).map .int))), some (.dat (.lst ((zs M).map .int))), some (.dat d), none, none] [] := asg_of (cb_of (one_arg rfl) k1) rfl
  have s2 : cp2 [some (.dat (.lst ((zs L).map .int))), some (.dat (.lst ((zs M).map .int))), some (.dat d), none, none] [] = .nx [some (.dat (.lst ((zs L).map .int))), some (.dat (.lst ((zs M).map .int))), some (.dat d), some (.dat e), none] [] := asg_of (cb_of (one_arg rfl) k2) rfl
  have ne : ownNe "Order" (callP 2 F_Order___eq__) (op2 gNe) (.dat d) (.dat e) [] = .ok (.dat (.bl (!eqB L M))) [] := by
    obtain ⟨gs, rfl⟩ := od
    exact ownNe_of q2 c5
  have s3 : cp3 [some (.dat (.lst ((zs L).map .int))), some (.dat (.lst ((zs M).map .int))), some (.dat d), some (.dat e), none] [] = .nx [some (.dat (.lst ((zs L).map .int))), some (.dat (.lst ((zs M).map .int))), some (.dat d), some (.dat e), some (.dat (.lst ((cmpBs L M).map .bl)))] [] :=
    asg_of (six (op_of rfl rfl (ownL_of o1 q2 c1)) (op_of rfl rfl (ownL_of o1 q2 c2)) (op_of rfl rfl (ownL_of o1 q2 c3)) (op_of rfl rfl (ownL_of o1 q2 c4)) (op_of rfl rfl (ownEqR_of q1 o3 (ownL_of o1 q2 c5))) (op_of rfl rfl ne)) rfl
  have r : ∀ {g : D → D → Option D} {b : Bool}, g (.lst ((zs L).map .int)) (.lst ((zs M).map .int)) = some (.bl b) → eOp (op2 g) (eVar 0) (eVar 1) [some (.dat (.lst ((zs L).map .int))), some (.dat (.lst ((zs M).map .int))), some (.dat d), some (.dat e), some (.dat (.lst ((cmpBs L M).map .bl)))] [] = .ok (.dat (.bl b)) [] := fun {g b} hg => op_of rfl rfl (by rw [op2_dat, hg]; rfl)
  have s4 : cp4 [some (.dat (.lst ((zs L).map .int))), some (.dat (.lst ((zs M).map .int))), some (.dat d), some (.dat e), some (.dat (.lst ((cmpBs L M).map .bl)))] [] = .rt (.dat (.bl true)) [] :=
    ret_of (op_of rfl (six (r (by unfold gLtX; rw [if_pos (show isSeqD (D.lst ((zs L).map .int)) = true from rfl), ord_l]; rfl)) (r (by unfold gLeX; rw [if_pos (show isSeqD (D.lst ((zs L).map .int)) = true from rfl), ord_l]; rfl)) (r (by unfold gGtX; rw [if_pos (show isSeqD (D.lst ((zs L).map .int)) = true from rfl), ord_l]; rfl)) (r (by unfold gGeX; rw [if_pos (show isSeqD (D.lst ((zs L).map .int)) = true from rfl), ord_l]; rfl)) (r (by rw [gEq_def, peq_lst, deq_l]; rfl)) (r (by rw [gNe_def, peq_lst, deq_l]; rfl)))
      (show op2 gEq (.dat (.lst ((cmpBs L M).map .bl))) (.dat (.lst ((cmpBs L M).map .bl))) [] = .ok (.dat (.bl true)) [] by rw [op2_dat, gEq_def, peq_lst, bools_eq]; rfl))
  rw [cp_def]
  unfold fnOf
  show fin (sSeq cp1 _ [some (.dat (.lst ((zs L).map .int))), some (.dat (.lst ((zs M).map .int))), none, none, none] []) = _
  rw [seq_nx s1, seq_nx s2, seq_nx s3, s4]; rfl
end
end R
end

section
namespace R
open PySem PySem.Spec PyProof.Rows L2 Z LamX S
/-! ### k33: drawn orders -/
noncomputable section
def sp1 : SS := (sAsg (eCB (callT 2 F__law_draw) (eCons (eVar 0) (eCons (eC (.int 6)) eNil))) (gSet 2))
def sp2 : SS := (sAsg (eRgM (eVar 1)) (gSet 3))
def sp3 : SS := (sIf (eTest (eOp (op2 gEq) (eVar 2) (eC (.int 1)))) (sRet (eRev (eVar 3))) sNext)
def sp4 : SS := (sIf (eTest (eOp (op2 gEq) (eVar 2) (eC (.int 2)))) (sSeq (sAsg (eCB (callT 2 F__law_draw) (eCons (eVar 0) (eCons (eVar 1) eNil))) (gSet 4)) (sRet (eOp (op2 gAdd) (eSl (opS gSl) (eVar 3) (ePart (eVar 4)) eNoPart) (eSl (opS gSl) (eVar 3) eNoPart (ePart (eVar 4)))))) sNext)
def sp5 : SS := (sIf (eTest (eOp (op2 gEq) (eVar 2) (eC (.int 3)))) (sSeq (sAsg (eCB (callT 2 F__law_draw) (eCons (eVar 0) (eCons (eVar 1) eNil))) (gSet 5)) (sSeq (sAsg (eCB (callT 2 F__law_draw) (eCons (eVar 0) (eCons (eVar 1) eNil))) (gSet 6)) (sSeq (sAsg (eVar 6) (gSubS (eVar 3) (eVar 5))) (sAsg (eVar 5) (gSubS (eVar 3) (eVar 6)))))) sNext)
def sp6 : SS := (sIf (eTest (eOp (op2 gGt) (eVar 2) (eC (.int 3)))) (sRet (eCB (callT 2 F__law_mixed) (eCons (eVar 0) (eCons (eVar 3) eNil)))) sNext)
def sp7 : SS := (sRet (eVar 3))
theorem sp_def : F__law_spots = fnOf 5 (sSeq sp1 (sSeq sp2 (sSeq sp3 (sSeq sp4 (sSeq sp5 (sSeq sp6 sp7)))))) := rfl
def mx1 : SS := (sAsg (eListM (eCons (eVar 1) eNil)) (gSet 2))
def mx2c : EE := (eLc (iRng1S (eCons (eCB (opN gLen) (eCons (eVar 2) eNil)) eNil)) (gSet 3) eYes (eBM "list" mPop (eVar 2) (eCons (eCB (callT 2 F__law_draw) (eCons (eVar 0) (eCons (eCB (opN gLen) (eCons (eVar 2) eNil)) eNil))) eNil)) [3])
def mx2 : SS := (sRet mx2c)
theorem mx_def : F__law_mixed = fnOf 2 (sSeq mx1 mx2) := rfl
end
theorem pn_new {n : Nat} {t h : MH} {o : O} (p : Pn n t h) : Pn n (t ++ [o]) (h ++ [o]) := by
  obtain ⟨cs, a, r, rfl, h0, h1⟩ := p
  exact ⟨cs, a, r, rfl, h0, h1⟩
theorem pn_get {n : Nat} {t u h : MH} {o : O} (p : Pn n (t ++ o :: u) h) : h[t.length + 1]? = some o := by
  obtain ⟨cs, a, r, rfl, h0, h1⟩ := p
  simp
theorem pn_set {n : Nat} {t u h : MH} {o o' : O} (p : Pn n (t ++ o :: u) h) : Pn n (t ++ o' :: u) (h.set (t.length + 1) o') := by
  obtain ⟨cs, a, r, rfl, h0, h1⟩ := p
  exact ⟨cs, a, r, by simp, h0, h1⟩
theorem pn_put {n j : Nat} {t u h : MH} {ws : List W} {w : W} {s : En} (p : Pn n (t ++ .lst ws :: u) h) (hj : j < ws.length) :
    putI w (.ref (t.length + 1)) (.dat (.int (j : Nat))) s h = .nx s (h.set (t.length + 1) (.lst (ws.set j w))) := by
  have g := pn_get p
  have e : ixN ws.length (j : Int) = some j := by
    unfold ixN
    simp; omega
  unfold putI
  simp only [g, e]
theorem pn_vw {n : Nat} {t u h : MH} {ds : List D} (p : Pn n (t ++ .lst (ds.map .dat) :: u) h) : vw h (.ref (t.length + 1)) = some (.lst ds) := by
  have g := pn_get p
  unfold vw
  simp only [g, datAll_map, Option.map_some]
theorem callT_more {n : Nat} {F : FF} {ws : List W} {h h2 u : MH} {d : D} (hl : ws.length = n) (e : F ws h = .ok (.dat d) (h2 ++ u)) (l : h2.length = h.length) (f : h2.all O.flat = true) : callT n F ws h = .ok (.dat d) h2 := by
  unfold callT
  rw [if_pos hl, e]
  simp only [frz]
  rw [List.take_left' l, if_pos f]
theorem pn_cut {n : Nat} {t h u : MH} (p : Pn n (t ++ u) h) : ∃ h', Pn n t h' ∧ h = h' ++ u := by
  obtain ⟨cs, a, r, rfl, h0, h1⟩ := p
  exact ⟨penO cs a r :: t, ⟨cs, a, r, rfl, h0, h1⟩, rfl⟩
theorem flat_lst {t u : MH} {ds : List D} (ft : t.all O.flat = true) (fu : u.all O.flat = true) : (t ++ .lst (ds.map .dat) :: u).all O.flat = true := by
  simp [ft, fu, O.flat, datAll_map]
theorem rng_zs (m : Nat) : rngD 0 m = (zs (List.range m)).map .int := by
  unfold rngD
  rw [List.map_map]
  exact List.map_congr_left fun i _ => by simp
variable {n m : Nat} {t h : MH}
theorem del_map {α β : Type} (f : α → β) : ∀ (l : List α) (i : Nat), (l.map f).eraseIdx i = (l.eraseIdx i).map f
  | [], _ => rfl
  | _ :: _, 0 => rfl
  | x :: l, i + 1 => by rw [List.map_cons, List.eraseIdx_cons_succ, List.eraseIdx_cons_succ, List.map_cons, del_map f l i]
theorem del_perm {α : Type} : ∀ (l : List α) (i : Nat) (h : i < l.length), (l[i] :: l.eraseIdx i).Perm l
  | x :: l, 0, _ => .refl _
  | x :: l, i + 1, h => by
    rw [List.length_cons] at h
    rw [List.eraseIdx_cons_succ, List.getElem_cons_succ]
    exact (List.Perm.swap x _ _).trans (.cons x (del_perm l i (by omega)))
/-! mixed -/
theorem vw_len {k : Nat} {L : List Nat} (v : vw h (.ref k) = some (.lst ((zs L).map .int))) : opN gLen [.ref k] h = .ok (.dat (.int (L.length : Nat))) h := by
  have e : ((zs L).map D.int).length = L.length := by simp
  generalize (zs L).map D.int = zz at v e
  simp [opN, v, gLen, e]
theorem mix_loop {s0 : Option W} : ∀ (ds : List D) (rest : List Nat) (k : Nat) (h : MH) (acc : List D), ds.length ≤ rest.length → rest.length ≤ 100 → acc.length + ds.length ≤ 1000 → k + ds.length ≤ 90000 → t.all O.flat = true → Pn k (t ++ [foundO rest]) h →
    ∃ ys rest' h', lcS (gSet 3) eYes (eBM "list" mPop (eVar 2) (eCons (eCB (callT 2 F__law_draw) (eCons (eVar 0) (eCons (eCB (opN gLen) (eCons (eVar 2) eNil)) eNil))) eNil)) ds [some (.ref 0), s0, some (.ref (t.length + 1)), none] h acc = .ok (.dat (.lst (acc ++ (zs ys).map .int))) h' ∧
      ys.length = ds.length ∧ (ys ++ rest').Perm rest ∧ Pn (k + ds.length) (t ++ [foundO rest']) h'
  | [], rest, k, h, acc, _, _, _, _, _, p => ⟨[], rest, h, by simp [lcS], rfl, .refl _, p⟩
  | d :: ds, rest, k, h, acc, hl, h100, ha, hk, ft, p => by
    rw [List.length_cons] at hl ha hk
    have vv := pn_vw p
    obtain ⟨j, h1, j0, j1, p1, e1⟩ := draws (m := (rest.length : Nat)) p (flat_lst ft rfl) (by omega) (by omega) (by omega)
    obtain ⟨i, rfl⟩ : ∃ i : Nat, j = i := ⟨j.toNat, by omega⟩
    have hi : i < rest.length := by omega
    have g := pn_get p1
    have p2 := pn_set (o' := foundO (rest.eraseIdx i)) p1
    have len := vw_len vv
    have ev : (((zs rest).map D.int).map W.dat)[i]? = some (.dat (.int (rest[i] : Nat))) := by simp [hi]
    have ee : (((zs rest).map D.int).map W.dat).eraseIdx i = ((zs (rest.eraseIdx i)).map D.int).map W.dat := by rw [del_map, del_map, zs, del_map]
    have pop : mPop (.ref (t.length + 1)) [.dat (.int (i : Nat))] h1 = .ok (.dat (.int (rest[i] : Nat))) (h1.set (t.length + 1) (foundO (rest.eraseIdx i))) := by
      unfold mPop
      simp only [g]
      rw [if_pos ⟨by omega, by omega⟩, Int.toNat_natCast, ev, ee]
    have ty : tyW "list" h (.ref (t.length + 1)) = true := by simp [tyW, pn_get p]
    have te : eBM "list" mPop (eVar 2) (eCons (eCB (callT 2 F__law_draw) (eCons (eVar 0) (eCons (eCB (opN gLen) (eCons (eVar 2) eNil)) eNil))) eNil) [some (.ref 0), s0, some (.ref (t.length + 1)), some (.dat d)] h = .ok (.dat (.int (rest[i] : Nat))) (h1.set (t.length + 1) (foundO (rest.eraseIdx i))) :=
      bm_of rfl ty (one_arg (cb_of (cons_of rfl (one_arg (cb_of (one_arg rfl) len))) e1)) pop
    have le : (rest.eraseIdx i).length = rest.length - 1 := by rw [List.length_eraseIdx, if_pos hi]
    obtain ⟨ys, rest', h', run, ly, pm, p3⟩ := mix_loop ds (rest.eraseIdx i) (k + 1) _ (acc ++ [.int (rest[i] : Nat)]) (by omega) (by omega) (by rw [List.length_append, List.length_singleton]; omega) (by omega) ft p2
    refine ⟨rest[i] :: ys, rest', h', ?_, by simp [ly], ?_, by rw [List.length_cons, show k + (ds.length + 1) = k + 1 + ds.length by omega]; exact p3⟩
    · unfold lcS
      rw [show gSet 3 (.dat d) [some (.ref 0), s0, some (.ref (t.length + 1)), none] h = .nx [some (.ref 0), s0, some (.ref (t.length + 1)), some (.dat d)] h from rfl]
      simp only [eYes]
      rw [te]
      simp only
      rw [if_pos (Nat.lt_of_lt_of_le (show acc.length < 1001 by omega) (small (by omega))), run]
      simp
    · exact (List.Perm.cons _ pm).trans (del_perm rest i hi)
theorem mixed_eq {L : List Nat} {q : Nat} (p : Pn n t h) (ft : t.all O.flat = true) (hn : n ≤ 80000) (hl : L.length ≤ 100) (v : vw h (.ref q) = some (.lst ((zs L).map .int))) :
    ∃ ys h', ys.Perm L ∧ Pn (n + L.length) t h' ∧ callT 2 F__law_mixed [.ref 0, .ref q] h = .ok (.dat (.lst ((zs ys).map .int))) h' := by
  have p1 : Pn n (t ++ [foundO L]) (h ++ [foundO L]) := pn_new p
  have len := p.len
  have lw : listW [.ref q] h = some ((zs L).map .int) := by
    unfold listW
    simp only [vws_cons, vws_nil, v]
  have s1 : mx1 [some (.ref 0), some (.ref q), none, none] h = .nx [some (.ref 0), some (.ref q), some (.ref (t.length + 1)), none] (h ++ [foundO L]) := by
    rw [← len]
    exact asg_of (eListM_of (one_arg rfl) lw) rfl
  obtain ⟨ys, rest', h', run, ly, pm, p2⟩ := mix_loop (t := t) (s0 := some (.ref q)) (rngD 0 L.length) L n (h ++ [foundO L]) [] (by rw [rngD_len]; omega) hl (by rw [rngD_len, List.length_nil]; omega) (by rw [rngD_len]; omega) ft p1
  rw [rngD_len] at ly p2
  have nil : rest' = [] := by
    have := pm.length_eq
    rw [List.length_append] at this
    exact List.eq_nil_of_length_eq_zero (by omega)
  subst nil
  rw [List.append_nil] at pm
  have lc : mx2c [some (.ref 0), some (.ref q), some (.ref (t.length + 1)), none] (h ++ [foundO L]) = .ok (.dat (.lst ((zs ys).map .int))) h' := by
    unfold mx2c
    refine lc_of (rng_of (n := L.length) (one_arg (cb_of (one_arg rfl) (vw_len (pn_vw p1)))) (by omega)) ?_
    rw [List.nil_append] at run
    exact run
  obtain ⟨h2, q2, rfl⟩ := pn_cut p2
  refine ⟨ys, h2, pm, q2, callT_more (u := [foundO []]) rfl ?_ (by rw [q2.len, p.len]) (q2.flat ft)⟩
  rw [mx_def]
  unfold fnOf
  show fin (sSeq mx1 mx2 [some (.ref 0), some (.ref q), none, none] h) = _
  rw [seq_nx s1, show mx2 _ _ = _ from ret_of lc]; rfl
end R
end

section
namespace R
open PySem PySem.Spec PyProof.Rows L2 Z LamX S
/-! ### k33: _law_spots -/
theorem callT_ref {n k : Nat} {F : FF} {ws : List W} {h h2 u : MH} {d : D} (hl : ws.length = n) (e : F ws h = .ok (.ref k) (h2 ++ u)) (hk : h.length ≤ k) (v : vw (h2 ++ u) (.ref k) = some d) (l : h2.length = h.length) (f : h2.all O.flat = true) : callT n F ws h = .ok (.dat d) h2 := by
  unfold callT
  rw [if_pos hl, e]
  simp only [frz, hk, if_true, v]
  rw [List.take_left' l, if_pos f]
theorem sl_of {s : En} {h h1 h2 h3 : MH} {w : W} {e : EE} {tl th : EO} {lo hi : Option Int} {f : W → Option Int → Option Int → MH → Res W} {r : Res W} (ha : e s h = .ok w h1) (hl : tl s h1 = .ok lo h2) (hh : th s h2 = .ok hi h3) (hf : f w lo hi h3 = r) : eSl f e tl th s h = r := by
  unfold eSl; rw [ha]; show (tl s h1).bind _ = _; rw [hl]; show (th s h2).bind _ = _; rw [hh]; exact hf
theorem cut_drop {xs : List D} {c : Nat} (h : c ≤ xs.length) : S.cutD xs (some (c : Int)) none = xs.drop c := by
  unfold S.cutD
  rw [show HT.sIx xs.length xs.length none = xs.length from rfl, show HT.sIx xs.length 0 (some (c : Int)) = min c xs.length from HT.sIx_nat _ _ c, Nat.min_eq_left h]
  exact List.take_of_length_le (by rw [List.length_drop]; exact Nat.le_refl _)
theorem cut_take {xs : List D} {c : Nat} (h : c ≤ xs.length) : S.cutD xs none (some (c : Int)) = xs.take c := by
  unfold S.cutD
  rw [show HT.sIx xs.length 0 none = 0 from rfl, show HT.sIx xs.length xs.length (some (c : Int)) = min c xs.length from HT.sIx_nat _ _ c, Nat.min_eq_left h]
  simp
theorem sl_ref {q : Nat} {h : MH} {xs : List D} {lo hi : Option Int} (v : vw h (.ref q) = some (.lst xs)) : opS gSl (.ref q) lo hi h = .ok (.dat (.lst (S.cutD xs lo hi))) h := by
  unfold opS
  rw [v]; rfl
theorem swap_perm {m i j : Nat} (hi : i < m) (hj : j < m) : (((List.range m).set i j).set j i).Perm (List.range m) := by
  refine perm_range ?_ ?_ (by simp)
  · rw [List.Nodup, List.pairwise_iff_getElem]
    intro a b ha hb hab
    simp only [List.length_set, List.length_range] at ha hb
    simp only [List.getElem_set, List.getElem_range]
    split <;> split <;> (try split) <;> (try split) <;> omega
  · intro k hk
    obtain ⟨a, ha, rfl⟩ := List.getElem_of_mem hk
    simp only [List.length_set, List.length_range] at ha
    simp only [List.getElem_set, List.getElem_range]
    split
    · exact hi
    · split
      · exact hj
      · exact ha
theorem zs_rev {L : List Nat} : (zs L.reverse).map D.int = ((zs L).map D.int).reverse := by simp [zs]
theorem zs_app {L M : List Nat} : (zs (L ++ M)).map D.int = (zs L).map D.int ++ (zs M).map D.int := by simp [zs]
theorem zs_drop {L : List Nat} {k : Nat} : (zs (L.drop k)).map D.int = ((zs L).map D.int).drop k := by simp [zs, List.map_drop]
theorem zs_take {L : List Nat} {k : Nat} : (zs (L.take k)).map D.int = ((zs L).map D.int).take k := by simp [zs, List.map_take]
abbrev sE (m : Nat) (v2 v3 v4 v5 v6 : Option W) : En := [some (.ref 0), some (.dat (.int (m : Nat))), v2, v3, v4, v5, v6]
variable {n m : Nat} {t h : MH}
theorem way_is {s : En} {h : MH} {d k : Int} {i : Nat} (hs : s[i]? = some (some (.dat (.int d)))) : eTest (eOp (op2 gEq) (eVar i) (eC (.int k))) s h = .ok (decide (d = k)) h := test_of (op_of (var_of hs) rfl rfl)
theorem spots_spec (p : Pn n t h) (ft : t.all O.flat = true) (hn : n ≤ 70000) (m1 : 1 ≤ m) (m2 : m ≤ 24) : ∃ L h', L.Perm (List.range m) ∧ Pn (n + 30) t h' ∧ callT 2 F__law_spots [.ref 0, .dat (.int (m : Nat))] h = .ok (.dat (.lst ((zs L).map .int))) h' := by
  obtain ⟨d, ha, d0, d1, p1, e1⟩ := draws (m := 6) p ft (by omega) (by omega) (by omega)
  have la := p1.len
  have p2 : Pn (n + 1) (t ++ [foundO (List.range m)]) (ha ++ [foundO (List.range m)]) := pn_new p1
  have s1 : sp1 (sE m none none none none none) h = .nx (sE m (some (.dat (.int d))) none none none none) ha := asg_of (cb_of (cons_of rfl (one_arg rfl)) e1) rfl
  have s2 : sp2 (sE m (some (.dat (.int d))) none none none none) ha = .nx (sE m (some (.dat (.int d))) (some (.ref (t.length + 1))) none none none) (ha ++ [foundO (List.range m)]) := by
    have := eRgM_of (ea := eVar 1) (s := sE m (some (.dat (.int d))) none none none none) (h := ha) (h1 := ha) (n := m) rfl (by omega)
    rw [rng_zs, la] at this
    exact asg_of this rfl
  have vv := pn_vw p2
  have ft2 : (t ++ [foundO (List.range m)]).all O.flat = true := flat_lst ft rfl
  have start : ∀ {w : W} {h9 : MH}, fin (sSeq sp3 (sSeq sp4 (sSeq sp5 (sSeq sp6 sp7))) (sE m (some (.dat (.int d))) (some (.ref (t.length + 1))) none none none) (ha ++ [foundO (List.range m)])) = .ok w h9 → F__law_spots [.ref 0, .dat (.int (m : Nat))] h = .ok w h9 := fun {w h9} e => by
    rw [sp_def]
    unfold fnOf
    show fin (sSeq sp1 _ (sE m none none none none none) h) = _
    rw [seq_nx s1, seq_nx s2, e]
  have t1 := way_is (k := 1) (i := 2) (s := sE m (some (.dat (.int d))) (some (.ref (t.length + 1))) none none none) (h := ha ++ [foundO (List.range m)]) rfl
  by_cases c1 : d = 1
  · rw [decide_eq_true c1] at t1
    have e3 : sp3 (sE m (some (.dat (.int d))) (some (.ref (t.length + 1))) none none none) (ha ++ [foundO (List.range m)]) = .rt (.dat (.lst ((zs (List.range m).reverse).map .int))) (ha ++ [foundO (List.range m)]) :=
      if_of t1 (ret_of (by rw [eRev_of rfl vv, zs_rev]))
    refine ⟨(List.range m).reverse, ha, List.reverse_perm _, p1.mono (by omega), callT_more (u := [foundO (List.range m)]) rfl (start ?_) (by rw [p1.len, p.len]) (p1.flat ft)⟩
    unfold sSeq
    rw [e3]; rfl
  rw [decide_eq_false c1] at t1
  have e3 : sp3 (sE m (some (.dat (.int d))) (some (.ref (t.length + 1))) none none none) (ha ++ [foundO (List.range m)]) = .nx (sE m (some (.dat (.int d))) (some (.ref (t.length + 1))) none none none) (ha ++ [foundO (List.range m)]) := if_of t1 rfl
  have t2 := way_is (k := 2) (i := 2) (s := sE m (some (.dat (.int d))) (some (.ref (t.length + 1))) none none none) (h := ha ++ [foundO (List.range m)]) rfl
  by_cases c2 : d = 2
  · rw [decide_eq_true c2] at t2
    obtain ⟨c, hc, q0, q1, p3, e4⟩ := draws (m := (m : Int)) p2 ft2 (by omega) (by omega) (by omega)
    obtain ⟨k, rfl⟩ : ∃ k : Nat, c = k := ⟨c.toNat, by omega⟩
    have v3 := pn_vw p3
    have lk : k ≤ ((zs (List.range m)).map D.int).length := by simp; omega
    have sum : eOp (op2 gAdd) (eSl (opS gSl) (eVar 3) (ePart (eVar 4)) eNoPart) (eSl (opS gSl) (eVar 3) eNoPart (ePart (eVar 4))) (sE m (some (.dat (.int d))) (some (.ref (t.length + 1))) (some (.dat (.int (k : Nat)))) none none) hc = .ok (.dat (.lst ((zs ((List.range m).drop k ++ (List.range m).take k)).map .int))) hc := by
      refine op_of (sl_of (lo := some (k : Int)) (hi := none) rfl rfl rfl (sl_ref v3)) (sl_of (lo := none) (hi := some (k : Int)) rfl rfl rfl (sl_ref v3)) ?_
      rw [cut_drop lk, cut_take lk, op2_dat, gAdd_lst, if_pos (small (by simp; omega)), zs_app, zs_drop, zs_take]; rfl
    have e5 : sp4 (sE m (some (.dat (.int d))) (some (.ref (t.length + 1))) none none none) (ha ++ [foundO (List.range m)]) = .rt (.dat (.lst ((zs ((List.range m).drop k ++ (List.range m).take k)).map .int))) hc := by
      refine if_of t2 ?_
      show sSeq _ _ _ _ = _
      rw [seq_nx (show sAsg _ _ _ _ = .nx (sE m (some (.dat (.int d))) (some (.ref (t.length + 1))) (some (.dat (.int (k : Nat)))) none none) hc from asg_of (cb_of (cons_of rfl (one_arg rfl)) e4) rfl)]
      exact ret_of sum
    obtain ⟨h', p', rfl⟩ := pn_cut p3
    refine ⟨(List.range m).drop k ++ (List.range m).take k, h', List.perm_append_comm.trans (by rw [List.take_append_drop]), p'.mono (by omega), callT_more (u := [foundO (List.range m)]) rfl (start ?_) (by rw [p'.len, p.len]) (p'.flat ft)⟩
    rw [seq_nx e3]
    unfold sSeq
    rw [e5]; rfl
  rw [decide_eq_false c2] at t2
  have e4 : sp4 (sE m (some (.dat (.int d))) (some (.ref (t.length + 1))) none none none) (ha ++ [foundO (List.range m)]) = .nx (sE m (some (.dat (.int d))) (some (.ref (t.length + 1))) none none none) (ha ++ [foundO (List.range m)]) := if_of t2 rfl
  have t3 := way_is (k := 3) (i := 2) (s := sE m (some (.dat (.int d))) (some (.ref (t.length + 1))) none none none) (h := ha ++ [foundO (List.range m)]) rfl
  have far : ∀ (v5 v6 : Option W) (h9 : MH), eTest (eOp (op2 gGt) (eVar 2) (eC (.int 3))) (sE m (some (.dat (.int d))) (some (.ref (t.length + 1))) none v5 v6) h9 = .ok (decide (3 < d)) h9 := fun v5 v6 h9 => test_of (op_of rfl rfl rfl)
  by_cases c3 : d = 3
  · rw [decide_eq_true c3] at t3
    obtain ⟨a, hb, a0, a1, p3, e5⟩ := draws (m := (m : Int)) p2 ft2 (by omega) (by omega) (by omega)
    obtain ⟨i, rfl⟩ : ∃ i : Nat, a = i := ⟨a.toNat, by omega⟩
    obtain ⟨b, hc, b0, b1, p4, e6⟩ := draws (m := (m : Int)) p3 ft2 (by omega) (by omega) (by omega)
    obtain ⟨j, rfl⟩ : ∃ j : Nat, b = j := ⟨b.toNat, by omega⟩
    have set1 : ((((zs (List.range m)).map D.int).map W.dat).set i (.dat (.int (j : Nat)))) = ((zs ((List.range m).set i j)).map D.int).map W.dat := by simp [List.map_set]
    have set2 : ((((zs ((List.range m).set i j)).map D.int).map W.dat).set j (.dat (.int (i : Nat)))) = ((zs (((List.range m).set i j).set j i)).map D.int).map W.dat := by simp [List.map_set]
    have q1 := pn_put (w := .dat (.int (j : Nat))) (s := sE m (some (.dat (.int d))) (some (.ref (t.length + 1))) none (some (.dat (.int (i : Nat)))) (some (.dat (.int (j : Nat))))) p4 (j := i) (by simp; omega)
    rw [set1] at q1
    have p5 := pn_set (o' := foundO ((List.range m).set i j)) p4
    have q2 := pn_put (w := .dat (.int (i : Nat))) (s := sE m (some (.dat (.int d))) (some (.ref (t.length + 1))) none (some (.dat (.int (i : Nat)))) (some (.dat (.int (j : Nat))))) p5 (j := j) (by simp; omega)
    rw [set2] at q2
    have p6 := pn_set (o' := foundO (((List.range m).set i j).set j i)) p5
    have e7 : sp5 (sE m (some (.dat (.int d))) (some (.ref (t.length + 1))) none none none) (ha ++ [foundO (List.range m)]) = .nx (sE m (some (.dat (.int d))) (some (.ref (t.length + 1))) none (some (.dat (.int (i : Nat)))) (some (.dat (.int (j : Nat)))))  ((hc.set (t.length + 1) (foundO ((List.range m).set i j))).set (t.length + 1) (foundO (((List.range m).set i j).set j i))) := by
      refine if_of t3 ?_
      show sSeq _ _ _ _ = _
      rw [seq_nx (show sAsg _ _ _ _ = .nx (sE m (some (.dat (.int d))) (some (.ref (t.length + 1))) none (some (.dat (.int (i : Nat)))) none) hb from asg_of (cb_of (cons_of rfl (one_arg rfl)) e5) rfl)]
      rw [seq_nx (show sAsg _ _ _ _ = .nx (sE m (some (.dat (.int d))) (some (.ref (t.length + 1))) none (some (.dat (.int (i : Nat)))) (some (.dat (.int (j : Nat))))) hc from asg_of (cb_of (cons_of rfl (one_arg rfl)) e6) rfl)]
      rw [seq_nx (show sAsg _ _ _ _ = .nx _ _ from asg_of (var_of rfl) (sub_of rfl rfl q1))]
      exact asg_of (var_of rfl) (sub_of rfl rfl q2)
    have e8 : sp6 (sE m (some (.dat (.int d))) (some (.ref (t.length + 1))) none (some (.dat (.int (i : Nat)))) (some (.dat (.int (j : Nat))))) ((hc.set (t.length + 1) (foundO ((List.range m).set i j))).set (t.length + 1) (foundO (((List.range m).set i j).set j i))) = .nx (sE m (some (.dat (.int d))) (some (.ref (t.length + 1))) none (some (.dat (.int (i : Nat)))) (some (.dat (.int (j : Nat))))) ((hc.set (t.length + 1) (foundO ((List.range m).set i j))).set (t.length + 1) (foundO (((List.range m).set i j).set j i))) := if_of (by rw [far, decide_eq_false (by omega)]) rfl
    have v6 := pn_vw p6
    obtain ⟨h', p', eh⟩ := pn_cut p6
    rw [eh] at e7 e8 v6
    refine ⟨((List.range m).set i j).set j i, h', swap_perm (by omega) (by omega), p'.mono (by omega), callT_ref (u := [foundO (((List.range m).set i j).set j i)]) rfl (start ?_) (by rw [p.len]; exact Nat.le_refl _) v6 (by rw [p'.len, p.len]) (p'.flat ft)⟩
    rw [seq_nx e3, seq_nx e4, seq_nx e7, seq_nx e8]; rfl
  rw [decide_eq_false c3] at t3
  have e5 : sp5 (sE m (some (.dat (.int d))) (some (.ref (t.length + 1))) none none none) (ha ++ [foundO (List.range m)]) = .nx (sE m (some (.dat (.int d))) (some (.ref (t.length + 1))) none none none) (ha ++ [foundO (List.range m)]) := if_of t3 rfl
  by_cases c4 : 3 < d
  · obtain ⟨ys, h2, pm, p3, e6⟩ := mixed_eq p2 ft2 (by omega) (by rw [List.length_range]; omega) vv
    have e7 : sp6 (sE m (some (.dat (.int d))) (some (.ref (t.length + 1))) none none none) (ha ++ [foundO (List.range m)]) = .rt (.dat (.lst ((zs ys).map .int))) h2 := if_of (k := true) (by rw [far, decide_eq_true c4]) (ret_of (cb_of (cons_of rfl (one_arg rfl)) e6))
    obtain ⟨h', p', rfl⟩ := pn_cut p3
    refine ⟨ys, h', pm, p'.mono (by rw [List.length_range]; omega), callT_more (u := [foundO (List.range m)]) rfl (start ?_) (by rw [p'.len, p.len]) (p'.flat ft)⟩
    rw [seq_nx e3, seq_nx e4, seq_nx e5]
    unfold sSeq
    rw [e7]; rfl
  · have e6 : sp6 (sE m (some (.dat (.int d))) (some (.ref (t.length + 1))) none none none) (ha ++ [foundO (List.range m)]) = .nx (sE m (some (.dat (.int d))) (some (.ref (t.length + 1))) none none none) (ha ++ [foundO (List.range m)]) := if_of (k := false) (by rw [far, decide_eq_false c4]) rfl
    refine ⟨List.range m, ha, .refl _, p1.mono (by omega), callT_ref (u := [foundO (List.range m)]) rfl (start ?_) (by rw [p.len]; exact Nat.le_refl _) vv (by rw [p1.len, p.len]) (p1.flat ft)⟩
    rw [seq_nx e3, seq_nx e4, seq_nx e5, seq_nx e6]; rfl
end R
end

section
namespace R
open PySem PySem.Spec PyProof.Rows L2 Z LamX S
/-! ### k33: bent texts -/
noncomputable section
def be1 : SS := (sAsg (eCB (callT 2 F__law_draw) (eCons (eVar 0) (eCons (eCB (opN gLen) (eCons (eVar 1) eNil)) eNil))) (gSet 2))
def be2 : SS := (sAsg (eLst (eCons (eOp (op2 gIx) (eVar 1) (eOp (op2 gSub) (eVar 2) (eC (.int 1)))) (eCons (eCB (opN gStr) (eCons (eCB (opN gLen) (eCons (eVar 1) eNil)) eNil)) (eCons (eOp (op2 gAdd) (eC (.str "0")) (eOp (op2 gIx) (eVar 1) (eVar 2))) (eCons (eC (.str "")) (eCons (eOp (op2 gAdd) (eC (.str "-")) (eOp (op2 gIx) (eVar 1) (eVar 2))) (eCons (eC (.str "x")) (eCons (eOp (op2 gAdd) (eOp (op2 gIx) (eVar 1) (eVar 2)) (eC (.str "\n"))) (eCons (eC (.str "+1")) (eCons (eC (.str "00")) eNil)))))))))) (gSet 3))
def be3 : SS := (sAsg (eOp (op2 gAdd) (eVar 3) (eLst (eCons (eC (.str "1 ")) (eCons (eCB (opN gStr) (eCons (eOp (op2 gPow) (eC (.int 10)) (eC (.int 40))) eNil)) (eCons (eC (.str "24")) (eCons (eOp (op2 gIx) (eVar 1) (eVar 2)) (eCons (eC (.str " ")) eNil))))))) (gSet 3))
def be4 : SS := (sAsg (eCB (callT 2 F__law_pick) (eCons (eVar 0) (eCons (eVar 3) eNil))) (gSet 4))
def be5 : SS := (sAsg (eCB (callT 2 F__law_draw) (eCons (eVar 0) (eCons (eC (.int 5)) eNil))) (gSet 5))
def be6 : SS := (sIf (eTest (eOp (op2 gEq) (eVar 5) (eC (.int 0)))) (sRet (eOp (op2 gAdd) (eSl (opS gSl) (eVar 1) eNoPart (ePart (eVar 2))) (eSl (opS gSl) (eVar 1) (ePart (eOp (op2 gAdd) (eVar 2) (eC (.int 1)))) eNoPart))) sNext)
def be7 : SS := (sIf (eTest (eOp (op2 gEq) (eVar 5) (eC (.int 1)))) (sRet (eOp (op2 gAdd) (eOp (op2 gAdd) (eSl (opS gSl) (eVar 1) eNoPart (ePart (eVar 2))) (eLst (eCons (eVar 4) eNil))) (eSl (opS gSl) (eVar 1) (ePart (eVar 2)) eNoPart))) sNext)
def be8c : EE := (eLc (iRng1S (eCons (eCB (callT 2 F__law_draw) (eCons (eVar 0) (eCons (eC (.int 30)) eNil))) eNil)) (gSet 6) eYes (eCB (opN gStr) (eCons (eOp (op2 gAdd) (eCB (opN gLen) (eCons (eVar 1) eNil)) (eVar 6)) eNil)) [6])
def be8 : SS := (sIf (eTest (eOp (op2 gEq) (eVar 5) (eC (.int 2)))) (sRet (eOp (op2 gAdd) (eVar 1) be8c)) sNext)
def be9 : SS := (sRet (eOp (op2 gAdd) (eOp (op2 gAdd) (eSl (opS gSl) (eVar 1) eNoPart (ePart (eVar 2))) (eLst (eCons (eVar 4) eNil))) (eSl (opS gSl) (eVar 1) (ePart (eOp (op2 gAdd) (eVar 2) (eC (.int 1)))) eNoPart)))
theorem be_def : F__law_bent = fnOf 5 (sSeq be1 (sSeq be2 (sSeq be3 (sSeq be4 (sSeq be5 (sSeq be6 (sSeq be7 (sSeq be8 be9)))))))) := rfl
end
theorem lst_of {a : EA} {s : En} {h h1 : MH} {ds : List D} (ha : a s h = .ok (ds.map .dat) h1) (l : ds.length ≤ 1000) : eLst a s h = .ok (.dat (.lst ds)) h1 := by
  unfold eLst
  rw [ha]
  show dats _ _ _ = _
  unfold dats
  rw [datAll_map]
  exact if_pos (small (by omega))
theorem add_str {a b : Str} {h : MH} (l : a.length + b.length ≤ 1000) : op2 gAdd (.dat (.str a)) (.dat (.str b)) h = .ok (.dat (.str (a ++ b))) h := by
  rw [op2_dat, gAdd_str, if_pos (small (by omega))]; rfl
theorem add_lst {a b : List Str} {h : MH} (l : a.length + b.length ≤ 1000) : op2 gAdd (.dat (.lst (a.map .str))) (.dat (.lst (b.map .str))) h = .ok (.dat (.lst ((a ++ b).map .str))) h := by
  rw [op2_dat, gAdd_lst, if_pos (small (by rw [List.length_map, List.length_map]; omega)), List.map_append]; rfl
theorem atI_any {α : Type} {xs : List α} {i : Int} (h0 : -1 ≤ i) (h1 : i < xs.length) (ne : 0 < xs.length) : ∃ x ∈ xs, atI xs i = some x := by
  by_cases h : 0 ≤ i
  · exact atI_nat h h1
  · have e : i = -1 := by omega
    subst e
    refine ⟨xs[xs.length - 1], List.getElem_mem _, ?_⟩
    unfold atI ixN
    rw [if_neg (by omega), if_pos (by omega)]
    simp only [Option.bind_some]
    rw [show ((-1 : Int) + (xs.length : Nat)).toNat = xs.length - 1 by omega]
    exact List.getElem?_eq_getElem _
def s40 : Str := Str.ofString (toString (((10 ^ 40 : Nat)) : Int))
theorem s40_len : s40.length ≤ 41 := by
  have := natS_len (k := 10 ^ 40) (j := 41) (by omega) (Nat.pow_lt_pow_right (by omega) (by omega))
  exact this
theorem gStr40 : gStr [.int (((10 ^ 40 : Nat)) : Int)] = some (.str s40) := by
  unfold gStr
  dsimp only
  rw [if_pos (by rw [Int.natAbs_natCast]; decide +kernel)]; rfl
theorem pow40 : gPow (.int 10) (.int 40) = some (.int (((10 ^ 40 : Nat)) : Int)) := by
  rw [gPow_int, if_pos ⟨by omega, by omega, by decide⟩]; rfl
abbrev bE (ws : List Str) (v2 v3 v4 v5 v6 : Option W) : En := [some (.ref 0), some (.dat (.lst (ws.map .str))), v2, v3, v4, v5, v6]
variable {n k : Nat} {t h : MH} {ws : List Str} {v2 v3 v4 v5 v6 : Option W} {w wp : Str}
abbrev lit (s : String) : Str := Str.ofString s
abbrev some1 (ws : List Str) (wp w : Str) : List Str := [wp, natS ws.length, lit "0" ++ w, lit "", lit "-" ++ w, lit "x", w ++ lit "\n", lit "+1", lit "00"]
abbrev some2 (w : Str) : List Str := [lit "1 ", s40, lit "24", w, lit " "]
theorem ix_w {i : Int} {e : EE} (hi : e (bE ws v2 v3 v4 v5 v6) h = .ok (.dat (.int i)) h) (ea : atI (ws.map D.str) i = some (.str w)) : eOp (op2 gIx) (eVar 1) e (bE ws v2 v3 v4 v5 v6) h = .ok (.dat (.str w)) h := op_of rfl hi (by rw [op2_dat, gIx_lst, ea]; rfl)
theorem lit_len (s : String) (l : (Str.ofString s).length ≤ 10 := by decide +kernel) : (Str.ofString s).length ≤ 10 := l
theorem be2_ok (hw : w.length ≤ 4) (l : ws.length ≤ 24) (ep : atI (ws.map D.str) ((k : Int) - 1) = some (.str wp)) (ea : atI (ws.map D.str) (k : Int) = some (.str w)) :
    be2 (bE ws (some (.dat (.int (k : Nat)))) v3 v4 v5 v6) h = .nx (bE ws (some (.dat (.int (k : Nat)))) (some (.dat (.lst ((some1 ws wp w).map .str)))) v4 v5 v6) h := by
  have l0 := lit_len "0"
  have l1 := lit_len "-"
  have l2 := lit_len "\n"
  have len : opN gLen [.dat (.lst (ws.map .str))] h = .ok (.dat (.int (ws.length : Nat))) h := by rw [opN_1, gLen_lst, List.length_map]; rfl
  have x1 := ix_w (v2 := some (.dat (.int (k : Nat)))) (v3 := v3) (v4 := v4) (v5 := v5) (v6 := v6) (h := h) (e := eVar 2) rfl ea
  exact asg_of (lst_of (ds := (some1 ws wp w).map .str) (cons_of (ix_w (op_of rfl rfl rfl) ep) (cons_of (cb_of (one_arg (cb_of (one_arg rfl) len)) (by rw [opN_1, natS_str (by omega)]; rfl)) (cons_of (op_of rfl x1 (add_str (by omega))) (cons_of rfl (cons_of (op_of rfl x1 (add_str (by omega))) (cons_of rfl (cons_of (op_of x1 rfl (add_str (by omega))) (cons_of rfl (cons_of rfl nil_of))))))))) (by simp)) rfl
theorem be3_ok {some0 : List Str} (l : some0.length ≤ 100) (ea : atI (ws.map D.str) (k : Int) = some (.str w)) :
    be3 (bE ws (some (.dat (.int (k : Nat)))) (some (.dat (.lst (some0.map .str)))) v4 v5 v6) h = .nx (bE ws (some (.dat (.int (k : Nat)))) (some (.dat (.lst ((some0 ++ some2 w).map .str)))) v4 v5 v6) h := by
  have x1 := ix_w (v2 := some (.dat (.int (k : Nat)))) (v3 := some (.dat (.lst (some0.map .str)))) (v4 := v4) (v5 := v5) (v6 := v6) (h := h) (e := eVar 2) rfl ea
  have x2 : eCB (opN gStr) (eCons (eOp (op2 gPow) (eC (.int 10)) (eC (.int 40))) eNil) (bE ws (some (.dat (.int (k : Nat)))) (some (.dat (.lst (some0.map .str)))) v4 v5 v6) h = .ok (.dat (.str s40)) h := by
    have p := pow40
    have g := gStr40
    generalize (((10 ^ 40 : Nat)) : Int) = z at p g
    exact cb_of (one_arg (op_of rfl rfl (show op2 gPow _ _ h = .ok (.dat (.int z)) h by rw [op2_dat, p]; rfl))) (by rw [opN_1, g]; rfl)
  exact asg_of (op_of rfl (lst_of (ds := (some2 w).map .str) (cons_of rfl (cons_of x2 (cons_of rfl (cons_of x1 (cons_of rfl nil_of))))) (by simp)) (add_lst (by simp; omega))) rfl
theorem cutw_take {c : Nat} (hc : c ≤ ws.length) : opS gSl (.dat (.lst (ws.map .str))) none (some (c : Int)) h = .ok (.dat (.lst ((ws.take c).map .str))) h := by
  rw [opS_dat, gSl_lst, cut_take (by rw [List.length_map]; exact hc), ← List.map_take]; rfl
theorem cutw_drop {c : Nat} (hc : c ≤ ws.length) : opS gSl (.dat (.lst (ws.map .str))) (some (c : Int)) none h = .ok (.dat (.lst ((ws.drop c).map .str))) h := by
  rw [opS_dat, gSl_lst, cut_drop (by rw [List.length_map]; exact hc), ← List.map_drop]; rfl
theorem bent_spec (p : Pn n t h) (ft : t.all O.flat = true) (hn : n ≤ 70000) (hw : ∀ w ∈ ws, w.length ≤ 4) (l1 : 1 ≤ ws.length) (l2 : ws.length ≤ 24) :
    ∃ (vs : List Str) (h' : MH), (∀ v ∈ vs, v.length ≤ 45) ∧ vs.length ≤ 60 ∧ Pn (n + 4) t h' ∧ callT 2 F__law_bent [.ref 0, .dat (.lst (ws.map .str))] h = .ok (.dat (.lst (vs.map .str))) h' := by
  have len : ∀ h, opN gLen [.dat (.lst (ws.map .str))] h = .ok (.dat (.int (ws.length : Nat))) h := fun h => by rw [opN_1, gLen_lst, List.length_map]; rfl
  obtain ⟨d, h1, d0, d1, p1, e1⟩ := draws (m := (ws.length : Int)) p ft (by omega) (by omega) (by omega)
  obtain ⟨k, rfl⟩ : ∃ k : Nat, d = k := ⟨d.toNat, by omega⟩
  obtain ⟨dw, mw, ew⟩ := atI_any (xs := ws.map D.str) (i := (k : Int)) (by omega) (by rw [List.length_map]; exact d1) (by rw [List.length_map]; omega)
  obtain ⟨dp, mp, ep⟩ := atI_any (xs := ws.map D.str) (i := (k : Int) - 1) (by omega) (by rw [List.length_map]; omega) (by rw [List.length_map]; omega)
  obtain ⟨w, kw, rfl⟩ := List.mem_map.mp mw
  obtain ⟨wp, kp, rfl⟩ := List.mem_map.mp mp
  have hk : k < ws.length := by omega
  have s1 : be1 (bE ws none none none none none) h = .nx (bE ws (some (.dat (.int (k : Nat)))) none none none none) h1 := asg_of (cb_of (cons_of rfl (one_arg (cb_of (one_arg rfl) (len _)))) e1) rfl
  have s2 := be2_ok (h := h1) (v3 := none) (v4 := none) (v5 := none) (v6 := none) (hw w kw) l2 ep ew
  have s3 := be3_ok (h := h1) (v4 := none) (v5 := none) (v6 := none) (some0 := some1 ws wp w) (by simp) ew
  obtain ⟨x, h2, mx, p2, e2⟩ := picks_lst draws (xs := (some1 ws wp w ++ some2 w).map D.str) p1 ft (by omega) (by simp) (by simp)
  obtain ⟨one, m1, rfl⟩ := List.mem_map.mp mx
  have lone : one.length ≤ 45 := by
    have a1 := hw w kw
    have a2 := hw wp kp
    have a3 := natS_len (k := ws.length) (j := 2) (by omega) (by omega)
    have a4 := s40_len
    have b0 := lit_len "0"; have b1 := lit_len ""; have b2 := lit_len "-"; have b3 := lit_len "x"; have b4 := lit_len "\n"; have b5 := lit_len "+1"; have b6 := lit_len "00"; have b7 := lit_len "1 "; have b8 := lit_len "24"; have b9 := lit_len " "
    simp only [some1, some2, lit, List.cons_append, List.nil_append, List.mem_cons, List.not_mem_nil, or_false] at m1
    rcases m1 with rfl | rfl | rfl | rfl | rfl | rfl | rfl | rfl | rfl | rfl | rfl | rfl | rfl | rfl <;> (try rw [app_lenZ]) <;> omega
  have s4 : be4 (bE ws (some (.dat (.int (k : Nat)))) (some (.dat (.lst ((some1 ws wp w ++ some2 w).map .str)))) none none none) h1 = .nx (bE ws (some (.dat (.int (k : Nat)))) (some (.dat (.lst ((some1 ws wp w ++ some2 w).map .str)))) (some (.dat (.str one))) none none) h2 := asg_of (cb_of (cons_of rfl (one_arg rfl)) e2) rfl
  generalize (some1 ws wp w ++ some2 w).map D.str = sm at s3 s4
  obtain ⟨y, h3, y0, y1, p3, e3⟩ := draws (m := 5) p2 ft (by omega) (by omega) (by omega)
  have s5 : be5 (bE ws (some (.dat (.int (k : Nat)))) (some (.dat (.lst sm))) (some (.dat (.str one))) none none) h2 = .nx (bE ws (some (.dat (.int (k : Nat)))) (some (.dat (.lst sm))) (some (.dat (.str one))) (some (.dat (.int y))) none) h3 := asg_of (cb_of (cons_of rfl (one_arg rfl)) e3) rfl
  have way : ∀ j : Int, eTest (eOp (op2 gEq) (eVar 5) (eC (.int j))) (bE ws (some (.dat (.int (k : Nat)))) (some (.dat (.lst sm))) (some (.dat (.str one))) (some (.dat (.int y))) none) h3 = .ok (decide (y = j)) h3 := fun j => way_is rfl
  have start : ∀ {w9 : W} {h9 : MH}, fin (sSeq be6 (sSeq be7 (sSeq be8 be9)) (bE ws (some (.dat (.int (k : Nat)))) (some (.dat (.lst sm))) (some (.dat (.str one))) (some (.dat (.int y))) none) h3) = .ok w9 h9 → F__law_bent [.ref 0, .dat (.lst (ws.map .str))] h = .ok w9 h9 := fun {w9 h9} e => by
    rw [be_def]
    unfold fnOf
    show fin (sSeq be1 _ (bE ws none none none none none) h) = _
    rw [seq_nx s1, seq_nx s2, seq_nx s3, seq_nx s4, seq_nx s5, e]
  have tk : eSl (opS gSl) (eVar 1) eNoPart (ePart (eVar 2)) (bE ws (some (.dat (.int (k : Nat)))) (some (.dat (.lst sm))) (some (.dat (.str one))) (some (.dat (.int y))) none) h3 = .ok (.dat (.lst ((ws.take k).map .str))) h3 := sl_of (lo := none) (hi := some (k : Int)) rfl rfl rfl (cutw_take (by omega))
  have dr0 : eSl (opS gSl) (eVar 1) (ePart (eVar 2)) eNoPart (bE ws (some (.dat (.int (k : Nat)))) (some (.dat (.lst sm))) (some (.dat (.str one))) (some (.dat (.int y))) none) h3 = .ok (.dat (.lst ((ws.drop k).map .str))) h3 := sl_of (lo := some (k : Int)) (hi := none) rfl rfl rfl (cutw_drop (by omega))
  have dr1 : eSl (opS gSl) (eVar 1) (ePart (eOp (op2 gAdd) (eVar 2) (eC (.int 1)))) eNoPart (bE ws (some (.dat (.int (k : Nat)))) (some (.dat (.lst sm))) (some (.dat (.str one))) (some (.dat (.int y))) none) h3 = .ok (.dat (.lst ((ws.drop (k + 1)).map .str))) h3 := sl_of (lo := some ((k + 1 : Nat) : Int)) (hi := none) rfl rfl rfl (cutw_drop (by omega))
  have o1 : eLst (eCons (eVar 4) eNil) (bE ws (some (.dat (.int (k : Nat)))) (some (.dat (.lst sm))) (some (.dat (.str one))) (some (.dat (.int y))) none) h3 = .ok (.dat (.lst ([one].map .str))) h3 := lst_of (one_arg rfl) (by simp)
  have lt := List.length_take (l := ws) (i := k)
  have ld := List.length_drop (l := ws) (i := k)
  have ld1 := List.length_drop (l := ws) (i := k + 1)
  have mt : ∀ v ∈ ws.take k, v.length ≤ 45 := fun v hv => by have := hw v (List.mem_of_mem_take hv); omega
  have md : ∀ j, ∀ v ∈ ws.drop j, v.length ≤ 45 := fun j v hv => by have := hw v (List.mem_of_mem_drop hv); omega
  have mo : ∀ v ∈ [one], v.length ≤ 45 := fun v hv => by rw [List.mem_singleton.mp hv]; exact lone
  have app2 : ∀ {a b : List Str}, (∀ v ∈ a, v.length ≤ 45) → (∀ v ∈ b, v.length ≤ 45) → ∀ v ∈ a ++ b, v.length ≤ 45 := fun ha hb v hv => (List.mem_append.mp hv).elim (ha v) (hb v)
  have done : ∀ {vs : List Str} {h9 : MH} {j : Nat}, Pn (n + j) t h9 → j ≤ 4 → (∀ v ∈ vs, v.length ≤ 45) → vs.length ≤ 60 → fin (sSeq be6 (sSeq be7 (sSeq be8 be9)) (bE ws (some (.dat (.int (k : Nat)))) (some (.dat (.lst sm))) (some (.dat (.str one))) (some (.dat (.int y))) none) h3) = .ok (.dat (.lst (vs.map .str))) h9 →
      ∃ (vs : List Str) (h' : MH), (∀ v ∈ vs, v.length ≤ 45) ∧ vs.length ≤ 60 ∧ Pn (n + 4) t h' ∧ callT 2 F__law_bent [.ref 0, .dat (.lst (ws.map .str))] h = .ok (.dat (.lst (vs.map .str))) h' := fun {vs h9 j} p9 hj a b e =>
    ⟨vs, h9, a, b, p9.mono (by omega), callT_ok rfl (start e) (by rw [p9.len, p.len]) (p9.flat ft)⟩
  by_cases c0 : y = 0
  · have s6 : be6 (bE ws (some (.dat (.int (k : Nat)))) (some (.dat (.lst sm))) (some (.dat (.str one))) (some (.dat (.int y))) none) h3 = .rt (.dat (.lst ((ws.take k ++ ws.drop (k + 1)).map .str))) h3 := if_of (k := true) (by rw [way, decide_eq_true c0]) (ret_of (op_of tk dr1 (add_lst (by omega))))
    refine done (j := 3) (vs := ws.take k ++ ws.drop (k + 1)) p3 (by omega) (app2 mt (md _)) (by rw [List.length_append]; omega) ?_
    unfold sSeq
    rw [s6]; rfl
  have s6 : be6 (bE ws (some (.dat (.int (k : Nat)))) (some (.dat (.lst sm))) (some (.dat (.str one))) (some (.dat (.int y))) none) h3 = .nx (bE ws (some (.dat (.int (k : Nat)))) (some (.dat (.lst sm))) (some (.dat (.str one))) (some (.dat (.int y))) none) h3 := if_of (k := false) (by rw [way, decide_eq_false c0]) rfl
  by_cases c1 : y = 1
  · have s7 : be7 (bE ws (some (.dat (.int (k : Nat)))) (some (.dat (.lst sm))) (some (.dat (.str one))) (some (.dat (.int y))) none) h3 = .rt (.dat (.lst ((ws.take k ++ [one] ++ ws.drop k).map .str))) h3 := if_of (k := true) (by rw [way, decide_eq_true c1]) (ret_of (op_of (op_of tk o1 (add_lst (by simp; omega))) dr0 (add_lst (by simp; omega))))
    refine done (j := 3) (vs := ws.take k ++ [one] ++ ws.drop k) p3 (by omega) (app2 (app2 mt mo) (md _)) (by simp; omega) ?_
    rw [seq_nx s6]
    unfold sSeq
    rw [s7]; rfl
  have s7 : be7 (bE ws (some (.dat (.int (k : Nat)))) (some (.dat (.lst sm))) (some (.dat (.str one))) (some (.dat (.int y))) none) h3 = .nx (bE ws (some (.dat (.int (k : Nat)))) (some (.dat (.lst sm))) (some (.dat (.str one))) (some (.dat (.int y))) none) h3 := if_of (k := false) (by rw [way, decide_eq_false c1]) rfl
  by_cases c2 : y = 2
  · obtain ⟨z, h4, z0, z1, p4, e4⟩ := draws (m := 30) p3 ft (by omega) (by omega) (by omega)
    obtain ⟨r, rfl⟩ : ∃ r : Nat, z = r := ⟨z.toNat, by omega⟩
    have lc : be8c (bE ws (some (.dat (.int (k : Nat)))) (some (.dat (.lst sm))) (some (.dat (.str one))) (some (.dat (.int y))) none) h3 = .ok (.dat (.lst (((List.range r).map fun i => natS (ws.length + i)).map .str))) h4 := by
      unfold be8c
      refine lc_of (rng_of (n := r) (one_arg (cb_of (cons_of rfl (one_arg rfl)) e4)) (by omega)) ?_
      unfold rngD
      show lcS (gSet 6) eYes (eCB (opN gStr) (eCons (eOp (op2 gAdd) (eCB (opN gLen) (eCons (eVar 1) eNil)) (eVar 6)) eNil)) ((List.range r).map fun i => .int (0 + (i : Nat))) (bE ws (some (.dat (.int (k : Nat)))) (some (.dat (.lst sm))) (some (.dat (.str one))) (some (.dat (.int y))) none) h4 [] = _
      rw [lcS_of (f := fun i : Nat => D.int (0 + (i : Nat))) (s1 := fun i => bE ws (some (.dat (.int (k : Nat)))) (some (.dat (.lst sm))) (some (.dat (.str one))) (some (.dat (.int y))) (some (.dat (.int (0 + (i : Nat)))))) (b := fun _ => true) (y := fun i => .str (natS (ws.length + i))) (fun i hi => ⟨rfl, rfl, fun _ => ?_⟩) (by rw [List.length_nil, List.length_range, Nat.zero_add]; exact small (by omega))]
      · rw [List.filter_eq_self.mpr fun _ _ => rfl, List.nil_append, List.map_map]; rfl
      · have := List.mem_range.mp hi
        refine cb_of (one_arg (op_of (cb_of (one_arg rfl) (len _)) rfl rfl)) ?_
        rw [opN_1, Int.zero_add, show ((ws.length : Nat) : Int) + (i : Nat) = ((ws.length + i : Nat) : Int) by omega, natS_str (by omega)]; rfl
    have s8 : be8 (bE ws (some (.dat (.int (k : Nat)))) (some (.dat (.lst sm))) (some (.dat (.str one))) (some (.dat (.int y))) none) h3 = .rt (.dat (.lst ((ws ++ (List.range r).map fun i => natS (ws.length + i)).map .str))) h4 := if_of (k := true) (by rw [way, decide_eq_true c2]) (ret_of (op_of rfl lc (add_lst (by simp; omega))))
    refine done (j := 4) (vs := ws ++ (List.range r).map fun i => natS (ws.length + i)) p4 (by omega) (app2 (fun v hv => by have := hw v hv; omega) fun v hv => by
      obtain ⟨i, hi, rfl⟩ := List.mem_map.mp hv
      have := List.mem_range.mp hi
      have := natS_len (k := ws.length + i) (j := 2) (by omega) (by omega)
      omega) (by simp; omega) ?_
    rw [seq_nx s6, seq_nx s7]
    unfold sSeq
    rw [s8]; rfl
  have s8 : be8 (bE ws (some (.dat (.int (k : Nat)))) (some (.dat (.lst sm))) (some (.dat (.str one))) (some (.dat (.int y))) none) h3 = .nx (bE ws (some (.dat (.int (k : Nat)))) (some (.dat (.lst sm))) (some (.dat (.str one))) (some (.dat (.int y))) none) h3 := if_of (k := false) (by rw [way, decide_eq_false c2]) rfl
  have s9 : be9 (bE ws (some (.dat (.int (k : Nat)))) (some (.dat (.lst sm))) (some (.dat (.str one))) (some (.dat (.int y))) none) h3 = .rt (.dat (.lst ((ws.take k ++ [one] ++ ws.drop (k + 1)).map .str))) h3 := ret_of (op_of (op_of tk o1 (add_lst (by simp; omega))) dr1 (add_lst (by simp; omega)))
  refine done (j := 3) (vs := ws.take k ++ [one] ++ ws.drop (k + 1)) p3 (by omega) (app2 (app2 mt mo) (md _)) (by simp; omega) ?_
  rw [seq_nx s6, seq_nx s7, seq_nx s8, s9]; rfl
end R
end

section
namespace R
open PySem PySem.Spec PyProof.Rows L2 Z LamX S
/-! ### k33: the law's loop -/
noncomputable section
def lw1 : SS := (sAsg (eCB (callF 1 F__law_pen) (eCons (eVar 0) eNil)) (gSet 1))
def lw2b1 : SS := (sAsg (eOp (op2 gAdd) (eC (.int 1)) (eCB (callT 2 F__law_draw) (eCons (eVar 1) (eCons (eC (.int 24)) eNil)))) (gSet 3))
def lw2b2 : SS := (sAsg (eCB (callT 2 F__law_spots) (eCons (eVar 1) (eCons (eVar 3) eNil))) (gSet 4))
def lw2b3 : SS := (sAsg (eListM (eCons (eVar 4) eNil)) (gSet 5))
def lw2b4 : SS := (sAsg (eCB (callT 2 F__law_draw) (eCons (eVar 1) (eCons (eVar 3) eNil))) (gSet 6))
def lw2b5 : SS := (sAsg (eOp (op2 gIx) (eVar 4) (eOp (op2 gSub) (eVar 3) (eC (.int 1)))) (gSubS (eVar 5) (eVar 6)))
def lw2b6 : SS := (sAsg (eOp (op2 gIx) (eVar 4) (eVar 6)) (gSubS (eVar 5) (eOp (op2 gSub) (eVar 3) (eC (.int 1)))))
def lw2b7 : SS := (sAsg (eCB (callT 2 F__law_spots) (eCons (eVar 1) (eCons (eOp (op2 gAdd) (eC (.int 1)) (eCB (callT 2 F__law_draw) (eCons (eVar 1) (eCons (eC (.int 24)) eNil)))) eNil))) (gSet 7))
def lw2b8 : SS := (sFz 5 (sFor (iAnyS (eLst (eCons (eVar 5) (eCons (eVar 7) (eCons (eVar 4) eNil))))) (gSet 8) (sIf (eOr (eNot (eTr (eCB (callP 2 F__law_compared) (eCons (eVar 4) (eCons (eVar 8) eNil))))) (eNot (eTr (eCB (callP 2 F__law_compared) (eCons (eVar 8) (eCons (eVar 4) eNil)))))) (sRet (eC (.bl false))) sNext)))
def lw2b9 : SS := (sAsg (eCB (ownS "Order" isStrW (callP 1 F_Order___str__) (opN gStr)) (eCons (eCB (mkP "Order" 2 F_Order___init__) (eCons (eVar 4) eNil)) eNil)) (gSet 9))
def lw2b10 : SS := (sIf (eOr (eTest (eOp (ownNe "Order" (callP 2 F_Order___eq__) (op2 gNe)) (eCM "Order" (callP 2 F_Order_read) (eC (.cls "Order")) (eCons (eVar 9) eNil)) (eCB (mkP "Order" 2 F_Order___init__) (eCons (eVar 4) eNil)))) (eTest (eOp (ownNe "Order" (callP 2 F_Order___eq__) (op2 gNe)) (eCMK "Order" [0] 1 (callP 2 F_Order_read) (eC (.cls "Order")) (eCons (eVar 9) eNil)) (eCB (mkP "Order" 2 F_Order___init__) (eCons (eVar 4) eNil))))) (sRet (eC (.bl false))) sNext)
def lw2b11b1 : SS := (sAsg (eBM "str" mJoin (eC (.str " ")) (eCons (eCB (callT 2 F__law_bent) (eCons (eVar 1) (eCons (eBM "str" mSplit (eVar 9) (eCons (eC (.str " ")) eNil)) eNil))) eNil)) (gSet 11))
def lw2b11b2 : SS := (sAsg (eCB (callP 1 F__law_fault) (eCons (eVar 11) eNil)) (gTupS 2 (gConsS (gSet 6) (gConsS (gSet 12) gNilS))))
def lw2b11b3 : SS := (sIf (eTest (eOp (op2 gNe) (eCB (callP 1 F__law_read) (eCons (eVar 11) eNil)) (eIf (eTest (eOp (op2 gIs) (eVar 6) (eC .non))) (eVar 12) (eLst (eCons (eC (.str "text")) (eCons (eC (.int 0)) (eCons (eVar 6) eNil))))))) (sRet (eC (.bl false))) sNext)
abbrev lw2b11b : SS := (sSeq lw2b11b1 (sSeq lw2b11b2 lw2b11b3))
def lw2b11 : SS := (sFor (iRng1S (eCons (eC (.int 6)) eNil)) (gSet 10) lw2b11b)
def lw2b12 : SS := (sAsg (eCB (callT 2 F__law_pick) (eCons (eVar 1) (eCons (eLst (eCons (eC .non) (eCons (eC (.int 0)) (eCons (eC (.bl true)) (eCons (eVar 4) (eCons (eCB (opN gTuple) (eCons (eVar 4) eNil)) (eCons (eC (.dic [] [])) (eCons (eLst eNil) eNil)))))))) eNil))) (gSet 13))
def lw2b13 : SS := (sIf (eTest (eOp (op2 gNe) (eCB (callP 1 F__law_read) (eCons (eVar 13) eNil)) (eLst (eCons (eC (.str "text")) (eCons (eC (.int 0)) (eCons (eC (.int 0)) eNil)))))) (sRet (eC (.bl false))) sNext)
abbrev lw2b : SS := (sSeq lw2b1 (sSeq lw2b2 (sSeq lw2b3 (sSeq lw2b4 (sSeq lw2b5 (sSeq lw2b6 (sSeq lw2b7 (sSeq lw2b8 (sSeq lw2b9 (sSeq lw2b10 (sSeq lw2b11 (sSeq lw2b12 lw2b13))))))))))))
def lw2 : SS := (sFor (iRng1S (eCons (eC (.int 4)) eNil)) (gSet 2) lw2b)
def lw3 : SS := (sRet (eAndT (eOp (op2 gEq) (eCB (callP 1 F__law_read) (eCons (eC (.str "")) eNil)) (eLst (eCons (eC (.str "text")) (eCons (eC (.int 0)) (eCons (eC (.int 0)) eNil))))) (eOp (op2 gEq) (eCB (callP 1 F__law_read) (eCons (eC (.str "0")) eNil)) (eLst (eCons (eC (.int 0)) eNil)))))
theorem lw_def : F_law = fnOf 13 (sSeq lw1 (sSeq lw2 lw3)) := rfl
end
theorem swap_any {L : List Nat} {m i j : Nat} (p : L.Perm (List.range m)) (hi : i < L.length) (hj : j < L.length) : ((L.set i L[j]).set j L[i]).Perm (List.range m) := by
  have lm : L.length = m := by rw [p.length_eq, List.length_range]
  have nd : L.Nodup := p.nodup_iff.mpr List.nodup_range
  rw [List.Nodup, List.pairwise_iff_getElem] at nd
  have inj : ∀ a b (ha : a < L.length) (hb : b < L.length), L[a] = L[b] → a = b := fun a b ha hb e => by
    rcases Nat.lt_trichotomy a b with h | h | h
    · exact absurd e (nd a b ha hb h)
    · exact h
    · exact absurd e.symm (nd b a hb ha h)
  refine perm_range ?_ ?_ (by simp [lm])
  · rw [List.Nodup, List.pairwise_iff_getElem]
    intro a b ha hb hab
    simp only [List.length_set] at ha hb
    simp only [List.getElem_set]
    intro e
    split at e
    · split at e
      · omega
      · split at e
        · have := inj _ _ hi hj e; omega
        · have := inj _ _ hi hb e; omega
    · split at e
      · split at e
        · have := inj _ _ hj hi e; omega
        · split at e
          · omega
          · have := inj _ _ hj hb e; omega
      · split at e
        · have := inj _ _ ha hi e; omega
        · split at e
          · have := inj _ _ ha hj e; omega
          · have := inj _ _ ha hb e; omega
  · intro k hk
    obtain ⟨a, ha, rfl⟩ := List.getElem_of_mem hk
    simp only [List.length_set] at ha
    have lt : ∀ a (h : a < L.length), L[a] < m := fun a h => List.mem_range.mp (p.mem_iff.mp (List.getElem_mem h))
    simp only [List.getElem_set]
    split
    · exact lt _ hi
    · split
      · exact lt _ hj
      · exact lt _ ha
theorem refl_deq {d : D} {x : PyData} (e : toP d = some x) (sh : SeqAt.shaped x = true) : deq d d = some true := by
  unfold deq
  simp only [e]
  rw [if_pos ⟨sh, sh⟩, SeqAt.eqv_refl _ (by unfold SeqAt.shaped at sh; rw [Bool.and_eq_true] at sh; exact sh.1)]
theorem text_refl (k : Int) : deq (.lst [.str "text", .int 0, .int k]) (.lst [.str "text", .int 0, .int k]) = some true := by
  refine refl_deq (x := .list [.str "text", .int 0, .int k]) (by simp [toP, toPs]) ?_
  unfold SeqAt.shaped
  rw [Bool.and_eq_true]
  refine ⟨?_, by simp [PyData.depth, PyData.depthAll]⟩
  show PyData.canLay0 (.list _) = true
  have s : PyData.strOk "text" = true := by decide +kernel
  simp [PyData.canLay0, PyData.canLayAll0, s]
theorem ints_refl (g : List Nat) : deq (.lst ((zs g).map .int)) (.lst ((zs g).map .int)) = some true := refl_deq toP_l (shaped_ints _)
abbrev lE (x : D) (v2 v3 v4 v5 v6 v7 v8 v9 v10 v11 v12 v13 : Option W) : En := [some (.dat x), some (.ref 0), v2, v3, v4, v5, v6, v7, v8, v9, v10, v11, v12, v13]
variable {n m : Nat} {t h : MH} {x : D} {v2 v3 v4 v5 v6 v7 v8 v9 v10 v11 v12 v13 : Option W} {L M : List Nat}
abbrev ld (L : List Nat) : Option W := some (.dat (.lst ((zs L).map .int)))
abbrev ln (k : Nat) : Option W := some (.dat (.int (k : Nat)))
theorem s1_ok (p : Pn n t h) (ft : t.all O.flat = true) (hn : n ≤ 70000) : ∃ (m : Nat) (h' : MH), 1 ≤ m ∧ m ≤ 24 ∧ Pn (n + 1) t h' ∧ lw2b1 (lE x v2 v3 v4 v5 v6 v7 v8 v9 v10 v11 v12 v13) h = .nx (lE x v2 (ln m) v4 v5 v6 v7 v8 v9 v10 v11 v12 v13) h' := by
  obtain ⟨d, h1, a0, a1, p1, e1⟩ := draws (m := 24) p ft (by omega) (by omega) (by omega)
  obtain ⟨j, rfl⟩ : ∃ j : Nat, d = j := ⟨d.toNat, by omega⟩
  refine ⟨1 + j, h1, by omega, by omega, p1, asg_of (op_of rfl (cb_of (cons_of rfl (one_arg rfl)) e1) (show op2 gAdd (.dat (.int 1)) (.dat (.int (j : Nat))) h1 = .ok (.dat (.int ((1 + j : Nat) : Int))) h1 from ?_)) rfl⟩
  rw [op2_dat, gAdd_int, show (1 : Int) + (j : Nat) = ((1 + j : Nat) : Int) by omega]; rfl
theorem s2_ok (p : Pn n t h) (ft : t.all O.flat = true) (hn : n ≤ 70000) (m1 : 1 ≤ m) (m2 : m ≤ 24) : ∃ L h', L.Perm (List.range m) ∧ Pn (n + 30) t h' ∧ lw2b2 (lE x v2 (ln m) v4 v5 v6 v7 v8 v9 v10 v11 v12 v13) h = .nx (lE x v2 (ln m) (ld L) v5 v6 v7 v8 v9 v10 v11 v12 v13) h' := by
  obtain ⟨L, h', pm, p', e⟩ := spots_spec (m := m) p ft hn m1 m2
  exact ⟨L, h', pm, p', asg_of (cb_of (cons_of rfl (one_arg rfl)) e) rfl⟩
theorem s3_ok (p : Pn n t h) : lw2b3 (lE x v2 v3 (ld L) v5 v6 v7 v8 v9 v10 v11 v12 v13) h = .nx (lE x v2 v3 (ld L) (some (.ref (t.length + 1))) v6 v7 v8 v9 v10 v11 v12 v13) (h ++ [foundO L]) := by
  rw [← p.len]
  exact asg_of (eListM_of (one_arg rfl) rfl) rfl
theorem ix_L {k : Nat} (hk : k < L.length) : op2 gIx (.dat (.lst ((zs L).map .int))) (.dat (.int (k : Nat))) h = .ok (.dat (.int (L[k] : Nat))) h := by
  rw [op2_dat, gIx_lst, zs_at hk]
  simp [List.getD_eq_getElem?_getD, hk]
theorem set_zs {L : List Nat} {i v : Nat} : (((zs L).map D.int).map W.dat).set i (.dat (.int (v : Nat))) = ((zs (L.set i v)).map D.int).map W.dat := by simp [List.map_set]
/-- the near order: the places k and m - 1 exchanged -/
theorem near_ok (p : Pn n (t ++ [foundO L]) h) (ft : t.all O.flat = true) (hn : n ≤ 70000) (m1 : 1 ≤ m) (m2 : m ≤ 24) (pm : L.Perm (List.range m)) :
    ∃ N k h', N.Perm (List.range m) ∧ Pn (n + 1) (t ++ [foundO N]) h' ∧ sSeq lw2b4 (sSeq lw2b5 lw2b6) (lE x v2 (ln m) (ld L) (some (.ref (t.length + 1))) v6 v7 v8 v9 v10 v11 v12 v13) h = .nx (lE x v2 (ln m) (ld L) (some (.ref (t.length + 1))) (ln k) v7 v8 v9 v10 v11 v12 v13) h' := by
  have lm : L.length = m := by rw [pm.length_eq, List.length_range]
  obtain ⟨d, h1, a0, a1, p1, e1⟩ := draws (m := (m : Int)) p (flat_lst ft rfl) (by omega) (by omega) (by omega)
  obtain ⟨k, rfl⟩ : ∃ k : Nat, d = k := ⟨d.toNat, by omega⟩
  have hk : k < L.length := by omega
  have hl : m - 1 < L.length := by omega
  have sub : ∀ (u : Option W) (h : MH), eOp (op2 gSub) (eVar 3) (eC (.int 1)) (lE x v2 (ln m) (ld L) (some (.ref (t.length + 1))) u v7 v8 v9 v10 v11 v12 v13) h = .ok (.dat (.int ((m - 1 : Nat) : Int))) h := fun u h => op_of rfl rfl (by rw [op2_dat, gSub_int, show ((m : Nat) : Int) - 1 = ((m - 1 : Nat) : Int) by omega]; rfl)
  have q1 := pn_put (w := .dat (.int (L[m - 1] : Nat))) (s := lE x v2 (ln m) (ld L) (some (.ref (t.length + 1))) (ln k) v7 v8 v9 v10 v11 v12 v13) p1 (j := k) (by simpa using hk)
  rw [set_zs] at q1
  have p2 := pn_set (o' := foundO (L.set k L[m - 1])) p1
  have q2 := pn_put (w := .dat (.int (L[k] : Nat))) (s := lE x v2 (ln m) (ld L) (some (.ref (t.length + 1))) (ln k) v7 v8 v9 v10 v11 v12 v13) p2 (j := m - 1) (by simpa using hl)
  rw [set_zs] at q2
  have p3 := pn_set (o' := foundO ((L.set k L[m - 1]).set (m - 1) L[k])) p2
  refine ⟨_, k, _, swap_any pm hk hl, p3, ?_⟩
  rw [seq_nx (show lw2b4 _ h = .nx (lE x v2 (ln m) (ld L) (some (.ref (t.length + 1))) (ln k) v7 v8 v9 v10 v11 v12 v13) h1 from asg_of (cb_of (cons_of rfl (one_arg rfl)) e1) rfl)]
  rw [seq_nx (show lw2b5 _ h1 = .nx _ _ from asg_of (op_of rfl (sub _ _) (ix_L hl)) (sub_of rfl rfl q1))]
  exact asg_of (op_of rfl rfl (ix_L hk)) (sub_of rfl (sub _ _) q2)
theorem s7_ok (p : Pn n t h) (ft : t.all O.flat = true) (hn : n ≤ 60000) : ∃ M m' h', M.Perm (List.range m') ∧ 1 ≤ m' ∧ m' ≤ 24 ∧ Pn (n + 40) t h' ∧ lw2b7 (lE x v2 v3 v4 v5 v6 v7 v8 v9 v10 v11 v12 v13) h = .nx (lE x v2 v3 v4 v5 v6 (ld M) v8 v9 v10 v11 v12 v13) h' := by
  obtain ⟨d, h1, a0, a1, p1, e1⟩ := draws (m := 24) p ft (by omega) (by omega) (by omega)
  obtain ⟨j, rfl⟩ : ∃ j : Nat, d = j := ⟨d.toNat, by omega⟩
  obtain ⟨M, h', pm, p', e⟩ := spots_spec (m := 1 + j) p1 ft (by omega) (by omega) (by omega)
  refine ⟨M, 1 + j, h', pm, by omega, by omega, p'.mono (by omega), asg_of (cb_of (cons_of rfl (one_arg (op_of rfl (cb_of (cons_of rfl (one_arg rfl)) e1) (show op2 gAdd (.dat (.int 1)) (.dat (.int (j : Nat))) h1 = .ok (.dat (.int ((1 + j : Nat) : Int))) h1 from ?_)))) e) rfl⟩
  rw [op2_dat, gAdd_int, show (1 : Int) + (j : Nat) = ((1 + j : Nat) : Int) by omega]; rfl
abbrev cmpS : SS := (sIf (eOr (eNot (eTr (eCB (callP 2 F__law_compared) (eCons (eVar 4) (eCons (eVar 8) eNil))))) (eNot (eTr (eCB (callP 2 F__law_compared) (eCons (eVar 8) (eCons (eVar 4) eNil)))))) (sRet (eC (.bl false))) sNext)
theorem cmp_body {m' : Nat} (pL : L.Perm (List.range m)) (pM : M.Perm (List.range m')) (n1 : 1 ≤ m) (n2 : m ≤ 24) (m1 : 1 ≤ m') (m2 : m' ≤ 24) : cmpS (lE x v2 v3 (ld L) v5 v6 v7 (ld M) v9 v10 v11 v12 v13) h = .nx (lE x v2 v3 (ld L) v5 v6 v7 (ld M) v9 v10 v11 v12 v13) h := by
  have c1 := callP_ok (n := 2) (F := F__law_compared) (ds := [.lst ((zs L).map .int), .lst ((zs M).map .int)]) (h := h) rfl (compared_eq pL pM n1 n2 m1 m2)
  have c2 := callP_ok (n := 2) (F := F__law_compared) (ds := [.lst ((zs M).map .int), .lst ((zs L).map .int)]) (h := h) rfl (compared_eq pM pL m1 m2 n1 n2)
  exact if_of (k := false) (or_f (not_of (tr_of (cb_of (cons_of rfl (one_arg rfl)) c1))) (not_of (tr_of (cb_of (cons_of rfl (one_arg rfl)) c2)))) rfl
theorem s8_ok {N : List Nat} {m' : Nat} (p : Pn n (t ++ [foundO N]) h) (pL : L.Perm (List.range m)) (pN : N.Perm (List.range m)) (pM : M.Perm (List.range m')) (n1 : 1 ≤ m) (n2 : m ≤ 24) (m1 : 1 ≤ m') (m2 : m' ≤ 24) :
    ∃ h', Pn n (t ++ [.dead]) h' ∧ lw2b8 (lE x v2 v3 (ld L) (some (.ref (t.length + 1))) v6 (ld M) v8 v9 v10 v11 v12 v13) h = .nx (lE x v2 v3 (ld L) (ld N) v6 (ld M) (ld L) v9 v10 v11 v12 v13) h' := by
  refine ⟨_, pn_set (o' := .dead) p, fz_of rfl (pn_vw p) (for_of (ds := [.lst ((zs N).map .int), .lst ((zs M).map .int), .lst ((zs L).map .int)]) (any_of_ (lst_of (ds := [.lst ((zs N).map .int), .lst ((zs M).map .int), .lst ((zs L).map .int)]) (cons_of rfl (cons_of rfl (one_arg rfl))) (by simp)) rfl) ?_)⟩
  exact loop_nx (b := cmpS) (s1 := lE x v2 v3 (ld L) (ld N) v6 (ld M) (ld N) v9 v10 v11 v12 v13) rfl (cmp_body pL pN n1 n2 n1 n2) (loop_nx (b := cmpS) (s1 := lE x v2 v3 (ld L) (ld N) v6 (ld M) (ld M) v9 v10 v11 v12 v13) rfl (cmp_body pL pM n1 n2 m1 m2) (loop_nx (b := cmpS) (s1 := lE x v2 v3 (ld L) (ld N) v6 (ld M) (ld L) v9 v10 v11 v12 v13) rfl (cmp_body pL pL n1 n2 n1 n2) rfl))
theorem text_words (pL : L.Perm (List.range m)) (n1 : 1 ≤ m) : wordsT (textO L) = L.map natS := by
  refine words_join (fun z => ?_) fun w hw => ?_
  · have l := pL.length_eq
    rw [List.map_eq_nil_iff.mp z, List.length_range] at l
    simp at l; omega
  · obtain ⟨k, _, rfl⟩ := List.mem_map.mp hw
    exact nat_free k
theorem text_len (pL : L.Perm (List.range m)) (n2 : m ≤ 24) : (textO L).length ≤ 100 := by
  have := join_len (ws := L.map natS) (b := 2) fun w hw => by
    obtain ⟨k, hk, rfl⟩ := List.mem_map.mp hw
    have := List.mem_range.mp (pL.mem_iff.mp hk)
    exact natS_len (by omega) (by omega)
  rw [List.length_map, pL.length_eq, List.length_range] at this
  unfold textO
  omega
theorem text_due (pL : L.Perm (List.range m)) (n1 : 1 ≤ m) (n2 : m ≤ 24) : dueT (textO L) = .inr L := by
  have lm : L.length = m := by rw [pL.length_eq, List.length_range]
  unfold dueT
  rw [text_words pL n1, scan_all L [] 0 (by rw [List.nil_append]; exact pL.nodup_iff.mpr List.nodup_range) (fun k hk => by
    rw [List.length_map, lm]; exact List.mem_range.mp (pL.mem_iff.mp hk)) (by omega), List.nil_append]
theorem s9_ok (pL : L.Perm (List.range m)) (n1 : 1 ≤ m) (n2 : m ≤ 24) : lw2b9 (lE x v2 v3 (ld L) v5 v6 v7 v8 v9 v10 v11 v12 v13) h = .nx (lE x v2 v3 (ld L) v5 v6 v7 v8 (some (.dat (.str (textO L)))) v10 v11 v12 v13) h := by
  have lm : L.length = m := by rw [pL.length_eq, List.length_range]
  obtain ⟨d, od, k⟩ := init_good pL n1 n2 h
  have c := callP_ok (n := 1) (F := F_Order___str__) (ds := [d]) (h := h) rfl (str_ok od (by omega) fun k hk => by have := List.mem_range.mp (pL.mem_iff.mp hk); omega)
  simp only [List.map_cons, List.map_nil] at c
  obtain ⟨gs, rfl⟩ := od
  exact asg_of (cb_of (one_arg (cb_of (one_arg rfl) k)) (ownS_of c rfl)) rfl
theorem s10_ok (pL : L.Perm (List.range m)) (n1 : 1 ≤ m) (n2 : m ≤ 24) : lw2b10 (lE x v2 v3 (ld L) v5 v6 v7 v8 (some (.dat (.str (textO L)))) v10 v11 v12 v13) h = .nx (lE x v2 v3 (ld L) v5 v6 v7 v8 (some (.dat (.str (textO L)))) v10 v11 v12 v13) h := by
  obtain ⟨d, od, k⟩ := init_good pL n1 n2 h
  rcases read_eq (x := textO L) (by have := text_len pL n2; omega) with ⟨j, h9, e1, _⟩ | ⟨g, e, h9, e1, oe, lg, e2⟩
  · rw [text_due pL n1 n2] at e1; cases e1
  · rw [text_due pL n1 n2] at e1; cases e1
    have c := callP_ok (n := 2) (F := F_Order_read) (ds := [.cls "Order", .str (textO L)]) (h := h) rfl e2
    have q := callP_ok (n := 2) (F := F_Order___eq__) (ds := [e, d]) (h := h) rfl (eq_ok oe od)
    simp only [List.map_cons, List.map_nil] at c q
    have one : eqB L L = true := by
      have := ints_refl L
      rw [deq_l] at this
      exact Option.some.inj this
    rw [one] at q
    obtain ⟨o1, o2, o3⟩ := ord_obj od h
    have ne : ownNe "Order" (callP 2 F_Order___eq__) (op2 gNe) (.dat e) (.dat d) h = .ok (.dat (.bl false)) h := by
      obtain ⟨gs, rfl⟩ := oe
      exact ownNe_of o2 q
    exact if_of (k := false) (or_f (test_of (op_of (cm_of rfl (one_arg rfl) c) (cb_of (one_arg rfl) k) ne)) (test_of (op_of (cmk_of rfl (one_arg rfl) rfl c) (cb_of (one_arg rfl) k) ne))) rfl
end R
end

section
namespace R
open PySem PySem.Spec PyProof.Rows L2 Z LamX S
/-! ### k33: law_true -/
variable {n m : Nat} {t h : MH} {x : D} {v2 v3 v4 v5 v6 v7 v8 v9 v10 v11 v12 v13 : Option W} {L M : List Nat}
def due6 : Sum Nat (List Nat) → D
  | .inl k => .int (k : Nat)
  | .inr _ => .non
def due12 : Sum Nat (List Nat) → D
  | .inl _ => .non
  | .inr g => .lst ((zs g).map .int)
theorem fault_tup (r : Sum Nat (List Nat)) : faultD r = .tup [due6 r, due12 r] := by cases r <;> rfl
theorem read_refl (r : Sum Nat (List Nat)) : deq (readD r) (readD r) = some true := by
  cases r with
  | inl k => exact text_refl _
  | inr g => exact ints_refl g
theorem ne_refl {d : D} (k : ∃ xs, d = .lst xs) (e : deq d d = some true) : op2 gNe (.dat d) (.dat d) h = .ok (.dat (.bl false)) h := by
  obtain ⟨xs, rfl⟩ := k
  rw [op2_dat, gNe_def, peq_lst, e]; rfl
theorem read_lst (r : Sum Nat (List Nat)) : ∃ xs, readD r = .lst xs := by cases r <;> exact ⟨_, rfl⟩
theorem eIf_of {c : ET} {a b : EE} {s : En} {k : Bool} {r : Res W} (hc : c s h = .ok k h) (hr : (if k = true then a s h else b s h) = r) : eIf c a b s h = r := by
  unfold eIf; rw [hc]; exact hr
theorem due_eq (r : Sum Nat (List Nat)) : eIf (eTest (eOp (op2 gIs) (eVar 6) (eC .non))) (eVar 12) (eLst (eCons (eC (.str "text")) (eCons (eC (.int 0)) (eCons (eVar 6) eNil)))) (lE x v2 v3 v4 v5 (some (.dat (due6 r))) v7 v8 v9 v10 v11 (some (.dat (due12 r))) v13) h = .ok (.dat (readD r)) h := by
  cases r with
  | inl k => exact eIf_of (k := false) (test_of (op_of rfl rfl rfl)) (lst_of (ds := [.str "text", .int 0, .int (k : Nat)]) (cons_of rfl (cons_of rfl (one_arg rfl))) (by simp))
  | inr g => exact eIf_of (k := true) (test_of (op_of rfl rfl rfl)) rfl
theorem bent_body (p : Pn n t h) (ft : t.all O.flat = true) (hn : n ≤ 70000) (pL : L.Perm (List.range m)) (n1 : 1 ≤ m) (n2 : m ≤ 24) :
    ∃ u6 u11 u12 h', Pn (n + 4) t h' ∧ lw2b11b (lE x v2 v3 v4 v5 v6 v7 v8 (some (.dat (.str (textO L)))) v10 v11 v12 v13) h = .nx (lE x v2 v3 v4 v5 u6 v7 v8 (some (.dat (.str (textO L)))) v10 u11 u12 v13) h' := by
  have lm : L.length = m := by rw [pL.length_eq, List.length_range]
  have lt : ∀ k ∈ L, k < 24 := fun k hk => by have := List.mem_range.mp (pL.mem_iff.mp hk); omega
  obtain ⟨vs, h1, hv, lv, p1, e1⟩ := bent_spec (ws := L.map natS) p ft hn (fun w hw => by
    obtain ⟨k, hk, rfl⟩ := List.mem_map.mp hw
    exact natS_len (by omega) (by have := lt k hk; omega)) (by rw [List.length_map]; omega) (by rw [List.length_map]; omega)
  have sp := split_eq (x := textO L) (h := h) (by have := text_len pL n2; omega)
  rw [text_words pL n1] at sp
  have jn := join_eq (h := h1) hv (by omega) (by omega)
  have jl := join_len hv
  have lx : (Txt.join spc vs).length ≤ 9000 := by
    have : (45 + 1) * vs.length ≤ 46 * 60 := Nat.mul_le_mul (by omega) lv
    omega
  generalize Txt.join spc vs = tx at jn lx
  have b1 : lw2b11b1 (lE x v2 v3 v4 v5 v6 v7 v8 (some (.dat (.str (textO L)))) v10 v11 v12 v13) h = .nx (lE x v2 v3 v4 v5 v6 v7 v8 (some (.dat (.str (textO L)))) v10 (some (.dat (.str tx))) v12 v13) h1 :=
    asg_of (bm_of rfl rfl (one_arg (cb_of (cons_of rfl (one_arg (bm_of rfl rfl (one_arg rfl) sp))) e1)) jn) rfl
  obtain ⟨h9, f⟩ := fault_eq lx
  rw [fault_tup] at f
  have c1 := callP_ok (n := 1) (F := F__law_fault) (ds := [.str tx]) (h := h1) rfl f
  have c2 := callP_ok (n := 1) (F := F__law_read) (ds := [.str tx]) (h := h1) rfl (look_eq lx)
  simp only [List.map_cons, List.map_nil] at c1 c2
  have b2 : lw2b11b2 (lE x v2 v3 v4 v5 v6 v7 v8 (some (.dat (.str (textO L)))) v10 (some (.dat (.str tx))) v12 v13) h1 = .nx (lE x v2 v3 v4 v5 (some (.dat (due6 (dueT tx)))) v7 v8 (some (.dat (.str (textO L)))) v10 (some (.dat (.str tx))) (some (.dat (due12 (dueT tx)))) v13) h1 := asg_of (cb_of (one_arg rfl) c1) rfl
  have b3 : lw2b11b3 (lE x v2 v3 v4 v5 (some (.dat (due6 (dueT tx)))) v7 v8 (some (.dat (.str (textO L)))) v10 (some (.dat (.str tx))) (some (.dat (due12 (dueT tx)))) v13) h1 = .nx (lE x v2 v3 v4 v5 (some (.dat (due6 (dueT tx)))) v7 v8 (some (.dat (.str (textO L)))) v10 (some (.dat (.str tx))) (some (.dat (due12 (dueT tx)))) v13) h1 :=
    if_of (k := false) (test_of (op_of (cb_of (one_arg rfl) c2) (due_eq (dueT tx)) (ne_refl (read_lst _) (read_refl _)))) rfl
  refine ⟨some (.dat (due6 (dueT tx))), some (.dat (.str tx)), some (.dat (due12 (dueT tx))), h1, p1, ?_⟩
  unfold lw2b11b
  rw [seq_nx b1, seq_nx b2, b3]
theorem s11_ok (p : Pn n t h) (ft : t.all O.flat = true) (hn : n ≤ 60000) (pL : L.Perm (List.range m)) (n1 : 1 ≤ m) (n2 : m ≤ 24) :
    ∃ u6 u10 u11 u12 h', Pn (n + 24) t h' ∧ lw2b11 (lE x v2 v3 v4 v5 v6 v7 v8 (some (.dat (.str (textO L)))) v10 v11 v12 v13) h = .nx (lE x v2 v3 v4 v5 u6 v7 v8 (some (.dat (.str (textO L)))) u10 u11 u12 v13) h' := by
  obtain ⟨s', h', el, u6, u10, u11, u12, rfl, pn⟩ := loop_inv (g := gSet 10) (b := lw2b11b)
    (fun i s h => ∃ u6 u10 u11 u12, s = lE x v2 v3 v4 v5 u6 v7 v8 (some (.dat (.str (textO L)))) u10 u11 u12 v13 ∧ Pn (n + 4 * i) t h) (rngD 0 6) 0 (lE x v2 v3 v4 v5 v6 v7 v8 (some (.dat (.str (textO L)))) v10 v11 v12 v13) h ⟨v6, v10, v11, v12, rfl, p⟩ (by
      rintro j d s h ⟨u6, u10, u11, u12, rfl, pn⟩ _ hj
      rw [rngD_len] at hj
      obtain ⟨w6, w11, w12, h', p', e⟩ := bent_body (x := x) (v2 := v2) (v3 := v3) (v4 := v4) (v5 := v5) (v6 := u6) (v7 := v7) (v8 := v8) (v10 := some (.dat d)) (v11 := u11) (v12 := u12) (v13 := v13) pn ft (by omega) pL n1 n2
      exact ⟨_, h', loop_step rfl e, w6, some (.dat d), w11, w12, rfl, p'.mono (by omega)⟩)
  rw [rngD_len] at pn
  refine ⟨u6, u10, u11, u12, h', pn, for_of (ds := rngD 0 6) ?_ el⟩
  exact rng_of (n := 6) rfl (by omega)
theorem s12_ok (p : Pn n t h) (ft : t.all O.flat = true) (hn : n ≤ 70000) : ∃ y h', opN (gIsi sbK) [.dat y, .dat (.ty "str")] [] = .ok (.dat (.bl false)) [] ∧ Pn (n + 1) t h' ∧ lw2b12 (lE x v2 v3 (ld L) v5 v6 v7 v8 v9 v10 v11 v12 v13) h = .nx (lE x v2 v3 (ld L) v5 v6 v7 v8 v9 v10 v11 v12 (some (.dat y))) h' := by
  obtain ⟨y, h', my, p', e⟩ := picks_lst draws (xs := [.non, .int 0, .bl true, .lst ((zs L).map .int), .tup ((zs L).map .int), .dic [] [], .lst []]) p ft (by omega) (by simp) (by simp)
  refine ⟨y, h', ?_, p', asg_of (cb_of (cons_of rfl (one_arg (lst_of (ds := [.non, .int 0, .bl true, .lst ((zs L).map .int), .tup ((zs L).map .int), .dic [] [], .lst []]) (cons_of rfl (cons_of rfl (cons_of rfl (cons_of rfl (cons_of (cb_of (one_arg rfl) rfl) (cons_of rfl (cons_of (lst_of (ds := []) nil_of (by simp)) nil_of))))))) (by simp)))) e) rfl⟩
  simp only [List.mem_cons, List.not_mem_nil, or_false] at my
  rcases my with rfl | rfl | rfl | rfl | rfl | rfl | rfl <;> simp [isiT, tyN, isTyB, tyNs]
theorem s13_ok {y : D} (no : opN (gIsi sbK) [.dat y, .dat (.ty "str")] [] = .ok (.dat (.bl false)) []) : lw2b13 (lE x v2 v3 v4 v5 v6 v7 v8 v9 v10 v11 v12 (some (.dat y))) h = .nx (lE x v2 v3 v4 v5 v6 v7 v8 v9 v10 v11 v12 (some (.dat y))) h := by
  have c := callP_ok (n := 1) (F := F__law_read) (ds := [y]) (h := h) rfl (look_exc (read_odd no))
  simp only [List.map_cons, List.map_nil] at c
  exact if_of (k := false) (test_of (op_of (cb_of (one_arg rfl) c) (lst_of (ds := [.str "text", .int 0, .int 0]) (cons_of rfl (cons_of rfl (one_arg rfl))) (by simp)) (ne_refl ⟨_, rfl⟩ (text_refl 0)))) rfl
theorem body_ok (p : Pn n t h) (ft : t.all O.flat = true) (hn : n ≤ 50000) : ∃ w3 w4 w5 w6 w7 w8 w9 w10 w11 w12 w13 h', Pn (n + 200) (t ++ [.dead]) h' ∧ lw2b (lE x v2 v3 v4 v5 v6 v7 v8 v9 v10 v11 v12 v13) h = .nx (lE x v2 w3 w4 w5 w6 w7 w8 w9 w10 w11 w12 w13) h' := by
  obtain ⟨m, k1, m1, m2, p1, e1⟩ := s1_ok (x := x) (v2 := v2) (v3 := v3) (v4 := v4) (v5 := v5) (v6 := v6) (v7 := v7) (v8 := v8) (v9 := v9) (v10 := v10) (v11 := v11) (v12 := v12) (v13 := v13) p ft (by omega)
  obtain ⟨L, k2, pL, p2, e2⟩ := s2_ok (m := m) (x := x) (v2 := v2) (v4 := v4) (v5 := v5) (v6 := v6) (v7 := v7) (v8 := v8) (v9 := v9) (v10 := v10) (v11 := v11) (v12 := v12) (v13 := v13) p1 ft (by omega) m1 m2
  have e3 := s3_ok (x := x) (L := L) (v2 := v2) (v3 := ln m) (v5 := v5) (v6 := v6) (v7 := v7) (v8 := v8) (v9 := v9) (v10 := v10) (v11 := v11) (v12 := v12) (v13 := v13) p2
  obtain ⟨N, k, k4, pN, p4, e4⟩ := near_ok (x := x) (L := L) (m := m) (v2 := v2) (v6 := v6) (v7 := v7) (v8 := v8) (v9 := v9) (v10 := v10) (v11 := v11) (v12 := v12) (v13 := v13) (pn_new p2) ft (by omega) m1 m2 pL
  obtain ⟨M, m', k7, pM, q1, q2, p7, e7⟩ := s7_ok (x := x) (v2 := v2) (v3 := ln m) (v4 := ld L) (v5 := some (.ref (t.length + 1))) (v6 := ln k) (v7 := v7) (v8 := v8) (v9 := v9) (v10 := v10) (v11 := v11) (v12 := v12) (v13 := v13) p4 (flat_lst ft rfl) (by omega)
  obtain ⟨k8, p8, e8⟩ := s8_ok (x := x) (L := L) (M := M) (N := N) (v2 := v2) (v3 := ln m) (v6 := ln k) (v8 := v8) (v9 := v9) (v10 := v10) (v11 := v11) (v12 := v12) (v13 := v13) p7 pL pN pM m1 m2 q1 q2
  have e9 := s9_ok (x := x) (L := L) (h := k8) (v2 := v2) (v3 := ln m) (v5 := ld N) (v6 := ln k) (v7 := ld M) (v8 := ld L) (v9 := v9) (v10 := v10) (v11 := v11) (v12 := v12) (v13 := v13) pL m1 m2
  have e10 := s10_ok (x := x) (L := L) (h := k8) (v2 := v2) (v3 := ln m) (v5 := ld N) (v6 := ln k) (v7 := ld M) (v8 := ld L) (v10 := v10) (v11 := v11) (v12 := v12) (v13 := v13) pL m1 m2
  have ft8 : (t ++ [O.dead]).all O.flat = true := by simp [ft, O.flat]
  obtain ⟨u6, u10, u11, u12, k11, p11, e11⟩ := s11_ok (x := x) (L := L) (v2 := v2) (v3 := ln m) (v4 := ld L) (v5 := ld N) (v6 := ln k) (v7 := ld M) (v8 := ld L) (v10 := v10) (v11 := v11) (v12 := v12) (v13 := v13) p8 ft8 (by omega) pL m1 m2
  obtain ⟨y, k12, no, p12, e12⟩ := s12_ok (x := x) (L := L) (v2 := v2) (v3 := ln m) (v5 := ld N) (v6 := u6) (v7 := ld M) (v8 := ld L) (v9 := some (.dat (.str (textO L)))) (v10 := u10) (v11 := u11) (v12 := u12) (v13 := v13) p11 ft8 (by omega)
  have e13 := s13_ok (x := x) (h := k12) (v2 := v2) (v3 := ln m) (v4 := ld L) (v5 := ld N) (v6 := u6) (v7 := ld M) (v8 := ld L) (v9 := some (.dat (.str (textO L)))) (v10 := u10) (v11 := u11) (v12 := u12) no
  refine ⟨ln m, ld L, ld N, u6, ld M, ld L, some (.dat (.str (textO L))), u10, u11, u12, some (.dat y), k12, p12.mono (by omega), ?_⟩
  have e46 : ∀ r : SS, sSeq lw2b4 (sSeq lw2b5 (sSeq lw2b6 r)) (lE x v2 (ln m) (ld L) (some (.ref (t.length + 1))) v6 v7 v8 v9 v10 v11 v12 v13) (k2 ++ [foundO L]) = r (lE x v2 (ln m) (ld L) (some (.ref (t.length + 1))) (ln k) v7 v8 v9 v10 v11 v12 v13) k4 := fun r => by
    have as : ∀ a b c d : SS, sSeq a (sSeq b (sSeq c d)) = sSeq (sSeq a (sSeq b c)) d := fun a b c d => by
      funext s h
      unfold sSeq
      cases a s h with
      | nx s1 h1 =>
        show (b s1 h1).bind _ = ((b s1 h1).bind _).bind _
        cases b s1 h1 <;> rfl
      | _ => rfl
    rw [as, seq_nx e4]
  unfold lw2b
  rw [seq_nx e1, seq_nx e2, seq_nx e3, e46, seq_nx e7, seq_nx e8, seq_nx e9, seq_nx e10, seq_nx e11, seq_nx e12, e13]
theorem cut63 {ns : List Int} : S.cutD (ns.map .int) none (some 63) = (ns.take 63).map .int := by
  unfold S.cutD
  rw [show HT.sIx (ns.map D.int).length 0 none = 0 from rfl, show HT.sIx (ns.map D.int).length (ns.map D.int).length (some 63) = min 63 (ns.map D.int).length from HT.sIx_nat _ _ 63, List.drop_zero, Nat.sub_zero, List.map_take]
  rcases Nat.le_total 63 (ns.map D.int).length with h | h
  · rw [Nat.min_eq_left h]
  · rw [Nat.min_eq_right h, List.take_of_length_le (Nat.le_refl _), List.take_of_length_le h]
theorem due_empty : dueT (Str.ofString "") = .inl 0 := by
  have e : wordsT (Str.ofString "") = [SX.S []] := by
    rw [wordsT_eq, show (Str.ofString "").cps.toList = [] from by decide +kernel, TL.spl_nil]; rfl
  unfold dueT
  rw [e]
  unfold scanW
  refine if_pos (.inr (.inl fun z => ?_))
  obtain ⟨k, _, e⟩ := mem_nums.mp z
  have := natS_cps k
  rw [← e] at this
  exact TL.numL_ne k this.symm
theorem due_nought : dueT (Str.ofString "0") = .inr [0] := by
  have e0 : Str.ofString "0" = natS 0 := by decide +kernel
  have e : wordsT (Str.ofString "0") = [0].map natS := by
    have := words_join (ws := [natS 0]) (by simp) (fun w hw => by rw [List.mem_singleton.mp hw]; exact nat_free 0)
    rw [TL.join_eq] at this
    rw [e0]
    exact this
  unfold dueT
  rw [e, scan_all [0] [] 0 (by simp) (by simp) (by simp)]; rfl
theorem law_true (ns : List Int) : ∃ h, F_law [.dat (.scr (ns.map .int))] [] = .ok (.dat (.bl true)) h := by
  have ep : callF 1 F__law_pen [.dat (.scr (ns.map .int))] [] = .ok (.ref 0) [penO (ns.take 63) 0 0] := by
    unfold callF
    rw [if_pos (show [W.dat (D.scr (ns.map .int))].length = 1 from rfl)]
    simp [F__law_pen, fnOf, sh__law_pen, cut63, penO]
  obtain ⟨s', h', el, v2, v3, v4, v5, v6, v7, v8, v9, v10, v11, v12, v13, t, es, pn, ft⟩ := loop_inv (g := gSet 2) (b := lw2b)
    (fun i s h => ∃ v2 v3 v4 v5 v6 v7 v8 v9 v10 v11 v12 v13 t, s = lE (.scr (ns.map .int)) v2 v3 v4 v5 v6 v7 v8 v9 v10 v11 v12 v13 ∧ Pn (200 * i) t h ∧ t.all O.flat = true) (rngD 0 4) 0 (lE (.scr (ns.map .int)) none none none none none none none none none none none none) [penO (ns.take 63) 0 0]
    ⟨none, none, none, none, none, none, none, none, none, none, none, none, [], rfl, ⟨_, 0, 0, rfl, by omega, by omega⟩, rfl⟩ (by
      rintro j d s h ⟨v2, v3, v4, v5, v6, v7, v8, v9, v10, v11, v12, v13, t, rfl, pn, ft⟩ _ hj
      rw [rngD_len] at hj
      obtain ⟨w3, w4, w5, w6, w7, w8, w9, w10, w11, w12, w13, h', pn', e⟩ := body_ok (x := .scr (ns.map .int)) (v2 := some (.dat d)) (v3 := v3) (v4 := v4) (v5 := v5) (v6 := v6) (v7 := v7) (v8 := v8) (v9 := v9) (v10 := v10) (v11 := v11) (v12 := v12) (v13 := v13) pn ft (by omega)
      exact ⟨_, h', loop_step rfl e, some (.dat d), w3, w4, w5, w6, w7, w8, w9, w10, w11, w12, w13, t ++ [.dead], rfl, pn'.mono (by omega), by simp [ft, O.flat]⟩)
  subst es
  refine ⟨h', ?_⟩
  have c1 := callP_ok (n := 1) (F := F__law_read) (ds := [.str (Str.ofString "")]) (h := h') rfl (look_eq (by decide +kernel))
  have c2 := callP_ok (n := 1) (F := F__law_read) (ds := [.str (Str.ofString "0")]) (h := h') rfl (look_eq (by decide +kernel))
  rw [due_empty] at c1
  rw [due_nought] at c2
  simp only [List.map_cons, List.map_nil] at c1 c2
  have q1 : op2 gEq (.dat (.lst [.str "text", .int 0, .int 0])) (.dat (.lst [.str "text", .int 0, .int 0])) h' = .ok (.dat (.bl true)) h' := by rw [op2_dat, gEq_def, peq_lst, text_refl 0]; rfl
  have q2 : op2 gEq (.dat (.lst [.int 0])) (.dat (.lst [.int 0])) h' = .ok (.dat (.bl true)) h' := by rw [op2_dat, gEq_def, peq_lst, show deq (.lst [.int 0]) (.lst [.int 0]) = some true from ints_refl [0]]; rfl
  have s3 : lw3 (lE (.scr (ns.map .int)) v2 v3 v4 v5 v6 v7 v8 v9 v10 v11 v12 v13) h' = .rt (.dat (.bl true)) h' :=
    ret_of (andT_t (op_of (cb_of (one_arg rfl) c1) (lst_of (ds := [.str "text", .int 0, .int 0]) (cons_of rfl (cons_of rfl (one_arg rfl))) (by simp)) q1) (op_of (cb_of (one_arg rfl) c2) (lst_of (ds := [.int 0]) (one_arg rfl) (by simp)) q2))
  rw [lw_def]
  unfold fnOf
  show fin (sSeq lw1 _ [some (.dat (.scr (ns.map .int))), none, none, none, none, none, none, none, none, none, none, none, none, none] []) = _
  rw [seq_nx (show lw1 [some (.dat (.scr (ns.map .int))), none, none, none, none, none, none, none, none, none, none, none, none, none] [] = .nx (lE (.scr (ns.map .int)) none none none none none none none none none none none none) [penO (ns.take 63) 0 0] from asg_of (cb_of (one_arg rfl) ep) rfl)]
  rw [seq_nx (show lw2 _ _ = _ from for_of (rng_of (n := 4) rfl (by omega)) el), s3]; rfl
end R
end

section
namespace R
open PySem PySem.Spec PyProof.Rows L2 Z LamX S
theorem tabS_new {H : Hp} {P : Addr} {q : Str} (h : H P = some (.tbl #[])) : TabS H P q := ⟨#[], h, by first | exact .nil | trivial | (simp [TriplesOk]), fun pos cv hc => by cases hc⟩
theorem reps_ints {Γ : Wd} {B : Br} {H : Hp} : ∀ ns : List Int, reps Γ B H (ns.map .int) (ns.map V.int)
  | [] => by unfold reps; rfl
  | n :: ns => by rw [List.map_cons, List.map_cons]; unfold reps; exact ⟨_, _, rfl, rep_int, reps_ints ns⟩
theorem start_ok {Γ : Wd} {H : Hp} {a : Addr} {ns : List Int} (ht : Tabs Γ.T H) (hs : SqL Γ.K H a (ns.map V.int)) : spOf Γ 1 F_law [.ref a] H (fun v _ => v = .bl true) fun _ _ _ => False := by
  obtain ⟨h, e⟩ := law_true ns
  refine ⟨fun _ => False, [], [], [.dat (.scr (ns.map .int))], ⟨rfl, fun i j p g => by simp at g, fun i p g => by simp at g, fun i p o g => by simp at g, ht, fun p b => b.elim⟩, ⟨.ref a, [], rfl, ?_, rfl⟩, rfl, ?_⟩
  · show rep _ _ _ _ _
    unfold rep
    refine ⟨a, _, rfl, ?_, reps_ints ns⟩
    rcases hs with (hs | ⟨o, hs⟩) | hs
    · exact .inl ⟨hs, fun b => b.elim id live_nil⟩
    · exact .inr (.inl ⟨o, hs⟩)
    · exact .inr (.inr (.inr hs))
  · rw [e]
    intro m' H' v R x r
    have r : rep Γ (Bar (fun _ => False) m' h) H' (.bl true) v := r
    unfold rep at r
    exact r
theorem fin {w : World} {h : Heap} {mg : Str → Option Value} {a : Ad} {Γ : Wd} (T : Tx Γ mg a) (hT : Γ.T = [])
     : LawG PySem.Challenge.rw_rowshapes_k33_orders_compared_and_read w Γ.K 9 63 "_law_script" mg a.f_law h := by
  refine ⟨a.fd_law, [], spOf Γ 1 F_law, fun p hp => (by cases hp), fun p hp => (by cases hp), fun p hp => (by cases hp), fun s u => ?_, fun H l ns hn ht hs => ?_, fun base KB GB TB => ?_⟩
  · obtain ⟨oc, od, kV, doc, pm, an, cdv, ct, osl, e, lk, hcd⟩ := T.F_law.ex
    rw [e]
    exact .of_eq rfl
  · refine start_ok ?_ hs
    rw [hT]
    intro p hp
    cases hp
  · have g_is_integer := ok_is_integer (P := PySem.Challenge.rw_rowshapes_k33_orders_compared_and_read.prog) (w := w) (base := base) T
    have g_is_between := ok_is_between (P := PySem.Challenge.rw_rowshapes_k33_orders_compared_and_read.prog) (w := w) (base := base) T g_is_integer
    have g_BadPlace___init__ := ok_BadPlace___init__ (P := PySem.Challenge.rw_rowshapes_k33_orders_compared_and_read.prog) (w := w) (base := base) T
    have g_BadText___init__ := ok_BadText___init__ (P := PySem.Challenge.rw_rowshapes_k33_orders_compared_and_read.prog) (w := w) (base := base) T
    have g_is_order := ok_is_order (P := PySem.Challenge.rw_rowshapes_k33_orders_compared_and_read.prog) (w := w) (base := base) T g_is_between
    have g_inverse := ok_inverse (P := PySem.Challenge.rw_rowshapes_k33_orders_compared_and_read.prog) (w := w) (base := base) T
    have g_is_number_below := ok_is_number_below (P := PySem.Challenge.rw_rowshapes_k33_orders_compared_and_read.prog) (w := w) (base := base) T
    have g_Order___init__ := ok_Order___init__ (P := PySem.Challenge.rw_rowshapes_k33_orders_compared_and_read.prog) (w := w) (base := base) T g_is_order g_inverse
    have g_Order_read := ok_Order_read (P := PySem.Challenge.rw_rowshapes_k33_orders_compared_and_read.prog) (w := w) (base := base) T g_BadText___init__ g_is_number_below g_Order___init__
    have g_Order_need_place := ok_Order_need_place (P := PySem.Challenge.rw_rowshapes_k33_orders_compared_and_read.prog) (w := w) (base := base) T g_is_between g_BadPlace___init__
    have g_Order___len__ := ok_Order___len__ (P := PySem.Challenge.rw_rowshapes_k33_orders_compared_and_read.prog) (w := w) (base := base) T
    have g_Order___getitem__ := ok_Order___getitem__ (P := PySem.Challenge.rw_rowshapes_k33_orders_compared_and_read.prog) (w := w) (base := base) T g_Order_need_place
    have g_Order___eq__ := ok_Order___eq__ (P := PySem.Challenge.rw_rowshapes_k33_orders_compared_and_read.prog) (w := w) (base := base) T
    have g_Order___lt__ := ok_Order___lt__ (P := PySem.Challenge.rw_rowshapes_k33_orders_compared_and_read.prog) (w := w) (base := base) T
    have g_Order___le__ := ok_Order___le__ (P := PySem.Challenge.rw_rowshapes_k33_orders_compared_and_read.prog) (w := w) (base := base) T
    have g_Order___gt__ := ok_Order___gt__ (P := PySem.Challenge.rw_rowshapes_k33_orders_compared_and_read.prog) (w := w) (base := base) T
    have g_Order___ge__ := ok_Order___ge__ (P := PySem.Challenge.rw_rowshapes_k33_orders_compared_and_read.prog) (w := w) (base := base) T
    have g_Order___str__ := ok_Order___str__ (P := PySem.Challenge.rw_rowshapes_k33_orders_compared_and_read.prog) (w := w) (base := base) T
    have g__law_pen := ok__law_pen (P := PySem.Challenge.rw_rowshapes_k33_orders_compared_and_read.prog) (w := w) (base := base) T
    have g__law_draw := ok__law_draw (P := PySem.Challenge.rw_rowshapes_k33_orders_compared_and_read.prog) (w := w) (base := base) T
    have g__law_pick := ok__law_pick (P := PySem.Challenge.rw_rowshapes_k33_orders_compared_and_read.prog) (w := w) (base := base) T g__law_draw
    have g__law_mixed := ok__law_mixed (P := PySem.Challenge.rw_rowshapes_k33_orders_compared_and_read.prog) (w := w) (base := base) T g__law_draw
    have g__law_spots := ok__law_spots (P := PySem.Challenge.rw_rowshapes_k33_orders_compared_and_read.prog) (w := w) (base := base) T g__law_draw g__law_mixed
    have g__law_worths := ok__law_worths (P := PySem.Challenge.rw_rowshapes_k33_orders_compared_and_read.prog) (w := w) (base := base) T g_Order___len__ g_Order___getitem__
    have g__law_compared := ok__law_compared (P := PySem.Challenge.rw_rowshapes_k33_orders_compared_and_read.prog) (w := w) (base := base) T g_Order___init__ g_Order___eq__ g_Order___ge__ g_Order___gt__ g_Order___le__ g_Order___lt__
    have g__law_bent := ok__law_bent (P := PySem.Challenge.rw_rowshapes_k33_orders_compared_and_read.prog) (w := w) (base := base) T g__law_draw g__law_pick
    have g__law_fault := ok__law_fault (P := PySem.Challenge.rw_rowshapes_k33_orders_compared_and_read.prog) (w := w) (base := base) T
    have g__law_read := ok__law_read (P := PySem.Challenge.rw_rowshapes_k33_orders_compared_and_read.prog) (w := w) (base := base) T g_Order_read g__law_worths
    have g_law := ok_law (P := PySem.Challenge.rw_rowshapes_k33_orders_compared_and_read.prog) (w := w) (base := base) T g__law_pen g__law_draw g__law_spots g__law_compared g_Order___init__ g_Order___str__ g_Order___eq__ g_Order_read g__law_bent g__law_fault g__law_read g__law_pick
    exact g_law
end R
end

section
namespace R
open PySem PySem.Spec PyProof.Rows L2 Z LamX S
theorem kit_self {K : PySem.W.Frag} (t : Value) : PySem.W.kitOne K t t = some true := by
  unfold PySem.W.kitOne
  rw [if_pos (by simp)]
theorem kit_subC {K : PySem.W.Frag} {t : Value} {C : Addr} (h1 : PySem.W.isClsIn K C = true) (h2 : PySem.W.typeIn K (.ref C) = some (.type "type")) (h3 : PySem.W.subIn K t (.ref C) = some true) : PySem.W.kitCls K t (.ref C) = some true := by
  have e2 : ((PySem.W.clsIn K C).isSome && PySem.W.typeIn K (.ref C) == some (.type "type")) = true := by
    have h2' : (PySem.W.clsIn K C).isSome = true := h1
    rw [h2', h2] <;> rfl
  unfold PySem.W.kitCls
  dsimp only
  rw [if_pos e2]
  exact h3
theorem kit_sub {K : PySem.W.Frag} {t : Value} {C : Addr} (h1 : PySem.W.isClsIn K C = true) (h2 : PySem.W.typeIn K (.ref C) = some (.type "type")) (h3 : PySem.W.subIn K t (.ref C) = some true) : PySem.W.kitOne K t (.ref C) = some true := by
  unfold PySem.W.kitOne
  split
  · rfl
  · exact kit_subC h1 h2 h3
theorem kit_subT {K : PySem.W.Frag} {t : Value} {T : String} (h1 : PySem.W.kitMeta T = true) (h3 : PySem.W.subIn K t (.type T) = some true) : PySem.W.kitOne K t (.type T) = some true := by
  unfold PySem.W.kitOne
  split
  · rfl
  · unfold PySem.W.kitCls
    dsimp only
    rw [if_pos h1]
    exact h3
theorem exm_sub {K : PySem.W.Frag} {t : Value} {C : Addr} (h0 : PySem.W.subIn K (.ref C) (.type "BaseException") = some true) (h1 : PySem.W.isClsIn K C = true) (h2 : PySem.W.typeIn K (.ref C) = some (.type "type")) (h3 : PySem.W.subIn K t (.ref C) = some true) : PySem.W.exmOne K t (.ref C) = some true := by
  unfold PySem.W.exmOne
  rw [if_pos (by rw [h0] <;> rfl)]
  exact kit_subC h1 h2 h3
theorem kit_tyC {K : PySem.W.Frag} {C : Addr} (h1 : PySem.W.isClsIn K C = true) (h2 : PySem.W.typeIn K (.ref C) = some (.type "type")) : ∀ t ∈ tyTs, PySem.W.kitOne K (.type t) (.ref C) = some false := fun t ht => by
  have e2 : ((PySem.W.clsIn K C).isSome && PySem.W.typeIn K (.ref C) == some (.type "type")) = true := by
    have h2' : (PySem.W.clsIn K C).isSome = true := h1
    rw [h2', h2] <;> rfl
  unfold PySem.W.kitOne
  split
  · next h => exact absurd h (by simp)
  · unfold PySem.W.kitCls
    dsimp only
    rw [if_pos e2]
    exact sub_bt t ht
theorem mkLaw {w : World} {K : PySem.W.Frag} {h : Heap} {mg : Str → Option Value} {fa : Addr} (X : K.In h) (G : h.Ns mainGlobals mg) (hfa : mg "law" = some (.ref fa))
    {u_FIGURES : Value}
    {u_MOST_ROWS : Value}
    {C_RowError : Addr}
    {C_BadInput : Addr}
    {C_BadOrder : Addr}
    {C_BadPlace : Addr}
    {C_BadText : Addr}
    {C_Order : Addr}
    {f_is_integer : Addr} {oc_is_integer kV_is_integer dc_is_integer pm_is_integer ct_is_integer : Value} {od_is_integer an_is_integer : Option Addr} {sl_is_integer : Array (Option Value)}
    {cd_is_integer : Value}
    {f_is_between : Addr} {oc_is_between kV_is_between dc_is_between pm_is_between ct_is_between : Value} {od_is_between an_is_between : Option Addr} {sl_is_between : Array (Option Value)}
    {cd_is_between : Value}
    {f_BadPlace___init__ : Addr} {oc_BadPlace___init__ kV_BadPlace___init__ dc_BadPlace___init__ pm_BadPlace___init__ ct_BadPlace___init__ : Value} {od_BadPlace___init__ an_BadPlace___init__ : Option Addr} {sl_BadPlace___init__ : Array (Option Value)}
    {cd_BadPlace___init__ : Value}
    {f_BadText___init__ : Addr} {oc_BadText___init__ kV_BadText___init__ dc_BadText___init__ pm_BadText___init__ ct_BadText___init__ : Value} {od_BadText___init__ an_BadText___init__ : Option Addr} {sl_BadText___init__ : Array (Option Value)}
    {cd_BadText___init__ : Value}
    {f_is_order : Addr} {oc_is_order kV_is_order dc_is_order pm_is_order ct_is_order : Value} {od_is_order an_is_order : Option Addr} {sl_is_order : Array (Option Value)}
    {cd_is_order : Value}
    {f_inverse : Addr} {oc_inverse kV_inverse dc_inverse pm_inverse ct_inverse : Value} {od_inverse an_inverse : Option Addr} {sl_inverse : Array (Option Value)}
    {cd_inverse : Value}
    {f_is_number_below : Addr} {oc_is_number_below kV_is_number_below dc_is_number_below pm_is_number_below ct_is_number_below : Value} {od_is_number_below an_is_number_below : Option Addr} {sl_is_number_below : Array (Option Value)}
    {cd_is_number_below : Value}
    {f_Order___init__ : Addr} {oc_Order___init__ kV_Order___init__ dc_Order___init__ pm_Order___init__ ct_Order___init__ : Value} {od_Order___init__ an_Order___init__ : Option Addr} {sl_Order___init__ : Array (Option Value)}
    {cd_Order___init__ : Value}
    {f_Order_read : Addr} {oc_Order_read kV_Order_read dc_Order_read pm_Order_read ct_Order_read : Value} {od_Order_read an_Order_read : Option Addr} {sl_Order_read : Array (Option Value)}
    {cd_Order_read : Value}
    {r_Order_read : Addr} {rs_Order_read : List Value}
    {f_Order_need_place : Addr} {oc_Order_need_place kV_Order_need_place dc_Order_need_place pm_Order_need_place ct_Order_need_place : Value} {od_Order_need_place an_Order_need_place : Option Addr} {sl_Order_need_place : Array (Option Value)}
    {cd_Order_need_place : Value}
    {f_Order___len__ : Addr} {oc_Order___len__ kV_Order___len__ dc_Order___len__ pm_Order___len__ ct_Order___len__ : Value} {od_Order___len__ an_Order___len__ : Option Addr} {sl_Order___len__ : Array (Option Value)}
    {cd_Order___len__ : Value}
    {f_Order___getitem__ : Addr} {oc_Order___getitem__ kV_Order___getitem__ dc_Order___getitem__ pm_Order___getitem__ ct_Order___getitem__ : Value} {od_Order___getitem__ an_Order___getitem__ : Option Addr} {sl_Order___getitem__ : Array (Option Value)}
    {cd_Order___getitem__ : Value}
    {f_Order___eq__ : Addr} {oc_Order___eq__ kV_Order___eq__ dc_Order___eq__ pm_Order___eq__ ct_Order___eq__ : Value} {od_Order___eq__ an_Order___eq__ : Option Addr} {sl_Order___eq__ : Array (Option Value)}
    {cd_Order___eq__ : Value}
    {f_Order___lt__ : Addr} {oc_Order___lt__ kV_Order___lt__ dc_Order___lt__ pm_Order___lt__ ct_Order___lt__ : Value} {od_Order___lt__ an_Order___lt__ : Option Addr} {sl_Order___lt__ : Array (Option Value)}
    {cd_Order___lt__ : Value}
    {f_Order___le__ : Addr} {oc_Order___le__ kV_Order___le__ dc_Order___le__ pm_Order___le__ ct_Order___le__ : Value} {od_Order___le__ an_Order___le__ : Option Addr} {sl_Order___le__ : Array (Option Value)}
    {cd_Order___le__ : Value}
    {f_Order___gt__ : Addr} {oc_Order___gt__ kV_Order___gt__ dc_Order___gt__ pm_Order___gt__ ct_Order___gt__ : Value} {od_Order___gt__ an_Order___gt__ : Option Addr} {sl_Order___gt__ : Array (Option Value)}
    {cd_Order___gt__ : Value}
    {f_Order___ge__ : Addr} {oc_Order___ge__ kV_Order___ge__ dc_Order___ge__ pm_Order___ge__ ct_Order___ge__ : Value} {od_Order___ge__ an_Order___ge__ : Option Addr} {sl_Order___ge__ : Array (Option Value)}
    {cd_Order___ge__ : Value}
    {f_Order___str__ : Addr} {oc_Order___str__ kV_Order___str__ dc_Order___str__ pm_Order___str__ ct_Order___str__ : Value} {od_Order___str__ an_Order___str__ : Option Addr} {sl_Order___str__ : Array (Option Value)}
    {cd_Order___str__ : Value}
    {f__law_pen : Addr} {oc__law_pen kV__law_pen dc__law_pen pm__law_pen ct__law_pen : Value} {od__law_pen an__law_pen : Option Addr} {sl__law_pen : Array (Option Value)}
    {cd__law_pen : Value}
    {f__law_draw : Addr} {oc__law_draw kV__law_draw dc__law_draw pm__law_draw ct__law_draw : Value} {od__law_draw an__law_draw : Option Addr} {sl__law_draw : Array (Option Value)}
    {cd__law_draw : Value}
    {f__law_pick : Addr} {oc__law_pick kV__law_pick dc__law_pick pm__law_pick ct__law_pick : Value} {od__law_pick an__law_pick : Option Addr} {sl__law_pick : Array (Option Value)}
    {cd__law_pick : Value}
    {f__law_mixed : Addr} {oc__law_mixed kV__law_mixed dc__law_mixed pm__law_mixed ct__law_mixed : Value} {od__law_mixed an__law_mixed : Option Addr} {sl__law_mixed : Array (Option Value)}
    {cd__law_mixed : Value}
    {f__law_spots : Addr} {oc__law_spots kV__law_spots dc__law_spots pm__law_spots ct__law_spots : Value} {od__law_spots an__law_spots : Option Addr} {sl__law_spots : Array (Option Value)}
    {cd__law_spots : Value}
    {f__law_worths : Addr} {oc__law_worths kV__law_worths dc__law_worths pm__law_worths ct__law_worths : Value} {od__law_worths an__law_worths : Option Addr} {sl__law_worths : Array (Option Value)}
    {cd__law_worths : Value}
    {f__law_compared : Addr} {oc__law_compared kV__law_compared dc__law_compared pm__law_compared ct__law_compared : Value} {od__law_compared an__law_compared : Option Addr} {sl__law_compared : Array (Option Value)}
    {cd__law_compared : Value}
    {f__law_bent : Addr} {oc__law_bent kV__law_bent dc__law_bent pm__law_bent ct__law_bent : Value} {od__law_bent an__law_bent : Option Addr} {sl__law_bent : Array (Option Value)}
    {cd__law_bent : Value}
    {f__law_fault : Addr} {oc__law_fault kV__law_fault dc__law_fault pm__law_fault ct__law_fault : Value} {od__law_fault an__law_fault : Option Addr} {sl__law_fault : Array (Option Value)}
    {cd__law_fault : Value}
    {f__law_read : Addr} {oc__law_read kV__law_read dc__law_read pm__law_read ct__law_read : Value} {od__law_read an__law_read : Option Addr} {sl__law_read : Array (Option Value)}
    {cd__law_read : Value}
    {f_law : Addr} {oc_law kV_law dc_law pm_law ct_law : Value} {od_law an_law : Option Addr} {sl_law : Array (Option Value)}
    {cd_law : Value}
    {nm_BadPlace qn_BadPlace : Str} {Nn_BadPlace : Addr} {bs_BadPlace bm_BadPlace sub_BadPlace : List Value} {sn_BadPlace : List Str} {ab_BadPlace : Bool} {col_BadPlace : Option Bool} {dd_BadPlace : Option Addr} {k0_BadPlace k1_BadPlace k2_BadPlace k3_BadPlace k5_BadPlace : Option Value}
    {nm_BadText qn_BadText : Str} {Nn_BadText : Addr} {bs_BadText bm_BadText sub_BadText : List Value} {sn_BadText : List Str} {ab_BadText : Bool} {col_BadText : Option Bool} {dd_BadText : Option Addr} {k0_BadText k1_BadText k2_BadText k3_BadText k5_BadText : Option Value}
    (z_ValueError : PySem.W.nsIn K mainGlobals "ValueError" = some none)
    (z_abs : PySem.W.nsIn K mainGlobals "abs" = some none)
    (z_all : PySem.W.nsIn K mainGlobals "all" = some none)
    (z_bool : PySem.W.nsIn K mainGlobals "bool" = some none)
    (z_enumerate : PySem.W.nsIn K mainGlobals "enumerate" = some none)
    (z_int : PySem.W.nsIn K mainGlobals "int" = some none)
    (z_isinstance : PySem.W.nsIn K mainGlobals "isinstance" = some none)
    (z_len : PySem.W.nsIn K mainGlobals "len" = some none)
    (z_list : PySem.W.nsIn K mainGlobals "list" = some none)
    (z_range : PySem.W.nsIn K mainGlobals "range" = some none)
    (z_set : PySem.W.nsIn K mainGlobals "set" = some none)
    (z_str : PySem.W.nsIn K mainGlobals "str" = some none)
    (z_tuple : PySem.W.nsIn K mainGlobals "tuple" = some none)
    (c_FIGURES : PySem.W.nsIn K mainGlobals "FIGURES" = some (some u_FIGURES))
    (r_FIGURES : RelV (.str "0123456789") u_FIGURES)
    (c_MOST_ROWS : PySem.W.nsIn K mainGlobals "MOST_ROWS" = some (some u_MOST_ROWS))
    (r_MOST_ROWS : RelV (.int 24) u_MOST_ROWS)
    (g_RowError : PySem.W.nsIn K mainGlobals "RowError" = some (some (.ref C_RowError)))
    (g_BadInput : PySem.W.nsIn K mainGlobals "BadInput" = some (some (.ref C_BadInput)))
    (g_BadOrder : PySem.W.nsIn K mainGlobals "BadOrder" = some (some (.ref C_BadOrder)))
    (g_BadPlace : PySem.W.nsIn K mainGlobals "BadPlace" = some (some (.ref C_BadPlace)))
    (g_BadText : PySem.W.nsIn K mainGlobals "BadText" = some (some (.ref C_BadText)))
    (g_Order : PySem.W.nsIn K mainGlobals "Order" = some (some (.ref C_Order)))
    (hn_cls : PySem.W.specialIn K (.builtin "object.__class__") "__get__" = some (some (.builtin "getset_descriptor.__get__")))
    (ht_cls : PySem.W.takesIn K (.builtin "object.__class__") = some true)
    (g_is_integer : PySem.W.nsIn K mainGlobals "is_integer" = some (some (.ref f_is_integer)))
    (l_is_integer : K.lookup f_is_integer = some ⟨oc_is_integer, od_is_integer, .func (PySem.W.fnOf "is_integer" "is_integer" (defArgs s_is_integer) (defBody s_is_integer) (defScope s_is_integer) .none kV_is_integer dc_is_integer pm_is_integer an_is_integer cd_is_integer ct_is_integer), sl_is_integer⟩)
    (k_is_integer : PySem.W.codeIn K cd_is_integer "is_integer" = true)
    (p_is_integer : PySem.W.keepIn K (.ref f_is_integer) = true)
    (g_is_between : PySem.W.nsIn K mainGlobals "is_between" = some (some (.ref f_is_between)))
    (l_is_between : K.lookup f_is_between = some ⟨oc_is_between, od_is_between, .func (PySem.W.fnOf "is_between" "is_between" (defArgs s_is_between) (defBody s_is_between) (defScope s_is_between) .none kV_is_between dc_is_between pm_is_between an_is_between cd_is_between ct_is_between), sl_is_between⟩)
    (k_is_between : PySem.W.codeIn K cd_is_between "is_between" = true)
    (p_is_between : PySem.W.keepIn K (.ref f_is_between) = true)
    (g_BadPlace___init__ : PySem.W.findIn K (.ref C_BadPlace) "__init__" = some (some (.ref f_BadPlace___init__)))
    (l_BadPlace___init__ : K.lookup f_BadPlace___init__ = some ⟨oc_BadPlace___init__, od_BadPlace___init__, .func (PySem.W.fnOf "__init__" "BadPlace.__init__" (defArgs s_BadPlace___init__) (defBody s_BadPlace___init__) (defScope s_BadPlace___init__) .none kV_BadPlace___init__ dc_BadPlace___init__ pm_BadPlace___init__ an_BadPlace___init__ cd_BadPlace___init__ ct_BadPlace___init__), sl_BadPlace___init__⟩)
    (k_BadPlace___init__ : PySem.W.codeIn K cd_BadPlace___init__ "BadPlace.__init__" = true)
    (p_BadPlace___init__ : PySem.W.keepIn K (.ref f_BadPlace___init__) = true)
    (i_BadPlace___init__ : PySem.W.isFn K (.ref f_BadPlace___init__) = true)
    (g_BadText___init__ : PySem.W.findIn K (.ref C_BadText) "__init__" = some (some (.ref f_BadText___init__)))
    (l_BadText___init__ : K.lookup f_BadText___init__ = some ⟨oc_BadText___init__, od_BadText___init__, .func (PySem.W.fnOf "__init__" "BadText.__init__" (defArgs s_BadText___init__) (defBody s_BadText___init__) (defScope s_BadText___init__) .none kV_BadText___init__ dc_BadText___init__ pm_BadText___init__ an_BadText___init__ cd_BadText___init__ ct_BadText___init__), sl_BadText___init__⟩)
    (k_BadText___init__ : PySem.W.codeIn K cd_BadText___init__ "BadText.__init__" = true)
    (p_BadText___init__ : PySem.W.keepIn K (.ref f_BadText___init__) = true)
    (i_BadText___init__ : PySem.W.isFn K (.ref f_BadText___init__) = true)
    (g_is_order : PySem.W.nsIn K mainGlobals "is_order" = some (some (.ref f_is_order)))
    (l_is_order : K.lookup f_is_order = some ⟨oc_is_order, od_is_order, .func (PySem.W.fnOf "is_order" "is_order" (defArgs s_is_order) (defBody s_is_order) (defScope s_is_order) .none kV_is_order dc_is_order pm_is_order an_is_order cd_is_order ct_is_order), sl_is_order⟩)
    (k_is_order : PySem.W.codeIn K cd_is_order "is_order" = true)
    (p_is_order : PySem.W.keepIn K (.ref f_is_order) = true)
    (g_inverse : PySem.W.nsIn K mainGlobals "inverse" = some (some (.ref f_inverse)))
    (l_inverse : K.lookup f_inverse = some ⟨oc_inverse, od_inverse, .func (PySem.W.fnOf "inverse" "inverse" (defArgs s_inverse) (defBody s_inverse) (defScope s_inverse) .none kV_inverse dc_inverse pm_inverse an_inverse cd_inverse ct_inverse), sl_inverse⟩)
    (k_inverse : PySem.W.codeIn K cd_inverse "inverse" = true)
    (p_inverse : PySem.W.keepIn K (.ref f_inverse) = true)
    (g_is_number_below : PySem.W.nsIn K mainGlobals "is_number_below" = some (some (.ref f_is_number_below)))
    (l_is_number_below : K.lookup f_is_number_below = some ⟨oc_is_number_below, od_is_number_below, .func (PySem.W.fnOf "is_number_below" "is_number_below" (defArgs s_is_number_below) (defBody s_is_number_below) (defScope s_is_number_below) .none kV_is_number_below dc_is_number_below pm_is_number_below an_is_number_below cd_is_number_below ct_is_number_below), sl_is_number_below⟩)
    (k_is_number_below : PySem.W.codeIn K cd_is_number_below "is_number_below" = true)
    (p_is_number_below : PySem.W.keepIn K (.ref f_is_number_below) = true)
    (g_Order___init__ : PySem.W.findIn K (.ref C_Order) "__init__" = some (some (.ref f_Order___init__)))
    (l_Order___init__ : K.lookup f_Order___init__ = some ⟨oc_Order___init__, od_Order___init__, .func (PySem.W.fnOf "__init__" "Order.__init__" (defArgs s_Order___init__) (defBody s_Order___init__) (defScope s_Order___init__) .none kV_Order___init__ dc_Order___init__ pm_Order___init__ an_Order___init__ cd_Order___init__ ct_Order___init__), sl_Order___init__⟩)
    (k_Order___init__ : PySem.W.codeIn K cd_Order___init__ "Order.__init__" = true)
    (p_Order___init__ : PySem.W.keepIn K (.ref f_Order___init__) = true)
    (i_Order___init__ : PySem.W.isFn K (.ref f_Order___init__) = true)
    (a_Order_read : PySem.W.findCls K (.ref C_Order) (.type "type") "read" = some (.get (.builtin "classmethod.__get__") (.ref r_Order_read) .none (.ref C_Order)))
    (b_Order_read : PySem.W.recIn K r_Order_read "classmethod" = some (.ref f_Order_read :: rs_Order_read))
    (l_Order_read : K.lookup f_Order_read = some ⟨oc_Order_read, od_Order_read, .func (PySem.W.fnOf "read" "Order.read" (defArgs s_Order_read) (defBody s_Order_read) (defScope s_Order_read) .none kV_Order_read dc_Order_read pm_Order_read an_Order_read cd_Order_read ct_Order_read), sl_Order_read⟩)
    (k_Order_read : PySem.W.codeIn K cd_Order_read "Order.read" = true)
    (p_Order_read : PySem.W.keepIn K (.ref f_Order_read) = true)
    (rd_Order : PySem.W.readsIn K C_Order (.type "type") = true)
    (gm_Order : PySem.W.specialIn K (.ref C_Order) "__getattribute__" = some (some (.builtin "type.__getattribute__")))
    (i_Order_read : PySem.W.fnIn K f_Order_read = true)
    (g_Order_need_place : PySem.W.findIn K (.ref C_Order) "need_place" = some (some (.ref f_Order_need_place)))
    (l_Order_need_place : K.lookup f_Order_need_place = some ⟨oc_Order_need_place, od_Order_need_place, .func (PySem.W.fnOf "need_place" "Order.need_place" (defArgs s_Order_need_place) (defBody s_Order_need_place) (defScope s_Order_need_place) .none kV_Order_need_place dc_Order_need_place pm_Order_need_place an_Order_need_place cd_Order_need_place ct_Order_need_place), sl_Order_need_place⟩)
    (k_Order_need_place : PySem.W.codeIn K cd_Order_need_place "Order.need_place" = true)
    (p_Order_need_place : PySem.W.keepIn K (.ref f_Order_need_place) = true)
    (i_Order_need_place : PySem.W.isFn K (.ref f_Order_need_place) = true)
    (g_Order___len__ : PySem.W.findIn K (.ref C_Order) "__len__" = some (some (.ref f_Order___len__)))
    (l_Order___len__ : K.lookup f_Order___len__ = some ⟨oc_Order___len__, od_Order___len__, .func (PySem.W.fnOf "__len__" "Order.__len__" (defArgs s_Order___len__) (defBody s_Order___len__) (defScope s_Order___len__) .none kV_Order___len__ dc_Order___len__ pm_Order___len__ an_Order___len__ cd_Order___len__ ct_Order___len__), sl_Order___len__⟩)
    (k_Order___len__ : PySem.W.codeIn K cd_Order___len__ "Order.__len__" = true)
    (p_Order___len__ : PySem.W.keepIn K (.ref f_Order___len__) = true)
    (i_Order___len__ : PySem.W.isFn K (.ref f_Order___len__) = true)
    (g_Order___getitem__ : PySem.W.findIn K (.ref C_Order) "__getitem__" = some (some (.ref f_Order___getitem__)))
    (l_Order___getitem__ : K.lookup f_Order___getitem__ = some ⟨oc_Order___getitem__, od_Order___getitem__, .func (PySem.W.fnOf "__getitem__" "Order.__getitem__" (defArgs s_Order___getitem__) (defBody s_Order___getitem__) (defScope s_Order___getitem__) .none kV_Order___getitem__ dc_Order___getitem__ pm_Order___getitem__ an_Order___getitem__ cd_Order___getitem__ ct_Order___getitem__), sl_Order___getitem__⟩)
    (k_Order___getitem__ : PySem.W.codeIn K cd_Order___getitem__ "Order.__getitem__" = true)
    (p_Order___getitem__ : PySem.W.keepIn K (.ref f_Order___getitem__) = true)
    (i_Order___getitem__ : PySem.W.isFn K (.ref f_Order___getitem__) = true)
    (g_Order___eq__ : PySem.W.findIn K (.ref C_Order) "__eq__" = some (some (.ref f_Order___eq__)))
    (l_Order___eq__ : K.lookup f_Order___eq__ = some ⟨oc_Order___eq__, od_Order___eq__, .func (PySem.W.fnOf "__eq__" "Order.__eq__" (defArgs s_Order___eq__) (defBody s_Order___eq__) (defScope s_Order___eq__) .none kV_Order___eq__ dc_Order___eq__ pm_Order___eq__ an_Order___eq__ cd_Order___eq__ ct_Order___eq__), sl_Order___eq__⟩)
    (k_Order___eq__ : PySem.W.codeIn K cd_Order___eq__ "Order.__eq__" = true)
    (p_Order___eq__ : PySem.W.keepIn K (.ref f_Order___eq__) = true)
    (i_Order___eq__ : PySem.W.isFn K (.ref f_Order___eq__) = true)
    (g_Order___lt__ : PySem.W.findIn K (.ref C_Order) "__lt__" = some (some (.ref f_Order___lt__)))
    (l_Order___lt__ : K.lookup f_Order___lt__ = some ⟨oc_Order___lt__, od_Order___lt__, .func (PySem.W.fnOf "__lt__" "Order.__lt__" (defArgs s_Order___lt__) (defBody s_Order___lt__) (defScope s_Order___lt__) .none kV_Order___lt__ dc_Order___lt__ pm_Order___lt__ an_Order___lt__ cd_Order___lt__ ct_Order___lt__), sl_Order___lt__⟩)
    (k_Order___lt__ : PySem.W.codeIn K cd_Order___lt__ "Order.__lt__" = true)
    (p_Order___lt__ : PySem.W.keepIn K (.ref f_Order___lt__) = true)
    (i_Order___lt__ : PySem.W.isFn K (.ref f_Order___lt__) = true)
    (g_Order___le__ : PySem.W.findIn K (.ref C_Order) "__le__" = some (some (.ref f_Order___le__)))
    (l_Order___le__ : K.lookup f_Order___le__ = some ⟨oc_Order___le__, od_Order___le__, .func (PySem.W.fnOf "__le__" "Order.__le__" (defArgs s_Order___le__) (defBody s_Order___le__) (defScope s_Order___le__) .none kV_Order___le__ dc_Order___le__ pm_Order___le__ an_Order___le__ cd_Order___le__ ct_Order___le__), sl_Order___le__⟩)
    (k_Order___le__ : PySem.W.codeIn K cd_Order___le__ "Order.__le__" = true)
    (p_Order___le__ : PySem.W.keepIn K (.ref f_Order___le__) = true)
    (i_Order___le__ : PySem.W.isFn K (.ref f_Order___le__) = true)
    (g_Order___gt__ : PySem.W.findIn K (.ref C_Order) "__gt__" = some (some (.ref f_Order___gt__)))
    (l_Order___gt__ : K.lookup f_Order___gt__ = some ⟨oc_Order___gt__, od_Order___gt__, .func (PySem.W.fnOf "__gt__" "Order.__gt__" (defArgs s_Order___gt__) (defBody s_Order___gt__) (defScope s_Order___gt__) .none kV_Order___gt__ dc_Order___gt__ pm_Order___gt__ an_Order___gt__ cd_Order___gt__ ct_Order___gt__), sl_Order___gt__⟩)
    (k_Order___gt__ : PySem.W.codeIn K cd_Order___gt__ "Order.__gt__" = true)
    (p_Order___gt__ : PySem.W.keepIn K (.ref f_Order___gt__) = true)
    (i_Order___gt__ : PySem.W.isFn K (.ref f_Order___gt__) = true)
    (g_Order___ge__ : PySem.W.findIn K (.ref C_Order) "__ge__" = some (some (.ref f_Order___ge__)))
    (l_Order___ge__ : K.lookup f_Order___ge__ = some ⟨oc_Order___ge__, od_Order___ge__, .func (PySem.W.fnOf "__ge__" "Order.__ge__" (defArgs s_Order___ge__) (defBody s_Order___ge__) (defScope s_Order___ge__) .none kV_Order___ge__ dc_Order___ge__ pm_Order___ge__ an_Order___ge__ cd_Order___ge__ ct_Order___ge__), sl_Order___ge__⟩)
    (k_Order___ge__ : PySem.W.codeIn K cd_Order___ge__ "Order.__ge__" = true)
    (p_Order___ge__ : PySem.W.keepIn K (.ref f_Order___ge__) = true)
    (i_Order___ge__ : PySem.W.isFn K (.ref f_Order___ge__) = true)
    (g_Order___str__ : PySem.W.findIn K (.ref C_Order) "__str__" = some (some (.ref f_Order___str__)))
    (l_Order___str__ : K.lookup f_Order___str__ = some ⟨oc_Order___str__, od_Order___str__, .func (PySem.W.fnOf "__str__" "Order.__str__" (defArgs s_Order___str__) (defBody s_Order___str__) (defScope s_Order___str__) .none kV_Order___str__ dc_Order___str__ pm_Order___str__ an_Order___str__ cd_Order___str__ ct_Order___str__), sl_Order___str__⟩)
    (k_Order___str__ : PySem.W.codeIn K cd_Order___str__ "Order.__str__" = true)
    (p_Order___str__ : PySem.W.keepIn K (.ref f_Order___str__) = true)
    (i_Order___str__ : PySem.W.isFn K (.ref f_Order___str__) = true)
    (g__law_pen : PySem.W.nsIn K mainGlobals "_law_pen" = some (some (.ref f__law_pen)))
    (l__law_pen : K.lookup f__law_pen = some ⟨oc__law_pen, od__law_pen, .func (PySem.W.fnOf "_law_pen" "_law_pen" (defArgs s__law_pen) (defBody s__law_pen) (defScope s__law_pen) .none kV__law_pen dc__law_pen pm__law_pen an__law_pen cd__law_pen ct__law_pen), sl__law_pen⟩)
    (k__law_pen : PySem.W.codeIn K cd__law_pen "_law_pen" = true)
    (p__law_pen : PySem.W.keepIn K (.ref f__law_pen) = true)
    (g__law_draw : PySem.W.nsIn K mainGlobals "_law_draw" = some (some (.ref f__law_draw)))
    (l__law_draw : K.lookup f__law_draw = some ⟨oc__law_draw, od__law_draw, .func (PySem.W.fnOf "_law_draw" "_law_draw" (defArgs s__law_draw) (defBody s__law_draw) (defScope s__law_draw) .none kV__law_draw dc__law_draw pm__law_draw an__law_draw cd__law_draw ct__law_draw), sl__law_draw⟩)
    (k__law_draw : PySem.W.codeIn K cd__law_draw "_law_draw" = true)
    (p__law_draw : PySem.W.keepIn K (.ref f__law_draw) = true)
    (g__law_pick : PySem.W.nsIn K mainGlobals "_law_pick" = some (some (.ref f__law_pick)))
    (l__law_pick : K.lookup f__law_pick = some ⟨oc__law_pick, od__law_pick, .func (PySem.W.fnOf "_law_pick" "_law_pick" (defArgs s__law_pick) (defBody s__law_pick) (defScope s__law_pick) .none kV__law_pick dc__law_pick pm__law_pick an__law_pick cd__law_pick ct__law_pick), sl__law_pick⟩)
    (k__law_pick : PySem.W.codeIn K cd__law_pick "_law_pick" = true)
    (p__law_pick : PySem.W.keepIn K (.ref f__law_pick) = true)
    (g__law_mixed : PySem.W.nsIn K mainGlobals "_law_mixed" = some (some (.ref f__law_mixed)))
    (l__law_mixed : K.lookup f__law_mixed = some ⟨oc__law_mixed, od__law_mixed, .func (PySem.W.fnOf "_law_mixed" "_law_mixed" (defArgs s__law_mixed) (defBody s__law_mixed) (defScope s__law_mixed) .none kV__law_mixed dc__law_mixed pm__law_mixed an__law_mixed cd__law_mixed ct__law_mixed), sl__law_mixed⟩)
    (k__law_mixed : PySem.W.codeIn K cd__law_mixed "_law_mixed" = true)
    (p__law_mixed : PySem.W.keepIn K (.ref f__law_mixed) = true)
    (g__law_spots : PySem.W.nsIn K mainGlobals "_law_spots" = some (some (.ref f__law_spots)))
    (l__law_spots : K.lookup f__law_spots = some ⟨oc__law_spots, od__law_spots, .func (PySem.W.fnOf "_law_spots" "_law_spots" (defArgs s__law_spots) (defBody s__law_spots) (defScope s__law_spots) .none kV__law_spots dc__law_spots pm__law_spots an__law_spots cd__law_spots ct__law_spots), sl__law_spots⟩)
    (k__law_spots : PySem.W.codeIn K cd__law_spots "_law_spots" = true)
    (p__law_spots : PySem.W.keepIn K (.ref f__law_spots) = true)
    (g__law_worths : PySem.W.nsIn K mainGlobals "_law_worths" = some (some (.ref f__law_worths)))
    (l__law_worths : K.lookup f__law_worths = some ⟨oc__law_worths, od__law_worths, .func (PySem.W.fnOf "_law_worths" "_law_worths" (defArgs s__law_worths) (defBody s__law_worths) (defScope s__law_worths) .none kV__law_worths dc__law_worths pm__law_worths an__law_worths cd__law_worths ct__law_worths), sl__law_worths⟩)
    (k__law_worths : PySem.W.codeIn K cd__law_worths "_law_worths" = true)
    (p__law_worths : PySem.W.keepIn K (.ref f__law_worths) = true)
    (g__law_compared : PySem.W.nsIn K mainGlobals "_law_compared" = some (some (.ref f__law_compared)))
    (l__law_compared : K.lookup f__law_compared = some ⟨oc__law_compared, od__law_compared, .func (PySem.W.fnOf "_law_compared" "_law_compared" (defArgs s__law_compared) (defBody s__law_compared) (defScope s__law_compared) .none kV__law_compared dc__law_compared pm__law_compared an__law_compared cd__law_compared ct__law_compared), sl__law_compared⟩)
    (k__law_compared : PySem.W.codeIn K cd__law_compared "_law_compared" = true)
    (p__law_compared : PySem.W.keepIn K (.ref f__law_compared) = true)
    (g__law_bent : PySem.W.nsIn K mainGlobals "_law_bent" = some (some (.ref f__law_bent)))
    (l__law_bent : K.lookup f__law_bent = some ⟨oc__law_bent, od__law_bent, .func (PySem.W.fnOf "_law_bent" "_law_bent" (defArgs s__law_bent) (defBody s__law_bent) (defScope s__law_bent) .none kV__law_bent dc__law_bent pm__law_bent an__law_bent cd__law_bent ct__law_bent), sl__law_bent⟩)
    (k__law_bent : PySem.W.codeIn K cd__law_bent "_law_bent" = true)
    (p__law_bent : PySem.W.keepIn K (.ref f__law_bent) = true)
    (g__law_fault : PySem.W.nsIn K mainGlobals "_law_fault" = some (some (.ref f__law_fault)))
    (l__law_fault : K.lookup f__law_fault = some ⟨oc__law_fault, od__law_fault, .func (PySem.W.fnOf "_law_fault" "_law_fault" (defArgs s__law_fault) (defBody s__law_fault) (defScope s__law_fault) .none kV__law_fault dc__law_fault pm__law_fault an__law_fault cd__law_fault ct__law_fault), sl__law_fault⟩)
    (k__law_fault : PySem.W.codeIn K cd__law_fault "_law_fault" = true)
    (p__law_fault : PySem.W.keepIn K (.ref f__law_fault) = true)
    (g__law_read : PySem.W.nsIn K mainGlobals "_law_read" = some (some (.ref f__law_read)))
    (l__law_read : K.lookup f__law_read = some ⟨oc__law_read, od__law_read, .func (PySem.W.fnOf "_law_read" "_law_read" (defArgs s__law_read) (defBody s__law_read) (defScope s__law_read) .none kV__law_read dc__law_read pm__law_read an__law_read cd__law_read ct__law_read), sl__law_read⟩)
    (k__law_read : PySem.W.codeIn K cd__law_read "_law_read" = true)
    (p__law_read : PySem.W.keepIn K (.ref f__law_read) = true)
    (g_law : PySem.W.nsIn K mainGlobals "law" = some (some (.ref f_law)))
    (l_law : K.lookup f_law = some ⟨oc_law, od_law, .func (PySem.W.fnOf "law" "law" (defArgs s_law) (defBody s_law) (defScope s_law) .none kV_law dc_law pm_law an_law cd_law ct_law), sl_law⟩)
    (k_law : PySem.W.codeIn K cd_law "law" = true)
    (p_law : PySem.W.keepIn K (.ref f_law) = true)
    (mk_Order : PySem.W.makesIn K C_Order = true)
    (kp_Order : PySem.W.keepIn K (.ref C_Order) = true)
    (pg_Order : PySem.W.plainGet K C_Order Str.empty = true)
    (hd_Order : PySem.W.hasDictIn K C_Order = true)
    (po_Order : PySem.W.plainOver K C_Order = true)
    (sa_Order : PySem.W.findIn K (.ref C_Order) "__setattr__" = some (some (.builtin "object.__setattr__")))
    (ha_Order : PySem.W.findIn K (.ref C_Order) "__class__" = some (some (.builtin "object.__class__")))
    (hm_Order : PySem.W.mroIn K C_Order (.type "object") = some true)
    (n_Order_places : PySem.W.findIn K (.ref C_Order) "places" = some none)
    (n_Order_goes : PySem.W.findIn K (.ref C_Order) "goes" = some none)
    (xB_BadPlace : K.lookup C_BadPlace = some (excClassObj nm_BadPlace qn_BadPlace C_BadPlace Nn_BadPlace bs_BadPlace bm_BadPlace true sn_BadPlace sub_BadPlace ab_BadPlace col_BadPlace dd_BadPlace k0_BadPlace k1_BadPlace k2_BadPlace k3_BadPlace k5_BadPlace "ValueError.__new__"))
    (vB_BadPlace : PySem.HandSPX.refsVE bm_BadPlace = true)
    (saB_BadPlace : PySem.W.findIn K (.ref C_BadPlace) "__setattr__" = some (some (.builtin "object.__setattr__")))
    (gaB_BadPlace : PySem.W.findIn K (.ref C_BadPlace) "__getattribute__" = some (some (.builtin "BaseException.__getattribute__")))
    (ggB_BadPlace : PySem.W.findIn K (.ref C_BadPlace) "__getattr__" = some none)
    (exB_BadPlace : PySem.W.subIn K (.ref C_BadPlace) (.type "BaseException") = some true)
    (tyB_BadPlace : PySem.W.typeIn K (.ref C_BadPlace) = some (.type "type"))
    (kpB_BadPlace : PySem.W.keepIn K (.ref C_BadPlace) = true)
    (hdB_BadPlace : PySem.W.hasDictIn K C_BadPlace = true)
    (haB_BadPlace : PySem.W.findIn K (.ref C_BadPlace) "__class__" = some (some (.builtin "object.__class__")))
    (hmB_BadPlace : PySem.W.mroIn K C_BadPlace (.type "object") = some true)
    (npB_BadPlace_at : PySem.W.findIn K (.ref C_BadPlace) "at" = some none)
    (tiB_BadPlace : PySem.W.typeIn K (.ref f_BadPlace___init__) = some (.type "function"))
    (xB_BadText : K.lookup C_BadText = some (excClassObj nm_BadText qn_BadText C_BadText Nn_BadText bs_BadText bm_BadText true sn_BadText sub_BadText ab_BadText col_BadText dd_BadText k0_BadText k1_BadText k2_BadText k3_BadText k5_BadText "ValueError.__new__"))
    (vB_BadText : PySem.HandSPX.refsVE bm_BadText = true)
    (saB_BadText : PySem.W.findIn K (.ref C_BadText) "__setattr__" = some (some (.builtin "object.__setattr__")))
    (gaB_BadText : PySem.W.findIn K (.ref C_BadText) "__getattribute__" = some (some (.builtin "BaseException.__getattribute__")))
    (ggB_BadText : PySem.W.findIn K (.ref C_BadText) "__getattr__" = some none)
    (exB_BadText : PySem.W.subIn K (.ref C_BadText) (.type "BaseException") = some true)
    (tyB_BadText : PySem.W.typeIn K (.ref C_BadText) = some (.type "type"))
    (kpB_BadText : PySem.W.keepIn K (.ref C_BadText) = true)
    (hdB_BadText : PySem.W.hasDictIn K C_BadText = true)
    (haB_BadText : PySem.W.findIn K (.ref C_BadText) "__class__" = some (some (.builtin "object.__class__")))
    (hmB_BadText : PySem.W.mroIn K C_BadText (.type "object") = some true)
    (npB_BadText_line : PySem.W.findIn K (.ref C_BadText) "line" = some none)
    (npB_BadText_word : PySem.W.findIn K (.ref C_BadText) "word" = some none)
    (tiB_BadText : PySem.W.typeIn K (.ref f_BadText___init__) = some (.type "function"))
    (xqB_BadOrder : PySem.W.excIn K C_BadOrder bmVE "ValueError.__new__" = true)
    (gaB_BadOrder : PySem.W.findIn K (.ref C_BadOrder) "__getattribute__" = some (some (.builtin "BaseException.__getattribute__")))
    (ggB_BadOrder : PySem.W.findIn K (.ref C_BadOrder) "__getattr__" = some none)
    (exB_BadOrder : PySem.W.subIn K (.ref C_BadOrder) (.type "BaseException") = some true)
    (tyB_BadOrder : PySem.W.typeIn K (.ref C_BadOrder) = some (.type "type"))
    (kpB_BadOrder : PySem.W.keepIn K (.ref C_BadOrder) = true)
    (hdB_BadOrder : PySem.W.hasDictIn K C_BadOrder = true)
    (haB_BadOrder : PySem.W.findIn K (.ref C_BadOrder) "__class__" = some (some (.builtin "object.__class__")))
    (hmB_BadOrder : PySem.W.mroIn K C_BadOrder (.type "object") = some true)
    (clC_Order : PySem.W.isClsIn K C_Order = true)
    (tyC_Order : PySem.W.typeIn K (.ref C_Order) = some (.type "type"))
    (clC_BadText : PySem.W.isClsIn K C_BadText = true)
    (tyC_BadText : PySem.W.typeIn K (.ref C_BadText) = some (.type "type"))
    (exR : PySem.W.subIn K (.ref C_BadText) (.type "BaseException") = some true)
    (sb_BadText_BadText : PySem.W.subIn K (.ref C_BadText) (.ref C_BadText) = some true)
    (one_Order : PySem.W.findIn K (.ref C_Order) "__ne__" = some (some (.builtin "object.__ne__")))
    (obt_Order_NoneType : PySem.W.subIn K (.ref C_Order) (.type "NoneType") = some false)
    (obt_Order_bool : PySem.W.subIn K (.ref C_Order) (.type "bool") = some false)
    (obt_Order_int : PySem.W.subIn K (.ref C_Order) (.type "int") = some false)
    (obt_Order_str : PySem.W.subIn K (.ref C_Order) (.type "str") = some false)
    (obt_Order_list : PySem.W.subIn K (.ref C_Order) (.type "list") = some false)
    (obt_Order_tuple : PySem.W.subIn K (.ref C_Order) (.type "tuple") = some false)
    (obt_Order_dict : PySem.W.subIn K (.ref C_Order) (.type "dict") = some false)
    : LawG PySem.Challenge.rw_rowshapes_k33_orders_compared_and_read w K 9 63 "_law_script" mg fa h := by
  have e := hfa.symm.trans (PySem.W.mg_of X G g_law)
  rw [show fa = f_law from Value.ref.inj (Option.some.inj e)]
  obtain ⟨cl, rfl, rfl, rfl, rfl, rfl, rfl⟩ : ∃ cl : String → Addr, cl "RowError" = C_RowError ∧ cl "BadInput" = C_BadInput ∧ cl "BadOrder" = C_BadOrder ∧ cl "BadPlace" = C_BadPlace ∧ cl "BadText" = C_BadText ∧ cl "Order" = C_Order := ⟨fun s => if s = "RowError" then C_RowError else if s = "BadInput" then C_BadInput else if s = "BadOrder" then C_BadOrder else if s = "BadPlace" then C_BadPlace else if s = "BadText" then C_BadText else if s = "Order" then C_Order else 0, by simp, by simp, by simp, by simp, by simp, by simp⟩
  exact fin (a := { f_is_integer := f_is_integer, fd_is_integer := PySem.W.fnOf "is_integer" "is_integer" (defArgs s_is_integer) (defBody s_is_integer) (defScope s_is_integer) .none kV_is_integer dc_is_integer pm_is_integer an_is_integer cd_is_integer ct_is_integer, f_is_between := f_is_between, fd_is_between := PySem.W.fnOf "is_between" "is_between" (defArgs s_is_between) (defBody s_is_between) (defScope s_is_between) .none kV_is_between dc_is_between pm_is_between an_is_between cd_is_between ct_is_between, f_BadPlace___init__ := f_BadPlace___init__, fd_BadPlace___init__ := PySem.W.fnOf "__init__" "BadPlace.__init__" (defArgs s_BadPlace___init__) (defBody s_BadPlace___init__) (defScope s_BadPlace___init__) .none kV_BadPlace___init__ dc_BadPlace___init__ pm_BadPlace___init__ an_BadPlace___init__ cd_BadPlace___init__ ct_BadPlace___init__, f_BadText___init__ := f_BadText___init__, fd_BadText___init__ := PySem.W.fnOf "__init__" "BadText.__init__" (defArgs s_BadText___init__) (defBody s_BadText___init__) (defScope s_BadText___init__) .none kV_BadText___init__ dc_BadText___init__ pm_BadText___init__ an_BadText___init__ cd_BadText___init__ ct_BadText___init__, f_is_order := f_is_order, fd_is_order := PySem.W.fnOf "is_order" "is_order" (defArgs s_is_order) (defBody s_is_order) (defScope s_is_order) .none kV_is_order dc_is_order pm_is_order an_is_order cd_is_order ct_is_order, f_inverse := f_inverse, fd_inverse := PySem.W.fnOf "inverse" "inverse" (defArgs s_inverse) (defBody s_inverse) (defScope s_inverse) .none kV_inverse dc_inverse pm_inverse an_inverse cd_inverse ct_inverse, f_is_number_below := f_is_number_below, fd_is_number_below := PySem.W.fnOf "is_number_below" "is_number_below" (defArgs s_is_number_below) (defBody s_is_number_below) (defScope s_is_number_below) .none kV_is_number_below dc_is_number_below pm_is_number_below an_is_number_below cd_is_number_below ct_is_number_below, f_Order___init__ := f_Order___init__, fd_Order___init__ := PySem.W.fnOf "__init__" "Order.__init__" (defArgs s_Order___init__) (defBody s_Order___init__) (defScope s_Order___init__) .none kV_Order___init__ dc_Order___init__ pm_Order___init__ an_Order___init__ cd_Order___init__ ct_Order___init__, r_Order_read := r_Order_read, f_Order_read := f_Order_read, fd_Order_read := PySem.W.fnOf "read" "Order.read" (defArgs s_Order_read) (defBody s_Order_read) (defScope s_Order_read) .none kV_Order_read dc_Order_read pm_Order_read an_Order_read cd_Order_read ct_Order_read, mc_Order := .type "type", f_Order_need_place := f_Order_need_place, fd_Order_need_place := PySem.W.fnOf "need_place" "Order.need_place" (defArgs s_Order_need_place) (defBody s_Order_need_place) (defScope s_Order_need_place) .none kV_Order_need_place dc_Order_need_place pm_Order_need_place an_Order_need_place cd_Order_need_place ct_Order_need_place, f_Order___len__ := f_Order___len__, fd_Order___len__ := PySem.W.fnOf "__len__" "Order.__len__" (defArgs s_Order___len__) (defBody s_Order___len__) (defScope s_Order___len__) .none kV_Order___len__ dc_Order___len__ pm_Order___len__ an_Order___len__ cd_Order___len__ ct_Order___len__, f_Order___getitem__ := f_Order___getitem__, fd_Order___getitem__ := PySem.W.fnOf "__getitem__" "Order.__getitem__" (defArgs s_Order___getitem__) (defBody s_Order___getitem__) (defScope s_Order___getitem__) .none kV_Order___getitem__ dc_Order___getitem__ pm_Order___getitem__ an_Order___getitem__ cd_Order___getitem__ ct_Order___getitem__, f_Order___eq__ := f_Order___eq__, fd_Order___eq__ := PySem.W.fnOf "__eq__" "Order.__eq__" (defArgs s_Order___eq__) (defBody s_Order___eq__) (defScope s_Order___eq__) .none kV_Order___eq__ dc_Order___eq__ pm_Order___eq__ an_Order___eq__ cd_Order___eq__ ct_Order___eq__, f_Order___lt__ := f_Order___lt__, fd_Order___lt__ := PySem.W.fnOf "__lt__" "Order.__lt__" (defArgs s_Order___lt__) (defBody s_Order___lt__) (defScope s_Order___lt__) .none kV_Order___lt__ dc_Order___lt__ pm_Order___lt__ an_Order___lt__ cd_Order___lt__ ct_Order___lt__, f_Order___le__ := f_Order___le__, fd_Order___le__ := PySem.W.fnOf "__le__" "Order.__le__" (defArgs s_Order___le__) (defBody s_Order___le__) (defScope s_Order___le__) .none kV_Order___le__ dc_Order___le__ pm_Order___le__ an_Order___le__ cd_Order___le__ ct_Order___le__, f_Order___gt__ := f_Order___gt__, fd_Order___gt__ := PySem.W.fnOf "__gt__" "Order.__gt__" (defArgs s_Order___gt__) (defBody s_Order___gt__) (defScope s_Order___gt__) .none kV_Order___gt__ dc_Order___gt__ pm_Order___gt__ an_Order___gt__ cd_Order___gt__ ct_Order___gt__, f_Order___ge__ := f_Order___ge__, fd_Order___ge__ := PySem.W.fnOf "__ge__" "Order.__ge__" (defArgs s_Order___ge__) (defBody s_Order___ge__) (defScope s_Order___ge__) .none kV_Order___ge__ dc_Order___ge__ pm_Order___ge__ an_Order___ge__ cd_Order___ge__ ct_Order___ge__, f_Order___str__ := f_Order___str__, fd_Order___str__ := PySem.W.fnOf "__str__" "Order.__str__" (defArgs s_Order___str__) (defBody s_Order___str__) (defScope s_Order___str__) .none kV_Order___str__ dc_Order___str__ pm_Order___str__ an_Order___str__ cd_Order___str__ ct_Order___str__, f__law_pen := f__law_pen, fd__law_pen := PySem.W.fnOf "_law_pen" "_law_pen" (defArgs s__law_pen) (defBody s__law_pen) (defScope s__law_pen) .none kV__law_pen dc__law_pen pm__law_pen an__law_pen cd__law_pen ct__law_pen, f__law_draw := f__law_draw, fd__law_draw := PySem.W.fnOf "_law_draw" "_law_draw" (defArgs s__law_draw) (defBody s__law_draw) (defScope s__law_draw) .none kV__law_draw dc__law_draw pm__law_draw an__law_draw cd__law_draw ct__law_draw, f__law_pick := f__law_pick, fd__law_pick := PySem.W.fnOf "_law_pick" "_law_pick" (defArgs s__law_pick) (defBody s__law_pick) (defScope s__law_pick) .none kV__law_pick dc__law_pick pm__law_pick an__law_pick cd__law_pick ct__law_pick, f__law_mixed := f__law_mixed, fd__law_mixed := PySem.W.fnOf "_law_mixed" "_law_mixed" (defArgs s__law_mixed) (defBody s__law_mixed) (defScope s__law_mixed) .none kV__law_mixed dc__law_mixed pm__law_mixed an__law_mixed cd__law_mixed ct__law_mixed, f__law_spots := f__law_spots, fd__law_spots := PySem.W.fnOf "_law_spots" "_law_spots" (defArgs s__law_spots) (defBody s__law_spots) (defScope s__law_spots) .none kV__law_spots dc__law_spots pm__law_spots an__law_spots cd__law_spots ct__law_spots, f__law_worths := f__law_worths, fd__law_worths := PySem.W.fnOf "_law_worths" "_law_worths" (defArgs s__law_worths) (defBody s__law_worths) (defScope s__law_worths) .none kV__law_worths dc__law_worths pm__law_worths an__law_worths cd__law_worths ct__law_worths, f__law_compared := f__law_compared, fd__law_compared := PySem.W.fnOf "_law_compared" "_law_compared" (defArgs s__law_compared) (defBody s__law_compared) (defScope s__law_compared) .none kV__law_compared dc__law_compared pm__law_compared an__law_compared cd__law_compared ct__law_compared, f__law_bent := f__law_bent, fd__law_bent := PySem.W.fnOf "_law_bent" "_law_bent" (defArgs s__law_bent) (defBody s__law_bent) (defScope s__law_bent) .none kV__law_bent dc__law_bent pm__law_bent an__law_bent cd__law_bent ct__law_bent, f__law_fault := f__law_fault, fd__law_fault := PySem.W.fnOf "_law_fault" "_law_fault" (defArgs s__law_fault) (defBody s__law_fault) (defScope s__law_fault) .none kV__law_fault dc__law_fault pm__law_fault an__law_fault cd__law_fault ct__law_fault, f__law_read := f__law_read, fd__law_read := PySem.W.fnOf "_law_read" "_law_read" (defArgs s__law_read) (defBody s__law_read) (defScope s__law_read) .none kV__law_read dc__law_read pm__law_read an__law_read cd__law_read ct__law_read, f_law := f_law, fd_law := PySem.W.fnOf "law" "law" (defArgs s_law) (defBody s_law) (defScope s_law) .none kV_law dc_law pm_law an_law cd_law ct_law }) (Γ := ⟨K, cl, [], fun _ => True, fun _ => True, fun _ => 0⟩) {
    z_ValueError := PySem.W.mg_none_of X G z_ValueError,
    z_abs := PySem.W.mg_none_of X G z_abs,
    z_all := PySem.W.mg_none_of X G z_all,
    z_bool := PySem.W.mg_none_of X G z_bool,
    z_enumerate := PySem.W.mg_none_of X G z_enumerate,
    z_int := PySem.W.mg_none_of X G z_int,
    z_isinstance := PySem.W.mg_none_of X G z_isinstance,
    z_len := PySem.W.mg_none_of X G z_len,
    z_list := PySem.W.mg_none_of X G z_list,
    z_range := PySem.W.mg_none_of X G z_range,
    z_set := PySem.W.mg_none_of X G z_set,
    z_str := PySem.W.mg_none_of X G z_str,
    z_tuple := PySem.W.mg_none_of X G z_tuple,
    c_FIGURES := ⟨_, PySem.W.mg_of X G c_FIGURES, r_FIGURES⟩,
    c_MOST_ROWS := ⟨_, PySem.W.mg_of X G c_MOST_ROWS, r_MOST_ROWS⟩,
    g_RowError := PySem.W.mg_of X G g_RowError,
    g_BadInput := PySem.W.mg_of X G g_BadInput,
    g_BadOrder := PySem.W.mg_of X G g_BadOrder,
    g_BadPlace := PySem.W.mg_of X G g_BadPlace,
    g_BadText := PySem.W.mg_of X G g_BadText,
    g_Order := PySem.W.mg_of X G g_Order,
    g_is_integer := PySem.W.mg_of X G g_is_integer,
    F_is_integer := fun_mk (st := s_is_integer) l_is_integer k_is_integer p_is_integer,
    b_is_integer := (fun_mk (st := s_is_integer) l_is_integer k_is_integer p_is_integer).binds (ps := P_is_integer) fun _ _ _ _ _ _ us hl => match us, hl with | [_], _ => rfl,
    g_is_between := PySem.W.mg_of X G g_is_between,
    F_is_between := fun_mk (st := s_is_between) l_is_between k_is_between p_is_between,
    b_is_between := (fun_mk (st := s_is_between) l_is_between k_is_between p_is_between).binds (ps := P_is_between) fun _ _ _ _ _ _ us hl => match us, hl with | [_, _, _], _ => rfl,
    F_BadPlace___init__ := fun_mk (st := s_BadPlace___init__) l_BadPlace___init__ k_BadPlace___init__ p_BadPlace___init__,
    b_BadPlace___init__ := (fun_mk (st := s_BadPlace___init__) l_BadPlace___init__ k_BadPlace___init__ p_BadPlace___init__).binds (ps := P_BadPlace___init__) fun _ _ _ _ _ _ us hl => match us, hl with | [_, _], _ => rfl,
    F_BadText___init__ := fun_mk (st := s_BadText___init__) l_BadText___init__ k_BadText___init__ p_BadText___init__,
    b_BadText___init__ := (fun_mk (st := s_BadText___init__) l_BadText___init__ k_BadText___init__ p_BadText___init__).binds (ps := P_BadText___init__) fun _ _ _ _ _ _ us hl => match us, hl with | [_, _, _], _ => rfl,
    g_is_order := PySem.W.mg_of X G g_is_order,
    F_is_order := fun_mk (st := s_is_order) l_is_order k_is_order p_is_order,
    b_is_order := (fun_mk (st := s_is_order) l_is_order k_is_order p_is_order).binds (ps := P_is_order) fun _ _ _ _ _ _ us hl => match us, hl with | [_], _ => rfl,
    g_inverse := PySem.W.mg_of X G g_inverse,
    F_inverse := fun_mk (st := s_inverse) l_inverse k_inverse p_inverse,
    b_inverse := (fun_mk (st := s_inverse) l_inverse k_inverse p_inverse).binds (ps := P_inverse) fun _ _ _ _ _ _ us hl => match us, hl with | [_], _ => rfl,
    g_is_number_below := PySem.W.mg_of X G g_is_number_below,
    F_is_number_below := fun_mk (st := s_is_number_below) l_is_number_below k_is_number_below p_is_number_below,
    b_is_number_below := (fun_mk (st := s_is_number_below) l_is_number_below k_is_number_below p_is_number_below).binds (ps := P_is_number_below) fun _ _ _ _ _ _ us hl => match us, hl with | [_, _], _ => rfl,
    F_Order___init__ := fun_mk (st := s_Order___init__) l_Order___init__ k_Order___init__ p_Order___init__,
    b_Order___init__ := (fun_mk (st := s_Order___init__) l_Order___init__ k_Order___init__ p_Order___init__).binds (ps := P_Order___init__) fun _ _ _ _ _ _ us hl => match us, hl with | [_, _], _ => rfl,
    F_Order_read := fun_mk (st := s_Order_read) l_Order_read k_Order_read p_Order_read,
    b_Order_read := (fun_mk (st := s_Order_read) l_Order_read k_Order_read p_Order_read).binds (ps := P_Order_read) fun _ _ _ _ _ _ us hl => match us, hl with | [_, _], _ => rfl,
    cr_Order := ⟨rd_Order, gm_Order⟩,
    cm_Order_read := ⟨a_Order_read, ⟨_, b_Order_read⟩, i_Order_read⟩,
    F_Order_need_place := fun_mk (st := s_Order_need_place) l_Order_need_place k_Order_need_place p_Order_need_place,
    b_Order_need_place := (fun_mk (st := s_Order_need_place) l_Order_need_place k_Order_need_place p_Order_need_place).binds (ps := P_Order_need_place) fun _ _ _ _ _ _ us hl => match us, hl with | [_, _], _ => rfl,
    m_Order_need_place := ⟨g_Order_need_place, i_Order_need_place, p_Order_need_place⟩,
    F_Order___len__ := fun_mk (st := s_Order___len__) l_Order___len__ k_Order___len__ p_Order___len__,
    b_Order___len__ := (fun_mk (st := s_Order___len__) l_Order___len__ k_Order___len__ p_Order___len__).binds (ps := P_Order___len__) fun _ _ _ _ _ _ us hl => match us, hl with | [_], _ => rfl,
    m_Order___len__ := ⟨g_Order___len__, i_Order___len__, p_Order___len__⟩,
    F_Order___getitem__ := fun_mk (st := s_Order___getitem__) l_Order___getitem__ k_Order___getitem__ p_Order___getitem__,
    b_Order___getitem__ := (fun_mk (st := s_Order___getitem__) l_Order___getitem__ k_Order___getitem__ p_Order___getitem__).binds (ps := P_Order___getitem__) fun _ _ _ _ _ _ us hl => match us, hl with | [_, _], _ => rfl,
    m_Order___getitem__ := ⟨g_Order___getitem__, i_Order___getitem__, p_Order___getitem__⟩,
    F_Order___eq__ := fun_mk (st := s_Order___eq__) l_Order___eq__ k_Order___eq__ p_Order___eq__,
    b_Order___eq__ := (fun_mk (st := s_Order___eq__) l_Order___eq__ k_Order___eq__ p_Order___eq__).binds (ps := P_Order___eq__) fun _ _ _ _ _ _ us hl => match us, hl with | [_, _], _ => rfl,
    m_Order___eq__ := ⟨g_Order___eq__, i_Order___eq__, p_Order___eq__⟩,
    F_Order___lt__ := fun_mk (st := s_Order___lt__) l_Order___lt__ k_Order___lt__ p_Order___lt__,
    b_Order___lt__ := (fun_mk (st := s_Order___lt__) l_Order___lt__ k_Order___lt__ p_Order___lt__).binds (ps := P_Order___lt__) fun _ _ _ _ _ _ us hl => match us, hl with | [_, _], _ => rfl,
    m_Order___lt__ := ⟨g_Order___lt__, i_Order___lt__, p_Order___lt__⟩,
    F_Order___le__ := fun_mk (st := s_Order___le__) l_Order___le__ k_Order___le__ p_Order___le__,
    b_Order___le__ := (fun_mk (st := s_Order___le__) l_Order___le__ k_Order___le__ p_Order___le__).binds (ps := P_Order___le__) fun _ _ _ _ _ _ us hl => match us, hl with | [_, _], _ => rfl,
    m_Order___le__ := ⟨g_Order___le__, i_Order___le__, p_Order___le__⟩,
    F_Order___gt__ := fun_mk (st := s_Order___gt__) l_Order___gt__ k_Order___gt__ p_Order___gt__,
    b_Order___gt__ := (fun_mk (st := s_Order___gt__) l_Order___gt__ k_Order___gt__ p_Order___gt__).binds (ps := P_Order___gt__) fun _ _ _ _ _ _ us hl => match us, hl with | [_, _], _ => rfl,
    m_Order___gt__ := ⟨g_Order___gt__, i_Order___gt__, p_Order___gt__⟩,
    F_Order___ge__ := fun_mk (st := s_Order___ge__) l_Order___ge__ k_Order___ge__ p_Order___ge__,
    b_Order___ge__ := (fun_mk (st := s_Order___ge__) l_Order___ge__ k_Order___ge__ p_Order___ge__).binds (ps := P_Order___ge__) fun _ _ _ _ _ _ us hl => match us, hl with | [_, _], _ => rfl,
    m_Order___ge__ := ⟨g_Order___ge__, i_Order___ge__, p_Order___ge__⟩,
    F_Order___str__ := fun_mk (st := s_Order___str__) l_Order___str__ k_Order___str__ p_Order___str__,
    b_Order___str__ := (fun_mk (st := s_Order___str__) l_Order___str__ k_Order___str__ p_Order___str__).binds (ps := P_Order___str__) fun _ _ _ _ _ _ us hl => match us, hl with | [_], _ => rfl,
    m_Order___str__ := ⟨g_Order___str__, i_Order___str__, p_Order___str__⟩,
    g__law_pen := PySem.W.mg_of X G g__law_pen,
    F__law_pen := fun_mk (st := s__law_pen) l__law_pen k__law_pen p__law_pen,
    b__law_pen := (fun_mk (st := s__law_pen) l__law_pen k__law_pen p__law_pen).binds (ps := P__law_pen) fun _ _ _ _ _ _ us hl => match us, hl with | [_], _ => rfl,
    g__law_draw := PySem.W.mg_of X G g__law_draw,
    F__law_draw := fun_mk (st := s__law_draw) l__law_draw k__law_draw p__law_draw,
    b__law_draw := (fun_mk (st := s__law_draw) l__law_draw k__law_draw p__law_draw).binds (ps := P__law_draw) fun _ _ _ _ _ _ us hl => match us, hl with | [_, _], _ => rfl,
    g__law_pick := PySem.W.mg_of X G g__law_pick,
    F__law_pick := fun_mk (st := s__law_pick) l__law_pick k__law_pick p__law_pick,
    b__law_pick := (fun_mk (st := s__law_pick) l__law_pick k__law_pick p__law_pick).binds (ps := P__law_pick) fun _ _ _ _ _ _ us hl => match us, hl with | [_, _], _ => rfl,
    g__law_mixed := PySem.W.mg_of X G g__law_mixed,
    F__law_mixed := fun_mk (st := s__law_mixed) l__law_mixed k__law_mixed p__law_mixed,
    b__law_mixed := (fun_mk (st := s__law_mixed) l__law_mixed k__law_mixed p__law_mixed).binds (ps := P__law_mixed) fun _ _ _ _ _ _ us hl => match us, hl with | [_, _], _ => rfl,
    g__law_spots := PySem.W.mg_of X G g__law_spots,
    F__law_spots := fun_mk (st := s__law_spots) l__law_spots k__law_spots p__law_spots,
    b__law_spots := (fun_mk (st := s__law_spots) l__law_spots k__law_spots p__law_spots).binds (ps := P__law_spots) fun _ _ _ _ _ _ us hl => match us, hl with | [_, _], _ => rfl,
    g__law_worths := PySem.W.mg_of X G g__law_worths,
    F__law_worths := fun_mk (st := s__law_worths) l__law_worths k__law_worths p__law_worths,
    b__law_worths := (fun_mk (st := s__law_worths) l__law_worths k__law_worths p__law_worths).binds (ps := P__law_worths) fun _ _ _ _ _ _ us hl => match us, hl with | [_], _ => rfl,
    g__law_compared := PySem.W.mg_of X G g__law_compared,
    F__law_compared := fun_mk (st := s__law_compared) l__law_compared k__law_compared p__law_compared,
    b__law_compared := (fun_mk (st := s__law_compared) l__law_compared k__law_compared p__law_compared).binds (ps := P__law_compared) fun _ _ _ _ _ _ us hl => match us, hl with | [_, _], _ => rfl,
    g__law_bent := PySem.W.mg_of X G g__law_bent,
    F__law_bent := fun_mk (st := s__law_bent) l__law_bent k__law_bent p__law_bent,
    b__law_bent := (fun_mk (st := s__law_bent) l__law_bent k__law_bent p__law_bent).binds (ps := P__law_bent) fun _ _ _ _ _ _ us hl => match us, hl with | [_, _], _ => rfl,
    g__law_fault := PySem.W.mg_of X G g__law_fault,
    F__law_fault := fun_mk (st := s__law_fault) l__law_fault k__law_fault p__law_fault,
    b__law_fault := (fun_mk (st := s__law_fault) l__law_fault k__law_fault p__law_fault).binds (ps := P__law_fault) fun _ _ _ _ _ _ us hl => match us, hl with | [_], _ => rfl,
    g__law_read := PySem.W.mg_of X G g__law_read,
    F__law_read := fun_mk (st := s__law_read) l__law_read k__law_read p__law_read,
    b__law_read := (fun_mk (st := s__law_read) l__law_read k__law_read p__law_read).binds (ps := P__law_read) fun _ _ _ _ _ _ us hl => match us, hl with | [_], _ => rfl,
    g_law := PySem.W.mg_of X G g_law,
    F_law := fun_mk (st := s_law) l_law k_law p_law,
    b_law := (fun_mk (st := s_law) l_law k_law p_law).binds (ps := P_law) fun _ _ _ _ _ _ us hl => match us, hl with | [_], _ => rfl,
    mk_Order := ⟨mk_Order, g_Order___init__, i_Order___init__, kp_Order⟩,
    cl_Order := ⟨pg_Order, hd_Order, po_Order, sa_Order⟩,
    in_Order := ⟨⟨⟨pg_Order, hd_Order, po_Order, sa_Order⟩, ha_Order, hn_cls, ht_cls, hm_Order, kit_self _⟩⟩,
    n_Order_places := n_Order_places,
    n_Order_goes := n_Order_goes,
    n_BadPlace_at := npB_BadPlace_at,
    x_BadPlace := ⟨⟨⟨nm_BadPlace, qn_BadPlace, Nn_BadPlace, bs_BadPlace, bm_BadPlace, sn_BadPlace, sub_BadPlace, ab_BadPlace, col_BadPlace, dd_BadPlace, k0_BadPlace, k1_BadPlace, k2_BadPlace, k3_BadPlace, k5_BadPlace, xB_BadPlace, vB_BadPlace⟩, saB_BadPlace, exB_BadPlace, tyB_BadPlace, kpB_BadPlace⟩, g_BadPlace___init__, tiB_BadPlace, PySem.W.mg_of X G g_BadPlace⟩,
    e_BadPlace := ⟨gaB_BadPlace, ggB_BadPlace, exB_BadPlace, hdB_BadPlace, haB_BadPlace, hn_cls, ht_cls, hmB_BadPlace⟩,
    xf_BadPlace := ⟨gaB_BadPlace, ggB_BadPlace, exB_BadPlace, hdB_BadPlace⟩,
    n_BadText_line := npB_BadText_line,
    n_BadText_word := npB_BadText_word,
    x_BadText := ⟨⟨⟨nm_BadText, qn_BadText, Nn_BadText, bs_BadText, bm_BadText, sn_BadText, sub_BadText, ab_BadText, col_BadText, dd_BadText, k0_BadText, k1_BadText, k2_BadText, k3_BadText, k5_BadText, xB_BadText, vB_BadText⟩, saB_BadText, exB_BadText, tyB_BadText, kpB_BadText⟩, g_BadText___init__, tiB_BadText, PySem.W.mg_of X G g_BadText⟩,
    e_BadText := ⟨gaB_BadText, ggB_BadText, exB_BadText, hdB_BadText, haB_BadText, hn_cls, ht_cls, hmB_BadText⟩,
    xf_BadText := ⟨gaB_BadText, ggB_BadText, exB_BadText, hdB_BadText⟩,
    x_BadOrder := ⟨xqB_BadOrder, PySem.W.mg_of X G g_BadOrder, kpB_BadOrder, exB_BadOrder, tyB_BadOrder⟩,
    e_BadOrder := ⟨gaB_BadOrder, ggB_BadOrder, exB_BadOrder, hdB_BadOrder, haB_BadOrder, hn_cls, ht_cls, hmB_BadOrder⟩,
    k_Order_Order := kit_self _,
    tc_Order := kit_tyC clC_Order tyC_Order,
    ex_BadText := exm_sub exR clC_BadText tyC_BadText sb_BadText_BadText,
    ostr_Order := ⟨g_Order___str__, i_Order___str__⟩,
    one_Order := one_Order,
    obt_Order := bt_all obt_Order_NoneType obt_Order_bool obt_Order_int obt_Order_str obt_Order_list obt_Order_tuple obt_Order_dict,
    okA := fun _ => trivial,
    tgA := fun _ => trivial
    } rfl 
end R
end

section
open PySem PySem.W PyProof.Rows
theorem PySem.Challenge.cw_rowshapes_k33_orders_compared_and_read_holds : PySem.Challenge.rw_rowshapes_k33_orders_compared_and_read.Holds := by
  w_on; o_law; k_head; (case hw => w_witness2)
  k_fill
  refine Z.walk_G (l := PySem.Challenge.rw_rowshapes_k33_orders_compared_and_read) (n := 63) (k := 9) (x := "_law_script") rfl (by decide) rfl ⟨rfl, by decide, by decide⟩ (fun w h Y => PySem.W.kIn_of Y) ?F
  intro w mg fa h Y KX G hmg
  refine' R.mkLaw KX G hmg ?z_ValueError ?z_abs ?z_all ?z_bool ?z_enumerate ?z_int ?z_isinstance ?z_len ?z_list ?z_range ?z_set ?z_str ?z_tuple ?c_FIGURES ?r_FIGURES ?c_MOST_ROWS ?r_MOST_ROWS ?g_RowError ?g_BadInput ?g_BadOrder ?g_BadPlace ?g_BadText ?g_Order ?hn_cls ?ht_cls ?g_is_integer ?l_is_integer ?k_is_integer ?p_is_integer ?g_is_between ?l_is_between ?k_is_between ?p_is_between ?g_BadPlace___init__ ?l_BadPlace___init__ ?k_BadPlace___init__ ?p_BadPlace___init__ ?i_BadPlace___init__ ?g_BadText___init__ ?l_BadText___init__ ?k_BadText___init__ ?p_BadText___init__ ?i_BadText___init__ ?g_is_order ?l_is_order ?k_is_order ?p_is_order ?g_inverse ?l_inverse ?k_inverse ?p_inverse ?g_is_number_below ?l_is_number_below ?k_is_number_below ?p_is_number_below ?g_Order___init__ ?l_Order___init__ ?k_Order___init__ ?p_Order___init__ ?i_Order___init__ ?a_Order_read ?b_Order_read ?l_Order_read ?k_Order_read ?p_Order_read ?rd_Order ?gm_Order ?i_Order_read ?g_Order_need_place ?l_Order_need_place ?k_Order_need_place ?p_Order_need_place ?i_Order_need_place ?g_Order___len__ ?l_Order___len__ ?k_Order___len__ ?p_Order___len__ ?i_Order___len__ ?g_Order___getitem__ ?l_Order___getitem__ ?k_Order___getitem__ ?p_Order___getitem__ ?i_Order___getitem__ ?g_Order___eq__ ?l_Order___eq__ ?k_Order___eq__ ?p_Order___eq__ ?i_Order___eq__ ?g_Order___lt__ ?l_Order___lt__ ?k_Order___lt__ ?p_Order___lt__ ?i_Order___lt__ ?g_Order___le__ ?l_Order___le__ ?k_Order___le__ ?p_Order___le__ ?i_Order___le__ ?g_Order___gt__ ?l_Order___gt__ ?k_Order___gt__ ?p_Order___gt__ ?i_Order___gt__ ?g_Order___ge__ ?l_Order___ge__ ?k_Order___ge__ ?p_Order___ge__ ?i_Order___ge__ ?g_Order___str__ ?l_Order___str__ ?k_Order___str__ ?p_Order___str__ ?i_Order___str__ ?g__law_pen ?l__law_pen ?k__law_pen ?p__law_pen ?g__law_draw ?l__law_draw ?k__law_draw ?p__law_draw ?g__law_pick ?l__law_pick ?k__law_pick ?p__law_pick ?g__law_mixed ?l__law_mixed ?k__law_mixed ?p__law_mixed ?g__law_spots ?l__law_spots ?k__law_spots ?p__law_spots ?g__law_worths ?l__law_worths ?k__law_worths ?p__law_worths ?g__law_compared ?l__law_compared ?k__law_compared ?p__law_compared ?g__law_bent ?l__law_bent ?k__law_bent ?p__law_bent ?g__law_fault ?l__law_fault ?k__law_fault ?p__law_fault ?g__law_read ?l__law_read ?k__law_read ?p__law_read ?g_law ?l_law ?k_law ?p_law ?mk_Order ?kp_Order ?pg_Order ?hd_Order ?po_Order ?sa_Order ?ha_Order ?hm_Order ?n_Order_places ?n_Order_goes ?xB_BadPlace ?vB_BadPlace ?saB_BadPlace ?gaB_BadPlace ?ggB_BadPlace ?exB_BadPlace ?tyB_BadPlace ?kpB_BadPlace ?hdB_BadPlace ?haB_BadPlace ?hmB_BadPlace ?npB_BadPlace_at ?tiB_BadPlace ?xB_BadText ?vB_BadText ?saB_BadText ?gaB_BadText ?ggB_BadText ?exB_BadText ?tyB_BadText ?kpB_BadText ?hdB_BadText ?haB_BadText ?hmB_BadText ?npB_BadText_line ?npB_BadText_word ?tiB_BadText ?xqB_BadOrder ?gaB_BadOrder ?ggB_BadOrder ?exB_BadOrder ?tyB_BadOrder ?kpB_BadOrder ?hdB_BadOrder ?haB_BadOrder ?hmB_BadOrder ?clC_Order ?tyC_Order ?clC_BadText ?tyC_BadText ?exR ?sb_BadText_BadText ?one_Order ?obt_Order_NoneType ?obt_Order_bool ?obt_Order_int ?obt_Order_str ?obt_Order_list ?obt_Order_tuple ?obt_Order_dict
  (case z_ValueError => k_is)
  (case z_abs => k_is)
  (case z_all => k_is)
  (case z_bool => k_is)
  (case z_enumerate => k_is)
  (case z_int => k_is)
  (case z_isinstance => k_is)
  (case z_len => k_is)
  (case z_list => k_is)
  (case z_range => k_is)
  (case z_set => k_is)
  (case z_str => k_is)
  (case z_tuple => k_is)
  (case c_FIGURES => k_is)
  (case r_FIGURES => exact ⟨_, rfl⟩)
  (case c_MOST_ROWS => k_is)
  (case r_MOST_ROWS => exact ⟨_, rfl⟩)
  (case g_RowError => k_is)
  (case g_BadInput => k_is)
  (case g_BadOrder => k_is)
  (case g_BadPlace => k_is)
  (case g_BadText => k_is)
  (case g_Order => k_is)
  (case hn_cls => k_is)
  (case ht_cls => k_is)
  (case g_is_integer => k_is)
  (case l_is_integer => k_is)
  (case k_is_integer => k_is)
  (case p_is_integer => k_is)
  (case g_is_between => k_is)
  (case l_is_between => k_is)
  (case k_is_between => k_is)
  (case p_is_between => k_is)
  (case g_BadPlace___init__ => k_is)
  (case l_BadPlace___init__ => k_is)
  (case k_BadPlace___init__ => k_is)
  (case p_BadPlace___init__ => k_is)
  (case i_BadPlace___init__ => k_is)
  (case g_BadText___init__ => k_is)
  (case l_BadText___init__ => k_is)
  (case k_BadText___init__ => k_is)
  (case p_BadText___init__ => k_is)
  (case i_BadText___init__ => k_is)
  (case g_is_order => k_is)
  (case l_is_order => k_is)
  (case k_is_order => k_is)
  (case p_is_order => k_is)
  (case g_inverse => k_is)
  (case l_inverse => k_is)
  (case k_inverse => k_is)
  (case p_inverse => k_is)
  (case g_is_number_below => k_is)
  (case l_is_number_below => k_is)
  (case k_is_number_below => k_is)
  (case p_is_number_below => k_is)
  (case g_Order___init__ => k_is)
  (case l_Order___init__ => k_is)
  (case k_Order___init__ => k_is)
  (case p_Order___init__ => k_is)
  (case i_Order___init__ => k_is)
  (case a_Order_read => k_is)
  (case b_Order_read => k_is)
  (case l_Order_read => k_is)
  (case k_Order_read => k_is)
  (case p_Order_read => k_is)
  (case rd_Order => k_is)
  (case gm_Order => k_is)
  (case i_Order_read => first | k_is | kernel_rfl | rfl)
  (case g_Order_need_place => k_is)
  (case l_Order_need_place => k_is)
  (case k_Order_need_place => k_is)
  (case p_Order_need_place => k_is)
  (case i_Order_need_place => k_is)
  (case g_Order___len__ => k_is)
  (case l_Order___len__ => k_is)
  (case k_Order___len__ => k_is)
  (case p_Order___len__ => k_is)
  (case i_Order___len__ => k_is)
  (case g_Order___getitem__ => k_is)
  (case l_Order___getitem__ => k_is)
  (case k_Order___getitem__ => k_is)
  (case p_Order___getitem__ => k_is)
  (case i_Order___getitem__ => k_is)
  (case g_Order___eq__ => k_is)
  (case l_Order___eq__ => k_is)
  (case k_Order___eq__ => k_is)
  (case p_Order___eq__ => k_is)
  (case i_Order___eq__ => k_is)
  (case g_Order___lt__ => k_is)
  (case l_Order___lt__ => k_is)
  (case k_Order___lt__ => k_is)
  (case p_Order___lt__ => k_is)
  (case i_Order___lt__ => k_is)
  (case g_Order___le__ => k_is)
  (case l_Order___le__ => k_is)
  (case k_Order___le__ => k_is)
  (case p_Order___le__ => k_is)
  (case i_Order___le__ => k_is)
  (case g_Order___gt__ => k_is)
  (case l_Order___gt__ => k_is)
  (case k_Order___gt__ => k_is)
  (case p_Order___gt__ => k_is)
  (case i_Order___gt__ => k_is)
  (case g_Order___ge__ => k_is)
  (case l_Order___ge__ => k_is)
  (case k_Order___ge__ => k_is)
  (case p_Order___ge__ => k_is)
  (case i_Order___ge__ => k_is)
  (case g_Order___str__ => k_is)
  (case l_Order___str__ => k_is)
  (case k_Order___str__ => k_is)
  (case p_Order___str__ => k_is)
  (case i_Order___str__ => k_is)
  (case g__law_pen => k_is)
  (case l__law_pen => k_is)
  (case k__law_pen => k_is)
  (case p__law_pen => k_is)
  (case g__law_draw => k_is)
  (case l__law_draw => k_is)
  (case k__law_draw => k_is)
  (case p__law_draw => k_is)
  (case g__law_pick => k_is)
  (case l__law_pick => k_is)
  (case k__law_pick => k_is)
  (case p__law_pick => k_is)
  (case g__law_mixed => k_is)
  (case l__law_mixed => k_is)
  (case k__law_mixed => k_is)
  (case p__law_mixed => k_is)
  (case g__law_spots => k_is)
  (case l__law_spots => k_is)
  (case k__law_spots => k_is)
  (case p__law_spots => k_is)
  (case g__law_worths => k_is)
  (case l__law_worths => k_is)
  (case k__law_worths => k_is)
  (case p__law_worths => k_is)
  (case g__law_compared => k_is)
  (case l__law_compared => k_is)
  (case k__law_compared => k_is)
  (case p__law_compared => k_is)
  (case g__law_bent => k_is)
  (case l__law_bent => k_is)
  (case k__law_bent => k_is)
  (case p__law_bent => k_is)
  (case g__law_fault => k_is)
  (case l__law_fault => k_is)
  (case k__law_fault => k_is)
  (case p__law_fault => k_is)
  (case g__law_read => k_is)
  (case l__law_read => k_is)
  (case k__law_read => k_is)
  (case p__law_read => k_is)
  (case g_law => k_is)
  (case l_law => k_is)
  (case k_law => k_is)
  (case p_law => k_is)
  (case mk_Order => k_is)
  (case kp_Order => k_is)
  (case pg_Order => k_is)
  (case hd_Order => k_is)
  (case po_Order => k_is)
  (case sa_Order => k_is)
  (case ha_Order => k_is)
  (case hm_Order => k_is)
  (case n_Order_places => k_is)
  (case n_Order_goes => k_is)
  (case xB_BadPlace => k_is)
  (case vB_BadPlace => first | rfl | decide +kernel)
  (case saB_BadPlace => k_is)
  (case gaB_BadPlace => k_is)
  (case ggB_BadPlace => k_is)
  (case exB_BadPlace => k_is)
  (case tyB_BadPlace => k_is)
  (case kpB_BadPlace => k_is)
  (case hdB_BadPlace => k_is)
  (case haB_BadPlace => k_is)
  (case hmB_BadPlace => k_is)
  (case npB_BadPlace_at => k_is)
  (case tiB_BadPlace => k_is)
  (case xB_BadText => k_is)
  (case vB_BadText => first | rfl | decide +kernel)
  (case saB_BadText => k_is)
  (case gaB_BadText => k_is)
  (case ggB_BadText => k_is)
  (case exB_BadText => k_is)
  (case tyB_BadText => k_is)
  (case kpB_BadText => k_is)
  (case hdB_BadText => k_is)
  (case haB_BadText => k_is)
  (case hmB_BadText => k_is)
  (case npB_BadText_line => k_is)
  (case npB_BadText_word => k_is)
  (case tiB_BadText => k_is)
  (case xqB_BadOrder => first | k_is | kernel_rfl | rfl)
  (case gaB_BadOrder => k_is)
  (case ggB_BadOrder => k_is)
  (case exB_BadOrder => k_is)
  (case tyB_BadOrder => k_is)
  (case kpB_BadOrder => k_is)
  (case hdB_BadOrder => k_is)
  (case haB_BadOrder => k_is)
  (case hmB_BadOrder => k_is)
  (case clC_Order => k_is)
  (case tyC_Order => k_is)
  (case clC_BadText => k_is)
  (case tyC_BadText => k_is)
  (case exR => k_is)
  (case sb_BadText_BadText => k_is)
  (case one_Order => k_is)
  (case obt_Order_NoneType => k_is)
  (case obt_Order_bool => k_is)
  (case obt_Order_int => k_is)
  (case obt_Order_str => k_is)
  (case obt_Order_list => k_is)
  (case obt_Order_tuple => k_is)
  (case obt_Order_dict => k_is)
end
