import PyProof.Rows.All
import Wide.All
import OpenK.AllK
import Wide.FinOn
import HandS.ForMost
import HandS.ForExc
import HandS.IsInst
import HandS.ExcInit
import HandS.ExcIs
import HandS.ExcField
import HandS.Lambda
import HandS.EndTab
import HandS.OwnEq
import HandS.TupAny
import HandS.Style
import HandS.Codes
import HandS.MakeKw
import HandS.Property
import HandS.ClsMeth
import HandS.Flow
import HandS.Strs
import KE.KExcIs
import PyProof.ReprRoads
import HandS.Walk
import PySem.Challenge.RW_rowshapes_k02_references_stepped
import KE.KNestM
set_option Elab.async false
set_option linter.all false
set_option maxRecDepth 100000
set_option maxHeartbeats 0
set_option synthInstance.maxSize 1000000
set_option synthInstance.maxHeartbeats 4000000
section
namespace Z
open PySem PySem.Spec PyProof.Rows L2
/-! ### heaps -/
def ExtP (p : Addr) (H H' : Hp) : Prop := ∀ a o, a ≠ p → H a = some o → H' a = some o
theorem ExtP.refl {p : Addr} (H : Hp) : ExtP p H H := fun _ _ _ h => h
theorem ExtP.trans {p : Addr} {H H1 H2 : Hp} (a : ExtP p H H1) (b : ExtP p H1 H2) : ExtP p H H2 := fun c o n h => b c o n (a c o n h)
theorem ExtP.of {p : Addr} {H H' : Hp} (e : Same H H') : ExtP p H H' := fun c o _ h => e c o h
theorem ExtP.upd {p : Addr} {H H' : Hp} {o : HO} (e : ExtP p H H') : ExtP p H (upd H' p o) := fun c u n h => by
  rw [upd_ne n]; exact e c u n h
theorem ExtP.new {p r : Addr} {H H' : Hp} {o : HO} (e : ExtP p H H') (hr : H' r = none) : ExtP p H (L2.upd H' r o) := fun c u n h => by
  have q := e c u n h
  rw [upd_ne (ne_of_none q hr)]; exact q
theorem Same.new {r : Addr} {H H' : Hp} {o : HO} (e : Same H H') (hr : H' r = none) : Same H (L2.upd H' r o) := fun c u h => by
  have q := e c u h
  rw [upd_ne (ne_of_none q hr)]; exact q
theorem h_old {H : Hp} {r p : Addr} {o o' : HO} (hr : H r = none) (h : H p = some o') : upd H r o p = some o' := by
  rw [upd_ne (ne_of_none h hr)]; exact h
theorem h_mut {H : Hp} {r p : Addr} {o o' : HO} (hn : p ≠ r) (h : H p = some o') : upd H r o p = some o' := by
  rw [upd_ne hn]; exact h
theorem h_same {H H' : Hp} {p : Addr} {o : HO} (e : Same H H') (h : H p = some o) : H' p = some o := e _ _ h
theorem h_extP {H H' : Hp} {p q : Addr} {o : HO} (e : ExtP q H H') (hn : p ≠ q) (h : H p = some o) : H' p = some o := e _ _ hn h

/-! ### what a reading's head asks -/
section
variable {K : PySem.W.Frag} {σ : L2.St} {H : Hp} {Q : VK} {D : Ends} {ta tb te : TE} {t u : TT} {x y v : V} {r : R2} {s1 s2 : TS} {A B : Prop}
theorem i_var {i : Nat} (h : σ[i]? = some (some v)) (q : Q v H) : tVar i σ H Q := ⟨v, h, q⟩
theorem i_c (q : Q v H) : tC v σ H Q := q
theorem i_op (h : ta σ H fun x H1 => tb σ H1 fun y H2 => r x y H2 Q) : tOp r ta tb σ H Q := h
theorem i_un {r : V → Hp → VK → Prop} (h : ta σ H fun x H1 => r x H1 Q) : tUn r ta σ H Q := h
theorem i_cb {r : List V → Hp → VK → Prop} {t : TA} (h : t σ H fun vs H1 => r vs H1 Q) : tCB r t σ H Q := h
theorem i_nil {Q : List V → Hp → Prop} (q : Q [] H) : tNil σ H Q := q
theorem i_cons {Q : List V → Hp → Prop} {tr : TA} (h : ta σ H fun x H1 => tr σ H1 fun xs H2 => Q (x :: xs) H2) : tCons ta tr σ H Q := h
theorem i_test {Q : Bool → Hp → Prop} (h : te σ H fun x H' => ∃ k, x = .bl k ∧ Q k H') : tTest te σ H Q := h
theorem i_tB {Q : Bool → Hp → Prop} (h : te σ H fun x H' => ∃ k, x = .bl k ∧ Q k H') : tB te σ H Q := h
theorem i_bl {Q : Bool → Hp → Prop} {b : Bool} (q : Q b H) : ∃ k, V.bl b = .bl k ∧ Q k H := ⟨b, rfl, q⟩
theorem i_blv {Q : Bool → Prop} {b : Bool} (q : Q b) : ∃ k, V.bl b = .bl k ∧ Q k := ⟨b, rfl, q⟩
theorem i_and {Q : Bool → Hp → Prop} (h : t σ H fun c H1 => if c = true then u σ H1 Q else Q false H1) : tAnd t u σ H Q := h
theorem i_or {Q : Bool → Hp → Prop} (h : t σ H fun c H1 => if c = true then Q true H1 else u σ H1 Q) : tOr t u σ H Q := h
theorem i_not {Q : Bool → Hp → Prop} (h : t σ H fun c H1 => Q (!c) H1) : tNot t σ H Q := h
theorem i_andV (h : ta σ H fun x H1 => ∃ c, x = .bl c ∧ if c = true then tb σ H1 Q else Q (.bl false) H1) : tAndV ta tb σ H Q := h
theorem i_orV (h : ta σ H fun x H1 => ∃ c, x = .bl c ∧ if c = true then Q (.bl true) H1 else tb σ H1 Q) : tOrV ta tb σ H Q := h
theorem i_notV (h : ta σ H fun x H1 => ∃ c, x = .bl c ∧ Q (.bl (!c)) H1) : tNotV ta σ H Q := h
theorem i_ifx (h : t σ H fun c H1 => if c = true then ta σ H1 Q else tb σ H1 Q) : tIf t ta tb σ H Q := h
theorem i_chain {r r' : R2} {tc : TE} (h : ta σ H fun x H1 => tb σ H1 fun y H2 => r x y H2 fun z H3 => ∃ k, z = .bl k ∧ (if k = true then tc σ H3 fun w' H4 => r' y w' H4 Q else Q (.bl false) H3)) : tChain r r' ta tb tc σ H Q := h
theorem i_lst {t : TA} (h : t σ H fun xs H1 => xs.length ≤ sizeLine ∧ ∀ p, H1 p = none → Q (.ref p) (upd H1 p (.lst xs))) : tLst t σ H Q := h
theorem i_tup {t : TA} (h : t σ H fun xs H1 => xs.length ≤ sizeLine ∧ ∀ p, H1 p = none → Q (.ref p) (upd H1 p (.tup xs))) : tTup t σ H Q := h
/-! statements -/
theorem i_seq (h : s1 { D with nx := s2 D } σ H) : tSeq s1 s2 D σ H := h
theorem i_nx {nx : L2.St → Hp → Prop} {rt : VK} {bk ct : L2.St → Hp → Prop} (h : nx σ H) : (Ends.mk nx rt bk ct).nx σ H := h
theorem i_rt {nx : L2.St → Hp → Prop} {rt : VK} {bk ct : L2.St → Hp → Prop} (h : rt v H) : (Ends.mk nx rt bk ct).rt v H := h
theorem i_next (h : D.nx σ H) : tNext D σ H := h
theorem i_asg {g : TG} (h : te σ H fun x H1 => g x σ H1 D.nx) : tAsg te g D σ H := h
theorem i_gname {i : Nat} {Q : L2.St → Hp → Prop} (q : Q (σ.set i (some v)) H) : gName i v σ H Q := q
theorem i_gsub {to ti : TE} {ts : TSet} {Q : L2.St → Hp → Prop} (h : to σ H fun o H1 => ti σ H1 fun i H2 => ts o i v H2 fun H3 => Q σ H3) : gSub to ti ts v σ H Q := h
theorem i_ret (h : te σ H D.rt) : tRet te D σ H := h
theorem i_drop (h : te σ H fun _ H1 => D.nx σ H1) : tDrop te D σ H := h
theorem i_if {c : TT} (h : c σ H fun b H1 => if b = true then s1 D σ H1 else s2 D σ H1) : tIfS c s1 s2 D σ H := h
theorem i_itet (h : A) : if true = true then A else B := by rw [if_pos rfl]; exact h
theorem i_itef (h : B) : if false = true then A else B := by rw [if_neg Bool.false_ne_true]; exact h
theorem i_dec {c : Prop} [Decidable c] (h1 : c → A) (h2 : ¬ c → B) : if decide c = true then A else B := by
  by_cases h : c
  · rw [decide_eq_true h, if_pos rfl]; exact h1 h
  · rw [decide_eq_false h, if_neg Bool.false_ne_true]; exact h2 h
theorem i_ndec {c : Prop} [Decidable c] (h1 : c → B) (h2 : ¬ c → A) : if (!decide c) = true then A else B := by
  by_cases h : c
  · rw [decide_eq_true h]; exact i_itef (h1 h)
  · rw [decide_eq_false h]; exact i_itet (h2 h)
theorem i_bool {b : Bool} (h1 : b = true → A) (h2 : b = false → B) : if b = true then A else B := by
  cases b
  · exact i_itef (h2 rfl)
  · exact i_itet (h1 rfl)
/-! values -/
theorem i_setL {p : Addr} {xs : List V} {i : Int} {j : Nat} {Q : Hp → Prop} (h : H p = some (.lst xs)) (hj : ixN xs.length i = some j) (q : Q (upd H p (.lst (xs.set j v)))) : rSetL (.ref p) (.int i) v H Q := ⟨p, xs, i, j, rfl, rfl, h, hj, q⟩
theorem c_mulL {i j : Int} (h1 : -(2 ^ 64) < i) (h2 : i < 2 ^ 64) : CMul i j := .inl ⟨h1, h2⟩
theorem c_mulR {i j : Int} (h1 : -(2 ^ 64) < j) (h2 : j < 2 ^ 64) : CMul i j := .inr ⟨h1, h2⟩
theorem c_pow {i j : Int} (h1 : 0 ≤ j) (h2 : j ≤ 1000000) (h3 : -(2 ^ 64) < i) (h4 : i < 2 ^ 64) : CPow i j := ⟨h1, h2, by omega⟩
theorem c_divN {i j : Int} (h1 : 0 < j) (h2 : j < 1073741824) : CDivN i j := ⟨by omega, by omega⟩
/-! lists of ints as data -/
theorem dp_ints {p : Addr} {ns : List Int} (h : H p = some (.lst (ns.map V.int))) : Dp K H (.ref p) (.list (ns.map .int)) := by
  refine .lst (SqL.of h) ?_
  clear h
  induction ns with
  | nil => exact .nil
  | cons n ns ih => exact .cons (.int n) ih
end
/-! data -/
theorem canLayAll_ints : ∀ ns : List Int, PyData.canLayAll0 (ns.map .int) = true
  | [] => by simp [PyData.canLayAll0]
  | n :: ns => by simp [PyData.canLayAll0, PyData.canLay0]; exact canLayAll_ints ns
theorem depthAll_ints : ∀ ns : List Int, PyData.depthAll (ns.map .int) = 0
  | [] => by simp [PyData.depthAll]
  | n :: ns => by simp [PyData.depthAll, PyData.depth]; exact depthAll_ints ns
theorem shaped_ints (ns : List Int) : SeqAt.shaped (.list (ns.map .int)) = true := by
  unfold SeqAt.shaped
  rw [Bool.and_eq_true]
  refine ⟨?_, ?_⟩
  · show PyData.canLay0 (.list _) = true
    rw [PyData.canLay0]; exact canLayAll_ints ns
  · rw [PyData.depth, depthAll_ints]; rfl
theorem dp_nil {K : PySem.W.Frag} {H : Hp} {p : Addr} (h : H p = some (.lst [])) : Dp K H (.ref p) (.list []) := .lst (SqL.of h) .nil
section
variable {K : PySem.W.Frag} {H : Hp} {Q : VK} {x y : V} {d e : PyData} {b : Bool} {R : Addr → Prop} {xs : List V}
theorem i_neD (hd : Dp K H x d) (he : Dp K H y e) (sd : SeqAt.shaped d = true) (se : SeqAt.shaped e = true) (hb : (!PyData.eqv d e) = b) (q : Q (.bl b) H) : rNeD K x y H Q := ⟨d, e, hd, he, sd, se, by rw [hb]; exact q⟩
theorem i_eqD (hd : Dp K H x d) (he : Dp K H y e) (sd : SeqAt.shaped d = true) (se : SeqAt.shaped e = true) (hb : PyData.eqv d e = b) (q : Q (.bl b) H) : rEqD K x y H Q := ⟨d, e, hd, he, sd, se, by rw [hb]; exact q⟩
theorem i_new (hl : xs.length ≤ sizeLine) (h : ∀ p, H p = none → R p) : xs.length ≤ sizeLine ∧ ∀ p, H p = none → R p := ⟨hl, h⟩
end
theorem atI_of {α : Type} {xs : List α} {i : Int} (h0 : 0 ≤ i) (h1 : i < xs.length) : atI xs i = some (xs[i.toNat]'(by omega)) := by
  unfold atI ixN
  rw [if_pos h0, if_pos h1]
  simp only [Option.bind_some]
  exact List.getElem?_eq_getElem (by omega)

/-! ### rules by names, whatever the values are -/
section
variable {X : Cx}
theorem orO {f : Value → Value → Sem Value} {r r' : R2} (h : OpR X f r) (h' : OpR X f r') : OpR X f (fun x y H Q => r x y H Q ∨ r' x y H Q) := fun pins s σ H x y v u Q I rx ry q =>
  q.elim (fun q => h pins s σ H x y v u Q I rx ry q) fun q => h' pins s σ H x y v u Q I rx ry q
theorem orE {e : Expr} {t t' : TE} (h : PE X e t) (h' : PE X e t') : PE X e (fun σ H Q => t σ H Q ∨ t' σ H Q) := ⟨fun pins s σ H Q I q =>
  q.elim (fun q => h.run pins s σ H Q I q) fun q => h'.run pins s σ H Q I q⟩
def aAdd (K : PySem.W.Frag) : R2 := fun x y H Q => (rI0 (fun i j => .int (i + j)) x y H Q ∨ ∃ i j, x = .str i ∧ y = .str j ∧ i.length + j.length ≤ sizeLine ∧ Q (.str (i ++ j)) H) ∨ (rCat x y H Q ∨ rCatA K x y H Q)
theorem o_add : OpR X (binaryOp .Add) (aAdd X.K) := orO (orO op_add op_add_str) (orO op_cat op_catA)
def aSub : R2 := rI0 fun i j => .int (i - j)
theorem o_sub : OpR X (binaryOp .Sub) aSub := op_sub
def aMul : R2 := fun x y H Q => rI CMul (fun i j => .int (i * j)) x y H Q ∨ rRep x y H Q
theorem o_mul : OpR X (binaryOp .Mult) aMul := orO op_mul op_rep
def aMod : R2 := rI (fun _ j => 0 < j) fun i j => .int (i % j)
theorem o_mod : OpR X (binaryOp .Mod) aMod := op_mod
def aDiv : R2 := rI CDivN fun i j => .int (i.fdiv j)
theorem o_div : OpR X (binaryOp .FloorDiv) aDiv := op_fdivN
def aPow : R2 := rI CPow fun i j => .int (i ^ j.toNat)
theorem o_pow : OpR X (binaryOp .Pow) aPow := op_pow
def aEq (K : PySem.W.Frag) : R2 := fun x y H Q => rEq x y H Q ∨ rEqD K x y H Q
theorem o_eq (hu : X.A.units + 64 < cLine) : OpR X (compareOp .Eq) (aEq X.K) := orO op_eq (op_eqD hu)
def aNe (K : PySem.W.Frag) : R2 := fun x y H Q => rNe x y H Q ∨ rNeD K x y H Q
theorem o_ne (hu : X.A.units + 64 < cLine) : OpR X (compareOp .NotEq) (aNe X.K) := orO op_ne (op_neD hu)
def aLt : R2 := fun x y H Q => rI0 (fun i j => .bl (decide (i < j))) x y H Q ∨ ∃ i j, x = .str i ∧ y = .str j ∧ Q (.bl (decide (i.cps.toList < j.cps.toList))) H
theorem o_lt : OpR X (compareOp .Lt) aLt := orO op_lt op_lt_str
def aLe : R2 := rI0 fun i j => .bl (decide (i ≤ j))
theorem o_le : OpR X (compareOp .LtE) aLe := op_le
def aGt : R2 := rI0 fun i j => .bl (decide (j < i))
theorem o_gt : OpR X (compareOp .Gt) aGt := op_gt
def aGe : R2 := rI0 fun i j => .bl (decide (j ≤ i))
theorem o_ge : OpR X (compareOp .GtE) aGe := op_ge
def aIn (K : PySem.W.Frag) : R2 := fun x y H Q => (∃ (c : Nat) (z : Str), x = .str ⟨#[c]⟩ ∧ y = .str z ∧ Q (.bl (decide (c ∈ z.cps.toList))) H) ∨ rIn K false x y H Q
theorem o_in : OpR X (compareOp .In) (aIn X.K) := orO op_in_sign op_in_seq
def aNin (K : PySem.W.Frag) : R2 := fun x y H Q => (∃ (c : Nat) (z : Str), x = .str ⟨#[c]⟩ ∧ y = .str z ∧ Q (.bl (!decide (c ∈ z.cps.toList))) H) ∨ rIn K true x y H Q
theorem o_nin : OpR X (compareOp .NotIn) (aNin X.K) := orO op_notIn_sign op_notIn_seq
def aIs : R2 := fun x y H Q => y = .non ∧ Q (.bl (decide (x = .non))) H
theorem o_is : OpR X (compareOp .Is) aIs := op_isN
def aIsnt : R2 := fun x y H Q => y = .non ∧ Q (.bl (!decide (x = .non))) H
theorem o_isnt : OpR X (compareOp .IsNot) aIsnt := op_notN
def aNeg : V → Hp → VK → Prop := fun x H Q => ∃ i, x = .int i ∧ Q (.int (-i)) H
theorem u_neg : UnR X (unaryOp .USub) aNeg := un_neg
def aIx (K : PySem.W.Frag) : R2 := rIx K
theorem x_ix : IxR X (aIx X.K) := ix_seq
def aSl (K : PySem.W.Frag) : V → Option Int → Option Int → Hp → VK → Prop := fun x lo hi H Q => rSlL K x lo hi H Q ∨ (rSlS x lo hi H Q ∨ rSlA K x lo hi H Q)
theorem x_sl : SlR X (aSl X.K) := SlR.or sl_list (SlR.or sl_str sl_tupA)
abbrev RC := List V → Hp → VK → Prop
def aInt : RC := fun xs H Q => ((∃ i, xs = [.int i] ∧ Q (.int i) H) ∨ ∃ k, xs = [.bl k] ∧ Q (.int (if k then 1 else 0)) H) ∨ ∃ a n, xs = [.str a] ∧ PySem.intText? a = some n ∧ a.length ≤ 640 ∧ Q (.int n) H
theorem c_int : CallR X (.type "int") aInt := CallR.or call_int1 call_int_str
def aAbs : RC := fun xs H Q => ∃ i, xs = [.int i] ∧ Q (.int (if i < 0 then -i else i)) H
theorem c_abs : CallR X (.builtin "abs") aAbs := call_abs
def aLen (K : PySem.W.Frag) : RC := fun xs H Q => (∃ x n, xs = [x] ∧ LenV K x H n ∧ Q (.int n) H) ∨ ∃ a kvs, xs = [V.ref a] ∧ H a = some (.dK kvs) ∧ Q (.int kvs.length) H
theorem c_len : CallR X (.builtin "len") (aLen X.K) := CallR.or call_len call_lenD
def aStr : RC := fun xs H Q => ∃ i, xs = [.int i] ∧ i.natAbs.log2 < 1920 ∧ Q (.str (toString i)) H
theorem c_str : CallR X (.type "str") aStr := call_str_int
def aList (K : PySem.W.Frag) : RC := fun xs H Q => ∃ p ys, xs = [.ref p] ∧ (SqL K H p ys ∨ SqT K H p ys) ∧ ∀ l, H l = none → Q (.ref l) (upd H l (.lst ys))
theorem c_list : CallR X (.type "list") (aList X.K) := call_list_of
def aTuple (K : PySem.W.Frag) : RC := fun xs H Q => ∃ p ys, xs = [.ref p] ∧ ((SqL K H p ys ∧ ∀ l, H l = none → Q (.ref l) (upd H l (.tup ys))) ∨ (SqT K H p ys ∧ Q (.ref p) H))
theorem c_tuple : CallR X (.type "tuple") (aTuple X.K) := call_tuple_of
def aIsi (K : PySem.W.Frag) : RC := fun xs H Q => rIsi K xs H Q ∨ rIsiT K xs H Q
theorem c_isinstance : CallR X (.builtin "isinstance") (aIsi X.K) := CallR.or call_isi call_isiT
def aAll (K : PySem.W.Frag) : RC := rAll K
theorem c_all (hc : X.calm = true) : CallR X (.builtin "all") (aAll X.K) := cr_all hc
def aAny (K : PySem.W.Frag) : RC := rAny K
theorem c_any (hc : X.calm = true) : CallR X (.builtin "any") (aAny X.K) := cr_any hc
/-- a test by truth -/
def tTr (K : PySem.W.Frag) (ta : TE) : TT := fun σ H Q => ta σ H fun x H' => ∃ k, TruV K x H' k ∧ Q k H'
theorem pt_tr {a : Expr} {ta : TE} (ha : PE X a ta) (he : ∀ whole, isTrue a X.env whole = (do let v ← whole; standAt a.pos; holding [v] (truthy v))) : PT X a (tTr X.K ta) := pt_truth ha he
/-- e.f: a field of an instance -/
def aFld (K : PySem.W.Frag) (f : Str) : V → Hp → VK → Prop := fun x H Q => ∃ a C dx fs v, x = .ref a ∧ H a = some (.ins C dx fs) ∧ Cls K C ∧ NoAttr K C f ∧ fs.lookup f = some v ∧ Q v H
def tAtt (r : V → Hp → VK → Prop) (ta : TE) : TE := fun σ H Q => ta σ H fun x H1 => r x H1 Q
theorem pe_att {e : Expr} {f : Str} {ta : TE} {pos : Pos} (he : PE X e ta) (hb : attributeBase e f X.env (eval e X.env) = eval e X.env := by rfl) : PE X (.Attribute e f pos) (tAtt (aFld X.K f) ta) := pe_fld he hb
end
section
variable {K : PySem.W.Frag} {σ : L2.St} {H : Hp} {Q : VK} {p l : Addr} {i j : Int} {a b : Str} {v x y : V} {xs ys : List V}
theorem i_add (q : Q (.int (i + j)) H) : aAdd K (.int i) (.int j) H Q := .inl (.inl ⟨i, j, rfl, rfl, q⟩)
theorem i_addS (h : a.length + b.length ≤ sizeLine) (q : Q (.str (a ++ b)) H) : aAdd K (.str a) (.str b) H Q := .inl (.inr ⟨a, b, rfl, rfl, h, q⟩)
theorem i_addL (h1 : H p = some (.lst xs)) (h2 : H l = some (.lst ys)) (h : xs.length + ys.length ≤ sizeLine) (q : ∀ r, H r = none → Q (.ref r) (upd H r (.lst (xs ++ ys)))) : aAdd K (.ref p) (.ref l) H Q := .inr (.inl ⟨p, l, xs, ys, rfl, rfl, h1, h2, h, q⟩)
theorem i_addT (h1 : H p = some (.tup xs)) (h2 : H l = some (.tup ys)) (hx : xs ≠ []) (hy : ys ≠ []) (h : xs.length + ys.length ≤ sizeLine) (q : ∀ r, H r = none → Q (.ref r) (upd H r (.tup (xs ++ ys)))) : aAdd K (.ref p) (.ref l) H Q :=
  .inr (.inr ⟨p, l, xs, ys, rfl, rfl, SqT.of h1, SqT.of h2, h, fun z => absurd z hx, fun _ z => absurd z hy, fun _ _ => q⟩)
theorem i_sub (q : Q (.int (i - j)) H) : aSub (.int i) (.int j) H Q := ⟨i, j, rfl, rfl, q⟩
theorem i_mul (hc : CMul i j) (q : Q (.int (i * j)) H) : aMul (.int i) (.int j) H Q := .inl ⟨i, j, rfl, rfl, hc, q⟩
theorem i_mulL (h1 : H p = some (.lst xs)) (hj : 0 ≤ j ∧ j < 1000000) (h : xs.length * j.toNat ≤ sizeLine) (q : ∀ r, H r = none → Q (.ref r) (upd H r (.lst (List.replicate j.toNat xs).flatten))) : aMul (.ref p) (.int j) H Q :=
  .inr ⟨p, j, xs, rfl, rfl, h1, by omega, by omega, h, q⟩
theorem i_mod (hc : 0 < j) (q : Q (.int (i % j)) H) : aMod (.int i) (.int j) H Q := ⟨i, j, rfl, rfl, hc, q⟩
theorem i_div (hc : CDivN i j) (q : Q (.int (i.fdiv j)) H) : aDiv (.int i) (.int j) H Q := ⟨i, j, rfl, rfl, hc, q⟩
theorem i_pow (hc : CPow i j) (q : Q (.int (i ^ j.toNat)) H) : aPow (.int i) (.int j) H Q := ⟨i, j, rfl, rfl, hc, q⟩
theorem i_lt (q : Q (.bl (decide (i < j))) H) : aLt (.int i) (.int j) H Q := .inl ⟨i, j, rfl, rfl, q⟩
theorem i_le (q : Q (.bl (decide (i ≤ j))) H) : aLe (.int i) (.int j) H Q := ⟨i, j, rfl, rfl, q⟩
theorem i_gt (q : Q (.bl (decide (j < i))) H) : aGt (.int i) (.int j) H Q := ⟨i, j, rfl, rfl, q⟩
theorem i_ge (q : Q (.bl (decide (j ≤ i))) H) : aGe (.int i) (.int j) H Q := ⟨i, j, rfl, rfl, q⟩
theorem i_eq (q : Q (.bl (decide (i = j))) H) : aEq K (.int i) (.int j) H Q := .inl ⟨rfl, by rw [show decide (V.int i = V.int j) = decide (i = j) from decide_eq_decide.mpr ⟨fun z => V.int.inj z, fun z => by rw [z]⟩]; exact q⟩
theorem i_eqS (q : Q (.bl (decide (a = b))) H) : aEq K (.str a) (.str b) H Q := .inl ⟨rfl, by rw [show decide (V.str a = V.str b) = decide (a = b) from decide_eq_decide.mpr ⟨fun z => V.str.inj z, fun z => by rw [z]⟩]; exact q⟩
theorem i_eqX {c : Bool} (hs : scal x y = true) (hc : decide (x = y) = c) (q : Q (.bl c) H) : aEq K x y H Q := .inl ⟨hs, by rw [hc]; exact q⟩
theorem i_eqDt {d e : PyData} {c : Bool} (hd : Dp K H x d) (he : Dp K H y e) (sd : SeqAt.shaped d = true) (se : SeqAt.shaped e = true) (hb : PyData.eqv d e = c) (q : Q (.bl c) H) : aEq K x y H Q := .inr (i_eqD hd he sd se hb q)
theorem i_ne (q : Q (.bl (!decide (i = j))) H) : aNe K (.int i) (.int j) H Q := .inl ⟨rfl, by rw [show decide (V.int i = V.int j) = decide (i = j) from decide_eq_decide.mpr ⟨fun z => V.int.inj z, fun z => by rw [z]⟩]; exact q⟩
theorem i_neS (q : Q (.bl (!decide (a = b))) H) : aNe K (.str a) (.str b) H Q := .inl ⟨rfl, by rw [show decide (V.str a = V.str b) = decide (a = b) from decide_eq_decide.mpr ⟨fun z => V.str.inj z, fun z => by rw [z]⟩]; exact q⟩
theorem i_neX {c : Bool} (hs : scal x y = true) (hc : (!decide (x = y)) = c) (q : Q (.bl c) H) : aNe K x y H Q := .inl ⟨hs, by rw [hc]; exact q⟩
theorem i_neDt {d e : PyData} {c : Bool} (hd : Dp K H x d) (he : Dp K H y e) (sd : SeqAt.shaped d = true) (se : SeqAt.shaped e = true) (hb : (!PyData.eqv d e) = c) (q : Q (.bl c) H) : aNe K x y H Q := .inr (i_neD hd he sd se hb q)
theorem i_inC {c : Nat} (q : Q (.bl (decide (c ∈ a.cps.toList))) H) : aIn K (.str ⟨#[c]⟩) (.str a) H Q := .inl ⟨c, a, rfl, rfl, q⟩
theorem i_ninC {c : Nat} (q : Q (.bl (!decide (c ∈ a.cps.toList))) H) : aNin K (.str ⟨#[c]⟩) (.str a) H Q := .inl ⟨c, a, rfl, rfl, q⟩
theorem i_inL (h : H p = some (.lst xs)) (hx : flatV x = true) (ha : xs.all flatV = true) (q : Q (.bl (inV x xs)) H) : aIn K x (.ref p) H Q := .inr ⟨p, xs, rfl, .inl (SqL.of h), hx, ha, by rw [if_neg Bool.false_ne_true]; exact q⟩
theorem i_inT (h : H p = some (.tup xs)) (hx : flatV x = true) (ha : xs.all flatV = true) (q : Q (.bl (inV x xs)) H) : aIn K x (.ref p) H Q := .inr ⟨p, xs, rfl, .inr (SqT.of h), hx, ha, by rw [if_neg Bool.false_ne_true]; exact q⟩
theorem i_inTK (h : SqT K H p xs) (hx : flatV x = true) (ha : xs.all flatV = true) (q : Q (.bl (inV x xs)) H) : aIn K x (.ref p) H Q := .inr ⟨p, xs, rfl, .inr h, hx, ha, by rw [if_neg Bool.false_ne_true]; exact q⟩
theorem i_ninL (h : H p = some (.lst xs)) (hx : flatV x = true) (ha : xs.all flatV = true) (q : Q (.bl (!inV x xs)) H) : aNin K x (.ref p) H Q := .inr ⟨p, xs, rfl, .inl (SqL.of h), hx, ha, by rw [if_pos rfl]; exact q⟩
theorem i_ninT (h : H p = some (.tup xs)) (hx : flatV x = true) (ha : xs.all flatV = true) (q : Q (.bl (!inV x xs)) H) : aNin K x (.ref p) H Q := .inr ⟨p, xs, rfl, .inr (SqT.of h), hx, ha, by rw [if_pos rfl]; exact q⟩
theorem i_ninTK (h : SqT K H p xs) (hx : flatV x = true) (ha : xs.all flatV = true) (q : Q (.bl (!inV x xs)) H) : aNin K x (.ref p) H Q := .inr ⟨p, xs, rfl, .inr h, hx, ha, by rw [if_pos rfl]; exact q⟩
theorem i_is (q : Q (.bl (decide (x = .non))) H) : aIs x .non H Q := ⟨rfl, q⟩
theorem i_isnt (q : Q (.bl (!decide (x = .non))) H) : aIsnt x .non H Q := ⟨rfl, q⟩
theorem i_neg (q : Q (.int (-i)) H) : aNeg (.int i) H Q := ⟨i, rfl, q⟩
theorem i_ixL (h : H p = some (.lst xs)) (ha : atI xs i = some v) (q : Q v H) : aIx K (.ref p) (.int i) H Q := .inl ⟨p, xs, i, v, rfl, rfl, SqL.of h, ha, q⟩
theorem i_ixT (h : H p = some (.tup xs)) (ha : atI xs i = some v) (q : Q v H) : aIx K (.ref p) (.int i) H Q := .inr (.inl ⟨p, xs, i, v, rfl, rfl, SqT.of h, ha, q⟩)
theorem i_ixS {c : Nat} (hz : a.length ≤ sizeLine) (ha : atI a.cps.toList i = some c) (q : Q (.str ⟨#[c]⟩) H) : aIx K (.str a) (.int i) H Q := .inr (.inr ⟨a, i, c, rfl, rfl, hz, ha, q⟩)
theorem i_slL {lo hi : Option Int} (h : SqL K H p xs) (q : ∀ r, H r = none → Q (.ref r) (upd H r (.lst (cutV xs lo hi)))) : aSl K (.ref p) lo hi H Q := .inl ⟨p, xs, rfl, h, q⟩
theorem i_int (q : Q (.int i) H) : aInt [.int i] H Q := .inl (.inl ⟨i, rfl, q⟩)
theorem i_intB {c : Bool} (q : Q (.int (if c then 1 else 0)) H) : aInt [.bl c] H Q := .inl (.inr ⟨c, rfl, q⟩)
theorem i_abs (q : Q (.int (if i < 0 then -i else i)) H) : aAbs [.int i] H Q := ⟨i, rfl, q⟩
theorem i_lenL (h : H p = some (.lst xs)) (q : Q (.int xs.length) H) : aLen K [.ref p] H Q := .inl ⟨.ref p, xs.length, rfl, .inl ⟨xs, SqL.of h, rfl⟩, q⟩
theorem i_lenT (h : H p = some (.tup xs)) (q : Q (.int xs.length) H) : aLen K [.ref p] H Q := .inl ⟨.ref p, xs.length, rfl, .inr ⟨xs, SqT.of h, rfl⟩, q⟩
theorem i_lenS (h : a.length ≤ sizeLine) (q : Q (.int a.length) H) : aLen K [.str a] H Q := .inl ⟨.str a, a.length, rfl, ⟨h, rfl⟩, q⟩
theorem i_listL (h : H p = some (.lst xs)) (q : ∀ r, H r = none → Q (.ref r) (upd H r (.lst xs))) : aList K [.ref p] H Q := ⟨p, xs, rfl, .inl (SqL.of h), q⟩
theorem i_listT (h : H p = some (.tup xs)) (q : ∀ r, H r = none → Q (.ref r) (upd H r (.lst xs))) : aList K [.ref p] H Q := ⟨p, xs, rfl, .inr (SqT.of h), q⟩
theorem i_isi {t u : Value} {c : Bool} (hc : ClsV y u) (ht : TyX K H x t) (hk : PySem.W.kitOne K t u = some c) (q : Q (.bl c) H) : aIsi K [x, y] H Q := .inl ⟨x, y, t, u, c, rfl, hc, ht, hk, q⟩
theorem i_allL {bs : List Bool} (h : H p = some (.lst (bs.map V.bl))) (q : Q (.bl (bs.all id)) H) : aAll K [.ref p] H Q := ⟨p, bs, rfl, SqL.of h, q⟩
theorem i_tr {Q : Bool → Hp → Prop} {ta : TE} (h : ta σ H fun x H' => ∃ k, TruV K x H' k ∧ Q k H') : tTr K ta σ H Q := h
theorem i_trB {Q : Bool → Prop} {c : Bool} (q : Q c) : ∃ k, TruV K (.bl c) H k ∧ Q k := ⟨c, rfl, q⟩
theorem i_att {r : V → Hp → VK → Prop} {ta : TE} (h : ta σ H fun x H1 => r x H1 Q) : tAtt r ta σ H Q := h
theorem i_fld {f : Str} {C dx : Addr} {fs : List (Str × V)} (h : H p = some (.ins C dx fs)) (hc : Cls K C) (hn : NoAttr K C f) (hl : fs.lookup f = some v) (q : Q v H) : aFld K f (.ref p) H Q := ⟨p, C, dx, fs, v, rfl, h, hc, hn, hl, q⟩
theorem i_sl {r : V → Option Int → Option Int → Hp → VK → Prop} {te : TE} {tl th : TO} (h : te σ H fun x H1 => tl σ H1 fun lo H2 => th σ H2 fun hi H3 => r x lo hi H3 Q) : tSl r te tl th σ H Q := h
theorem i_noPart {Q : Option Int → Hp → Prop} (q : Q none H) : tNoPart σ H Q := q
theorem i_part {Q : Option Int → Hp → Prop} {te : TE} (h : te σ H fun x H1 => ∃ i, x = .int i ∧ Q (some i) H1) : tPart te σ H Q := h
theorem i_intv {Q : Int → Prop} (q : Q i) : ∃ k, V.int i = .int k ∧ Q k := ⟨i, rfl, q⟩
theorem i_andT {ta tb : TE} (h : ta σ H fun x H1 => ∃ k, TruV K x H1 k ∧ if k = true then tb σ H1 Q else Q x H1) : tAndT K ta tb σ H Q := h
theorem i_orT {ta tb : TE} (h : ta σ H fun x H1 => ∃ k, TruV K x H1 k ∧ if k = true then Q x H1 else tb σ H1 Q) : tOrT K ta tb σ H Q := h
theorem i_notT {ta : TE} (h : ta σ H fun x H1 => ∃ k, TruV K x H1 k ∧ Q (.bl (!k)) H1) : tNotT K ta σ H Q := h
end

theorem c_powM {a t k c e j : Int} (ha : 0 ≤ a) (ha2 : a < 2147483648) (h0 : 0 ≤ t) (h1 : t ≤ 1000000) (hk : 0 ≤ k) (hk2 : k ≤ 1000000) (hc : 0 ≤ c) (hc2 : c ≤ 1000000) (he : 0 ≤ e) (he2 : e ≤ 1000000) (hj : 0 ≤ j) (hj2 : j ≤ 1000) : CPow (a * (2 * t + k) + c * t * t + e) j := by
  have b1 : 0 ≤ a * (2 * t + k) := Int.mul_nonneg ha (by omega)
  have b2 : a * (2 * t + k) ≤ 2147483648 * 3000000 := Int.mul_le_mul (by omega) (by omega) (by omega) (by omega)
  have b3 : 0 ≤ c * t := Int.mul_nonneg hc h0
  have b4 : c * t ≤ 1000000 * 1000000 := Int.mul_le_mul hc2 h1 h0 (by omega)
  have b5 : 0 ≤ c * t * t := Int.mul_nonneg b3 h0
  have b6 : c * t * t ≤ 1000000000000 * 1000000 := Int.mul_le_mul (by omega) h1 h0 (by omega)
  exact c_pow hj (by omega) (by omega) (by omega)
theorem atI_ints {ns : List Int} {i : Int} (h0 : 0 ≤ i) (h1 : i < ns.length) : ∃ c, atI (ns.map V.int) i = some (.int c) := by
  refine ⟨ns[i.toNat]'(by omega), ?_⟩
  rw [atI_of h0 (by rw [List.length_map]; exact h1), List.getElem_map]
end Z
end

section
namespace Z
open PySem PySem.Spec PyProof.Rows L2
/-! ### readings walked by instances: Stp g n: n is enough for g -/
class Stp (g : Prop) (n : outParam Prop) : Prop where imp : n → g
class Run (g : Prop) (n : outParam Prop) : Prop where imp : n → g
class Run1 (g : Prop) (n : outParam Prop) : Prop where imp : n → g
instance (priority := low) Run.here (g : Prop) : Run g g := ⟨id⟩
instance Run.next {g h n : Prop} [s : Stp g h] [r : Run h n] : Run g n := ⟨fun x => s.imp (r.imp x)⟩
instance Run1.next {g h n : Prop} [s : Stp g h] [r : Run h n] : Run1 g n := ⟨fun x => s.imp (r.imp x)⟩
/-- slots -/
class Lk (σ : L2.St) (i : Nat) (v : outParam V) : Prop where h : σ[i]? = some (some v)
instance {σ : L2.St} {v : V} : Lk (some v :: σ) 0 v := ⟨rfl⟩
instance {σ : L2.St} {x : Option V} {v : V} {n : Nat} [l : Lk σ n v] : Lk (x :: σ) (n + 1) v := ⟨by rw [List.getElem?_cons_succ]; exact l.h⟩
class SetAt (σ : L2.St) (i : Nat) (v : Option V) (σ' : outParam L2.St) : Prop where h : σ.set i v = σ'
instance {σ : L2.St} {x v : Option V} : SetAt (x :: σ) 0 v (v :: σ) := ⟨rfl⟩
instance {σ σ' : L2.St} {x v : Option V} {n : Nat} [l : SetAt σ n v σ'] : SetAt (x :: σ) (n + 1) v (x :: σ') := ⟨by rw [List.set_cons_succ, l.h]⟩
/-- heaps -/
class At (H : Hp) (p : Addr) (o : outParam HO) : Prop where h : H p = some o
class Nw (H : Hp) (p : Addr) : Prop where h : H p = none
class Dif (p q : Addr) : Prop where h : p ≠ q
class Sm (H : outParam Hp) (H' : Hp) : Prop where h : Same H H'
class Xp (p : outParam Addr) (H : outParam Hp) (H' : Hp) : Prop where h : ExtP p H H'
section
variable {H H' : Hp} {p q r : Addr} {o o' u : HO}
instance (priority := high) At.here : At (upd H p o) p o := ⟨upd_same⟩
instance At.old [n : Nw H r] [a : At H p o] : At (upd H r o') p o := ⟨h_old n.h a.h⟩
instance (priority := low) At.mut [n : Dif p r] [a : At H p o] : At (upd H r o') p o := ⟨h_mut n.h a.h⟩
instance (priority := low) At.sm [s : Sm H H'] [a : At H p o] : At H' p o := ⟨h_same s.h a.h⟩
instance (priority := low) At.xp [s : Xp q H H'] [n : Dif p q] [a : At H p o] : At H' p o := ⟨h_extP s.h n.h a.h⟩
theorem Dif.symm [d : Dif p q] : Dif q p := ⟨d.h.symm⟩
theorem difN [a : At H p o] [n : Nw H r] : Dif p r := ⟨ne_of_none a.h n.h⟩
end
section
variable {K : PySem.W.Frag} {σ σ' : L2.St} {H : Hp} {Q : VK} {D : Ends} {ta tb te tc : TE} {t u : TT} {x y v : V} {r r' : R2} {s1 s2 : TS} {A B : Prop} {p l : Addr} {i j : Int} {a b : Str} {xs ys : List V}
instance {n : Nat} [l : Lk σ n v] : Stp (tVar n σ H Q) (Q v H) := ⟨i_var l.h⟩
instance : Stp (tC v σ H Q) (Q v H) := ⟨i_c⟩
instance : Stp (tOp r ta tb σ H Q) (ta σ H fun x H1 => tb σ H1 fun y H2 => r x y H2 Q) := ⟨i_op⟩
instance {r : V → Hp → VK → Prop} : Stp (tUn r ta σ H Q) (ta σ H fun x H1 => r x H1 Q) := ⟨i_un⟩
instance {r : RC} {t : TA} : Stp (tCB r t σ H Q) (t σ H fun vs H1 => r vs H1 Q) := ⟨i_cb⟩
instance {Q : List V → Hp → Prop} : Stp (tNil σ H Q) (Q [] H) := ⟨i_nil⟩
instance {Q : List V → Hp → Prop} {tr : TA} : Stp (tCons ta tr σ H Q) (ta σ H fun x H1 => tr σ H1 fun xs H2 => Q (x :: xs) H2) := ⟨i_cons⟩
instance {Q : Bool → Hp → Prop} : Stp (tTest te σ H Q) (te σ H fun x H' => ∃ k, x = .bl k ∧ Q k H') := ⟨i_test⟩
instance {Q : Bool → Hp → Prop} : Stp (tB te σ H Q) (te σ H fun x H' => ∃ k, x = .bl k ∧ Q k H') := ⟨i_tB⟩
instance {Q : Bool → Prop} {b : Bool} : Stp (∃ k, V.bl b = .bl k ∧ Q k) (Q b) := ⟨i_blv⟩
instance {Q : Int → Prop} : Stp (∃ k, V.int i = .int k ∧ Q k) (Q i) := ⟨i_intv⟩
instance {Q : Bool → Hp → Prop} : Stp (tAnd t u σ H Q) (t σ H fun c H1 => if c = true then u σ H1 Q else Q false H1) := ⟨i_and⟩
instance {Q : Bool → Hp → Prop} : Stp (tOr t u σ H Q) (t σ H fun c H1 => if c = true then Q true H1 else u σ H1 Q) := ⟨i_or⟩
instance {Q : Bool → Hp → Prop} : Stp (tNot t σ H Q) (t σ H fun c H1 => Q (!c) H1) := ⟨i_not⟩
instance : Stp (tIf t ta tb σ H Q) (t σ H fun c H1 => if c = true then ta σ H1 Q else tb σ H1 Q) := ⟨i_ifx⟩
instance : Stp (tChain r r' ta tb tc σ H Q) (ta σ H fun x H1 => tb σ H1 fun y H2 => r x y H2 fun z H3 => ∃ k, z = .bl k ∧ (if k = true then tc σ H3 fun w' H4 => r' y w' H4 Q else Q (.bl false) H3)) := ⟨i_chain⟩
/-- a new object -/
def New (H : Hp) (o : HO) (Q : VK) : Prop := ∀ p, H p = none → Q (.ref p) (upd H p o)
theorem New.mk {o : HO} (h : ∀ p, [Nw H p] → Q (.ref p) (upd H p o)) : New H o Q := fun p hp => @h p ⟨hp⟩
instance {t : TA} : Stp (tLst t σ H Q) (t σ H fun xs H1 => xs.length ≤ sizeLine ∧ New H1 (.lst xs) Q) := ⟨i_lst⟩
instance {t : TA} : Stp (tTup t σ H Q) (t σ H fun xs H1 => xs.length ≤ sizeLine ∧ New H1 (.tup xs) Q) := ⟨i_tup⟩
/-! statements -/
instance : Stp (tSeq s1 s2 D σ H) (s1 { D with nx := s2 D } σ H) := ⟨i_seq⟩
instance : Stp (tNext D σ H) (D.nx σ H) := ⟨i_next⟩
instance {g : TG} : Stp (tAsg te g D σ H) (te σ H fun x H1 => g x σ H1 D.nx) := ⟨i_asg⟩
instance {n : Nat} {Q : L2.St → Hp → Prop} [s : SetAt σ n (some v) σ'] : Stp (gName n v σ H Q) (Q σ' H) := ⟨fun q => i_gname (by rw [s.h]; exact q)⟩
instance {to ti : TE} {ts : TSet} {Q : L2.St → Hp → Prop} : Stp (gSub to ti ts v σ H Q) (to σ H fun o H1 => ti σ H1 fun i H2 => ts o i v H2 fun H3 => Q σ H3) := ⟨i_gsub⟩
instance : Stp (tRet te D σ H) (te σ H D.rt) := ⟨i_ret⟩
instance : Stp (tDrop te D σ H) (te σ H fun _ H1 => D.nx σ H1) := ⟨i_drop⟩
instance {c : TT} : Stp (tIfS c s1 s2 D σ H) (c σ H fun b H1 => if b = true then s1 D σ H1 else s2 D σ H1) := ⟨i_if⟩
instance : Stp (if true = true then A else B) A := ⟨i_itet⟩
instance : Stp (if false = true then A else B) B := ⟨i_itef⟩
/-! values -/
instance : Stp (aAdd K (.int i) (.int j) H Q) (Q (.int (i + j)) H) := ⟨i_add⟩
instance : Stp (aAdd K (.str a) (.str b) H Q) (a.length + b.length ≤ sizeLine ∧ Q (.str (a ++ b)) H) := ⟨fun h => i_addS h.1 h.2⟩
instance [h1 : At H p (.lst xs)] [h2 : At H l (.lst ys)] : Stp (aAdd K (.ref p) (.ref l) H Q) (xs.length + ys.length ≤ sizeLine ∧ New H (.lst (xs ++ ys)) Q) := ⟨fun h => i_addL h1.h h2.h h.1 h.2⟩
instance {x y : V} [h1 : At H p (.tup (x :: xs))] [h2 : At H l (.tup (y :: ys))] : Stp (aAdd K (.ref p) (.ref l) H Q) ((x :: xs).length + (y :: ys).length ≤ sizeLine ∧ New H (.tup ((x :: xs) ++ (y :: ys))) Q) := ⟨fun h => i_addT h1.h h2.h (fun z => nomatch z) (fun z => nomatch z) h.1 h.2⟩
instance : Stp (aSub (.int i) (.int j) H Q) (Q (.int (i - j)) H) := ⟨i_sub⟩
instance : Stp (aMul (.int i) (.int j) H Q) (CMul i j ∧ Q (.int (i * j)) H) := ⟨fun h => i_mul h.1 h.2⟩
instance [h1 : At H p (.lst xs)] : Stp (aMul (.ref p) (.int j) H Q) ((0 ≤ j ∧ j < 1000000) ∧ xs.length * j.toNat ≤ sizeLine ∧ New H (.lst (List.replicate j.toNat xs).flatten) Q) := ⟨fun h => i_mulL h1.h h.1 h.2.1 h.2.2⟩
instance : Stp (aMod (.int i) (.int j) H Q) (0 < j ∧ Q (.int (i % j)) H) := ⟨fun h => i_mod h.1 h.2⟩
instance : Stp (aDiv (.int i) (.int j) H Q) (CDivN i j ∧ Q (.int (i.fdiv j)) H) := ⟨fun h => i_div h.1 h.2⟩
instance : Stp (aPow (.int i) (.int j) H Q) (CPow i j ∧ Q (.int (i ^ j.toNat)) H) := ⟨fun h => i_pow h.1 h.2⟩
instance : Stp (aLt (.int i) (.int j) H Q) (Q (.bl (decide (i < j))) H) := ⟨i_lt⟩
instance : Stp (aLe (.int i) (.int j) H Q) (Q (.bl (decide (i ≤ j))) H) := ⟨i_le⟩
instance : Stp (aGt (.int i) (.int j) H Q) (Q (.bl (decide (j < i))) H) := ⟨i_gt⟩
instance : Stp (aGe (.int i) (.int j) H Q) (Q (.bl (decide (j ≤ i))) H) := ⟨i_ge⟩
instance : Stp (aEq K (.int i) (.int j) H Q) (Q (.bl (decide (i = j))) H) := ⟨i_eq⟩
instance : Stp (aEq K (.str a) (.str b) H Q) (Q (.bl (decide (a = b))) H) := ⟨i_eqS⟩
instance : Stp (aNe K (.int i) (.int j) H Q) (Q (.bl (!decide (i = j))) H) := ⟨i_ne⟩
instance : Stp (aNe K (.str a) (.str b) H Q) (Q (.bl (!decide (a = b))) H) := ⟨i_neS⟩
instance {c : Nat} : Stp (aIn K (.str ⟨#[c]⟩) (.str a) H Q) (Q (.bl (decide (c ∈ a.cps.toList))) H) := ⟨i_inC⟩
instance {c : Nat} : Stp (aNin K (.str ⟨#[c]⟩) (.str a) H Q) (Q (.bl (!decide (c ∈ a.cps.toList))) H) := ⟨i_ninC⟩
instance : Stp (aIs .non .non H Q) (Q (.bl true) H) := ⟨fun q => i_is (by rw [decide_eq_true rfl]; exact q)⟩
instance : Stp (aIs (.ref p) .non H Q) (Q (.bl false) H) := ⟨fun q => i_is (by rw [decide_eq_false (fun z => nomatch z)]; exact q)⟩
instance : Stp (aIs (.int i) .non H Q) (Q (.bl false) H) := ⟨fun q => i_is (by rw [decide_eq_false (fun z => nomatch z)]; exact q)⟩
instance : Stp (aIs (.str a) .non H Q) (Q (.bl false) H) := ⟨fun q => i_is (by rw [decide_eq_false (fun z => nomatch z)]; exact q)⟩
instance : Stp (aIsnt .non .non H Q) (Q (.bl false) H) := ⟨fun q => i_isnt (by rw [decide_eq_true rfl]; exact q)⟩
instance : Stp (aIsnt (.ref p) .non H Q) (Q (.bl true) H) := ⟨fun q => i_isnt (by rw [decide_eq_false (fun z => nomatch z)]; exact q)⟩
instance : Stp (aNeg (.int i) H Q) (Q (.int (-i)) H) := ⟨i_neg⟩
class IntNat (i : Int) (n : outParam Nat) : Prop where h : i = (n : Int)
instance : IntNat 0 0 := ⟨rfl⟩
instance : IntNat 1 1 := ⟨rfl⟩
instance : IntNat 2 2 := ⟨rfl⟩
instance : IntNat 3 3 := ⟨rfl⟩
instance : IntNat 4 4 := ⟨rfl⟩
instance : IntNat 5 5 := ⟨rfl⟩
instance : IntNat 6 6 := ⟨rfl⟩
instance : IntNat 7 7 := ⟨rfl⟩
instance : IntNat 8 8 := ⟨rfl⟩
instance : IntNat 9 9 := ⟨rfl⟩
instance : IntNat 10 10 := ⟨rfl⟩
instance : IntNat 11 11 := ⟨rfl⟩
instance : IntNat 12 12 := ⟨rfl⟩
instance : IntNat 13 13 := ⟨rfl⟩
instance : IntNat 14 14 := ⟨rfl⟩
instance : IntNat 15 15 := ⟨rfl⟩
instance : IntNat 16 16 := ⟨rfl⟩
instance : IntNat 17 17 := ⟨rfl⟩
instance : IntNat 18 18 := ⟨rfl⟩
instance : IntNat 19 19 := ⟨rfl⟩
instance : IntNat 20 20 := ⟨rfl⟩
instance : IntNat 21 21 := ⟨rfl⟩
instance : IntNat 22 22 := ⟨rfl⟩
instance : IntNat 23 23 := ⟨rfl⟩
instance : IntNat 24 24 := ⟨rfl⟩
instance : IntNat 25 25 := ⟨rfl⟩
instance : IntNat 26 26 := ⟨rfl⟩
instance : IntNat 27 27 := ⟨rfl⟩
instance : IntNat 28 28 := ⟨rfl⟩
instance : IntNat 29 29 := ⟨rfl⟩
instance : IntNat 30 30 := ⟨rfl⟩
instance {n : Nat} : IntNat (n : Int) n := ⟨rfl⟩
class Ith {α : Type} (xs : List α) (i : Int) (v : outParam α) : Prop where h : atI xs i = some v
class Jth {α : Type} (xs : List α) (i : Nat) (v : outParam α) : Prop where h : xs[i]? = some v
instance {α : Type} {v : α} {xs : List α} : Jth (v :: xs) 0 v := ⟨rfl⟩
instance {α : Type} {v x : α} {xs : List α} {n : Nat} [l : Jth xs n v] : Jth (x :: xs) (n + 1) v := ⟨by rw [List.getElem?_cons_succ]; exact l.h⟩
theorem ith_of {α : Type} {xs : List α} {n : Nat} {v : α} (h : xs[n]? = some v) : atI xs (n : Int) = some v := by
  have hn : n < xs.length := by
    rcases Nat.lt_or_ge n xs.length with q | q
    · exact q
    · rw [List.getElem?_eq_none q] at h; cases h
  unfold atI ixN
  rw [if_pos (by omega), if_pos (by omega)]
  simpa using h
instance {α : Type} {v : α} {xs : List α} {i : Int} {n : Nat} [e : IntNat i n] [l : Jth xs n v] : Ith xs i v := ⟨by rw [e.h]; exact ith_of l.h⟩
instance {α : Type} {v : α} : Ith [v] (-1) v := ⟨rfl⟩
instance {α : Type} {u v : α} : Ith [u, v] (-1) v := ⟨rfl⟩
instance {α : Type} {u v z : α} : Ith [u, v, z] (-1) z := ⟨rfl⟩
instance [h1 : At H p (.lst xs)] [h2 : Ith xs i v] : Stp (aIx K (.ref p) (.int i) H Q) (Q v H) := ⟨fun q => i_ixL h1.h h2.h q⟩
instance [h1 : At H p (.tup xs)] [h2 : Ith xs i v] : Stp (aIx K (.ref p) (.int i) H Q) (Q v H) := ⟨fun q => i_ixT h1.h h2.h q⟩
class PutAt {α : Type} (xs : List α) (i : Nat) (v : α) (ys : outParam (List α)) : Prop where h : i < xs.length ∧ xs.set i v = ys
instance {α : Type} {v x : α} {xs : List α} : PutAt (x :: xs) 0 v (v :: xs) := ⟨by simp, rfl⟩
instance {α : Type} {v x : α} {xs ys : List α} {n : Nat} [l : PutAt xs n v ys] : PutAt (x :: xs) (n + 1) v (x :: ys) := ⟨by simp; exact l.h.1, by rw [List.set_cons_succ, l.h.2]⟩
theorem ixN_nat {n k : Nat} (h : k < n) : ixN n (k : Int) = some k := by
  unfold ixN
  rw [if_pos (by omega), if_pos (by omega)]; simp
instance {n : Nat} {Q : Hp → Prop} [h1 : At H p (.lst xs)] [e : IntNat i n] [h2 : PutAt xs n v ys] : Stp (rSetL (.ref p) (.int i) v H Q) (Q (upd H p (.lst ys))) := ⟨fun q => i_setL h1.h (by rw [e.h]; exact ixN_nat (k := n) h2.h.1) (by rw [show xs.set n v = ys from h2.h.2]; exact q)⟩
instance : Stp (aInt [.int i] H Q) (Q (.int i) H) := ⟨i_int⟩
instance {c : Bool} : Stp (aInt [.bl c] H Q) (Q (.int (if c then 1 else 0)) H) := ⟨i_intB⟩
instance : Stp (aAbs [.int i] H Q) (Q (.int (if i < 0 then -i else i)) H) := ⟨i_abs⟩
instance [h1 : At H p (.lst xs)] : Stp (aLen K [.ref p] H Q) (Q (.int xs.length) H) := ⟨i_lenL h1.h⟩
instance [h1 : At H p (.tup xs)] : Stp (aLen K [.ref p] H Q) (Q (.int xs.length) H) := ⟨i_lenT h1.h⟩
instance : Stp (aLen K [.str a] H Q) (a.length ≤ sizeLine ∧ Q (.int a.length) H) := ⟨fun h => i_lenS h.1 h.2⟩
instance [h1 : At H p (.lst xs)] : Stp (aList K [.ref p] H Q) (New H (.lst xs) Q) := ⟨i_listL h1.h⟩
instance [h1 : At H p (.tup xs)] : Stp (aList K [.ref p] H Q) (New H (.lst xs) Q) := ⟨i_listT h1.h⟩
instance {Q : Bool → Hp → Prop} {ta : TE} : Stp (tTr K ta σ H Q) (ta σ H fun x H' => ∃ k, TruV K x H' k ∧ Q k H') := ⟨i_tr⟩
instance {Q : Bool → Prop} {c : Bool} : Stp (∃ k, TruV K (.bl c) H k ∧ Q k) (Q c) := ⟨i_trB⟩
instance {r : V → Hp → VK → Prop} {ta : TE} : Stp (tAtt r ta σ H Q) (ta σ H fun x H1 => r x H1 Q) := ⟨i_att⟩
instance {r : V → Option Int → Option Int → Hp → VK → Prop} {tl th : TO} : Stp (tSl r te tl th σ H Q) (te σ H fun x H1 => tl σ H1 fun lo H2 => th σ H2 fun hi H3 => r x lo hi H3 Q) := ⟨i_sl⟩
instance {Q : Option Int → Hp → Prop} : Stp (tNoPart σ H Q) (Q none H) := ⟨i_noPart⟩
instance {Q : Option Int → Hp → Prop} : Stp (tPart te σ H Q) (te σ H fun x H1 => ∃ i, x = .int i ∧ Q (some i) H1) := ⟨i_part⟩
instance : Stp (tAndT K ta tb σ H Q) (ta σ H fun x H1 => ∃ k, TruV K x H1 k ∧ if k = true then tb σ H1 Q else Q x H1) := ⟨i_andT⟩
instance : Stp (tOrT K ta tb σ H Q) (ta σ H fun x H1 => ∃ k, TruV K x H1 k ∧ if k = true then Q x H1 else tb σ H1 Q) := ⟨i_orT⟩
instance : Stp (tNotT K ta σ H Q) (ta σ H fun x H1 => ∃ k, TruV K x H1 k ∧ Q (.bl (!k)) H1) := ⟨i_notT⟩
end
theorem at_start {t : TS} {D : Ends} {σ σ' : L2.St} {H : Hp} (e : σ = σ') (h : t D σ' H) : t D σ H := by rw [e]; exact h
end Z
end

section
namespace Z
open PySem PySem.Spec PyProof.Rows L2
/-! ### an exception that was caught, kept as a value -/
def ExV (cls : Value) (d : Option Addr) (a : Addr) : HO := .ext fun h => ∃ (oe : Obj) (fv : Array Value), h.get? a = some oe ∧ Zc cls d oe ∧ oe.data = .fields fv
theorem exV_ok {P : Program} {w : World} {H : Hp} {h : Heap} {a : Addr} {cls : Value} {d : Option Addr} {oe : Obj} {fv : Array Value} (g : h.get? a = some oe) (z : Zc cls d oe) (hd : oe.data = .fields fv) : ObjOk P w H h a (ExV cls d a) :=
  ⟨⟨oe, fv, g, z, hd⟩, ⟨oe, g⟩, fun _ _ ⟨o1, f1, b1, b2, b3⟩ st => ⟨o1, f1, st _ b1, b2, b3⟩⟩
section
variable {X : Cx} {pins : List (Addr × Obj)} {σ : L2.St} {H : Hp} {s : Shared}
/-- an object that came behind the entry is tracked from now on -/
theorem track {a : Addr} {o : HO} (I : Inv X pins σ H s) (hn : H a = none) (h0 : X.s_0.heap.get? a = none) (nL : a ≠ X.env.locals) (nC : ∀ y c, X.env.cells.lookup y = some c → c ≠ a)
    (nP : ∀ p ∈ X.pn ++ pins, p.1 ≠ a) (ok : ObjOk X.prog X.w (upd H a o) s.heap a o) : Inv X pins σ (upd H a o) s := by
  have ne0 : ∀ b ob, X.s_0.heap.get? b = some ob → b ≠ a := fun b ob g z => by
    rw [z, h0] at g
    cases g
  have neH : ∀ b u, H b = some u → b ≠ a := fun b u g z => by
    rw [z, hn] at g
    cases g
  have U := I.base
  constructor
  · exact I.ok
  · exact I.os
  · exact I.bare
  · constructor
    · exact U.keep
    · exact U.slot
    · intro b ob g n hx
      rw [upd_ne (ne0 b ob g)]
      exact U.free b ob g n hx
    · exact U.there
    · intro b xs g
      have g' := U.tups b xs g
      rw [upd_ne (neH b _ g')]
      exact g'
    · intro b ob u g
      have g' := U.frzs b ob u g
      rw [upd_ne (neH b _ g')]
      exact g'
    · intro b ps g
      obtain ⟨m, g'⟩ := U.tbls b ps g
      exact ⟨m, by rw [upd_ne (neH b _ g')]; exact g'⟩
  · exact I.loc
  · exact I.cell
  · rw [upd_ne nL.symm]
    exact I.free
  · intro y c g
    rw [upd_ne (nC y c g)]
    exact I.freeC y c g
  · intro p hp
    obtain ⟨g1, g2, g3⟩ := I.pin p hp
    exact ⟨g1, by rw [upd_ne (nP p hp)]; exact g2, g3⟩
  · intro b u g
    by_cases hb : b = a
    · rw [hb, upd_same] at g
      rw [hb, ← Option.some.inj g]
      exact ok
    · rw [upd_ne hb] at g
      refine (I.hok b u g).stay (fun _ _ _ q => q) (fun c q => ?_) (fun c xs q => ?_)
      · rw [upd_ne (neH c _ q)]; exact q
      · rw [upd_ne (neH c _ q)]; exact q
  · exact I.len
/-- out of a suite, the exception's object still known -/
theorem unsuiteK {a : Addr} {oe : Obj} {pn' : List (Addr × Obj)} (I : Inv (X.suite a ((a, oe) :: (X.pn ++ pins))) pn' σ H s) (ok : X.Ok) : Inv X ((a, oe) :: pins) σ H s := by
  refine ⟨ok, I.os, I.bare, I.base, I.loc, I.cell, I.free, I.freeC, fun p hp => ?_, I.hok, I.len⟩
  refine I.pin p (List.mem_append_left _ ?_)
  rcases List.mem_append.mp hp with h | h
  · exact List.mem_cons_of_mem _ (List.mem_append_left _ h)
  · rcases List.mem_cons.mp h with h | h
    · rw [h]; exact List.mem_cons_self
    · exact List.mem_cons_of_mem _ (List.mem_append_right _ h)
/-- it is tracked: from the pin to the abstract heap -/
theorem pin_track {a : Addr} {oe : Obj} {fv : Array Value} {cls : Value} {d : Option Addr} (J : Inv X ((a, oe) :: pins) σ H s) (hz : Zc cls d oe) (hf : oe.data = .fields fv) (h0 : X.s_0.heap.get? a = none) (nP : ∀ p ∈ X.pn ++ pins, p.1 ≠ a) :
    Inv X pins σ (upd H a (ExV cls d a)) s := by
  obtain ⟨g, hn, nL, nF, _⟩ := J.pin (a, oe) (List.mem_append_right _ List.mem_cons_self)
  have J0 : Inv X pins σ H s := J.pins_of fun p hp => J.pin p (List.mem_append_right _ (List.mem_cons_of_mem _ hp))
  refine track J0 hn h0 nL (fun y c q z => ?_) nP (exV_ok g hz hf)
  obtain ⟨v, ob, ho, hd⟩ := J.cell y c q
  rw [z] at ho
  have e : ob = oe := Option.some.inj (ho.symm.trans g)
  rw [e, hf] at hd
  cases hd
end

/-! ### try: body / except x as n: suite, the exception kept behind the suite -/
/-- what is wished of an exception of the body -/
def wKp (n : Nat) (K : PySem.W.Frag) (c : Value) (i : Nat) (ts : Addr → Value → Option Addr → TS) (Wo : WX) (D : Ends) : WX := fun cls d σ H => σ.length = n → ∃ b, PySem.W.exmOne K cls c = some b ∧ (b = false → Wo cls d σ H) ∧
  (b = true → ∀ a, H a = none → ts a cls d { nx := fun σ' H' => D.nx (σ'.set i none) (upd H' a (ExV cls d a)), rt := fun _ _ => False } (σ.set i (some (.ref a))) H)
end Z
end

section
/-! ZCT: try: body / except x as n: suite, where the exception is kept behind the suite -/
namespace Z
open PySem PySem.Spec PyProof.Rows L2
section
variable {X : Cx} {pins : List (Addr × Obj)} {σ : L2.St} {H : Hp} {D : Ends}
/-- what the body of a try leaves, told outside it -/
theorem sp_outside {pn : List (Addr × Obj)} {xe : Value → Shared → Prop} (ok : X.Ok) (pe : pn = X.pn ++ pins) {f : Flow} {s : Shared} (h : SP (X.tr pn xe) [] D f s) : SP X pins D f s := by
  subst pe
  cases f
  case ret u => exact h.imp fun _ ⟨_, _, J, r, q⟩ => ⟨_, _, J.ofTry ok, r, q⟩
  all_goals exact h.imp fun _ ⟨_, J, q⟩ => ⟨_, J.ofTry ok, q⟩
theorem frame_or {q : Addr} (hst : X.stack = X.env :: X.outer) (hfm : X.env.frame = some X.env.locals) (m : q ∈ frs X.stack) : q = X.env.locals ∨ q ∈ X.fs := by
  rw [hst] at m
  have ⟨e, he, r⟩ := List.mem_filterMap.mp m
  cases he with
  | head => exact .inl (Option.some.inj (r.symm.trans hfm))
  | tail _ he => exact .inr (List.mem_filterMap.mpr ⟨e, he, r⟩)
theorem own_frame (hst : X.stack = X.env :: X.outer) (hfm : X.env.frame = some X.env.locals) : X.env.locals ∈ frs X.stack := by
  rw [hst]; exact List.mem_filterMap.mpr ⟨X.env, .head _, hfm⟩
theorem outer_frame {q : Addr} (hst : X.stack = X.env :: X.outer) (m : q ∈ X.fs) : q ∈ frs X.stack := by
  have ⟨e, he, r⟩ := List.mem_filterMap.mp m
  rw [hst]; exact List.mem_filterMap.mpr ⟨e, .tail _ he, r⟩
/-- an exception that flies is new: no frame, no pin, nothing of the entry -/
structure Apart (X : Cx) (pins : List (Addr × Obj)) (a : Addr) : Prop where
  here : a ≠ X.env.locals
  fs : a ∉ X.fs
  entry : X.s_0.heap.get? a = none
  pin : ∀ q ∈ X.pn ++ pins, q.1 ≠ a
theorem apart {a : Addr} {B h : Heap} {cls : Value} {d : Option Addr} {sI : Shared} (hex : X.ex = []) (hst : X.stack = X.env :: X.outer) (hfm : X.env.frame = some X.env.locals) (J : Inv X pins σ H sI)
    (nb : ∀ b o, sI.heap.get? b = some o → b ∉ frs X.stack → B.get? b = some o) (fly : HandSPX.FlyingZ B (X.env :: X.outer) a (Zc cls d) h) : Apart X pins a := by
  have ⟨oe, fv, g, _, hd⟩ := fly.there
  have frames : a ∉ frs X.stack := fun m => by
    have ⟨_, o, g', no⟩ := fly.2.2.1.mem (hst ▸ m)
    exact no fv (Option.some.inj (g.symm.trans g') ▸ hd)
  have older : ∀ q o, sI.heap.get? q = some o → q ∉ frs X.stack → q ≠ a := fun q o e n z => by
    have z1 := nb q o e n
    rw [z, fly.2.1] at z1; cases z1
  refine ⟨fun e => frames (e ▸ own_frame hst hfm), fun m => frames (outer_frame hst m), ?_, fun q hq => ?_⟩
  · match e : X.s_0.heap.get? a with
    | none => rfl
    | some o =>
      have ⟨o', g'⟩ := J.base.there a o e (by simp [hex])
      exact absurd rfl (older a o' g' frames)
  · have ⟨g, _, n1, n2, _⟩ := J.pin q hq
    exact older q.1 _ g fun m => (frame_or hst hfm m).elim n1 n2
end
section
variable {X : Cx} {x n : Str} {c : Value} {i : Nat} {body suite : List Stmt} {st0 : Stmt} {p1 p2 p3 : Pos} {tb : WX → TS} {ts : Addr → Value → Option Addr → TS} {Wo : WX} {D : Ends} {pins : List (Addr × Obj)} {σ : L2.St} {H : Hp}
/-- the clause is another class's: the exception goes on -/
theorem goes_on {a : Addr} {B : Heap} {cls : Value} {d : Option Addr} {sI s : Shared} {h : Heap} (hst : X.stack = X.env :: X.outer) (hfm : X.env.frame = some X.env.locals) (tk : Takes X Wo) (J : Inv X pins σ H sI)
    (nb : ∀ b o, sI.heap.get? b = some o → b ∉ frs X.stack → B.get? b = some o) (up : sI.heap.UpToSlots h) (na : H a = none) (os : s.os = sI.os) (ag : AllBare s.gens) (fly : HandSPX.FlyingZ B (X.env :: X.outer) a (Zc cls d) h) (w : Wo cls d σ H) :
    wpAny (model X.prog X.w) X.A (handleBy (.ref a) X.env []) (SP X pins D) X.xe { s with heap := h } := by
  have out : wpAny (model X.prog X.w) X.A (setFlight (.ref a) X.env.frame) (fun _ t => wpAny (model X.prog X.w) X.A (throw (.ref a) : Sem Flow) (SP X pins D) X.xe t) X.xe { s with heap := h } :=
    hfm ▸ HandSPX.setFlight_upZ fly fun h' held more => wpAny_throw (tk _ _ ⟨a, B, sI, pins, σ, H, cls, d, rfl, J, nb, up.trans more, .inr (.inr (hst ▸ held)), na, os, ag, w⟩)
  have ⟨_, _, _, oe, fv, Tr, _, _, he, _, hd, h1, _⟩ := fly
  unfold handleBy PySem.passOn
  refine wpAny_bind (wpAny_field he hd h1 ?_)
  rw [if_neg (by simp)]
  first
    | exact wpAny_bind (wpAny_pure (wpAny_bind out))
    | exact wpAny_bind out
/-- behind the suite: the name goes, the exception stays -/
theorem suite_ends {a : Addr} {oe : Obj} {fv : Array Value} {cls : Value} {d : Option Addr} (ok : X.Ok) (hN : X.N.Nodup) (hi : X.N[i]? = some n) (hln : X.env.kindOf n = some .local) (ap : Apart X pins a) (hz : Zc cls d oe) (hd : oe.data = .fields fv) {pos : Pos} {f : Flow} {s : Shared}
    (h : SP (X.suite a ((a, oe) :: (X.pn ++ pins))) [] { nx := fun σ' H' => D.nx (σ'.set i none) (upd H' a (ExV cls d a)), rt := fun _ _ => False } f s) :
    wpAny (model X.prog X.w) X.A (do bindName X.env n .none; unbindBehindTheSuite X.env n pos) (fun _ t => SP X pins D f t) X.xe s := by
  cases f
  case next => exact let ⟨_, _, S, q⟩ := h; gone_ok (unsuiteK S ok) hN hi hln fun t J => ⟨_, _, pin_track J hz hd ap.entry ap.pin, q⟩
  case ret => exact let ⟨_, _, _, _, _, q⟩ := h; q.elim
  all_goals exact let ⟨_, _, _, q⟩ := h; q.elim
/-- the class that a clause names -/
theorem class_read {Y : Cx} {pins : List (Addr × Obj)} {σ : L2.St} {H : Hp} {s : Shared} {E Q : Value → Shared → Prop} {p : Pos} (I : Inv Y pins σ H s) (hc : Names Y x c) (q : Q c s) : wpAny (model Y.prog Y.w) Y.A (eval (.Name x p) Y.env) Q E s := by
  obtain ⟨gl, nd, own | ⟨no, bl, vis⟩⟩ := hc
  · exact ld_glob I gl own q nd
  · exact ld_blt I gl no bl q vis nd
theorem ps_tryK (hex : X.ex = []) (hst : X.stack = X.env :: X.outer) (hfm : X.env.frame = some X.env.locals) (hN : X.N.Nodup) (hi : X.N[i]? = some n) (hln : X.env.kindOf n = some .local) (hc : Names X x c) (tk : Takes X Wo)
    (body_ok : ∀ (W : WX) (pn : List (Addr × Obj)) (xe : Value → Shared → Prop), Takes (X.tr pn xe) W → PassesOwn (model X.prog X.w) X.A X.env xe → PSs (X.tr pn xe) body (tb W))
    (suite_ok : ∀ (a : Addr) (oe : Obj) (cls : Value) (d : Option Addr) (pn : List (Addr × Obj)), Zc cls d oe → (∃ fv, oe.data = .fields fv) → PSs (X.suite a ((a, oe) :: pn)) (st0 :: suite) (ts a cls d)) :
    PS X (.Try body [.ExceptHandler (some (.Name x p1)) (some n) (st0 :: suite) p2] [] [] p3) (fun D σ H => tb (wKp X.N.length X.K c i ts Wo D) D σ H) := by
  refine ⟨fun pins s σ H D I h => ?_⟩
  have ok := I.ok
  have top : X.A.frames = some (X.env :: X.outer) := hst ▸ ok.frames
  refine wpAny_Try_except (wpAny_mono ((body_ok (wKp X.N.length X.K c i ts Wo D) (X.pn ++ pins) _ ?come PassesOwn.looking).run [] s σ H D (I.toTry _) h) (fun f t sp => ?flow) fun _ _ z => z)
  case flow =>
    have sp := sp_outside (pins := pins) ok rfl sp
    cases f
    case next => exact wpAny_execs_nil sp
    all_goals exact sp
  case come =>
    rintro _ t ⟨a, B, sI, _, σ', H', cls, d, rfl, J', nb, up, sky, na, os, ag, wish⟩
    have J : Inv X pins σ' H' sI := J'.ofTry ok
    obtain ⟨b, said, other, mine⟩ := wish J.len
    have sky : Sky B X.stack a (Zc cls d) X.env.locals t.heap := sky
    rw [hst] at sky
    refine Sky.land Zc.steady top hfm sky fun h3 fly more => ?_
    have ap := apart hex hst hfm J nb fly
    have ⟨oe, fv, g, hz, hd⟩ := fly.there
    have up3 := up.trans more
    have J3 : Inv X pins σ' H' { t with heap := h3 } := J.landed nb fly.1 up3 os ag
    have S3 := J3.suite g hd na ap.here ap.fs
    have is := PySem.W.exm_one (M := model X.prog X.w) J3.kIn (PySem.W.Looks.andThen (PySem.W.Looks.ld g) (hz.1.symm ▸ .now)) said
    refine wpAny_handleBy_cons (codeAny_handlers_test ?_) fun q => nomatch q
    refine class_read (Y := X.suite a ((a, oe) :: (X.pn ++ pins))) S3 hc (is.here ?_)
    cases b
    · exact goes_on hst hfm tk J nb up3 na os ag fly (other rfl)
    · refine codeAny_handlers_suite_as (HandSPX.lands_againZ fly fun h4 fly4 up4 => ?_)
      have ⟨oe4, fv4, g4, hz4, hd4⟩ := fly4.there
      have J4 : Inv X pins σ' H' { t with heap := h4 } := J.landed nb fly4.1 (up3.trans up4) os ag
      refine store_ok (X := X.suite a ((a, oe4) :: (X.pn ++ pins))) (v := .ref a) (J4.suite g4 hd4 na ap.here ap.fs) hN hi (.inl hln) rfl (fun s5 S5 => ?_) (.inr hln)
      exact wpAny_mono ((suite_ok a oe4 cls d _ hz4 ⟨_, hd4⟩).run [] s5 _ H' _ S5 (mine rfl a na)) (fun f s6 sp => suite_ends ok hN hi hln ap hz4 hd4 sp) fun _ _ z => z.elim
end
end Z
end

section
namespace Z
open PySem PySem.Spec PyProof.Rows L2
/-! ### what a caught exception is asked -/
/-- its dict stands -/
def XdOk (H : Hp) (d : Option Addr) : Prop := d = none ∨ ∃ dd fs, d = some dd ∧ H dd = some (.xd fs)
section
variable {X : Cx} {pins : List (Addr × Obj)} {σ : L2.St} {H : Hp} {s : Shared}
theorem exV_at {cls : Value} {d : Option Addr} {a : Addr} (I : Inv X pins σ H s) (h : H a = some (ExV cls d a)) : ∃ (oe : Obj) (fv : Array Value), s.heap.get? a = some oe ∧ Zc cls d oe ∧ oe.data = .fields fv := (I.hok a _ h).1
theorem exV_inst {C : Addr} {d : Option Addr} {a : Addr} (I : Inv X pins σ H s) (h : H a = some (ExV (.ref C) d a)) (hd : XdOk H d) : ∃ oe od, PySem.W.InstAt s.heap a oe C od := by
  obtain ⟨oe, fv, g, z, q⟩ := exV_at I h
  have no : PySem.W.notCls oe = true := by unfold PySem.W.notCls; rw [q] <;> rfl
  rcases hd with e | ⟨dd, fs, e, hx⟩
  · subst e
    exact ⟨oe, none, g, z.1, no, by rw [z.2] <;> trivial⟩
  · subst e
    obtain ⟨mA, hns, _⟩ := (show ObjOk X.prog X.w H s.heap dd (.xd fs) from I.hok dd _ hx)
    obtain ⟨od, ho, _⟩ := lookIn_ns hns
    exact ⟨oe, some od, g, z.1, no, by rw [z.2]; exact ho⟩
/-- isinstance(e, c), e a caught exception -/
def rIsV (K : PySem.W.Frag) : RC := fun xs H Q => ∃ (a C : Addr) (d : Option Addr) (c : V) (u : Value) (b : Bool), xs = [.ref a, c] ∧ H a = some (ExV (.ref C) d a) ∧ XdOk H d ∧ ClsV c u ∧ ExcC K C ∧ PySem.W.kitOne K (.ref C) u = some b ∧ Q (.bl b) H
theorem clsV_rel {c : V} {u w : Value} (h : ClsV c u) (r : RelV c w) : w = u := by
  cases h <;> exact r
theorem call_isV : CallR X (.builtin "isinstance") (rIsV X.K) := by
  intro pins s σ H xs us Q I r h
  obtain ⟨a, C, d, c, u, b, rfl, ha, hd, hc, T, hk, q⟩ := h
  cases r with
  | cons rx rr =>
    cases rr with
    | cons rt rr =>
      cases rr
      cases rx
      have e := clsV_rel hc rt
      subst e
      obtain ⟨oe, od, J⟩ := exV_inst I ha hd
      have hcl : (PySem.W.clsIn X.K C).isSome = true := by
        obtain ⟨cd, h1, _⟩ := PySem.W.any_some T.hd
        rw [h1] <;> rfl
      exact PySem.W.kia_one (PySem.W.kitx_exc hcl T.hg T.hk T.hs T.ha T.hn T.ht T.hm) I.kIn J hk (fun z => nomatch z) fun tk => ⟨.bl b, H, I.kept (t' := tk) fun _ _ z => z, rfl, q⟩
def rIsVT (K : PySem.W.Frag) : RC := fun xs H Q => ∃ (a C : Addr) (d : Option Addr) (tp : Addr) (cs : List V) (us : List Value) (b : Bool), xs = [.ref a, .ref tp] ∧ H a = some (ExV (.ref C) d a) ∧ XdOk H d ∧ H tp = some (.tup cs) ∧ Paired ClsV cs us ∧ ExcC K C ∧ PySem.W.kitAny K (.ref C) us = some b ∧ Q (.bl b) H
theorem clsV_all : ∀ {cs : List V} {us ws : List Value}, Paired ClsV cs us → Vals cs ws → ws = us
  | _, _, _, .nil, .nil => rfl
  | _, _, _, .cons h t, .cons r q => by rw [clsV_rel h r, clsV_all t q]
theorem call_isVT : CallR X (.builtin "isinstance") (rIsVT X.K) := by
  intro pins s σ H xs us Q I r h
  obtain ⟨a, C, d, tp, cs, ws, b, rfl, ha, hd, ht, hc, T, hk, q⟩ := h
  cases r with
  | cons rx rr =>
    cases rr with
    | cons rt rr =>
      cases rr
      cases rx
      cases rt
      obtain ⟨oe, od, J⟩ := exV_inst I ha hd
      have hcl : (PySem.W.clsIn X.K C).isSome = true := by
        obtain ⟨cd, h1, _⟩ := PySem.W.any_some T.hd
        rw [h1] <;> rfl
      obtain ⟨_, its, rv, ⟨cl0, dd, dt, sl⟩, ho, e1, n, e2⟩ := (show ObjOk X.prog X.w H s.heap tp (.tup cs) from I.hok tp _ ht)
      simp only at e1 e2
      subst e1 e2
      have e3 := clsV_all hc rv
      subst e3
      exact PySem.W.kia_tup (PySem.W.kitx_exc hcl T.hg T.hk T.hs T.ha T.hn T.ht T.hm) I.kIn J ho hk (fun z => nomatch z) fun tk => ⟨.bl b, H, I.kept (t' := tk) fun _ _ z => z, rfl, q⟩
/-- e.n, e a caught exception -/
def aXf (K : PySem.W.Frag) (n : Str) : V → Hp → VK → Prop := fun x H Q => ∃ (a C dd : Addr) (fs : List (Str × V)) (v : V), x = .ref a ∧ H a = some (ExV (.ref C) (some dd) a) ∧ H dd = some (.xd fs) ∧ XfC K C ∧ PySem.W.findIn K (.ref C) n = some none ∧ fs.lookup n = some v ∧ Q v H
theorem pe_xfV {e : Expr} {te : TE} {n : Str} {pos : Pos} (he : PE X e te) (hb : attributeBase e n X.env (eval e X.env) = eval e X.env := by rfl) : PE X (.Attribute e n pos) (tAtt (aXf X.K n) te) := by
  constructor
  intro pins s σ H Q I h
  refine attr_of hb (thn (he.run pins s σ H _ I h) fun u s1 hh => ?_)
  obtain ⟨x, H1, I1, rx, a, C, dd, fs, v, ex, ea, ed, T, hno, l, q⟩ := hh
  subst ex
  obtain rfl : u = Value.ref a := rx
  obtain ⟨oe, fv, g, z, hd⟩ := exV_at I1 ea
  obtain ⟨mA, hns, hr⟩ := (show ObjOk X.prog X.w H1 s1.heap dd (.xd fs) from I1.hok dd _ ed)
  obtain ⟨od, ho, hl⟩ := lookIn_ns hns
  obtain ⟨u, hu, ru⟩ := RelO.some_of (v := v) (o := mA n) (by rw [← l]; exact hr n)
  have no : PySem.W.notCls oe = true := by unfold PySem.W.notCls; rw [hd] <;> rfl
  have J : PySem.W.InstAt s1.heap a oe C (some od) := ⟨g, z.1, no, by rw [z.2]; exact ho⟩
  have found := PySem.W.findObj_own T.hdC hno rfl (show PySem.W.lookIn n od = some (some u) by rw [hl, hu])
  exact HandSPX.exc_get I1.kIn J T.ga T.gg T.exC found (handed_of ru) ⟨v, H1, I1.tok _, ru, q⟩
end
end Z
end

section
namespace Z
open PySem PySem.Spec PyProof.Rows L2
/-! ### repr of data: it asks that nothing is being shown around; so the defs that show are promised where that is so -/
def NoG (A : Around) : Prop := A.guards = some []
structure FnG (P : Program) (w : World) (K : PySem.W.Frag) (mg : Str → Option Value) (base : Heap) (CX : CXT) (k : Nat) (f : Addr) (fd : FuncData) (ps : List Str) (sp : Sp) : Prop where
  len : ∀ vs H Q E, sp vs H Q E → vs.length = ps.length
  run : ∀ (A : Around) (outer : List Env) (s : Shared) (H : Hp) (args : Args) (us : List Value) (vs : List V) (Q : VK) (E : XK), NoG A → Room k A → Env0 P w K mg base A outer s H → BindsTo s fd args (ps.zip us) → Vals vs us → sp vs H Q E →
    codeAny (model P w) A (.call (.ref f) args) (CR CX outer P w H s Q E) s
section
variable {P : Program} {w : World} {K : PySem.W.Frag} {mg : Str → Option Value} {base : Heap}
/-- a def by its body -/
theorem okG {x qual : Str} {st : Stmt} {f : Addr} {fd : FuncData} {N ps : List Str} {k : Nat} {sp : Sp} (F : Fun K x qual st f fd) (S : FnScope N ps (defScope st)) (len : ∀ vs H Q E, sp vs H Q E → vs.length = ps.length)
    (hbody : ∀ (cdv : Value) (A : Around) (outer : List Env) (s : Shared) (H : Hp) (vs : List V) (Q : VK) (E : XK), NoG A → Room k (A.deeper (envOfC qual (defScope st) s.heap.objs.size f cdv)) → sp vs H Q E →
      ∃ t, PSs (cxOf (L2.CX P w) P w K mg base N qual (defScope st) f cdv A outer s H E) (defBody st) t ∧ t { nx := fun _ H' => Q .non H', rt := Q } (start N vs) H) : FnG P w K mg base (L2.CX P w) (k + 1) f fd ps sp := by
  obtain ⟨oc, od, kV, doc, pm, an, cdv, ct, osl, rfl, lk, hcd⟩ := F.ex
  refine ⟨len, fun A outer s H args us vs Q E g hr e0 hb r h => ?_⟩
  exact LamX.run_ofS lk hcd S hr e0 hb r (len _ _ _ _ h) fun hr' => hbody cdv A outer s H vs Q E g hr' h
theorem FnG.of {CX : CXT} {k : Nat} {f : Addr} {fd : FuncData} {ps : List Str} {sp : Sp} (F : FnOk P w K mg base CX k f fd ps sp) : FnG P w K mg base CX k f fd ps sp := ⟨F.len, fun A outer s H args us vs Q E _ => F.run A outer s H args us vs Q E⟩
end
section
variable {X : Cx} {CX : CXT} {k : Nat} {f C : Addr} {fd : FuncData} {ps : List Str} {sp : Sp} {E : XK} {x m : Str} {p pos apos : Pos} {e o : Expr} {es : List Expr} {ta : TE} {t : TA}
theorem run_G {pins : List (Addr × Obj)} {σ : L2.St} {H : Hp} {s : Shared} {Q : VK} {us : List Value} {vs : List V} (F : FnG X.prog X.w X.K X.mg X.base CX k f fd ps sp) (g : NoG X.A) (hr : Room k X.A) (hb : Binds X.K fd ps []) (hx : Passes CX X E)
    (I : Inv X pins σ H s) (r : Vals vs us) (h : sp vs H Q E) : wpAny (model X.prog X.w) X.A (call (.ref f) us) (EP X pins σ Q) X.xe s := by
  have hl : us.length = ps.length := r.length.symm.trans (F.len _ _ _ _ h)
  have hb' : BindsTo s fd ⟨us, []⟩ (ps.zip us) := by
    have q := hb s us I.kIn (by rw [List.append_nil]; exact hl)
    rwa [List.append_nil] at q
  refine wpAny_call (codeAny_mono (F.run X.A X.stack s H ⟨us, []⟩ us vs Q E g hr I.env0 hb' r h) fun res s' hq => ?_)
  match res, hq with
  | .error er, hq => exact hx pins σ H s er s' I hq
  | .ok (.ret u), hq => exact I.after hq
  | .ok .next, hq => exact hq.elim
  | .ok .brk, hq => exact hq.elim
  | .ok .cont, hq => exact hq.elim
/-- f(e, ..) -/
theorem pe_callG (F : FnG X.prog X.w X.K X.mg X.base CX k f fd ps sp) (g : NoG X.A) (hr : Room k X.A) (hg : Gl X x) (hm : X.mg x = some (.ref f)) (hk : PySem.W.keepIn X.K (.ref f) = true) (hb : Binds X.K fd ps []) (hx : Passes CX X E)
    (ha : PA X (e :: es) t) (hdb : (x == ("__debug__" : Str)) = false := by decide) (he : starEach (e :: es) X.env = (false, eval e X.env) :: starEach es X.env := by rfl) (hpl : (backTo pos (starEach es X.env)).any (·.1) = false := by rfl) :
    PE X (.Call (.Name x p) (e :: es) [] pos) (tCall sp [] E t) := by
  constructor
  intro pins s σ H Q I h
  refine wpAny_Call_Name_kw (ld_glob I hg hm ?_ hdb)
  refine PySem.W.callWith_K (h₀ := X.base) I.ok.mod.kin hk (thn (ha.run pos pins s σ H _ I h) fun us s1 hh => ?_) he hpl
  obtain ⟨vs, H1, I1, r, q⟩ := hh
  rw [List.append_nil] at q
  exact ⟨I1.kIn, run_G F g hr hb hx I1 r q⟩
end
/-! ### repr -/
def aRepr (K : PySem.W.Frag) : RC := fun xs H Q => ∃ a d, xs = [.ref a] ∧ Dp K H (.ref a) d ∧ d.showable = true ∧ d.hasDict = false ∧ d.depth ≤ 60 ∧ d.shown.length ≤ sizeLine ∧ Q (.str d.shown) H
theorem c_repr {X : Cx} (g : NoG X.A) (hu : X.A.units + 64 < cLine) : CallR X (.builtin "repr") (aRepr X.K) := by
  intro pins s σ H xs us Q I r h
  obtain ⟨a, d, rfl, hd, sh, nd, dp, sz, q⟩ := h
  cases r with
  | cons rx rr =>
    cases rr
    cases rx
    obtain ⟨as, rd⟩ := Dp.reads I d (.ref a) (.ref a) hd rfl
    refine repr_of_reads' rd sh (fun z => ?_) g (by omega) (fun _ _ z => z) (fun h' u tk hk => ?_) sz
    · rw [nd] at z
      cases z
    · exact ⟨.str d.shown, H, I.kept (t' := tk) hk, ⟨u, rfl⟩, q⟩
end Z
end

section
namespace Z
open PySem PySem.Spec PyProof.Rows L2
open PySem.W (Frag findIn isFn selfFirst subIn InstAt Looks clsIn)
theorem lk_int_add : typeLookup (.type "int") "__add__" = pure (some (.builtin "int.__add__")) := by rw [typeLookup_type, builtinLookup_eq_fast]; kernel_rfl
theorem lk_int_radd : typeLookup (.type "int") "__radd__" = pure (some (.builtin "int.__radd__")) := by rw [typeLookup_type, builtinLookup_eq_fast]; kernel_rfl
theorem lk_int_sub : typeLookup (.type "int") "__sub__" = pure (some (.builtin "int.__sub__")) := by rw [typeLookup_type, builtinLookup_eq_fast]; kernel_rfl
theorem lk_int_rsub : typeLookup (.type "int") "__rsub__" = pure (some (.builtin "int.__rsub__")) := by rw [typeLookup_type, builtinLookup_eq_fast]; kernel_rfl
theorem lk_int_radd' : typeLookup (.type "int") (dunderR "add") = pure (some (.builtin "int.__radd__")) := by rw [typeLookup_type, builtinLookup_eq_fast]; kernel_rfl
theorem lk_int_rsub' : typeLookup (.type "int") (dunderR "sub") = pure (some (.builtin "int.__rsub__")) := by rw [typeLookup_type, builtinLookup_eq_fast]; kernel_rfl
theorem lk_obj_iadd : typeLookup (.type "object") (dunderI "add") = pure none := by rw [typeLookup_type, builtinLookup_eq_fast]; kernel_rfl
theorem fills_int_add : fillsNumberSlot (.type "int") "add" = pure true := by
  unfold fillsNumberSlot
  simp only [show PySem.dunder "add" = ("__add__" : Str) from by rfl, show dunderR "add" = ("__radd__" : Str) from by rfl, lk_int_add, lk_int_radd]
  rfl
theorem ty_int {M : Model} {h : Heap} {n : Int} {t : Tok} : Looks M h (typeOf (.int n t)) (.type "int") := fun _ _ _ _ _ q => wpAny_pure q
theorem fills_int_sub : fillsNumberSlot (.type "int") "sub" = pure true := by
  unfold fillsNumberSlot
  simp only [show PySem.dunder "sub" = ("__sub__" : Str) from by rfl, show dunderR "sub" = ("__rsub__" : Str) from by rfl, lk_int_sub, lk_int_rsub]
  rfl
section
variable {prog : Program} {w : World} {A : Around} {E : Value → Shared → Prop} {s : Shared} {K : Frag} {x C f : Addr} {ox : Obj} {od : Option Obj} {n : Int} {t : Tok} {Q : Value → Shared → Prop}
theorem mro_first {K : Frag} {C : Addr} (hc : selfFirst K C = true) : ∃ cd rest, clsIn K C = some cd ∧ cd.mro = .ref C :: rest := by
  obtain ⟨cd, hcd, hm⟩ := PySem.W.any_some hc
  cases q : cd.mro with
  | nil => rw [q] at hm; cases hm
  | cons a r => rw [q] at hm; exact ⟨cd, r, hcd, by rw [q]; rw [List.head?_cons] at hm; cases (beq_iff_eq.mp hm); rfl⟩
/-- ref + n, ref - n by an own method -/
theorem binop1_ref {nm : String} {ro : Option Value} {rb : Value} {Q : Option Value → Shared → Prop} (X : K.In s.heap) (I : InstAt s.heap x ox C od) (hc : selfFirst K C = true) (hs : findIn K (.ref C) (PySem.dunder nm) = some (some (.ref f))) (hf : isFn K (.ref f) = true)
    (hr : findIn K (.ref C) (dunderR nm) = some ro) (hro : ro = none ∨ ∃ g, ro = some (.ref g)) (fi : fillsNumberSlot (.type "int") nm = pure true) (li : typeLookup (.type "int") (dunderR nm) = pure (some rb)) (hsub : subIn K (.type "int") (.ref C) = some false)
    (h : wpAny (model prog w) A (call (.ref f) [.ref x, .int n t]) (PySem.W.CmpBack fun v => Q (some v)) E s) : wpAny (model prog w) A (binaryOp1 nm (.ref x) (.int n t)) Q E s := by
  obtain ⟨cd, rest, hcd, hm⟩ := mro_first hc
  unfold binaryOp1
  refine wpAny_bind (I.type.here (wpAny_bind (ty_int.here (wpAny_bind ((PySem.W.fills_K X hcd hm hs).here ?_)))))
  rw [if_neg (show ¬ ((Value.ref C == Value.type "int") = true) from by simp), fi]
  refine wpAny_bind (wpAny_pure ?_)
  dsimp only
  rw [if_pos (show (true && true) = true from rfl)]
  refine wpAny_bind ((PySem.W.looks_subIn X hsub).here ?_)
  rw [if_neg Bool.false_ne_true, if_neg Bool.false_ne_true, if_pos (show (true && true && !false) = true from rfl)]
  have slot : ∀ {Q' : Bool → Shared → Prop}, Q' true s → wpAny (model prog w) A (numberSlotInPython (.ref C) nm) Q' E s := fun {Q'} q => by
    unfold numberSlotInPython
    refine wpAny_bind ((PySem.W.looks_findIn X hs).here (wpAny_bind (wpAny_pure (wpAny_bind ((PySem.W.looks_findIn X hr).here ?_)))))
    rcases hro with e | ⟨g, e⟩
    · subst e
      exact wpAny_bind (wpAny_pure (wpAny_pure q))
    · subst e
      exact wpAny_bind (wpAny_pure (wpAny_pure q))
  refine wpAny_bind (slot ?_)
  rw [if_pos rfl]
  refine wpAny_bind (m := numberSlotInPython (.type "int") nm) (wpAny_pure ?_)
  rw [if_pos (show (!false) = true from rfl), li]
  refine wpAny_bind (wpAny_pure ?_)
  rw [if_pos rfl]
  refine wpAny_bind (m := tryMethod (.ref x) _ _) ?_
  unfold tryMethod
  refine wpAny_bind (PySem.W.special_fn X I hs (beq_iff_eq.mp hf) (wpAny_mono h (fun v s' hv => ?_) fun _ _ e => e))
  cases v <;> first | exact hv.elim | exact wpAny_pure (wpAny_pure hv)
/-- n + ref, n - ref by an own reflected method -/
theorem binop1_int {nm : String} {Q : Option Value → Shared → Prop} (X : K.In s.heap) (I : InstAt s.heap x ox C od) (hc : selfFirst K C = true) (hs0 : ∃ g, findIn K (.ref C) (PySem.dunder nm) = some (some (.ref g))) (hs : findIn K (.ref C) (dunderR nm) = some (some (.ref f))) (hf : isFn K (.ref f) = true)
    (fi : fillsNumberSlot (.type "int") nm = pure true) (hsub : subIn K (.ref C) (.type "int") = some false)
    (hl : ∀ Q' : Option Value → Shared → Prop, Q' none s → wpAny (model prog w) A (tryMethod (.int n t) (PySem.dunder nm) (.ref x)) Q' E s)
    (h : wpAny (model prog w) A (call (.ref f) [.ref x, .int n t]) (PySem.W.CmpBack fun v => Q (some v)) E s) : wpAny (model prog w) A (binaryOp1 nm (.int n t) (.ref x)) Q E s := by
  obtain ⟨cd, rest, hcd, hm⟩ := mro_first hc
  obtain ⟨g, hs0⟩ := hs0
  unfold binaryOp1
  refine wpAny_bind (ty_int.here (wpAny_bind (I.type.here ?_)))
  rw [fi]
  refine wpAny_bind (wpAny_pure ?_)
  rw [if_neg (show ¬ ((Value.type "int" == Value.ref C) = true) from by simp)]
  refine wpAny_bind ((PySem.W.fills_K X hcd hm hs0).here ?_)
  dsimp only
  rw [if_pos (show (true && true) = true from rfl)]
  refine wpAny_bind ((PySem.W.looks_subIn X hsub).here ?_)
  rw [if_neg Bool.false_ne_true, if_neg Bool.false_ne_true, if_pos (show (true && true && !false) = true from rfl)]
  refine wpAny_bind (m := numberSlotInPython (.type "int") nm) (wpAny_pure ?_)
  rw [if_neg Bool.false_ne_true, if_pos rfl]
  refine wpAny_bind (hl _ ?_)
  dsimp only
  rw [if_neg Bool.false_ne_true, if_pos (show (true && !false) = true from rfl)]
  refine wpAny_bind (m := tryMethod (.ref x) _ _) ?_
  unfold tryMethod
  refine wpAny_bind (PySem.W.special_fn X I hs (beq_iff_eq.mp hf) (wpAny_mono h (fun v s' hv => ?_) fun _ _ e => e))
  cases v <;> first | exact hv.elim | exact wpAny_pure (wpAny_bind (wpAny_rule (wpAny_pure hv)))
theorem binop_of {op : Operator} {a b : Value} (h : wpAny (model prog w) A (binaryOp1 op.info.2 a b) (fun o s' => ∃ v, o = some v ∧ Q v s') E s) : wpAny (model prog w) A (binaryOp op a b) Q E s := by
  unfold binaryOp
  refine wpAny_holding (wpAny_bind (wpAny_mono h (fun o s' z => ?_) fun _ _ e => e))
  obtain ⟨v, rfl, q⟩ := z
  exact wpAny_pure q
/-- ref += n, no own __iadd__ -/
theorem inplace_of {a : Value} (X : K.In s.heap) (I : InstAt s.heap x ox C od) (hm : ∃ cd, clsIn K C = some cd ∧ cd.mro = [.ref C, .type "object"]) (hi : findIn K (.ref C) (dunderI "add") = some none)
    (h : wpAny (model prog w) A (binaryOp1 "add" (.ref x) a) (fun o s' => ∃ v, o = some v ∧ Q v s') E s) : wpAny (model prog w) A (inplaceOp .Add (.ref x) a) Q E s := by
  obtain ⟨cd, hcd, hm⟩ := hm
  unfold inplaceOp
  refine wpAny_holding (wpAny_bind (I.type.here ?_))
  have slot : ∀ {Q' : Bool → Shared → Prop}, Q' false s → wpAny (model prog w) A (fillsInplaceSlot (.ref C) "add" true) Q' E s := fun {Q'} q => by
    unfold fillsInplaceSlot
    refine wpAny_bind ((PySem.W.looks_clsIn X hcd).andThen (f := fun cd => pure cd.mro) .now A _ E s (fun _ _ z => z) ?_)
    rw [hm, List.anyM_cons]
    refine wpAny_bind (wpAny_bind ((PySem.W.looks_findIn X hi).here (wpAny_pure ?_)))
    rw [if_neg Bool.false_ne_true, List.anyM_cons]
    refine wpAny_bind (wpAny_bind ?_)
    rw [lk_obj_iadd]
    refine wpAny_pure (wpAny_pure ?_)
    rw [if_neg Bool.false_ne_true, List.anyM_nil]
    exact wpAny_pure q
  refine wpAny_bind (slot ?_)
  rw [if_neg Bool.false_ne_true]
  refine wpAny_bind (wpAny_mono h (fun o s' z => ?_) fun _ _ e => e)
  obtain ⟨v, rfl, q⟩ := z
  exact wpAny_pure q
/-- int.__add__(n, ref) declines -/
theorem decl_add {nm : Str} (e : nm = PySem.dunder "add") {Q' : Option Value → Shared → Prop} (hx : s.heap.get? x = some ox) (hp : ox.data = .plain) (q : Q' none s) : wpAny (model prog w) A (tryMethod (.int n t) nm (.ref x)) Q' E s := by
  have sl : Slot "int" nm "int.__add__" := by rw [e]; exact F.slot_int_add
  refine wpAny_tryMethod_declines (typeIs_int s n t) sl (GQ.call_here sl (typeIs_int s n t) F.entry_int_add (F.args_int_add_2 _ _) ?_)
  unfold Builtin.«int.__add__» Builtin.Int.intBinary
  have e1 : slotArgs "__add__" 1 ⟨[.int n t, .ref x], []⟩ = pure (.int n t, [.ref x]) := by
    unfold slotArgs
    rw [if_neg (show ¬ ((!([] : List (Str × Value)).isEmpty) = true) from Bool.false_ne_true)]
    dsimp only
    rw [if_neg (show ¬ (([Value.ref x].length != 1) = true) from Bool.false_ne_true)]
  have e2 : Builtin.Int.intOfSelf (.int n t) = pure n := rfl
  rw [e1]
  refine wpAny_bind (wpAny_pure ?_)
  dsimp only
  rw [e2]
  refine wpAny_bind (wpAny_pure (wpAny_bind ?_))
  dsimp only [List.headD]
  unfold asInt?
  refine wpAny_bind (wpAny_load hx ?_)
  rw [hp]
  refine wpAny_pure ?_
  exact wpAny_bind (wpAny_rule (wpAny_pure ⟨rfl, q⟩))
end
end Z
end

section
namespace Z
open PySem PySem.Spec PyProof.Rows L2
/-! ### operators of an own class, as rules -/
/-- what of the text the class must have for op -/
structure OwnOp (K : PySem.W.Frag) (C f : Addr) (nm : String) : Prop where
  sf : PySem.W.selfFirst K C = true
  at_ : PySem.W.findIn K (.ref C) (PySem.dunder nm) = some (some (.ref f))
  fn : PySem.W.isFn K (.ref f) = true
  rr : ∃ ro, PySem.W.findIn K (.ref C) (dunderR nm) = some ro ∧ (ro = none ∨ ∃ g, ro = some (.ref g))
  sub : PySem.W.subIn K (.type "int") (.ref C) = some false
structure OwnR (K : PySem.W.Frag) (C f : Addr) (nm : String) : Prop where
  sf : PySem.W.selfFirst K C = true
  at0 : ∃ g, PySem.W.findIn K (.ref C) (PySem.dunder nm) = some (some (.ref g))
  at_ : PySem.W.findIn K (.ref C) (dunderR nm) = some (some (.ref f))
  fn : PySem.W.isFn K (.ref f) = true
  sub : PySem.W.subIn K (.ref C) (.type "int") = some false
structure OwnU (K : PySem.W.Frag) (C f : Addr) (nm : Str) : Prop where
  at_ : PySem.W.findIn K (.ref C) nm = some (some (.ref f))
  fn : PySem.W.isFn K (.ref f) = true
theorem back_of {Q : Value → Shared → Prop} {u : Value} {s' : Shared} {v : V} (r : RelV v u) (q : Q u s') : PySem.W.CmpBack Q u s' := by
  cases v with
  | non => cases (show u = Value.none from r); exact q
  | bl b => cases (show u = Value.bool b from r); exact q
  | int i => obtain ⟨t, e⟩ := (show ∃ t, u = Value.int i t from r); cases e; exact q
  | str z => obtain ⟨t, e⟩ := (show ∃ t, u = Value.str z t from r); cases e; exact q
  | byt z => obtain ⟨t, e⟩ := (show ∃ t, u = Value.bytes z t from r); cases e; exact q
  | flt z => obtain ⟨t, e⟩ := (show ∃ t, u = Value.float z t from r); cases e; exact q
  | ref a => cases (show u = Value.ref a from r); exact q
  | ty n => cases (show u = Value.type n from r); exact q
section
variable {X : Cx} {CX : CXT} {k : Nat} {f C : Addr} {fd : FuncData} {ps : List Str} {sp : Sp} {E : XK}
theorem inst_of {pins : List (Addr × Obj)} {σ : L2.St} {H : Hp} {s : Shared} {a dx : Addr} {fs : List (Str × V)} (I : Inv X pins σ H s) (h : H a = some (.ins C dx fs)) : ∃ od, PySem.W.InstAt s.heap a (PySem.W.instObj C dx) C od := by
  obtain ⟨mA, J, _⟩ := ins_get I.hok h
  obtain ⟨od, J', _⟩ := J.look
  exact ⟨_, J'⟩
def aOwnL (C : Addr) (sp : Sp) (E : XK) : R2 := fun x y H Q => ∃ a dx fs n, x = .ref a ∧ y = .int n ∧ H a = some (.ins C dx fs) ∧ sp [.ref a, .int n] H Q E
def aOwnR (C : Addr) (sp : Sp) (E : XK) : R2 := fun x y H Q => ∃ a dx fs n, x = .int n ∧ y = .ref a ∧ H a = some (.ins C dx fs) ∧ sp [.ref a, .int n] H Q E
def aOwnU (C : Addr) (sp : Sp) (E : XK) : V → Hp → VK → Prop := fun x H Q => ∃ a dx fs, x = .ref a ∧ H a = some (.ins C dx fs) ∧ sp [.ref a] H Q E
theorem own1L {nm : String} {rb : Value} (O : OwnOp X.K C f nm) (F : FnOk X.prog X.w X.K X.mg X.base CX k f fd ps sp) (hr : Room k X.A) (hb : Binds X.K fd ps []) (hx : Passes CX X E) (fi : fillsNumberSlot (.type "int") nm = pure true) (li : typeLookup (.type "int") (dunderR nm) = pure (some rb))
    {pins : List (Addr × Obj)} {σ : L2.St} {H : Hp} {s : Shared} {a dx : Addr} {fs : List (Str × V)} {n : Int} {t : Tok} {Q : VK} (I : Inv X pins σ H s) (ha : H a = some (.ins C dx fs)) (h : sp [.ref a, .int n] H Q E) :
    wpAny (model X.prog X.w) X.A (binaryOp1 nm (.ref a) (.int n t)) (fun o s' => ∃ v, o = some v ∧ EP X pins σ Q v s') X.xe s := by
  obtain ⟨od, J⟩ := inst_of I ha
  obtain ⟨ro, e1, e2⟩ := O.rr
  refine binop1_ref I.kIn J O.sf O.at_ O.fn e1 e2 fi li O.sub ?_
  refine wpAny_mono (run_fn (dvs := []) (ds := []) (us := [.ref a, .int n t]) (vs := [.ref a, .int n]) F hr hb .nil hx I (.cons rfl (.cons ⟨t, rfl⟩ .nil)) h) (fun u s' q => ?_) fun _ _ z => z
  obtain ⟨v, H', I', r, q⟩ := q
  exact back_of r ⟨u, rfl, v, H', I', r, q⟩
theorem o_ownAdd (O : OwnOp X.K C f "add") (F : FnOk X.prog X.w X.K X.mg X.base CX k f fd ps sp) (hr : Room k X.A) (hb : Binds X.K fd ps []) (hx : Passes CX X E) : OpR X (binaryOp .Add) (aOwnL C sp E) := by
  intro pins s σ H x y v u Q I rx ry h
  obtain ⟨a, dx, fs, n, rfl, rfl, ha, h⟩ := h
  cases rx
  obtain ⟨t, rfl⟩ := ry
  exact binop_of (own1L O F hr hb hx fills_int_add lk_int_radd' I ha h)
theorem o_ownSub (O : OwnOp X.K C f "sub") (F : FnOk X.prog X.w X.K X.mg X.base CX k f fd ps sp) (hr : Room k X.A) (hb : Binds X.K fd ps []) (hx : Passes CX X E) : OpR X (binaryOp .Sub) (aOwnL C sp E) := by
  intro pins s σ H x y v u Q I rx ry h
  obtain ⟨a, dx, fs, n, rfl, rfl, ha, h⟩ := h
  cases rx
  obtain ⟨t, rfl⟩ := ry
  exact binop_of (own1L O F hr hb hx fills_int_sub lk_int_rsub' I ha h)
theorem o_ownRadd (O : OwnR X.K C f "add") (F : FnOk X.prog X.w X.K X.mg X.base CX k f fd ps sp) (hr : Room k X.A) (hb : Binds X.K fd ps []) (hx : Passes CX X E) : OpR X (binaryOp .Add) (aOwnR C sp E) := by
  intro pins s σ H x y v u Q I rx ry h
  obtain ⟨a, dx, fs, n, rfl, rfl, ha, h⟩ := h
  obtain ⟨t, rfl⟩ := rx
  cases ry
  obtain ⟨od, J⟩ := inst_of I ha
  refine binop_of (op := .Add) (binop1_int I.kIn J O.sf O.at0 O.at_ O.fn fills_int_add O.sub (fun Q' q => decl_add rfl J.at_ rfl q) ?_)
  refine wpAny_mono (run_fn (dvs := []) (ds := []) (us := [.ref a, .int n t]) (vs := [.ref a, .int n]) F hr hb .nil hx I (.cons rfl (.cons ⟨t, rfl⟩ .nil)) h) (fun u s' q => ?_) fun _ _ z => z
  obtain ⟨v, H', I', r, q⟩ := q
  exact back_of r ⟨u, rfl, v, H', I', r, q⟩
/-- x += n by an own __add__ -/
theorem ip_ownAdd (O : OwnOp X.K C f "add") (hm : ∃ cd, PySem.W.clsIn X.K C = some cd ∧ cd.mro = [.ref C, .type "object"]) (hi : PySem.W.findIn X.K (.ref C) (dunderI "add") = some none) (F : FnOk X.prog X.w X.K X.mg X.base CX k f fd ps sp) (hr : Room k X.A) (hb : Binds X.K fd ps []) (hx : Passes CX X E) : PIp X .Add (aOwnL C sp E) := by
  intro pins s σ H x y v u Q I rx ry h
  obtain ⟨a, dx, fs, n, rfl, rfl, ha, h⟩ := h
  cases rx
  obtain ⟨t, rfl⟩ := ry
  obtain ⟨od, J⟩ := inst_of I ha
  exact inplace_of I.kIn J hm hi (own1L O F hr hb hx fills_int_add lk_int_radd' I ha h)
theorem special_run {nm : Str} (O : OwnU X.K C f nm) (F : FnOk X.prog X.w X.K X.mg X.base CX k f fd ps sp) {A : Around} (hA : ∀ {t : Sem Value} {Q : Value → Shared → Prop} {s : Shared}, wpAny (model X.prog X.w) X.A t Q X.xe s → wpAny (model X.prog X.w) A t Q X.xe s) (hr : Room k X.A) (hb : Binds X.K fd ps []) (hx : Passes CX X E)
    {pins : List (Addr × Obj)} {σ : L2.St} {H : Hp} {s : Shared} {a dx : Addr} {fs : List (Str × V)} {Q : VK} (I : Inv X pins σ H s) (ha : H a = some (.ins C dx fs)) (h : sp [.ref a] H Q E) :
    wpAny (model X.prog X.w) A (callSpecial? (.ref a) nm []) (fun o s' => ∃ v, o = some v ∧ EP X pins σ Q v s') X.xe s := by
  obtain ⟨od, J⟩ := inst_of I ha
  refine PySem.W.special_fn I.kIn J O.at_ (beq_iff_eq.mp O.fn) (hA ?_)
  exact wpAny_mono (run_fn (dvs := []) (ds := []) (us := [.ref a]) (vs := [.ref a]) F hr hb .nil hx I (.cons rfl .nil) h) (fun u s' q => ⟨u, rfl, q⟩) fun _ _ z => z
theorem u_ownNeg (O : OwnU X.K C f "__neg__") (F : FnOk X.prog X.w X.K X.mg X.base CX k f fd ps sp) (hr : Room k X.A) (hb : Binds X.K fd ps []) (hx : Passes CX X E) : UnR X (unaryOp .USub) (aOwnU C sp E) := by
  intro pins s σ H x v Q I rx h
  obtain ⟨a, dx, fs, rfl, ha, h⟩ := h
  cases rx
  unfold unaryOp
  refine wpAny_holding ?_
  dsimp only
  rw [if_neg (show ¬ ((UnaryOp.USub == UnaryOp.Not) = true) from by decide)]
  refine wpAny_bind (wpAny_mono (special_run O F (fun z => z) hr hb hx I ha h) (fun o s' z => ?_) fun _ _ z => z)
  obtain ⟨v, rfl, q⟩ := z
  exact wpAny_pure q
theorem run_in1 {pins : List (Addr × Obj)} {σ : L2.St} {H : Hp} {s : Shared} {Q : VK} {us : List Value} {vs : List V} (F : FnOk X.prog X.w X.K X.mg X.base CX k f fd ps sp) (hr : Room (k + 1) X.A) (hb : Binds X.K fd ps []) (hx : Passes CX X E)
    (I : Inv X pins σ H s) (r : Vals vs us) (h : sp vs H Q E) : wpAny (model X.prog X.w) X.A.in1 (call (.ref f) us) (EP X pins σ Q) X.xe s := by
  have hl : us.length = ps.length := r.length.symm.trans (F.len _ _ _ _ h)
  have hb' : BindsTo s fd ⟨us, []⟩ (ps.zip us) := by
    have q := hb s us I.kIn (by rw [List.append_nil]; exact hl)
    rwa [List.append_nil] at q
  refine wpAny_call (codeAny_mono (F.run X.A.in1 X.stack s H ⟨us, []⟩ us vs Q E hr.in1 I.env0.in1 hb' r h) fun res s' hq => ?_)
  match res, hq with
  | .error er, hq => exact hx pins σ H s er s' I hq
  | .ok (.ret u), hq => exact I.after hq
  | .ok .next, hq => exact hq.elim
  | .ok .brk, hq => exact hq.elim
  | .ok .cont, hq => exact hq.elim
/-- abs(x), x of an own class -/
def aAbsO (C : Addr) (sp : Sp) (E : XK) : RC := fun xs H Q => ∃ a dx fs, xs = [.ref a] ∧ H a = some (.ins C dx fs) ∧ sp [.ref a] H Q E
theorem c_absO (O : OwnU X.K C f "__abs__") (F : FnOk X.prog X.w X.K X.mg X.base CX k f fd ps sp) (hr : Room (k + 1) X.A) (hb : Binds X.K fd ps []) (hx : Passes CX X E) : CallR X (.builtin "abs") (aAbsO C sp E) := by
  intro pins s σ H xs us Q I r h
  obtain ⟨a, dx, fs, rfl, ha, h⟩ := h
  obtain ⟨u, rfl, rx⟩ := vals1 r
  cases rx
  obtain ⟨od, J⟩ := inst_of I ha
  refine Calls.call_function_entry kind_abs plain_abs entry_abs (args_abs _) ?_
  unfold Builtin.«abs»
  refine wpAny_bind (m := oneArg "abs" _) (wpAny_pure ?_)
  refine wpAny_bind (m := callSpecial? (.ref a) (Str.ofString "__abs__")) (PySem.W.special_fn I.kIn J O.at_ (beq_iff_eq.mp O.fn) (wpAny_mono (run_in1 (us := [.ref a]) (vs := [.ref a]) F hr hb hx I (.cons rfl .nil) h) (fun u s' q => ?_) fun _ _ z => z))
  exact wpAny_pure ⟨u, rfl, q⟩
end
end Z
end

section
namespace Z
open PySem PySem.Spec PyProof.Rows L2
/-! ### o.m(k = v): one keyword, one parameter behind self -/
def tMethK1 (C : Addr) (m : Str) (sp : Sp) (E : XK) (ta tb : TE) : TE := fun σ H Q => ta σ H fun x H1 => ∃ a dx fs, x = .ref a ∧ H1 a = some (.ins C dx fs) ∧ fs.lookup m = none ∧ tb σ H1 fun x H2 => ∃ v, [x] = [v] ∧ sp [.ref a, v] H2 Q E
instance {x : V} {R : V → Prop} : Stp (∃ v, [x] = [v] ∧ R v) (R x) := ⟨fun q => ⟨x, rfl, q⟩⟩
section
variable {X : Cx} {CX : CXT} {k : Nat} {f C : Addr} {fd : FuncData} {p1 p2 : Str} {sp : Sp} {E : XK} {m : Str} {pos apos kpos : Pos} {e o : Expr} {ta te : TE}
theorem pe_methK1 {pl : Sem Bool} (he : PE X o ta) (c : Cls X.K C) (hm : Meth X.K C m f) (F : FnOk X.prog X.w X.K X.mg X.base CX k f fd [p1, p2] sp) (hr : Room k X.A)
    (hb : ∀ (s : Shared) (u v : Value), X.K.In s.heap → BindsTo s fd ⟨[u], [(p2, v)]⟩ [(p1, u), (p2, v)]) (hx : Passes CX X E) (hv : PE X e te)
    (hall : (backToKw pos (keywordEach [⟨some p2, e, kpos⟩] X.env)).all (·.1.isSome) = true := by rfl) (hks : (backToKw pos (keywordEach [⟨some p2, e, kpos⟩] X.env)).filterMap (·.1) = [p2] := by rfl)
    (hpl : ((backTo pos (starEach [] X.env)).any (·.1) || (backToKw pos (keywordEach [⟨some p2, e, kpos⟩] X.env)).any (·.1.isNone)) = false := by rfl)
    (ht : eval (.Call (.Attribute o m apos) [] [⟨some p2, e, kpos⟩] pos) X.env = (do
      let ov ← eval o X.env
      standAt apos.atName
      let (f, first) ← holding [ov] (getMethod ov m pl)
      callWith pos f first (backTo pos (starEach [] X.env)) (backToKw pos (keywordEach [⟨some p2, e, kpos⟩] X.env))) := by rfl) :
    PE X (.Call (.Attribute o m apos) [] [⟨some p2, e, kpos⟩] pos) (tMethK1 C m sp E ta te) := by
  constructor
  intro pins s σ H Q I h
  refine PySem.W.methodCall_KW (pl := pl) (thn (he.run pins s σ H _ I h) fun u s1 hh => ?_) ht
  obtain ⟨x, H1, I1, rx, a, dx, fs, ex, ea, l, q⟩ := hh
  subst ex
  obtain rfl : u = Value.ref a := rx
  refine getmeth_ok I1 ea c hm l ?_
  refine PySem.W.callWith_KW0 (h₀ := X.base) I1.ok.mod.kin hm.kp hall ?_ hpl
  have pk : PK X [⟨some p2, e, kpos⟩] (tCons te tNil) := pk_cons hv pk_nil
  refine thn (pk.run pos pins s1 σ H1 (fun zs H2 => ∃ v, zs = [v] ∧ sp [.ref a, v] H2 Q E) I1 q) fun ws s2 hw => ?_
  obtain ⟨zs, H2, I2, rz, v, rfl, q2⟩ := hw
  refine ⟨I2.kIn, ?_⟩
  rw [hks]
  obtain ⟨u2, rfl, rv⟩ := vals1 rz
  refine wpAny_call (codeAny_mono (F.run X.A X.stack s2 H2 ⟨[.ref a], [(p2, u2)]⟩ [.ref a, u2] [.ref a, v] Q E hr I2.env0 (hb s2 (.ref a) u2 I2.kIn) (.cons rfl (.cons rv .nil)) q2) fun res s' hq => ?_)
  match res, hq with
  | .error er, hq => exact hx pins σ H2 s2 er s' I2 hq
  | .ok (.ret u), hq => exact I2.after hq
  | .ok .next, hq => exact hq.elim
  | .ok .brk, hq => exact hq.elim
  | .ok .cont, hq => exact hq.elim
end
/-! ### exceptions with one field -/
/-- __init__(self, v): self.n = v -/
def spX1 (C : Addr) (n : Str) : Sp := fun vs H Q _ => ∃ (a : Addr) (v : V), vs = [.ref a, v] ∧ H a = some (exo a C none) ∧ ∀ dx, H dx = none → dx ≠ a → Q .non (upd (upd H dx (exd dx [(n, v)])) a (exo a C (some dx)))
/-- X(e): the class, a new dict with the field -/
def tX1 (C : Addr) (n : Str) (te : TE) : L2.St → Hp → XK → Prop := fun σ H Q => te σ H fun x H1 => ∃ v, [x] = [v] ∧ ∀ d, H1 d = none → Q (.ref C) (some d) (upd H1 d (.xd [(n, v)]))
structure XcT (K : PySem.W.Frag) (mg : Str → Option Value) (x : Str) (C fI : Addr) : Prop where
  ox : OexC K C
  iC : PySem.W.findIn K (.ref C) "__init__" = some (some (.ref fI))
  tI : PySem.W.typeIn K (.ref fI) = some (.type "function")
  g : mg x = some (.ref C)
section
variable {X : Cx} {CX : CXT} {k : Nat} {C fI : Addr} {fd : FuncData} {x n q1 q2 : Str} {p pos : Pos} {e : Expr} {te : TE}
theorem upd_back {H : Hp} {a d : Addr} {o1 o2 o3 : HO} {fs : List (Str × V)} (ha : H a = none) (ne : d ≠ a) : upd (del (upd (upd (upd H a o1) d o2) a o3) a) d (.xd fs) = upd H d (.xd fs) := by
  funext b
  by_cases hb : b = d
  · rw [hb, upd_same, upd_same]
  · rw [upd_ne hb, upd_ne hb]
    by_cases hb2 : b = a
    · rw [hb2, del_same, ha]
    · rw [del_ne hb2, upd_ne hb2, upd_ne hb, upd_ne hb2]
def mo (te : TE) : TE := fun σ H Q => ∃ Q0 : VK, te σ H Q0 ∧ ∀ v H', Q0 v H' → Q v H'
theorem moE (he : PE X e te) : PE X e (mo te) := ⟨fun pins s σ H Q I h => by
  obtain ⟨Q0, h0, hq⟩ := h
  refine thn (he.run pins s σ H Q0 I h0) fun u s1 z => ?_
  obtain ⟨v, H', I', r, q⟩ := z
  exact ⟨v, H', I', r, hq v H' q⟩⟩
theorem pmk_x1 (T : XcT X.K X.mg x C fI) (F : FnOk X.prog X.w X.K X.mg X.base (L2.CX X.prog X.w) k fI fd [q1, q2] (spX1 C n)) (hr : Room (k + 1) X.A) (hb : Binds X.K fd [q1, q2] []) (hg : Gl X x) (he : PE X e te)
    (hdb : (x == ("__debug__" : Str)) = false := by decide) (hst : starEach (e :: []) X.env = (false, eval e X.env) :: starEach [] X.env := by rfl) (hpl : (backTo pos (starEach [] X.env)).any (·.1) = false := by rfl) :
    PMk X (.Call (.Name x p) [e] [] pos) (tX1 C n te) := by
  have P := pmk_oex (x := x) (p := p) (pos := pos) (es := []) (dvs := []) (ds := []) T.ox T.iC T.tI F hr hb .nil passL hg T.g (pa_cons (moE he) pa_nil hst) hdb hst hpl
  intro pins s σ H Q I h
  refine P pins s σ H Q I ⟨_, h, fun v H1 hq => ?_⟩
  obtain ⟨v', e1, hq⟩ := hq
  obtain rfl : v = v' := by injection e1
  refine ⟨by show 1 ≤ 1000; omega, fun a ha => ⟨a, v, rfl, upd_same, fun dx hdx ne => ⟨rfl, dx, [(n, v)], upd_same, ?_, ?_, ?_⟩⟩⟩
  · rw [upd_ne ne, upd_same]
  · rw [upd_ne ne] at hdx
    exact hdx
  · rw [upd_ne ne] at hdx
    rw [upd_back ha ne]
    exact hq dx hdx
end
end Z
end

section
namespace Z
open PySem PySem.Spec PyProof.Rows L2 LamX
/-! ### the end of a law whose defs show things (FnG), with tables of code objects -/
section
variable {P : Program} {w : World} {K : PySem.W.Frag} {mg mb : Str → Option Value} {k : Nat} {fa a : Addr} {cs : List (Addr × Addr)} {fd : FuncData} {x : Str} {sp : Sp} {s1 : Shared} {vs : List Value} {ns : List Int}
abbrev scriptO (vs : List Value) : Obj := { cls := .type "list", data := .seq vs.toArray }
abbrev tabO : Obj := { cls := .none, data := .fields #[] }
/-- what is tracked at the law's entry -/
def H0 (K : PySem.W.Frag) (cs : List (Addr × Addr)) (a : Addr) (vs : List Value) (ns : List Int) : Hp := fun b =>
  if b = a ∧ K.lookup a = none then some (.frz (scriptO vs) (.lst (ns.map V.int))) else if b ∈ cs.map (·.2) then some (.tbl #[]) else none
theorem H0_cases {b : Addr} {u : HO} (h : H0 K cs a vs ns b = some u) : (b = a ∧ K.lookup a = none ∧ u = .frz (scriptO vs) (.lst (ns.map V.int))) ∨ (b ∈ cs.map (·.2) ∧ u = .tbl #[]) := by
  unfold H0 at h
  by_cases h1 : b = a ∧ K.lookup a = none
  · rw [if_pos h1] at h
    exact .inl ⟨h1.1, h1.2, (Option.some.inj h).symm⟩
  · rw [if_neg h1] at h
    by_cases h2 : b ∈ cs.map (·.2)
    · rw [if_pos h2] at h
      exact .inr ⟨h2, (Option.some.inj h).symm⟩
    · rw [if_neg h2] at h
      cases h
theorem law_callG (KX : K.In s1.heap) (hns : s1.heap.Ns mainGlobals mg) (hbn : s1.heap.Ns builtinsNs mb) (hbb : ∀ y : Str, y ≠ "__name__" → mb y = bootBuiltins y) (hlim : s1.heap.NoLimit) (hgen : s1.gens = #[])
    (hT : ∀ p ∈ cs, s1.heap.get? p.2 = some tabO) (nT : ∀ p ∈ cs, K.lookup p.2 = none) (hC : ∀ p ∈ cs, PySem.W.CodeHd s1.heap p.1 p.2)
    (hbm : ∃ (bm : Addr) (ob : Obj), mg "__builtins__" = some (.ref bm) ∧ bm ≠ builtinsNs ∧ s1.heap.get? bm = some ob ∧ ob.cls = .type "module" ∧ ob.dict = some builtinsNs ∧ ob.data = .plain)
    (ha : s1.heap.get? a = some (scriptO vs)) (hi : IntsAre vs ns) (hl : ns.length ≤ sizeLine) (hr : Room k callerA)
    (F : ∀ base : Heap, K.In base → base.Ns mainGlobals mg → (∀ p ∈ cs, TabB base mg p.1 p.2) → FnG P w K mg base (L2.CX P w) k fa fd [x] sp) (hbind : ∀ (s : Shared) (u : Value), BindsTo s fd ⟨[u], []⟩ [(x, u)])
    (hsp : ∀ H : Hp, (∀ p ∈ cs, H p.2 = some (.tbl #[])) → SqL K H a (ns.map V.int) → sp [.ref a] H (fun v _ => v = .bl true) fun _ _ _ => False) :
    codeAny (model P w) callerA (.call (.ref fa) ⟨[.ref a], []⟩) (fun r s' => r = .ok (.ret (.bool true)) ∧ OldK s1.heap s'.heap ∧ s'.os = s1.os ∧ AllBare s'.gens) s1 := by
  have rv := vals_ints hi
  have lenV := hi.length
  have isTab : ∀ b, b ∈ cs.map (·.2) → s1.heap.get? b = some tabO := by
    intro b hb
    obtain ⟨p, hp, rfl⟩ := List.mem_map.mp hb
    exact hT p hp
  have aT : ¬ a ∈ cs.map (·.2) := by
    intro mem
    have := congrArg Obj.data (Option.some.inj (ha.symm.trans (isTab a mem)))
    simp at this
  have inTab : ∀ p ∈ cs, p.2 ∈ cs.map (·.2) := fun p hp => List.mem_map.mpr ⟨p, hp, rfl⟩
  have tabH : ∀ p ∈ cs, H0 K cs a vs ns p.2 = some (.tbl #[]) := by
    intro p hp
    unfold H0
    rw [if_neg (show ¬ (p.2 = a ∧ K.lookup a = none) from fun z => aT (z.1 ▸ inTab p hp)), if_pos (inTab p hp)]
  have hok : HOk P w (H0 K cs a vs ns) s1.heap := by
    intro b u hb
    rcases H0_cases hb with ⟨rfl, hk, rfl⟩ | ⟨hm, rfl⟩
    · exact ⟨ha, by rw [List.length_map]; exact hl, vs, _, rv, ha⟩
    · exact isTab b hm
  have hS : SqL K (H0 K cs a vs ns) a (ns.map V.int) := by
    cases hk : K.lookup a with
    | none => exact .inl (.inr ⟨scriptO vs, if_pos ⟨rfl, hk⟩⟩)
    | some o =>
      have e : o = scriptO vs := Option.some.inj ((KX a o hk).symm.trans ha)
      subst e
      exact .inr ⟨_, vs.toArray, _, hk, rfl, rfl, rfl, by rw [List.size_toArray, lenV]; exact hl, by simpa using rv⟩
  -- the ground
  have gnd : ∀ {b : Addr} {o : Obj}, s1.heap.get? b = some o → H0 K cs a vs ns b = none → (hidT s1.heap (H0 K cs a vs ns)).get? b = some o := fun e1 e2 => hidT_get e1 e2
  have out : ∀ {b : Addr} {o : Obj}, s1.heap.get? b = some o → (∀ us m, o.data ≠ .seq us m) → o.data ≠ .fields #[] → H0 K cs a vs ns b = none := by
    intro b o e1 e2 e3
    cases q : H0 K cs a vs ns b with
    | none => rfl
    | some u =>
      rcases H0_cases q with ⟨rfl, _, _⟩ | ⟨hm, _⟩
      · rw [ha] at e1
        cases e1
        exact absurd rfl (e2 _ _)
      · rw [isTab b hm] at e1
        cases e1
        exact absurd rfl e3
  have nsG : ∀ {b : Addr} {m : Str → Option Value}, s1.heap.Ns b m → (hidT s1.heap (H0 K cs a vs ns)).Ns b m := by
    intro b m ⟨o, es, ep, e1, e2, e3⟩
    refine ⟨o, es, ep, gnd e1 (out e1 (fun us m z => ?_) fun z => ?_), e2, e3⟩
    · rw [e2] at z; cases z
    · rw [e2] at z; cases z
  have KG : K.In (hidT s1.heap (H0 K cs a vs ns)) := by
    intro b o hb
    refine gnd (KX b o hb) ?_
    cases q : H0 K cs a vs ns b with
    | none => rfl
    | some u =>
      rcases H0_cases q with ⟨rfl, hk, _⟩ | ⟨hm, _⟩
      · rw [hk] at hb; cases hb
      · obtain ⟨p, hp, rfl⟩ := List.mem_map.mp hm
        rw [nT p hp] at hb; cases hb
  have limG : (hidT s1.heap (H0 K cs a vs ns)).NoLimit := by
    obtain ⟨mc, e1, e2⟩ := hlim
    exact ⟨mc, nsG e1, e2⟩
  have modG : L2.Mod K mg (hidT s1.heap (H0 K cs a vs ns)) := ⟨KG, nsG hns, ⟨mb, nsG hbn, hbb⟩, limG⟩
  have TB : ∀ p ∈ cs, TabB (hidT s1.heap (H0 K cs a vs ns)) mg p.1 p.2 := by
    intro p hp
    refine ⟨?_, ?_, ?_⟩
    · obtain ⟨o, us, file, tf, flags, tg, inF, text, tt, e1, r1, r2, rest⟩ := hC p hp
      refine ⟨o, us, file, tf, flags, tg, inF, text, tt, gnd e1 (out e1 (fun us' m z => ?_) fun z => ?_), r1, r2, rest⟩
      · rw [r2] at z; cases z
      · rw [r2] at z
        cases z
        simp at rest
    · obtain ⟨bm, ob, b1, b2, b3, b4, b5, b6⟩ := hbm
      have nG : bm ≠ mainGlobals := by
        rintro rfl
        obtain ⟨o, es, ep, e1, e2, _⟩ := hns
        rw [b3] at e1
        cases e1
        rw [b6] at e2
        cases e2
      have nP : bm ≠ p.2 := by
        rintro rfl
        rw [hT p hp] at b3
        cases b3
        cases b6
      refine ⟨bm, ob, b1, b2, nG, nP, gnd b3 (out b3 (fun us m z => ?_) fun z => ?_), b4, b5, b6⟩
      · rw [b6] at z; cases z
      · rw [b6] at z; cases z
    · intro z
      obtain ⟨o, es, ep, e1, e2, _⟩ := hns
      rw [z, hT p hp] at e1
      cases e1
      cases e2
  have nil0 : ∀ b, b ∉ frs ([] : List Env) := fun b hb => nomatch (show b ∈ ([] : List Addr) from hb)
  have e0 : Env0 P w K mg (hidT s1.heap (H0 K cs a vs ns)) callerA [] s1 (H0 K cs a vs ns) :=
    ⟨rfl, modG, fun b o q => of_hidT q, Nat.le_of_eq (hidT_size _ _), trivial, fun b hb => absurd hb (nil0 b), hok, .of_eq hgen⟩
  have go := (F _ KG (nsG hns) TB).run callerA [] s1 (H0 K cs a vs ns) ⟨[.ref a], []⟩ [.ref a] [.ref a] _ _ rfl hr e0 (hbind s1 (.ref a)) (.cons rfl .nil) (hsp _ tabH hS)
  refine codeAny_mono go fun r s' h => ?_
  match r, h with
  | .error _, ⟨_, _, _, _, _, _, _, _, _, _, _, _, no⟩ => exact no.elim
  | .ok .next, h => exact h.elim
  | .ok .brk, h => exact h.elim
  | .ok .cont, h => exact h.elim
  | .ok (.ret u), ⟨v, H', os, bare, un, after, rel, is⟩ =>
    -- each object of the head stands, or is a table that has grown
    have stay : ∀ b o, s1.heap.get? b = some o → s'.heap.get? b = some o ∨ ∃ p ∈ cs, b = p.2 ∧ ∃ more : Array Value, s'.heap.get? b = some { cls := .none, data := .fields more } := by
      intro b o g
      cases q0 : H0 K cs a vs ns b with
      | none => exact .inl (un.keep b o g q0 (nil0 b) (by simp))
      | some t =>
        rcases H0_cases q0 with ⟨_, _, kind⟩ | ⟨mem, kind⟩ <;> subst kind
        · have now := (after b _ (un.frzs b _ _ q0)).1
          have was := (hok b _ q0).1
          exact .inl (Option.some.inj (was.symm.trans g) ▸ now)
        · have ⟨p, hp, e⟩ := List.mem_map.mp mem
          have ⟨_, z⟩ := un.tbls b #[] q0
          exact .inr ⟨p, hp, e.symm, _, after b _ z⟩
    subst is
    obtain rfl : u = .bool true := rel
    refine ⟨rfl, ⟨fun b o g => ?_, fun b o g => (stay b o g).elim (fun z => ⟨o, z⟩) fun ⟨_, _, _, _, z⟩ => ⟨_, z⟩⟩, os, bare⟩
    rcases stay b o g with z | ⟨p, hp, rfl, more, z⟩
    · exact .inl z
    · obtain rfl : o = tabO := Option.some.inj (g.symm.trans (hT p hp))
      exact .inr (.inl ⟨((hC p hp).tab (hT p hp)).isCodeTable, rfl, #[], more, rfl, by simpa using z⟩)
end
/-- what is known of the law at the head's heap -/
def LawG (l : PySem.W.OpenLaw) (w : World) (K : PySem.W.Frag) (k n : Nat) (x : Str) (mg : Str → Option Value) (fa : Addr) (h : Heap) : Prop :=
  ∃ (fd : FuncData) (cs : List (Addr × Addr)) (sp : Sp), (∀ p ∈ cs, h.get? p.2 = some tabO) ∧ (∀ p ∈ cs, K.lookup p.2 = none) ∧ (∀ p ∈ cs, PySem.W.CodeHd h p.1 p.2) ∧ (∀ (s : Shared) (u : Value), BindsTo s fd ⟨[u], []⟩ [(x, u)]) ∧
    (∀ (H : Hp) (a : Addr) (ns : List Int), ns.length ≤ n → (∀ p ∈ cs, H p.2 = some (.tbl #[])) → SqL K H a (ns.map V.int) → sp [.ref a] H (fun v _ => v = .bl true) fun _ _ _ => False) ∧
    ∀ base : Heap, K.In base → base.Ns mainGlobals mg → (∀ p ∈ cs, TabB base mg p.1 p.2) → FnG l.prog w K mg base (L2.CX l.prog w) k fa fd [x] sp
theorem walk_G {l : PySem.W.OpenLaw} {n k : Nat} {q : Program} {loose : List Str} {XP : (Str → Option Value) → Heap → Prop} {YP : World → Heap → Prop} {d : DefRec} {K : Params → PySem.W.Frag} {x : Str}
    (hn : l.most = some n) (hn2 : n ≤ sizeLine) (hdf : d.params.defaults = []) (hr : Room k callerA) (hY : ∀ (w : World) (h : Heap), YP w h → (K w.params).In h)
    (F : ∀ (w : World) (mg : Str → Option Value) (fa : Addr) (h : Heap), YP w h → (K w.params).In h → h.Ns mainGlobals mg → mg d.name = some (.ref fa) → LawG l w (K w.params) k n x mg fa h) :
    PySem.W.WalkO q loose XP YP l.row.toRowW d [] (fun f vs => PySem.call f vs) := by
  refine Att.attach_callB hn hdf fun w s0 s1 mg mb fa o pm cd doc a vs ns G Y ho hd hcd hmg hobj hints hlen hbits hg => ?_
  have KX := hY w _ Y
  obtain ⟨fd, cs, sp, h1, h2, h3, h4, h5, h6⟩ := F w mg fa _ Y KX G.T.g hmg
  exact law_callG KX G.T.g G.T.b G.T.builtins G.T.nolimit hg h1 h2 h3 G.T.bmain hobj hints (Nat.le_trans hlen hn2) hr h6 h4 fun H t1 t2 => h5 H a ns hlen t1 t2
end Z
end

section
namespace Z
open PySem PySem.Spec PyProof.Rows L2 LamX
/-! ### all but the tables stay -/
class Xn (H : outParam Hp) (H' : Hp) : Prop where h : ExtN H H'
section
variable {H H' : Hp} {p : Addr}
instance (priority := low) At.xnL {xs : List V} [s : Xn H H'] [a : At H p (.lst xs)] : At H' p (.lst xs) := ⟨s.h _ _ a.h (fun _ z => by cases z)⟩
instance (priority := low) At.xnT {xs : List V} [s : Xn H H'] [a : At H p (.tup xs)] : At H' p (.tup xs) := ⟨s.h _ _ a.h (fun _ z => by cases z)⟩
instance (priority := low) At.xnI {C dx : Addr} {fs : List (Str × V)} [s : Xn H H'] [a : At H p (.ins C dx fs)] : At H' p (.ins C dx fs) := ⟨s.h _ _ a.h (fun _ z => by cases z)⟩
instance (priority := low) At.xnX {fs : List (Str × V)} [s : Xn H H'] [a : At H p (.xd fs)] : At H' p (.xd fs) := ⟨s.h _ _ a.h (fun _ z => by cases z)⟩
instance (priority := low) At.xnD {kvs : List (Key × V)} [s : Xn H H'] [a : At H p (.dK kvs)] : At H' p (.dK kvs) := ⟨s.h _ _ a.h (fun _ z => by cases z)⟩
end
theorem Tabs.same {T : List (Addr × Str)} {H H' : Hp} (t : Tabs T H) (e : Same H H') : Tabs T H' := t.ext e
theorem Tabs.extP {T : List (Addr × Str)} {H H' : Hp} {p : Addr} {xs : List V} (t : Tabs T H) (e : ExtP p H H') (hp : H p = some (.lst xs)) : Tabs T H' := by
  intro q hq
  obtain ⟨ps, h1, h2, h3⟩ := t q hq
  have ne : ∀ b o, H b = some o → (∀ ys, o ≠ .lst ys) → b ≠ p := fun b o g n z => by
    rw [z, hp] at g
    exact n xs (Option.some.inj g).symm
  refine ⟨ps, e _ _ (ne _ _ h1 (fun _ z => by cases z)) h1, h2, fun pos cv hc => ?_⟩
  obtain ⟨c, e1, e2⟩ := h3 pos cv hc
  refine ⟨c, e1, e _ _ (ne _ _ e2 (fun _ z => ?_)) e2⟩
  unfold CodeO at z
  cases z
/-! ### x(lambda: body) by what stands of x -/
section
variable {X : Cx}
theorem pe_lam {T : List (Addr × Str)} {TT : (XK → Hp → VK → Prop) → Hp → VK → Prop} {x a : Str} {g c P : Addr} {k : Nat} {st : Stmt} {fd : FuncData} {Ng : List Str} {params : Arguments} {body : Expr} {scope : Scope} {t : XK → TE} {p lpos pos : Pos}
    (hg : Gl X x) (hm : X.mg x = some (.ref g)) (F : Fun X.K x x st g fd) (hb : L2.Binds X.K fd [a] []) (Sg : FnScope Ng [a] (defScope st)) (hNg : Ng[0]? = some a) (hva : Vis (defScope st) a)
    (hG : ∀ cdv, GivesTo X Ng x (defScope st) g cdv (defBody st) a (X.env.qual ++ "<lambda>") TT) (TB : TabB X.base X.mg c P) (hcode : X.env.code = .ref c) (hmT : (P, X.env.qual ++ "<lambda>") ∈ T) (hu : ∀ p ∈ T, p.1 = P → p.2 = X.env.qual ++ "<lambda>")
    (hr : Room (k + 2) X.A) (L : LamS X.env.scope scope) (hdef : defaultsOf params X.env = ([], [])) (hbind : ∀ (q : Str) (cl : List (Str × Addr)) (pm cv ctv : Value), bindArgs (PySem.W.kla_fn "<lambda>" q params body scope cl pm cv ctv) ⟨[], []⟩ = pure [])
    (hbody : ∀ (A : Around) (outer : List Env) (s : Shared) (H : Hp) (E : XK) (f c' : Addr), Room k (A.deeper (lamEnv X scope s.heap.objs.size f c')) → PE (lamCx X A outer s H E scope f c') body (t E))
    (hdb : (x == ("__debug__" : Str)) = false := by decide) (hd : (a == ("__debug__" : Str)) = false := by decide) (hcd : (a == ("__classdict__" : Str)) = false := by decide) :
    PE X (.Call (.Name x p) [.Lambda params body scope lpos] [] pos) (tLam T TT t) := by
  obtain ⟨oc, od, kV, doc, pm, an, cdv, ct, osl, rfl, lk, hc⟩ := F.ex
  exact pe_lamcall hg hm F.kp lk hc hb Sg hNg hva (hG cdv) TB hcode hmT hu hr L hdef hbind hbody hdb hd hcd
end
/-! ### a def that makes lambdas: its code object is known -/
theorem okGc {P : Program} {w : World} {K : PySem.W.Frag} {mg : Str → Option Value} {base : Heap} {x qual : Str} {st : Stmt} {f : Addr} {fd : FuncData} {N ps : List Str} {k : Nat} {sp : Sp} (F : Fun K x qual st f fd) (S : FnScope N ps (defScope st)) (len : ∀ vs H Q E, sp vs H Q E → vs.length = ps.length)
    (hbody : ∀ (cdv : Value) (A : Around) (outer : List Env) (s : Shared) (H : Hp) (vs : List V) (Q : VK) (E : XK), fd.code = cdv → NoG A → Room k (A.deeper (envOfC qual (defScope st) s.heap.objs.size f cdv)) → sp vs H Q E →
      ∃ t, PSs (cxOf (L2.CX P w) P w K mg base N qual (defScope st) f cdv A outer s H E) (defBody st) t ∧ t { nx := fun _ H' => Q .non H', rt := Q } (start N vs) H) : FnG P w K mg base (L2.CX P w) (k + 1) f fd ps sp := by
  obtain ⟨oc, od, kV, doc, pm, an, cdv, ct, osl, rfl, lk, hcd⟩ := F.ex
  refine ⟨len, fun A outer s H args us vs Q E g hr e0 hb r h => ?_⟩
  exact LamX.run_ofS lk hcd S hr e0 hb r (len _ _ _ _ h) fun hr' => hbody cdv A outer s H vs Q E rfl g hr' h
end Z
end

section
namespace Z
open PySem PySem.Spec PyProof.Rows L2
/-! ### kinds of values, isinstance -/
inductive AV (H : Hp) : V → Prop where
  | non : AV H .non
  | bl (b : Bool) : AV H (.bl b)
  | int (i : Int) : AV H (.int i)
  | str (x : Str) : AV H (.str x)
  | lst {a : Addr} {xs : List V} (h : H a = some (.lst xs)) : AV H (.ref a)
  | tup {a : Addr} {xs : List V} (h : H a = some (.tup xs)) : AV H (.ref a)
  | dK {a : Addr} {kvs : List (Key × V)} (h : H a = some (.dK kvs)) : AV H (.ref a)
theorem AV.same {H H' : Hp} {v : V} (h : AV H v) (e : Same H H') : AV H' v := by
  cases h with
  | non => exact .non
  | bl b => exact .bl b
  | int i => exact .int i
  | str x => exact .str x
  | lst h => exact .lst (e _ _ h)
  | tup h => exact .tup (e _ _ h)
  | dK h => exact .dK (e _ _ h)
class TyC (K : PySem.W.Frag) (H : Hp) (x : V) (t : outParam Value) : Prop where h : TyX K H x t
section
variable {K : PySem.W.Frag} {H : Hp} {a : Addr}
instance : TyC K H .non (.type "NoneType") := ⟨.base .non⟩
instance {b : Bool} : TyC K H (.bl b) (.type "bool") := ⟨.base (.bl b)⟩
instance {i : Int} : TyC K H (.int i) (.type "int") := ⟨.base (.int i)⟩
instance {x : Str} : TyC K H (.str x) (.type "str") := ⟨.base (.str x)⟩
instance {xs : List V} [h : At H a (.lst xs)] : TyC K H (.ref a) (.type "list") := ⟨.base (.lst h.h)⟩
instance {xs : List V} [h : At H a (.tup xs)] : TyC K H (.ref a) (.type "tuple") := ⟨.base (.tup h.h)⟩
instance {kvs : List (Key × V)} [h : At H a (.dK kvs)] : TyC K H (.ref a) (.type "dict") := ⟨.base (.dK h.h)⟩
/-- the library's InsC, found by instances -/
class InsT (K : PySem.W.Frag) (C : Addr) : Prop where
  c : C8.InsC K C
instance {C dx : Addr} {fs : List (Str × V)} [h : At H a (.ins C dx fs)] [i : InsT K C] : TyC K H (.ref a) (.ref C) := ⟨.base (.ins h.h i.c.cl i.c.ha i.c.hn i.c.htk i.c.hm)⟩
class Kit (K : PySem.W.Frag) (t u : Value) (b : outParam Bool) : Prop where h : PySem.W.kitOne K t u = some b
end
section
variable {K : PySem.W.Frag}
instance : Kit K (.type "NoneType") (.type "int") false := ⟨kit_ty (by decide +kernel)⟩
instance : Kit K (.type "NoneType") (.type "bool") false := ⟨kit_ty (by decide +kernel)⟩
instance : Kit K (.type "NoneType") (.type "str") false := ⟨kit_ty (by decide +kernel)⟩
instance : Kit K (.type "NoneType") (.type "list") false := ⟨kit_ty (by decide +kernel)⟩
instance : Kit K (.type "NoneType") (.type "tuple") false := ⟨kit_ty (by decide +kernel)⟩
instance : Kit K (.type "NoneType") (.type "dict") false := ⟨kit_ty (by decide +kernel)⟩
instance : Kit K (.type "bool") (.type "int") true := ⟨kit_ty (by decide +kernel)⟩
instance : Kit K (.type "bool") (.type "bool") true := ⟨kit_ty (by decide +kernel)⟩
instance : Kit K (.type "bool") (.type "str") false := ⟨kit_ty (by decide +kernel)⟩
instance : Kit K (.type "bool") (.type "list") false := ⟨kit_ty (by decide +kernel)⟩
instance : Kit K (.type "bool") (.type "tuple") false := ⟨kit_ty (by decide +kernel)⟩
instance : Kit K (.type "bool") (.type "dict") false := ⟨kit_ty (by decide +kernel)⟩
instance : Kit K (.type "int") (.type "int") true := ⟨kit_ty (by decide +kernel)⟩
instance : Kit K (.type "int") (.type "bool") false := ⟨kit_ty (by decide +kernel)⟩
instance : Kit K (.type "int") (.type "str") false := ⟨kit_ty (by decide +kernel)⟩
instance : Kit K (.type "int") (.type "list") false := ⟨kit_ty (by decide +kernel)⟩
instance : Kit K (.type "int") (.type "tuple") false := ⟨kit_ty (by decide +kernel)⟩
instance : Kit K (.type "int") (.type "dict") false := ⟨kit_ty (by decide +kernel)⟩
instance : Kit K (.type "str") (.type "int") false := ⟨kit_ty (by decide +kernel)⟩
instance : Kit K (.type "str") (.type "bool") false := ⟨kit_ty (by decide +kernel)⟩
instance : Kit K (.type "str") (.type "str") true := ⟨kit_ty (by decide +kernel)⟩
instance : Kit K (.type "str") (.type "list") false := ⟨kit_ty (by decide +kernel)⟩
instance : Kit K (.type "str") (.type "tuple") false := ⟨kit_ty (by decide +kernel)⟩
instance : Kit K (.type "str") (.type "dict") false := ⟨kit_ty (by decide +kernel)⟩
instance : Kit K (.type "list") (.type "int") false := ⟨kit_ty (by decide +kernel)⟩
instance : Kit K (.type "list") (.type "bool") false := ⟨kit_ty (by decide +kernel)⟩
instance : Kit K (.type "list") (.type "str") false := ⟨kit_ty (by decide +kernel)⟩
instance : Kit K (.type "list") (.type "list") true := ⟨kit_ty (by decide +kernel)⟩
instance : Kit K (.type "list") (.type "tuple") false := ⟨kit_ty (by decide +kernel)⟩
instance : Kit K (.type "list") (.type "dict") false := ⟨kit_ty (by decide +kernel)⟩
instance : Kit K (.type "tuple") (.type "int") false := ⟨kit_ty (by decide +kernel)⟩
instance : Kit K (.type "tuple") (.type "bool") false := ⟨kit_ty (by decide +kernel)⟩
instance : Kit K (.type "tuple") (.type "str") false := ⟨kit_ty (by decide +kernel)⟩
instance : Kit K (.type "tuple") (.type "list") false := ⟨kit_ty (by decide +kernel)⟩
instance : Kit K (.type "tuple") (.type "tuple") true := ⟨kit_ty (by decide +kernel)⟩
instance : Kit K (.type "tuple") (.type "dict") false := ⟨kit_ty (by decide +kernel)⟩
instance : Kit K (.type "dict") (.type "int") false := ⟨kit_ty (by decide +kernel)⟩
instance : Kit K (.type "dict") (.type "bool") false := ⟨kit_ty (by decide +kernel)⟩
instance : Kit K (.type "dict") (.type "str") false := ⟨kit_ty (by decide +kernel)⟩
instance : Kit K (.type "dict") (.type "list") false := ⟨kit_ty (by decide +kernel)⟩
instance : Kit K (.type "dict") (.type "tuple") false := ⟨kit_ty (by decide +kernel)⟩
instance : Kit K (.type "dict") (.type "dict") true := ⟨kit_ty (by decide +kernel)⟩
end
section
variable {K : PySem.W.Frag} {σ : L2.St} {H : Hp} {Q : VK} {x : V} {t : Value} {b : Bool}
instance {T : String} [h1 : TyC K H x t] [h2 : Kit K t (.type T) b] : Stp (aIsi K [x, .ty T] H Q) (Q (.bl b) H) := ⟨i_isi (.ty T) h1.h h2.h⟩
instance {C : Addr} [h1 : TyC K H x t] [h2 : Kit K t (.ref C) b] : Stp (aIsi K [x, .ref C] H Q) (Q (.bl b) H) := ⟨i_isi (.own C) h1.h h2.h⟩
end
end Z
end

section
namespace Z
open PySem PySem.Spec PyProof.Rows L2
section
variable {K : PySem.W.Frag} {σ : L2.St} {H : Hp} {Q : VK} {E : XK} {D : Ends} {sp : Sp} {t : TA} {ta te : TE} {C dx p : Addr} {m f : Str} {fs : List (Str × V)} {v : V} {xs : List V}
theorem app_nil {R : List V → Hp → Prop} (h : t σ H R) : t σ H fun vs H1 => R (vs ++ []) H1 := by
  have e : (fun vs H1 => R (vs ++ []) H1) = R := by funext vs H1; rw [List.append_nil]
  rw [e]; exact h
instance : Stp (tCall sp [] E t σ H Q) (t σ H fun vs H1 => sp vs H1 Q E) := ⟨fun h => app_nil (R := fun vs H1 => sp vs H1 Q E) h⟩
def iMeth (C : Addr) (m : Str) (sp : Sp) (E : XK) (t : TA) (σ : L2.St) (Q : VK) (x : V) (H1 : Hp) : Prop := ∃ a dx fs, x = .ref a ∧ H1 a = some (.ins C dx fs) ∧ fs.lookup m = none ∧ t σ H1 fun vs H2 => sp (x :: (vs ++ [])) H2 Q E
instance : Stp (tMeth C m sp [] E ta t σ H Q) (ta σ H fun x H1 => iMeth C m sp E t σ Q x H1) := ⟨id⟩
instance [h : At H p (.ins C dx fs)] : Stp (iMeth C m sp E t σ Q (.ref p) H) (fs.lookup m = none ∧ t σ H fun vs H2 => sp (.ref p :: vs) H2 Q E) := ⟨fun q => ⟨p, dx, fs, rfl, h.h, q.1, app_nil (R := fun vs H2 => sp (.ref p :: vs) H2 Q E) q.2⟩⟩
def iMethK (C : Addr) (m : Str) (sp : Sp) (E : XK) (t : TE) (σ : L2.St) (Q : VK) (x : V) (H1 : Hp) : Prop := ∃ a dx fs, x = .ref a ∧ H1 a = some (.ins C dx fs) ∧ fs.lookup m = none ∧ t σ H1 fun x H2 => ∃ v, [x] = [v] ∧ sp [.ref a, v] H2 Q E
instance : Stp (tMethK1 C m sp E ta te σ H Q) (ta σ H fun x H1 => iMethK C m sp E te σ Q x H1) := ⟨id⟩
instance [h : At H p (.ins C dx fs)] : Stp (iMethK C m sp E te σ Q (.ref p) H) (fs.lookup m = none ∧ te σ H fun x H2 => ∃ v, [x] = [v] ∧ sp [.ref p, v] H2 Q E) := ⟨fun q => ⟨p, dx, fs, rfl, h.h, q.1, q.2⟩⟩
def NewI (C : Addr) (sp : Sp) (E : XK) (Q : VK) (vs : List V) (H1 : Hp) : Prop := ∀ x dx, H1 x = none → H1 dx = none → dx ≠ x → sp (.ref x :: vs) (upd (upd H1 dx (.own x)) x (.ins C dx [])) (fun v H2 => v = .non ∧ Q (.ref x) H2) E
instance : Stp (tMake C sp [] E t σ H Q) (t σ H fun vs H1 => NewI C sp E Q vs H1) := ⟨fun h => by
  have e : (fun vs H1 => ∀ x dx, H1 x = none → H1 dx = none → dx ≠ x → sp (.ref x :: (vs ++ [])) (upd (upd H1 dx (.own x)) x (.ins C dx [])) (fun v H2 => v = .non ∧ Q (.ref x) H2) E) = fun vs H1 => NewI C sp E Q vs H1 := by
    funext vs H1; rw [List.append_nil]; rfl
  show t σ H _
  rw [e]; exact h⟩
instance : Stp (tX1 C m te σ H E) (te σ H fun x H1 => ∃ v, [x] = [v] ∧ ∀ d, H1 d = none → E (.ref C) (some d) (upd H1 d (.xd [(m, v)]))) := ⟨id⟩
/-- fields -/
class Fl (K : PySem.W.Frag) (C : Addr) (f : Str) : Prop where
  c : Cls K C
  n : NoAttr K C f
class Lkp (fs : List (Str × V)) (f : Str) (v : outParam V) : Prop where h : fs.lookup f = some v
instance [h : At H p (.ins C dx fs)] [g : Fl K C f] [l : Lkp fs f v] : Stp (aFld K f (.ref p) H Q) (Q v H) := ⟨fun q => i_fld h.h g.c g.n l.h q⟩
def iSetF (K : PySem.W.Frag) (f : Str) (D : Ends) (σ : L2.St) (y x : V) (H2 : Hp) : Prop := ∃ a C dx fs, x = .ref a ∧ H2 a = some (.ins C dx fs) ∧ Cls K C ∧ NoAttr K C f ∧ fs.length < 1000 ∧ D.nx σ (upd H2 a (.ins C dx (putF f y fs)))
instance {tv : TE} : Stp (sFld K ta tv f D σ H) (tv σ H fun y H1 => ta σ H1 fun x H2 => iSetF K f D σ y x H2) := ⟨id⟩
instance [h : At H p (.ins C dx fs)] [g : Fl K C f] : Stp (iSetF K f D σ v (.ref p) H) (fs.length < 1000 ∧ D.nx σ (upd H p (.ins C dx (putF f v fs)))) := ⟨fun q => ⟨p, C, dx, fs, rfl, h.h, g.c, g.n, q.1, q.2⟩⟩
/-- targets -/
instance {Q : L2.St → Hp → Prop} : Stp (gNil [] σ H Q) (Q σ H) := ⟨fun q => ⟨rfl, q⟩⟩
instance {Q : L2.St → Hp → Prop} {g : TG} {u : TGs} : Stp (gCons g u (v :: xs) σ H Q) (g v σ H fun σ' H' => u xs σ' H' Q) := ⟨fun q => ⟨v, xs, rfl, q⟩⟩
instance {Q : L2.St → Hp → Prop} {n : Nat} {u : TGs} [h : At H p (.tup xs)] : Stp (gTup K n u (.ref p) σ H Q) (xs.length = n ∧ u xs σ H Q) := ⟨fun q => ⟨p, xs, rfl, SqT.of h.h, q.1, q.2⟩⟩
/-- texts -/
theorem i_ixS0 {a : Str} {c : Nat} {cs : List Nat} (hz : a.length ≤ sizeLine) (ha : a.cps.toList = c :: cs) (q : Q (.str ⟨#[c]⟩) H) : aIx K (.str a) (.int 0) H Q := i_ixS hz (by rw [ha]; exact ith_of (n := 0) rfl) q
/-- [e for x in text if t], t and e pure -/
theorem i_lcS {a : Str} {i n : Nat} {tt : TT} {vs : List Nat} [l : Lk σ n (.str a)] (b : Nat → Bool) (y : Nat → V) (hl : a.cps.size ≤ sizeLine) (hw : ∀ v, wipe ((wipe σ vs).set i v) vs = wipe σ vs)
    (ht : ∀ c H' (R : Bool → Hp → Prop), c ∈ a.cps.toList → R (b c) H' → tt ((wipe σ vs).set i (some (.str ⟨#[c]⟩))) H' R)
    (he : ∀ c H' (R : VK), c ∈ a.cps.toList → b c = true → R (y c) H' → te ((wipe σ vs).set i (some (.str ⟨#[c]⟩))) H' R)
    (q : New H (.lst ((a.cps.toList.filter b).map y)) Q) : tLc (iStr (tVar n)) (gName i) tt te vs σ H Q := by
  refine ⟨.str a, l.h, a, rfl, fun D hD => ?_⟩
  refine lc_it (walk_str (z := a)) (fun j H' => H' = upd H D (.lst (((a.cps.toList.take j).filter b).map y))) (by simp) (fun _ _ _ _ => trivial) (fun j x H1 H2 hj hp hy => ?_) (fun H1 hp => ?_)
  · obtain ⟨rfl, c, hc, rfl⟩ := hy
    have hc' : a.cps.toList[j]? = some c := by rw [Array.getElem?_toList]; exact hc
    have hm : c ∈ a.cps.toList := List.mem_of_getElem? hc'
    have htk : a.cps.toList.take (j + 1) = a.cps.toList.take j ++ [c] := by
      rw [List.take_add_one, hc']; rfl
    refine ⟨hw _, ht c _ _ hm ?_⟩
    cases hb : b c with
    | false =>
      refine i_itef ?_
      rw [hp, htk, List.filter_append]
      simp [hb]
    | true =>
      refine i_itet (he c _ _ hm hb ⟨_, by rw [hp, upd_same], ?_, ?_⟩)
      · have h1 : (((a.cps.toList.take j).filter b).map y).length ≤ j := by
          rw [List.length_map]
          exact Nat.le_trans (List.length_filter_le _ _) (by rw [List.length_take]; omega)
        omega
      · rw [hp, htk, List.filter_append]
        funext d
        by_cases hd : d = D
        · subst hd
          rw [upd_same, upd_same]
          simp [hb]
        · rw [upd_ne hd, upd_ne hd, upd_ne hd]
  · rw [hp, List.take_of_length_le (by simp)]
    exact q D hD
end
section
variable {A B : Prop}
instance : Stp (if (!true) = true then A else B) B := ⟨fun h => by rw [Bool.not_true, if_neg Bool.false_ne_true]; exact h⟩
instance : Stp (if (!false) = true then A else B) A := ⟨fun h => by rw [Bool.not_false, if_pos rfl]; exact h⟩
end
/-! ### the rules with K told -/
section
variable {X : Cx}
theorem k_add (K : PySem.W.Frag) (h : X.K = K := by rfl) : OpR X (binaryOp .Add) (aAdd K) := h ▸ o_add
theorem k_in (K : PySem.W.Frag) (h : X.K = K := by rfl) : OpR X (compareOp .In) (aIn K) := h ▸ o_in
theorem k_nin (K : PySem.W.Frag) (h : X.K = K := by rfl) : OpR X (compareOp .NotIn) (aNin K) := h ▸ o_nin
theorem k_ix (K : PySem.W.Frag) (h : X.K = K := by rfl) : IxR X (aIx K) := h ▸ x_ix
theorem k_sl (K : PySem.W.Frag) (h : X.K = K := by rfl) : SlR X (aSl K) := h ▸ x_sl
theorem k_eq (K : PySem.W.Frag) (hu : X.A.units + 64 < cLine) (h : X.K = K := by rfl) : OpR X (compareOp .Eq) (aEq K) := h ▸ o_eq hu
theorem k_ne (K : PySem.W.Frag) (hu : X.A.units + 64 < cLine) (h : X.K = K := by rfl) : OpR X (compareOp .NotEq) (aNe K) := h ▸ o_ne hu
theorem k_len (K : PySem.W.Frag) (h : X.K = K := by rfl) : CallR X (.builtin "len") (aLen K) := h ▸ c_len
theorem k_list (K : PySem.W.Frag) (h : X.K = K := by rfl) : CallR X (.type "list") (aList K) := h ▸ c_list
theorem k_tuple (K : PySem.W.Frag) (h : X.K = K := by rfl) : CallR X (.type "tuple") (aTuple K) := h ▸ c_tuple
theorem k_isinstance (K : PySem.W.Frag) (h : X.K = K := by rfl) : CallR X (.builtin "isinstance") (aIsi K) := h ▸ c_isinstance
theorem k_all (K : PySem.W.Frag) (hc : X.calm = true) (h : X.K = K := by rfl) : CallR X (.builtin "all") (aAll K) := h ▸ c_all hc
theorem k_any (K : PySem.W.Frag) (hc : X.calm = true) (h : X.K = K := by rfl) : CallR X (.builtin "any") (aAny K) := h ▸ c_any hc
theorem k_repr (K : PySem.W.Frag) (g : NoG X.A) (hu : X.A.units + 64 < cLine) (h : X.K = K := by rfl) : CallR X (.builtin "repr") (aRepr K) := h ▸ c_repr g hu
theorem pt_trK (K : PySem.W.Frag) {a : Expr} {ta : TE} (ha : PE X a ta) (he : ∀ whole, isTrue a X.env whole = (do let v ← whole; standAt a.pos; holding [v] (truthy v))) (h : X.K = K := by rfl) : PT X a (tTr K ta) := h ▸ pt_tr ha he
theorem pe_orK (K : PySem.W.Frag) {a b : Expr} {rest : List Expr} {pos : Pos} {ta tb : TE} (ha : PE X a ta) (hb : PE X (.BoolOp .Or (b :: rest) pos) tb) (h : X.K = K := by rfl) : PE X (.BoolOp .Or (a :: b :: rest) pos) (tOrT K ta tb) := h ▸ pe_orT ha hb
theorem pe_andK (K : PySem.W.Frag) {a b : Expr} {rest : List Expr} {pos : Pos} {ta tb : TE} (ha : PE X a ta) (hb : PE X (.BoolOp .And (b :: rest) pos) tb) (h : X.K = K := by rfl) : PE X (.BoolOp .And (a :: b :: rest) pos) (tAndT K ta tb) := h ▸ pe_andT ha hb
theorem pe_notK (K : PySem.W.Frag) {a : Expr} {pos : Pos} {ta : TE} (ha : PE X a ta) (h : X.K = K := by rfl) : PE X (.UnaryOp .Not a pos) (tNotT K ta) := h ▸ pe_notT ha
theorem ps_fldK (K : PySem.W.Frag) {o value : Expr} {f : Str} {pos pos' : Pos} {ta tv : TE} (ha : PE X o ta) (hv : PE X value tv) (hs : swapsWith value (some (.Attribute o f pos')) pos.line X.env = pure false) (h : X.K = K := by rfl) : PS X (.Assign [.Attribute o f pos'] value pos) (sFld K ta tv f) := h ▸ ps_fld ha hv hs
theorem pe_attK (K : PySem.W.Frag) {e : Expr} {f : Str} {ta : TE} {pos : Pos} (he : PE X e ta) (hb : attributeBase e f X.env (eval e X.env) = eval e X.env := by rfl) (h : X.K = K := by rfl) : PE X (.Attribute e f pos) (tAtt (aFld K f) ta) := h ▸ pe_att he hb
end
/-! ### lists of texts as data -/
theorem dp_strs {K : PySem.W.Frag} {H : Hp} {p : Addr} {ns : List Str} (h : H p = some (.lst (ns.map V.str))) : Dp K H (.ref p) (.list (ns.map .str)) := by
  refine .lst (SqL.of h) ?_
  clear h
  induction ns with
  | nil => exact .nil
  | cons n ns ih => exact .cons (.str n) ih
theorem canLayAll_strs : ∀ ns : List Str, ns.all PyData.strOk = true → PyData.canLayAll0 (ns.map .str) = true
  | [], _ => by simp [PyData.canLayAll0]
  | n :: ns, h => by
    rw [List.all_cons, Bool.and_eq_true] at h
    simp [PyData.canLayAll0, PyData.canLay0]; exact ⟨h.1, canLayAll_strs ns h.2⟩
theorem depthAll_strs : ∀ ns : List Str, PyData.depthAll (ns.map .str) = 0
  | [] => by simp [PyData.depthAll]
  | n :: ns => by simp [PyData.depthAll, PyData.depth]; exact depthAll_strs ns
theorem shaped_strs (ns : List Str) (h : ns.all PyData.strOk = true) : SeqAt.shaped (.list (ns.map .str)) = true := by
  unfold SeqAt.shaped
  rw [Bool.and_eq_true]
  refine ⟨?_, ?_⟩
  · show PyData.canLay0 (.list _) = true
    rw [PyData.canLay0]; exact canLayAll_strs ns h
  · rw [PyData.depth, depthAll_strs]; rfl
/-! ### constants of classes, methods of lists, membership -/
def aCVal (K : PySem.W.Frag) (f : Str) : V → Hp → VK → Prop := fun x H1 Q => ∃ C mc v u, x = .ref C ∧ ClX.CRead K C mc ∧ ClX.CVal K C mc f v u ∧ Q v H1
theorem pe_cvalK {X : Cx} (K : PySem.W.Frag) {e : Expr} {f : Str} {ta : TE} {pos : Pos} (he : PE X e ta) (hb : attributeBase e f X.env (eval e X.env) = eval e X.env := by rfl) (h : X.K = K := by rfl) : PE X (.Attribute e f pos) (tAtt (aCVal K f) ta) := h ▸ ClX.pe_cval he hb
class CV (K : PySem.W.Frag) (C : Addr) (f : Str) (v : outParam V) : Prop where h : ∃ mc u, ClX.CRead K C mc ∧ ClX.CVal K C mc f v u
class TupK (K : PySem.W.Frag) (p : Addr) (xs : outParam (List V)) : Prop where h : ∀ H, SqT K H p xs
section
variable {K : PySem.W.Frag} {σ : L2.St} {H : Hp} {Q : VK} {to : TE} {t : TA} {C p : Addr} {f k : Str} {v : V} {xs : List V} {T : String} {r : V → List V → Hp → VK → Prop}
instance [h : CV K C f v] : Stp (aCVal K f (.ref C) H Q) (Q v H) := ⟨fun q => by obtain ⟨mc, u, h1, h2⟩ := h.h; exact ⟨C, mc, v, u, rfl, h1, h2, q⟩⟩
instance [h : TupK K p xs] : Stp (aNin K (.str k) (.ref p) H Q) (xs.all flatV = true ∧ Q (.bl (!inV (.str k) xs)) H) := ⟨fun q => i_ninTK (h.h H) rfl q.1 q.2⟩
instance [h : TupK K p xs] : Stp (aIn K (.str k) (.ref p) H Q) (xs.all flatV = true ∧ Q (.bl (inV (.str k) xs)) H) := ⟨fun q => i_inTK (h.h H) rfl q.1 q.2⟩
instance [h : At H p (.tup xs)] : Stp (aNin K (.str k) (.ref p) H Q) (xs.all flatV = true ∧ Q (.bl (!inV (.str k) xs)) H) := ⟨fun q => i_ninT h.h rfl q.1 q.2⟩
instance [h : At H p (.tup xs)] : Stp (aIn K (.str k) (.ref p) H Q) (xs.all flatV = true ∧ Q (.bl (inV (.str k) xs)) H) := ⟨fun q => i_inT h.h rfl q.1 q.2⟩
def iBM (K : PySem.W.Frag) (T : String) (r : V → List V → Hp → VK → Prop) (t : TA) (σ : L2.St) (Q : VK) (x : V) (H1 : Hp) : Prop := tyV K T x H1 ∧ t σ H1 fun xs H2 => r x xs H2 Q
instance : Stp (tBM K T r to t σ H Q) (to σ H fun x H1 => iBM K T r t σ Q x H1) := ⟨id⟩
instance [h : At H p (.lst xs)] : Stp (iBM K "list" r t σ Q (.ref p) H) (t σ H fun xs H2 => r (.ref p) xs H2 Q) := ⟨fun q => ⟨.inl ⟨rfl, xs, SqL.of h.h⟩, q⟩⟩
instance [h : At H p (.lst xs)] : Stp (rAppend (.ref p) [v] H Q) (xs.length < sizeLine ∧ Q .non (upd H p (.lst (xs ++ [v])))) := ⟨fun q => ⟨p, xs, v, rfl, rfl, h.h, q.1, q.2⟩⟩
end
theorem inV_strs {k : Str} : ∀ {ks : List Str}, inV (.str k) (ks.map .str) = decide (k ∈ ks)
  | [] => by simp [inV]
  | x :: ks => by
    have ih := inV_strs (k := k) (ks := ks)
    unfold inV at ih ⊢
    rw [List.map_cons, List.any_cons, ih]
    show ((x == k) || _) = _
    by_cases e : x = k
    · subst e; simp
    · have e2 : ¬ k = x := fun z => e z.symm
      simp [e, e2]
/-- what stood stands, found by instances -/
class Sc (H H' : Hp) : Prop where h : Same H H'
instance (priority := high) Sc.refl {H : Hp} : Sc H H := ⟨fun _ _ z => z⟩
instance Sc.new {H H' : Hp} {r : Addr} {o : HO} [n : Nw H' r] [s : Sc H H'] : Sc H (upd H' r o) := ⟨Same.new s.h n.h⟩
instance (priority := low) Sc.sm {H H1 H2 : Hp} [n : Sm H1 H2] [s : Sc H H1] : Sc H H2 := ⟨fun _ _ z => n.h _ _ (s.h _ _ z)⟩
/-- a list stands there; what is new is not it -/
class Ps (H : Hp) (p : Addr) : Prop where h : ∃ o, H p = some o
instance Ps.old {H : Hp} {p r : Addr} {o : HO} [n : Nw H r] [a : Ps H p] : Ps (upd H r o) p := ⟨by obtain ⟨u, h⟩ := a.h; exact ⟨u, h_old n.h h⟩⟩
instance (priority := high) Ps.here {H : Hp} {p : Addr} {o : HO} : Ps (upd H p o) p := ⟨o, upd_same⟩
set_option synthInstance.checkSynthOrder false in
instance difNew {H : Hp} {p r : Addr} [n : Nw H r] [a : Ps H p] : Dif r p := ⟨fun z => by obtain ⟨u, h⟩ := a.h; rw [← z, n.h] at h; cases h⟩
/-- all but p stay, found by instances -/
class Pc (p : Addr) (H H' : Hp) : Prop where h : ExtP p H H'
instance (priority := high) Pc.refl {p : Addr} {H : Hp} : Pc p H H := ⟨ExtP.refl H⟩
instance Pc.new {p : Addr} {H H' : Hp} {r : Addr} {o : HO} [n : Nw H' r] [s : Pc p H H'] : Pc p H (upd H' r o) := ⟨ExtP.new s.h n.h⟩
instance (priority := low) Pc.xp {p : Addr} {H H1 H2 : Hp} [n : Xp p H1 H2] [s : Pc p H H1] : Pc p H H2 := ⟨ExtP.trans s.h n.h⟩
instance (priority := low) Pc.sm {p : Addr} {H H1 H2 : Hp} [n : Sm H1 H2] [s : Pc p H H1] : Pc p H H2 := ⟨ExtP.trans s.h (ExtP.of n.h)⟩
def iAug (i : Nat) (ti : TIp) (D : Ends) (σ : L2.St) (x y : V) (H1 : Hp) : Prop := ti x y H1 fun z H2 => D.nx (σ.set i (some z)) H2
instance {i : Nat} {te : TE} {ti : TIp} {D : Ends} {σ : L2.St} {H : Hp} {x : V} [l : Lk σ i x] : Stp (tAug i te ti D σ H) (te σ H fun y H1 => iAug i ti D σ x y H1) := ⟨fun h => ⟨x, l.h, h⟩⟩
def ForW (J : It) (g : TG) (tb : TS) (D : Ends) (σ : L2.St) (H1 : Hp) : Prop := ∃ W : Nat → Nat → L2.St → Hp → Prop, (∃ m, W 0 m σ H1) ∧ ∀ i m σ H, W i m σ H →
  (J.stop i H ∧ D.nx σ H) ∨ (J.go i H ∧ ∃ N : L2.St → Hp → Prop, (∀ σ' H', N σ' H' → ∃ m', m' < m ∧ W (i + 1) m' σ' H') ∧ ∀ x H', J.yld i H x H' → g x σ H' fun σ2 H2 => tb { D with nx := N, ct := N, bk := D.nx } σ2 H2)
instance {wi : TI} {g : TG} {tb : TS} {D : Ends} {σ : L2.St} {H : Hp} : Stp (tFor wi g tb D σ H) (wi σ H fun J H1 => ForW J g tb D σ H1) := ⟨id⟩
def iRg (R : It → Hp → Prop) (vs : List V) (H1 : Hp) : Prop := ∃ j : Int, vs = [.int j] ∧ -(2 ^ 62) ≤ j ∧ j < 2 ^ 62 ∧ R (Itr 0 j.toNat) H1
instance {ta : TA} {σ : L2.St} {H : Hp} {R : It → Hp → Prop} : Stp (iRng1 ta σ H R) (ta σ H fun vs H1 => iRg R vs H1) := ⟨id⟩
instance {H : Hp} {R : It → Hp → Prop} {j : Int} : Stp (iRg R [.int j] H) ((-4611686018427387904 ≤ j ∧ j < 4611686018427387904) ∧ R (Itr 0 j.toNat) H) := ⟨fun h => ⟨j, rfl, by have := h.1.1; omega, by have := h.1.2; omega, h.2⟩⟩
instance Lk.set {σ σ' : L2.St} {i n : Nat} {x : Option V} {v : V} [s : SetAt σ i x σ'] [l : Lk σ' n v] : Lk (List.set σ i x) n v := ⟨by rw [s.h]; exact l.h⟩
instance SetAt.set {σ σ1 σ2 : L2.St} {i n : Nat} {x v : Option V} [s : SetAt σ i x σ1] [t : SetAt σ1 n v σ2] : SetAt (List.set σ i x) n v σ2 := ⟨by rw [s.h]; exact t.h⟩
instance (priority := low) Ps.at {H : Hp} {p : Addr} {o : HO} [a : At H p o] : Ps H p := ⟨o, a.h⟩
set_option synthInstance.checkSynthOrder false in
instance difNew' {H : Hp} {p r : Addr} [n : Nw H r] [a : Ps H p] : Dif p r := ⟨fun z => by obtain ⟨u, h⟩ := a.h; rw [z, n.h] at h; cases h⟩
end Z
end

section
namespace R
open PySem PySem.Spec PyProof.Rows L2 Z
def topS (i : Nat) : Stmt := PySem.Challenge.pw_rowshapes_k02_references_stepped.main.body.getD i (.Pass ⟨0, 0, 0, 0⟩)
abbrev s_is_integer : Stmt := topS 4
abbrev N_is_integer : List Str := ["thing"]
abbrev P_is_integer : List Str := ["thing"]
theorem sc_is_integer : FnScope N_is_integer P_is_integer (defScope s_is_integer) := ⟨rfl, rfl, rfl, by decide +kernel, rfl, by decide +kernel, by decide +kernel⟩
abbrev s_is_word : Stmt := topS 5
abbrev N_is_word : List Str := ["thing", "sign"]
abbrev P_is_word : List Str := ["thing"]
theorem sc_is_word : FnScope N_is_word P_is_word (defScope s_is_word) := ⟨rfl, rfl, rfl, by decide +kernel, rfl, by decide +kernel, by decide +kernel⟩
abbrev s_BadCell___init__ : Stmt := inClass (topS 9) 0
abbrev N_BadCell___init__ : List Str := ["self", "part"]
abbrev P_BadCell___init__ : List Str := ["self", "part"]
theorem sc_BadCell___init__ : FnScope N_BadCell___init__ P_BadCell___init__ (defScope s_BadCell___init__) := ⟨rfl, rfl, rfl, by decide +kernel, rfl, by decide +kernel, by decide +kernel⟩
abbrev s_number_fits : Stmt := topS 13
abbrev N_number_fits : List Str := ["kind", "number"]
abbrev P_number_fits : List Str := ["kind", "number"]
theorem sc_number_fits : FnScope N_number_fits P_number_fits (defScope s_number_fits) := ⟨rfl, rfl, rfl, by decide +kernel, rfl, by decide +kernel, by decide +kernel⟩
abbrev s_column_fits : Stmt := topS 14
abbrev N_column_fits : List Str := ["kind", "column"]
abbrev P_column_fits : List Str := ["kind", "column"]
theorem sc_column_fits : FnScope N_column_fits P_column_fits (defScope s_column_fits) := ⟨rfl, rfl, rfl, by decide +kernel, rfl, by decide +kernel, by decide +kernel⟩
abbrev s_Ref___init__ : Stmt := inClass (topS 15) 1
abbrev N_Ref___init__ : List Str := ["self", "kind", "column", "number"]
abbrev P_Ref___init__ : List Str := ["self", "kind", "column", "number"]
theorem sc_Ref___init__ : FnScope N_Ref___init__ P_Ref___init__ (defScope s_Ref___init__) := ⟨rfl, rfl, rfl, by decide +kernel, rfl, by decide +kernel, by decide +kernel⟩
abbrev s_Ref_need_kind : Stmt := inClass (topS 15) 7
abbrev N_Ref_need_kind : List Str := ["self", "kinds"]
abbrev P_Ref_need_kind : List Str := ["self", "kinds"]
theorem sc_Ref_need_kind : FnScope N_Ref_need_kind P_Ref_need_kind (defScope s_Ref_need_kind) := ⟨rfl, rfl, rfl, by decide +kernel, rfl, by decide +kernel, by decide +kernel⟩
abbrev s_Ref_stepped : Stmt := inClass (topS 15) 8
abbrev N_Ref_stepped : List Str := ["self", "n"]
abbrev P_Ref_stepped : List Str := ["self", "n"]
theorem sc_Ref_stepped : FnScope N_Ref_stepped P_Ref_stepped (defScope s_Ref_stepped) := ⟨rfl, rfl, rfl, by decide +kernel, rfl, by decide +kernel, by decide +kernel⟩
abbrev s_Ref___add__ : Stmt := inClass (topS 15) 9
abbrev N_Ref___add__ : List Str := ["self", "n"]
abbrev P_Ref___add__ : List Str := ["self", "n"]
theorem sc_Ref___add__ : FnScope N_Ref___add__ P_Ref___add__ (defScope s_Ref___add__) := ⟨rfl, rfl, rfl, by decide +kernel, rfl, by decide +kernel, by decide +kernel⟩
abbrev s_Ref___radd__ : Stmt := inClass (topS 15) 10
abbrev N_Ref___radd__ : List Str := ["self", "n"]
abbrev P_Ref___radd__ : List Str := ["self", "n"]
theorem sc_Ref___radd__ : FnScope N_Ref___radd__ P_Ref___radd__ (defScope s_Ref___radd__) := ⟨rfl, rfl, rfl, by decide +kernel, rfl, by decide +kernel, by decide +kernel⟩
abbrev s_Ref___sub__ : Stmt := inClass (topS 15) 11
abbrev N_Ref___sub__ : List Str := ["self", "n"]
abbrev P_Ref___sub__ : List Str := ["self", "n"]
theorem sc_Ref___sub__ : FnScope N_Ref___sub__ P_Ref___sub__ (defScope s_Ref___sub__) := ⟨rfl, rfl, rfl, by decide +kernel, rfl, by decide +kernel, by decide +kernel⟩
abbrev s_Ref___neg__ : Stmt := inClass (topS 15) 12
abbrev N_Ref___neg__ : List Str := ["self"]
abbrev P_Ref___neg__ : List Str := ["self"]
theorem sc_Ref___neg__ : FnScope N_Ref___neg__ P_Ref___neg__ (defScope s_Ref___neg__) := ⟨rfl, rfl, rfl, by decide +kernel, rfl, by decide +kernel, by decide +kernel⟩
abbrev s_Ref___abs__ : Stmt := inClass (topS 15) 13
abbrev N_Ref___abs__ : List Str := ["self"]
abbrev P_Ref___abs__ : List Str := ["self"]
theorem sc_Ref___abs__ : FnScope N_Ref___abs__ P_Ref___abs__ (defScope s_Ref___abs__) := ⟨rfl, rfl, rfl, by decide +kernel, rfl, by decide +kernel, by decide +kernel⟩
abbrev s_Ref_into : Stmt := inClass (topS 15) 14
abbrev N_Ref_into : List Str := ["self", "column"]
abbrev P_Ref_into : List Str := ["self", "column"]
theorem sc_Ref_into : FnScope N_Ref_into P_Ref_into (defScope s_Ref_into) := ⟨rfl, rfl, rfl, by decide +kernel, rfl, by decide +kernel, by decide +kernel⟩
abbrev s__law_pen : Stmt := topS 17
abbrev N__law_pen : List Str := ["_law_script"]
abbrev P__law_pen : List Str := ["_law_script"]
theorem sc__law_pen : FnScope N__law_pen P__law_pen (defScope s__law_pen) := ⟨rfl, rfl, rfl, by decide +kernel, rfl, by decide +kernel, by decide +kernel⟩
abbrev s__law_draw : Stmt := topS 18
abbrev N__law_draw : List Str := ["_law_pen_here", "_law_many", "_law_digit", "_law_at", "_law_cell", "_law_great", "_law_mixed"]
abbrev P__law_draw : List Str := ["_law_pen_here", "_law_many"]
theorem sc__law_draw : FnScope N__law_draw P__law_draw (defScope s__law_draw) := ⟨rfl, rfl, rfl, by decide +kernel, rfl, by decide +kernel, by decide +kernel⟩
abbrev s__law_pick : Stmt := topS 19
abbrev N__law_pick : List Str := ["_law_pen_here", "_law_some"]
abbrev P__law_pick : List Str := ["_law_pen_here", "_law_some"]
theorem sc__law_pick : FnScope N__law_pick P__law_pick (defScope s__law_pick) := ⟨rfl, rfl, rfl, by decide +kernel, rfl, by decide +kernel, by decide +kernel⟩
abbrev s__law_word : Stmt := topS 20
abbrev N__law_word : List Str := ["_law_pen_here", "_law_letters", "_law_found", "_law_k"]
abbrev P__law_word : List Str := ["_law_pen_here"]
theorem sc__law_word : FnScope N__law_word P__law_word (defScope s__law_word) := ⟨rfl, rfl, rfl, by decide +kernel, rfl, by decide +kernel, by decide +kernel⟩
abbrev s__law_is_word : Stmt := topS 21
abbrev N__law_is_word : List Str := ["_law_thing", "_law_letters", "_law_sign"]
abbrev P__law_is_word : List Str := ["_law_thing"]
theorem sc__law_is_word : FnScope N__law_is_word P__law_is_word (defScope s__law_is_word) := ⟨rfl, rfl, rfl, by decide +kernel, rfl, by decide +kernel, by decide +kernel⟩
abbrev s__law_heard : Stmt := topS 22
abbrev N__law_heard : List Str := ["_law_ask", "_law_caught", "_law_found", "error"]
abbrev P__law_heard : List Str := ["_law_ask"]
theorem sc__law_heard : FnScope N__law_heard P__law_heard (defScope s__law_heard) := ⟨rfl, rfl, rfl, by decide +kernel, rfl, by decide +kernel, by decide +kernel⟩
abbrev s__law_ref : Stmt := topS 23
abbrev N__law_ref : List Str := ["_law_pen_here", "_law_columns", "_law_kind", "_law_number"]
abbrev P__law_ref : List Str := ["_law_pen_here", "_law_columns"]
theorem sc__law_ref : FnScope N__law_ref P__law_ref (defScope s__law_ref) := ⟨rfl, rfl, rfl, by decide +kernel, rfl, by decide +kernel, by decide +kernel⟩
abbrev s__law_ref_made : Stmt := topS 24
abbrev N__law_ref_made : List Str := ["_law_told_here", "_law_kind", "_law_title", "_law_number"]
abbrev P__law_ref_made : List Str := ["_law_told_here"]
theorem sc__law_ref_made : FnScope N__law_ref_made P__law_ref_made (defScope s__law_ref_made) := ⟨rfl, rfl, rfl, by decide +kernel, rfl, by decide +kernel, by decide +kernel⟩
abbrev s__law_told : Stmt := topS 25
abbrev N__law_told : List Str := ["_law_heard_here", "_law_ref_here"]
abbrev P__law_told : List Str := ["_law_heard_here"]
theorem sc__law_told : FnScope N__law_told P__law_told (defScope s__law_told) := ⟨rfl, rfl, rfl, by decide +kernel, rfl, by decide +kernel, by decide +kernel⟩
abbrev s__law_step_due : Stmt := topS 26
abbrev N__law_step_due : List Str := ["_law_told_here", "_law_n", "_law_kind", "_law_title", "_law_number"]
abbrev P__law_step_due : List Str := ["_law_told_here", "_law_n"]
theorem sc__law_step_due : FnScope N__law_step_due P__law_step_due (defScope s__law_step_due) := ⟨rfl, rfl, rfl, by decide +kernel, rfl, by decide +kernel, by decide +kernel⟩
abbrev s__law_more : Stmt := topS 27
abbrev N__law_more : List Str := ["_law_ref_here", "_law_n", "_law_found"]
abbrev P__law_more : List Str := ["_law_ref_here", "_law_n"]
theorem sc__law_more : FnScope N__law_more P__law_more (defScope s__law_more) := ⟨rfl, rfl, rfl, by decide +kernel, rfl, by decide +kernel, by decide +kernel⟩
abbrev s__law_steps_right : Stmt := topS 28
abbrev N__law_steps_right : List Str := ["_law_told_here", "_law_n", "_law_ref_here", "_law_found", "_law_due"]
abbrev P__law_steps_right : List Str := ["_law_told_here", "_law_n"]
theorem sc__law_steps_right : FnScope N__law_steps_right P__law_steps_right (defScope s__law_steps_right) := ⟨rfl, rfl, rfl, by decide +kernel, rfl, by decide +kernel, by decide +kernel⟩
abbrev s__law_signs_right : Stmt := topS 29
abbrev N__law_signs_right : List Str := ["_law_told_here", "_law_kind", "_law_title", "_law_number", "_law_ref_here", "_law_found", "_law_due"]
abbrev P__law_signs_right : List Str := ["_law_told_here"]
theorem sc__law_signs_right : FnScope N__law_signs_right P__law_signs_right (defScope s__law_signs_right) := ⟨rfl, rfl, rfl, by decide +kernel, rfl, by decide +kernel, by decide +kernel⟩
abbrev s__law_into_right : Stmt := topS 30
abbrev N__law_into_right : List Str := ["_law_told_here", "_law_title", "_law_kind", "_law_elder", "_law_number", "_law_ref_here", "_law_found", "_law_due"]
abbrev P__law_into_right : List Str := ["_law_told_here", "_law_title"]
theorem sc__law_into_right : FnScope N__law_into_right P__law_into_right (defScope s__law_into_right) := ⟨rfl, rfl, rfl, by decide +kernel, rfl, by decide +kernel, by decide +kernel⟩
abbrev s_law : Stmt := topS 31
abbrev N_law : List Str := ["_law_script", "_law_pen_here", "_law_turn", "_law_columns", "_law_told_here", "_law_spare", "_law_some", "_law_n", "_law_odd", "_law_title"]
abbrev P_law : List Str := ["_law_script"]
theorem sc_law : FnScope N_law P_law (defScope s_law) := ⟨rfl, rfl, rfl, by decide +kernel, rfl, by decide +kernel, by decide +kernel⟩
structure Ad where
  f_is_integer : Addr
  fd_is_integer : FuncData
  f_is_word : Addr
  fd_is_word : FuncData
  f_BadCell___init__ : Addr
  fd_BadCell___init__ : FuncData
  f_number_fits : Addr
  fd_number_fits : FuncData
  f_column_fits : Addr
  fd_column_fits : FuncData
  f_Ref___init__ : Addr
  fd_Ref___init__ : FuncData
  f_Ref_need_kind : Addr
  fd_Ref_need_kind : FuncData
  f_Ref_stepped : Addr
  fd_Ref_stepped : FuncData
  f_Ref___add__ : Addr
  fd_Ref___add__ : FuncData
  f_Ref___radd__ : Addr
  fd_Ref___radd__ : FuncData
  f_Ref___sub__ : Addr
  fd_Ref___sub__ : FuncData
  f_Ref___neg__ : Addr
  fd_Ref___neg__ : FuncData
  f_Ref___abs__ : Addr
  fd_Ref___abs__ : FuncData
  f_Ref_into : Addr
  fd_Ref_into : FuncData
  f__law_pen : Addr
  fd__law_pen : FuncData
  f__law_draw : Addr
  fd__law_draw : FuncData
  f__law_pick : Addr
  fd__law_pick : FuncData
  f__law_word : Addr
  fd__law_word : FuncData
  f__law_is_word : Addr
  fd__law_is_word : FuncData
  f__law_heard : Addr
  fd__law_heard : FuncData
  f__law_ref : Addr
  fd__law_ref : FuncData
  f__law_ref_made : Addr
  fd__law_ref_made : FuncData
  f__law_told : Addr
  fd__law_told : FuncData
  f__law_step_due : Addr
  fd__law_step_due : FuncData
  f__law_more : Addr
  fd__law_more : FuncData
  f__law_steps_right : Addr
  fd__law_steps_right : FuncData
  f__law_signs_right : Addr
  fd__law_signs_right : FuncData
  f__law_into_right : Addr
  fd__law_into_right : FuncData
  f_law : Addr
  fd_law : FuncData
  C_RowError : Addr
  C_BadInput : Addr
  C_BadCell : Addr
  C_Ref : Addr
  kinds : Addr
  mcRef : Value
  P1 : Addr
  P2 : Addr
  P3 : Addr
  c1 : Addr
  c2 : Addr
  c3 : Addr
structure Tx (K : PySem.W.Frag) (mg : Str → Option Value) (a : Ad) : Prop where
  z_isinstance : mg "isinstance" = none
  z_int : mg "int" = none
  z_bool : mg "bool" = none
  z_str : mg "str" = none
  z_len : mg "len" = none
  z_all : mg "all" = none
  z_abs : mg "abs" = none
  z_repr : mg "repr" = none
  z_range : mg "range" = none
  z_list : mg "list" = none
  z_ValueError : mg "ValueError" = none
  c_SMALL : ∃ u, mg "SMALL" = some u ∧ RelV (.str "abcdefghijklmnopqrstuvwxyz") u
  c_MOST_SIGNS : ∃ u, mg "MOST_SIGNS" = some u ∧ RelV (.int 8) u
  c_MOST_STEPS : ∃ u, mg "MOST_STEPS" = some u ∧ RelV (.int 999) u
  c_MOST_RECORD : ∃ u, mg "MOST_RECORD" = some u ∧ RelV (.int 9999) u
  F_is_integer : Fun K "is_integer" "is_integer" s_is_integer a.f_is_integer a.fd_is_integer
  b_is_integer : Binds K a.fd_is_integer P_is_integer []
  g_is_integer : mg "is_integer" = some (.ref a.f_is_integer)
  F_is_word : Fun K "is_word" "is_word" s_is_word a.f_is_word a.fd_is_word
  b_is_word : Binds K a.fd_is_word P_is_word []
  g_is_word : mg "is_word" = some (.ref a.f_is_word)
  F_BadCell___init__ : Fun K "__init__" "BadCell.__init__" s_BadCell___init__ a.f_BadCell___init__ a.fd_BadCell___init__
  b_BadCell___init__ : Binds K a.fd_BadCell___init__ P_BadCell___init__ []
  F_number_fits : Fun K "number_fits" "number_fits" s_number_fits a.f_number_fits a.fd_number_fits
  b_number_fits : Binds K a.fd_number_fits P_number_fits []
  g_number_fits : mg "number_fits" = some (.ref a.f_number_fits)
  F_column_fits : Fun K "column_fits" "column_fits" s_column_fits a.f_column_fits a.fd_column_fits
  b_column_fits : Binds K a.fd_column_fits P_column_fits []
  g_column_fits : mg "column_fits" = some (.ref a.f_column_fits)
  F_Ref___init__ : Fun K "__init__" "Ref.__init__" s_Ref___init__ a.f_Ref___init__ a.fd_Ref___init__
  b_Ref___init__ : Binds K a.fd_Ref___init__ P_Ref___init__ []
  F_Ref_need_kind : Fun K "need_kind" "Ref.need_kind" s_Ref_need_kind a.f_Ref_need_kind a.fd_Ref_need_kind
  b_Ref_need_kind : Binds K a.fd_Ref_need_kind P_Ref_need_kind []
  m_Ref_need_kind : Meth K a.C_Ref "need_kind" a.f_Ref_need_kind
  F_Ref_stepped : Fun K "stepped" "Ref.stepped" s_Ref_stepped a.f_Ref_stepped a.fd_Ref_stepped
  b_Ref_stepped : Binds K a.fd_Ref_stepped P_Ref_stepped []
  m_Ref_stepped : Meth K a.C_Ref "stepped" a.f_Ref_stepped
  F_Ref___add__ : Fun K "__add__" "Ref.__add__" s_Ref___add__ a.f_Ref___add__ a.fd_Ref___add__
  b_Ref___add__ : Binds K a.fd_Ref___add__ P_Ref___add__ []
  m_Ref___add__ : Meth K a.C_Ref "__add__" a.f_Ref___add__
  F_Ref___radd__ : Fun K "__radd__" "Ref.__radd__" s_Ref___radd__ a.f_Ref___radd__ a.fd_Ref___radd__
  b_Ref___radd__ : Binds K a.fd_Ref___radd__ P_Ref___radd__ []
  m_Ref___radd__ : Meth K a.C_Ref "__radd__" a.f_Ref___radd__
  F_Ref___sub__ : Fun K "__sub__" "Ref.__sub__" s_Ref___sub__ a.f_Ref___sub__ a.fd_Ref___sub__
  b_Ref___sub__ : Binds K a.fd_Ref___sub__ P_Ref___sub__ []
  m_Ref___sub__ : Meth K a.C_Ref "__sub__" a.f_Ref___sub__
  F_Ref___neg__ : Fun K "__neg__" "Ref.__neg__" s_Ref___neg__ a.f_Ref___neg__ a.fd_Ref___neg__
  b_Ref___neg__ : Binds K a.fd_Ref___neg__ P_Ref___neg__ []
  m_Ref___neg__ : Meth K a.C_Ref "__neg__" a.f_Ref___neg__
  F_Ref___abs__ : Fun K "__abs__" "Ref.__abs__" s_Ref___abs__ a.f_Ref___abs__ a.fd_Ref___abs__
  b_Ref___abs__ : Binds K a.fd_Ref___abs__ P_Ref___abs__ []
  m_Ref___abs__ : Meth K a.C_Ref "__abs__" a.f_Ref___abs__
  F_Ref_into : Fun K "into" "Ref.into" s_Ref_into a.f_Ref_into a.fd_Ref_into
  b_Ref_into : Binds K a.fd_Ref_into P_Ref_into []
  m_Ref_into : Meth K a.C_Ref "into" a.f_Ref_into
  F__law_pen : Fun K "_law_pen" "_law_pen" s__law_pen a.f__law_pen a.fd__law_pen
  b__law_pen : Binds K a.fd__law_pen P__law_pen []
  g__law_pen : mg "_law_pen" = some (.ref a.f__law_pen)
  F__law_draw : Fun K "_law_draw" "_law_draw" s__law_draw a.f__law_draw a.fd__law_draw
  b__law_draw : Binds K a.fd__law_draw P__law_draw []
  g__law_draw : mg "_law_draw" = some (.ref a.f__law_draw)
  F__law_pick : Fun K "_law_pick" "_law_pick" s__law_pick a.f__law_pick a.fd__law_pick
  b__law_pick : Binds K a.fd__law_pick P__law_pick []
  g__law_pick : mg "_law_pick" = some (.ref a.f__law_pick)
  F__law_word : Fun K "_law_word" "_law_word" s__law_word a.f__law_word a.fd__law_word
  b__law_word : Binds K a.fd__law_word P__law_word []
  g__law_word : mg "_law_word" = some (.ref a.f__law_word)
  F__law_is_word : Fun K "_law_is_word" "_law_is_word" s__law_is_word a.f__law_is_word a.fd__law_is_word
  b__law_is_word : Binds K a.fd__law_is_word P__law_is_word []
  g__law_is_word : mg "_law_is_word" = some (.ref a.f__law_is_word)
  F__law_heard : Fun K "_law_heard" "_law_heard" s__law_heard a.f__law_heard a.fd__law_heard
  b__law_heard : Binds K a.fd__law_heard P__law_heard []
  g__law_heard : mg "_law_heard" = some (.ref a.f__law_heard)
  F__law_ref : Fun K "_law_ref" "_law_ref" s__law_ref a.f__law_ref a.fd__law_ref
  b__law_ref : Binds K a.fd__law_ref P__law_ref []
  g__law_ref : mg "_law_ref" = some (.ref a.f__law_ref)
  F__law_ref_made : Fun K "_law_ref_made" "_law_ref_made" s__law_ref_made a.f__law_ref_made a.fd__law_ref_made
  b__law_ref_made : Binds K a.fd__law_ref_made P__law_ref_made []
  g__law_ref_made : mg "_law_ref_made" = some (.ref a.f__law_ref_made)
  F__law_told : Fun K "_law_told" "_law_told" s__law_told a.f__law_told a.fd__law_told
  b__law_told : Binds K a.fd__law_told P__law_told []
  g__law_told : mg "_law_told" = some (.ref a.f__law_told)
  F__law_step_due : Fun K "_law_step_due" "_law_step_due" s__law_step_due a.f__law_step_due a.fd__law_step_due
  b__law_step_due : Binds K a.fd__law_step_due P__law_step_due []
  g__law_step_due : mg "_law_step_due" = some (.ref a.f__law_step_due)
  F__law_more : Fun K "_law_more" "_law_more" s__law_more a.f__law_more a.fd__law_more
  b__law_more : Binds K a.fd__law_more P__law_more []
  g__law_more : mg "_law_more" = some (.ref a.f__law_more)
  F__law_steps_right : Fun K "_law_steps_right" "_law_steps_right" s__law_steps_right a.f__law_steps_right a.fd__law_steps_right
  b__law_steps_right : Binds K a.fd__law_steps_right P__law_steps_right []
  g__law_steps_right : mg "_law_steps_right" = some (.ref a.f__law_steps_right)
  F__law_signs_right : Fun K "_law_signs_right" "_law_signs_right" s__law_signs_right a.f__law_signs_right a.fd__law_signs_right
  b__law_signs_right : Binds K a.fd__law_signs_right P__law_signs_right []
  g__law_signs_right : mg "_law_signs_right" = some (.ref a.f__law_signs_right)
  F__law_into_right : Fun K "_law_into_right" "_law_into_right" s__law_into_right a.f__law_into_right a.fd__law_into_right
  b__law_into_right : Binds K a.fd__law_into_right P__law_into_right []
  g__law_into_right : mg "_law_into_right" = some (.ref a.f__law_into_right)
  F_law : Fun K "law" "law" s_law a.f_law a.fd_law
  b_law : Binds K a.fd_law P_law []
  g_law : mg "law" = some (.ref a.f_law)
  g_RowError : mg "RowError" = some (.ref a.C_RowError)
  g_BadInput : mg "BadInput" = some (.ref a.C_BadInput)
  g_BadCell : mg "BadCell" = some (.ref a.C_BadCell)
  g_Ref : mg "Ref" = some (.ref a.C_Ref)
  mk_Ref : Mk K a.C_Ref a.f_Ref___init__
  cl_Ref : Cls K a.C_Ref
  in_Ref : InsT K a.C_Ref
  n_Ref_kind : NoAttr K a.C_Ref "kind"
  n_Ref_column : NoAttr K a.C_Ref "column"
  n_Ref_number : NoAttr K a.C_Ref "number"
  n_Ref_sort_key : NoAttr K a.C_Ref "sort_key"
  x_BadCell : XcT K mg "BadCell" a.C_BadCell a.f_BadCell___init__
  e_BadCell : ExcC K a.C_BadCell
  xf_BadCell : XfC K a.C_BadCell
  n_BadCell_part : PySem.W.findIn K (.ref a.C_BadCell) "part" = some none
  k_BB : PySem.W.kitOne K (.ref a.C_BadCell) (.ref a.C_BadCell) = some true
  k_BI : PySem.W.kitOne K (.ref a.C_BadCell) (.ref a.C_BadInput) = some true
  k_BV : PySem.W.kitOne K (.ref a.C_BadCell) (.type "ValueError") = some true
  k_RR : PySem.W.kitOne K (.ref a.C_Ref) (.ref a.C_Ref) = some true
  ex_B : PySem.W.exmOne K (.ref a.C_BadCell) (.ref a.C_RowError) = some true
  cr_Ref : ClX.CRead K a.C_Ref a.mcRef
  cv_KINDS : ClX.CVal K a.C_Ref a.mcRef "KINDS" (.ref a.kinds) (.ref a.kinds)
  sq_KINDS : ∀ H, SqT K H a.kinds [.str "nearby", .str "fixed", .str "following", .str "nothing"]
  ty_KINDS : ∃ o, K.lookup a.kinds = some o ∧ o.cls = .type "tuple" ∧ o.dict = none
  oa : OwnOp K a.C_Ref a.f_Ref___add__ "add"
  os : OwnOp K a.C_Ref a.f_Ref___sub__ "sub"
  ora : OwnR K a.C_Ref a.f_Ref___radd__ "add"
  oi : (∃ cd, PySem.W.clsIn K a.C_Ref = some cd ∧ cd.mro = [.ref a.C_Ref, .type "object"]) ∧ PySem.W.findIn K (.ref a.C_Ref) (dunderI "add") = some none
  bk_Ref_into : ∀ (s : Shared) (u v : Value), K.In s.heap → BindsTo s a.fd_Ref_into ⟨[u], [("column", v)]⟩ [("self", u), ("column", v)]
  cd1 : a.fd__law_steps_right.code = .ref a.c1
  cd2 : a.fd__law_signs_right.code = .ref a.c2
  cd3 : a.fd__law_into_right.code = .ref a.c3
  dP : a.P1 ≠ a.P2 ∧ a.P1 ≠ a.P3 ∧ a.P2 ≠ a.P3
  on : OwnU K a.C_Ref a.f_Ref___neg__ "__neg__"
  ob : OwnU K a.C_Ref a.f_Ref___abs__ "__abs__"

end R
end

local macro_rules | `(tactic| walk_at "hp") => `(tactic| exact Z.At.h)
local macro_rules | `(tactic| walk_at "side") => `(tactic| first | omega | exact Z.c_mulL (by omega) (by omega) | exact Z.c_mulR (by omega) (by omega) | exact Z.c_divN (by omega) (by omega) | exact Z.c_pow (by omega) (by omega) (by omega) (by omega) | exact Z.c_powM (by omega) (by omega) (by omega) (by omega) (by omega) (by omega) (by omega) (by omega) (by omega) (by omega) (by omega) (by omega) | exact Nat.le_of_ble_eq_true (by with_unfolding_all rfl) | exact Nat.le_trans (m := 1000) (by first | omega | (simp; omega)) (by decide) | assumption | decide | rfl)
local macro_rules | `(tactic| walk_at "z1") => `(tactic| first
  | refine Z.Run1.imp ?_
  | (refine Z.New.mk ?_; intro _ _)
  | refine And.intro (by walk_at "side") ?_)
local macro_rules | `(tactic| walk_at "z") => `(tactic| repeat walk_at "z1")

section
open PySem PySem.Spec PyProof.Rows L2 Z
namespace R
abbrev small : Str := "abcdefghijklmnopqrstuvwxyz"
abbrev nums : Str := "0123456789"
/-- the kinds of values that are asked -/
inductive An (H : Hp) : V → Prop where
  | non : An H .non
  | bl (b : Bool) : An H (.bl b)
  | int (i : Int) : An H (.int i)
  | str (x : Str) : x.length ≤ 1000 → PyData.strOk x = true → An H (.str x)
  | lst {a : Addr} {xs : List V} (h : H a = some (.lst xs)) : An H (.ref a)
  | dK {a : Addr} {kvs : List (Key × V)} (h : H a = some (.dK kvs)) : An H (.ref a)
def isIntV : V → Bool
  | .int _ => true
  | _ => false
def wordB (z : Str) : Bool := decide (1 ≤ z.length) && decide (z.length ≤ 8) && (match z.cps.toList with | [] => false | c :: _ => decide (c ∈ small.cps.toList)) && z.cps.toList.all fun c => decide (c ∈ small.cps.toList) || decide (c ∈ nums.cps.toList)
def isW : V → Bool
  | .str z => wordB z
  | _ => false
def sp_is_integer : Sp := fun vs H Q _ => ∃ v, vs = [v] ∧ An H v ∧ Q (.bl (isIntV v)) H
def sp_is_word : Sp := fun vs H Q _ => ∃ v, vs = [v] ∧ An H v ∧ ∀ H', Same H H' → Q (.bl (isW v)) H'
section
variable {P : Program} {w : World} {K : PySem.W.Frag} {mg : Str → Option Value} {base : Heap} {a : Ad}
theorem ok_is_integer (T : Tx K mg a) : FnOk P w K mg base (L2.CX P w) 1 a.f_is_integer a.fd_is_integer P_is_integer sp_is_integer := by
  refine T.F_is_integer.okX sc_is_integer (fun vs H Q E h => ?_) (fun cdv A outer s H vs Q E hr h => ?_)
  · obtain ⟨v, rfl, _⟩ := h
    rfl
  · obtain ⟨v, rfl, ha, q⟩ := h
    refine ⟨_, (pss_one (ps_ret (pe_andK K (pe_callB (k_isinstance K) (by rfl) T.z_isinstance (by decide +kernel) (pa_cons (pv 0) (pa_cons (pe_bltn (v := .ty "int") (by rfl) T.z_int (by decide +kernel) rfl) pa_nil))) (pe_one (pe_notK K (pe_callB (k_isinstance K) (by rfl) T.z_isinstance (by decide +kernel) (pa_cons (pv 0) (pa_cons (pe_bltn (v := .ty "bool") (by rfl) T.z_bool (by decide +kernel) rfl) pa_nil)))))))), ?_⟩
    refine at_start (σ' := [some _]) rfl ?_
    cases ha with
    | lst h => haveI : At H _ _ := ⟨h⟩; walk_at "z"; exact q
    | dK h => haveI : At H _ _ := ⟨h⟩; walk_at "z"; exact q
    | _ => walk_at "z"; exact q
theorem ok_is_word (T : Tx K mg a) : FnOk P w K mg base (L2.CX P w) 1 a.f_is_word a.fd_is_word P_is_word sp_is_word := by
  refine T.F_is_word.okX sc_is_word (fun vs H Q E h => ?_) (fun cdv A outer s H vs Q E hr h => ?_)
  · obtain ⟨v, rfl, _⟩ := h
    rfl
  · obtain ⟨v, rfl, ha, q⟩ := h
    refine ⟨_, (pss_cons (ps_if (PW.pt (pw_or (pt_not (pt_trK K (pe_callB (k_isinstance K) (by rfl) T.z_isinstance (by decide +kernel) (pa_cons (pv 0) (pa_cons (pe_bltn (v := .ty "str") (by rfl) T.z_str (by decide +kernel) rfl) pa_nil))) (by intro _; rfl))) (pw_or (pt_not (pt_chain o_le o_le pe_int (pe_callB (k_len K) (by rfl) T.z_len (by decide +kernel) (pa_cons (pv 0) pa_nil)) (C8.pe_gc (by rfl) T.c_MOST_SIGNS))) (pw_or1 (pt_cmpR (k_nin K) (pe_ix (k_ix K) (pv 0) pe_int (fun _ _ => rfl)) (C8.pe_gc (by rfl) T.c_SMALL) (by rfl))))))
        (pss_one (ps_ret pe_bl))
        pss_nil)
      (pss_one (ps_ret (pe_callB (k_all K rfl) (by rfl) T.z_all (by decide +kernel) (pa_cons (pe_lc (own := [("sign", 1)]) rfl sc_is_word.nd (pi_str (pv 0)) (blkOk_by (own := [("sign", 1)]) (N := N_is_word) (sc := defScope s_is_word) (by decide +kernel)) (fun _ _ _ _ _ => (pg_name (i := 1) sc_is_word.nd rfl (.inl rfl))) (fun _ _ _ _ _ => pts_nil) (fun _ _ _ _ _ => (pe_orK K (pe_cmpR (k_in K) (pv 1) (C8.pe_gc (by rfl) T.c_SMALL) (by rfl)) (pe_one (pe_cmpR (k_in K) (pv 1) pe_str (by rfl)))))) pa_nil))))), ?_⟩
    refine at_start (σ' := [some _, none]) rfl ?_
    cases ha with
    | lst h => haveI : At H _ _ := ⟨h⟩; walk_at "z"; exact q _ (fun _ _ h => h)
    | dK h => haveI : At H _ _ := ⟨h⟩; walk_at "z"; exact q _ (fun _ _ h => h)
    | str z hz hok => 
      walk_at "z"
      have fls : wordB z = false → Q (.bl false) H := fun e => by
        have q' := q H (fun _ _ h => h)
        rw [show isW (.str z) = wordB z from rfl, e] at q'
        exact q'
      refine i_dec (fun c1 => ?_) (fun c1 => ?_)
      · walk_at "z"
        refine i_ndec (fun c2 => ?_) (fun c2 => ?_)
        · cases hcs : z.cps.toList with
          | nil =>
            exfalso
            have e : z.length = z.cps.toList.length := by simp [Str.length]
            rw [hcs] at e
            simp at e
            omega
          | cons c cs =>
            walk_at "z"
            refine i_ixS0 (Nat.le_trans hz (by decide)) hcs ?_
            walk_at "z"
            refine i_ndec (fun c3 => ?_) (fun c3 => ?_)
            · walk_at "z"
              refine i_lcS (fun _ => true) (fun c => .bl (decide (c ∈ small.cps.toList) || decide (c ∈ nums.cps.toList))) (Nat.le_trans (show z.cps.size ≤ 1000 from hz) (by decide)) (fun _ => rfl) (fun _ _ _ _ h => h) (fun c H' R _ _ h => ?_) ?_
              · refine (show tOrT K _ _ [some (.str z), some (.str ⟨#[c]⟩)] H' R from ?_)
                walk_at "z"
                refine i_dec (fun c4 => ?_) (fun c4 => ?_)
                · rw [decide_eq_true c4] at h ⊢
                  exact h
                · rw [decide_eq_false c4] at h
                  walk_at "z"
                  exact h
              · walk_at "z"
                refine i_allL (bs := z.cps.toList.map fun c => decide (c ∈ small.cps.toList) || decide (c ∈ nums.cps.toList)) (by rw [upd_same, List.filter_eq_self.mpr (fun _ _ => rfl), List.map_map]; rfl) ?_
                have e : isW (.str z) = (z.cps.toList.map fun c => decide (c ∈ small.cps.toList) || decide (c ∈ nums.cps.toList)).all id := by
                  show wordB z = _
                  unfold wordB
                  rw [hcs]
                  have e1 : 1 ≤ z.length := by omega
                  have e2 : z.length ≤ 8 := by omega
                  simp only [e1, e2, c3, decide_true, Bool.true_and, List.all_map]
                  rfl
                rw [← e]
                exact q _ (Same.new (fun _ _ h => h) Nw.h)
            · walk_at "z"
              refine fls ?_
              unfold wordB
              rw [hcs]
              simp only [c3, decide_false, Bool.and_false, Bool.false_and]
        · walk_at "z"
          refine fls ?_
          have e2 : ¬ z.length ≤ 8 := by omega
          unfold wordB
          simp only [e2, decide_false, Bool.and_false, Bool.false_and]
      · walk_at "z"
        refine fls ?_
        have e1 : ¬ 1 ≤ z.length := by omega
        unfold wordB
        simp only [e1, decide_false, Bool.false_and]
    | _ => walk_at "z"; exact q _ (fun _ _ h => h)
theorem ok__law_is_word (T : Tx K mg a) : FnOk P w K mg base (L2.CX P w) 1 a.f__law_is_word a.fd__law_is_word P__law_is_word sp_is_word := by
  refine T.F__law_is_word.okX sc__law_is_word (fun vs H Q E h => ?_) (fun cdv A outer s H vs Q E hr h => ?_)
  · obtain ⟨v, rfl, _⟩ := h
    rfl
  · obtain ⟨v, rfl, ha, q⟩ := h
    refine ⟨_, (pss_cons (ps_set (i := 1) sc__law_is_word.nd rfl (.inr rfl) pe_str)
      (pss_cons (ps_if (PW.pt (pw_or (pt_not (pt_trK K (pe_callB (k_isinstance K) (by rfl) T.z_isinstance (by decide +kernel) (pa_cons (pv 0) (pa_cons (pe_bltn (v := .ty "str") (by rfl) T.z_str (by decide +kernel) rfl) pa_nil))) (by intro _; rfl))) (pw_or (pt_not (pt_chain o_le o_le pe_int (pe_callB (k_len K) (by rfl) T.z_len (by decide +kernel) (pa_cons (pv 0) pa_nil)) pe_int)) (pw_or1 (pt_cmpR (k_nin K) (pe_ix (k_ix K) (pv 0) pe_int (fun _ _ => rfl)) (pv 1) (by rfl))))))
        (pss_one (ps_ret pe_bl))
        pss_nil)
      (pss_one (ps_ret (pe_cmpR (k_eq K hr.units) (pe_lc (own := [("_law_sign", 2)]) rfl sc__law_is_word.nd (pi_str (pv 0)) (blkOk_by (own := [("_law_sign", 2)]) (N := N__law_is_word) (sc := defScope s__law_is_word) (by decide +kernel)) (fun _ _ _ _ _ => (pg_name (i := 2) sc__law_is_word.nd rfl (.inl rfl))) (fun _ _ _ _ _ => (pts_one (pt_cmpR (k_nin K) (pv 2) (pe_op (k_add K) (pv 1) pe_str) (by rfl)))) (fun _ _ _ _ _ => (pv 2))) (pe_lst pa_nil) (nomark _)))))), ?_⟩
    refine at_start (σ' := [some _, none, none]) rfl ?_
    cases ha with
    | lst h => haveI : At H _ _ := ⟨h⟩; walk_at "z"; exact q _ (fun _ _ h => h)
    | dK h => haveI : At H _ _ := ⟨h⟩; walk_at "z"; exact q _ (fun _ _ h => h)
    | str z hz hok => 
      walk_at "z"
      have fls : wordB z = false → Q (.bl false) H := fun e => by
        have q' := q H (fun _ _ h => h)
        rw [show isW (.str z) = wordB z from rfl, e] at q'
        exact q'
      refine i_dec (fun c1 => ?_) (fun c1 => ?_)
      · walk_at "z"
        refine i_ndec (fun c2 => ?_) (fun c2 => ?_)
        · cases hcs : z.cps.toList with
          | nil =>
            exfalso
            have e : z.length = z.cps.toList.length := by simp [Str.length]
            rw [hcs] at e
            simp at e
            omega
          | cons c cs =>
            walk_at "z"
            refine i_ixS0 (Nat.le_trans hz (by decide)) hcs ?_
            walk_at "z"
            refine i_ndec (fun c3 => ?_) (fun c3 => ?_)
            · walk_at "z"
              refine i_lcS (fun c => !decide (c ∈ (small ++ nums).cps.toList)) (fun c => .str ⟨#[c]⟩) (Nat.le_trans (show z.cps.size ≤ 1000 from hz) (by decide)) (fun _ => rfl) (fun c H' R _ h => ?_) (fun c H' R _ _ h => ?_) ?_
              · refine (show tTest _ [some (.str z), some (.str small), some (.str ⟨#[c]⟩)] H' R from ?_)
                walk_at "z"
                exact h
              · refine (show tVar 2 [some (.str z), some (.str small), some (.str ⟨#[c]⟩)] H' R from ?_)
                walk_at "z"
                exact h
              · walk_at "z"
                refine i_eqDt (dp_strs (ns := (z.cps.toList.filter fun c => !decide (c ∈ (small ++ nums).cps.toList)).map fun c => ⟨#[c]⟩) ?_) (dp_nil upd_same) (shaped_strs _ ?_) rfl (c := isW (.str z)) ?_ ?_
                · refine Eq.trans At.h ?_
                  rw [List.map_map]; rfl
                · refine List.all_eq_true.mpr fun x hx => ?_
                  obtain ⟨c, hc, rfl⟩ := List.mem_map.mp hx
                  have hm := (List.mem_filter.mp hc).1
                  unfold PyData.strOk at hok ⊢
                  rw [← Array.all_toList] at hok
                  simpa using List.all_eq_true.mp hok c hm
                · rw [show isW (.str z) = wordB z from rfl]
                  have e3 : ∀ c : Nat, decide (c ∈ (small ++ nums).cps.toList) = (decide (c ∈ small.cps.toList) || decide (c ∈ nums.cps.toList)) := fun c => by
                    rw [show (small ++ nums).cps.toList = small.cps.toList ++ nums.cps.toList from (Array.toList_append : (small.cps ++ nums.cps).toList = _)]
                    simp [List.mem_append]
                  simp only [e3]
                  unfold wordB
                  have e1 : 1 ≤ z.length := by omega
                  have e2 : z.length ≤ 8 := by omega
                  have e4 : (match z.cps.toList with | [] => false | c :: _ => decide (c ∈ small.cps.toList)) = true := by rw [hcs]; exact decide_eq_true c3
                  simp only [e1, e2, e4, decide_true, Bool.true_and]
                  generalize z.cps.toList = l
                  induction l with
                  | nil => rfl
                  | cons c l ih =>
                    rw [List.filter_cons, List.all_cons]
                    cases hc : (decide (c ∈ small.cps.toList) || decide (c ∈ nums.cps.toList)) with
                    | true => simpa using ih
                    | false => simp [PyData.eqv, PyData.eqvAll]
                · exact q _ (Same.new (Same.new (fun _ _ h => h) Nw.h) Nw.h)
            · walk_at "z"
              refine fls ?_
              unfold wordB
              rw [hcs]
              simp only [c3, decide_false, Bool.and_false, Bool.false_and]
        · walk_at "z"
          refine fls ?_
          have e2 : ¬ z.length ≤ 8 := by omega
          unfold wordB
          simp only [e2, decide_false, Bool.and_false, Bool.false_and]
      · walk_at "z"
        refine fls ?_
        have e1 : ¬ 1 ≤ z.length := by omega
        unfold wordB
        simp only [e1, decide_false, Bool.false_and]
    | _ => walk_at "z"; exact q _ (fun _ _ h => h)
def numB (k : Str) (n : Int) : Bool := if k = "following" then decide (0 ≤ n) && decide (n ≤ 9999) else if k = "nothing" then decide (n = 0) else decide (-999 ≤ n) && decide (n ≤ 999)
def colB (k : Str) (c : V) : Bool := if k = "nothing" then decide (c = .str "") else isW c
def sp_number_fits : Sp := fun vs H Q _ => ∃ k n, vs = [.str k, .int n] ∧ Q (.bl (numB k n)) H
def sp_column_fits : Sp := fun vs H Q _ => ∃ k c, vs = [.str k, c] ∧ An H c ∧ ∀ H', Same H H' → Q (.bl (colB k c)) H'
theorem ok_number_fits (T : Tx K mg a) (G_is_integer : FnOk P w K mg base (L2.CX P w) 1 a.f_is_integer a.fd_is_integer P_is_integer sp_is_integer) : FnOk P w K mg base (L2.CX P w) 2 a.f_number_fits a.fd_number_fits P_number_fits sp_number_fits := by
  refine T.F_number_fits.okX sc_number_fits (fun vs H Q E h => ?_) (fun cdv A outer s H vs Q E hr h => ?_)
  · obtain ⟨_, _, rfl, _⟩ := h
    rfl
  · obtain ⟨k, n, rfl, q⟩ := h
    refine ⟨_, (pss_cons (ps_if (pt_not (pt_trK K (pe_call G_is_integer (hr.mono (by decide)) (by rfl) T.g_is_integer T.F_is_integer.kp T.b_is_integer .nil (passes_call (takes_of rfl rfl rfl rfl) fun _ _ _ _ h => h) (pa_cons (pv 1) pa_nil)) (by intro _; rfl)))
        (pss_one (ps_ret pe_bl))
        pss_nil)
      (pss_cons (ps_if (pt_cmpR (k_eq K hr.units) (pv 0) pe_str (nomark _))
        (pss_one (ps_ret (pe_chain o_le o_le pe_int (pv 1) (C8.pe_gc (by rfl) T.c_MOST_RECORD))))
        pss_nil)
      (pss_one (ps_ret (pe_ifExp (pt_cmpR (k_eq K hr.units) (pv 0) pe_str (nomark _)) (pe_cmpR (k_eq K hr.units) (pv 1) pe_int (nomark _)) (pe_chain o_le o_le (pe_un u_neg (C8.pe_gc (by rfl) T.c_MOST_STEPS)) (pv 1) (C8.pe_gc (by rfl) T.c_MOST_STEPS))))))), ?_⟩
    refine at_start (σ' := [some _, some _]) rfl ?_
    walk_at "z"
    refine ⟨_, rfl, .int n, ?_⟩
    unfold numB at q
    dsimp only [isIntV]
    walk_at "z"
    refine i_dec (fun c => ?_) (fun c => ?_)
    · rw [if_pos c] at q
      walk_at "z"
      refine i_dec (fun c1 => ?_) (fun c1 => ?_)
      · rw [decide_eq_true c1, Bool.true_and] at q
        walk_at "z"
        exact q
      · rw [decide_eq_false c1, Bool.false_and] at q
        exact q
    · rw [if_neg c] at q
      walk_at "z"
      refine i_dec (fun c1 => ?_) (fun c1 => ?_)
      · rw [if_pos c1] at q
        walk_at "z"
        exact q
      · rw [if_neg c1] at q
        walk_at "z"
        refine i_dec (fun c1 => ?_) (fun c1 => ?_)
        · rw [decide_eq_true c1, Bool.true_and] at q
          walk_at "z"
          exact q
        · rw [decide_eq_false c1, Bool.false_and] at q
          exact q
theorem ok_column_fits (T : Tx K mg a) (G_is_word : FnOk P w K mg base (L2.CX P w) 1 a.f_is_word a.fd_is_word P_is_word sp_is_word) : FnOk P w K mg base (L2.CX P w) 2 a.f_column_fits a.fd_column_fits P_column_fits sp_column_fits := by
  refine T.F_column_fits.okX sc_column_fits (fun vs H Q E h => ?_) (fun cdv A outer s H vs Q E hr h => ?_)
  · obtain ⟨_, _, rfl, _⟩ := h
    rfl
  · obtain ⟨k, c, rfl, ha, q⟩ := h
    refine ⟨_, (pss_one (ps_ret (pe_ifExp (pt_cmpR (k_eq K hr.units) (pv 0) pe_str (nomark _)) (pe_andK K (pe_callB (k_isinstance K) (by rfl) T.z_isinstance (by decide +kernel) (pa_cons (pv 1) (pa_cons (pe_bltn (v := .ty "str") (by rfl) T.z_str (by decide +kernel) rfl) pa_nil))) (pe_one (pe_cmpR (k_eq K hr.units) (pv 1) pe_str (nomark _)))) (pe_call G_is_word (hr.mono (by decide)) (by rfl) T.g_is_word T.F_is_word.kp T.b_is_word .nil (passes_call (takes_of rfl rfl rfl rfl) fun _ _ _ _ h => h) (pa_cons (pv 1) pa_nil))))), ?_⟩
    refine at_start (σ' := [some _, some _]) rfl ?_
    unfold colB at q
    walk_at "z"
    refine i_dec (fun c => ?_) (fun c => ?_)
    · simp only [if_pos c] at q
      have q' := q H (fun _ _ h => h)
      cases ha with
      | lst h => haveI : At H _ _ := ⟨h⟩; walk_at "z"; exact q'
      | dK h => haveI : At H _ _ := ⟨h⟩; walk_at "z"; exact q'
      | str z hz hok =>
        walk_at "z"
        rw [show decide (V.str z = V.str "") = decide (z = "") from decide_eq_decide.mpr ⟨fun z => V.str.inj z, fun z => by rw [z]⟩] at q'
        exact q'
      | _ => walk_at "z"; exact q'
    · simp only [if_neg c] at q
      walk_at "z"
      exact ⟨_, rfl, ha, q⟩
end
end R
end

section
open PySem PySem.Spec PyProof.Rows L2 Z
namespace R
def isKind (k : Str) : Prop := k = "nearby" ∨ k = "fixed" ∨ k = "following" ∨ k = "nothing"
abbrev kindsV : List Str := ["nearby", "fixed", "following", "nothing"]
theorem isKind.mem {k : Str} (h : isKind k) : k ∈ kindsV := by rcases h with rfl | rfl | rfl | rfl <;> simp [kindsV]
theorem isKind.idx {k : Str} (h : isKind k) : ∃ j : Nat, kindsV[j]? = some k ∧ ∀ m, m < j → kindsV[m]? ≠ some k := by
  rcases h with rfl | rfl | rfl | rfl
  · exact ⟨0, rfl, fun m hm => absurd hm (by omega)⟩
  · exact ⟨1, rfl, fun m hm => match m, hm with | 0, _ => by decide +kernel⟩
  · exact ⟨2, rfl, fun m hm => match m, hm with | 0, _ => by decide +kernel | 1, _ => by decide +kernel⟩
  · exact ⟨3, rfl, fun m hm => match m, hm with | 0, _ => by decide +kernel | 1, _ => by decide +kernel | 2, _ => by decide +kernel⟩
def refFs (k : Str) (c : V) (n : Int) (t : Addr) : List (Str × V) := [("kind", .str k), ("column", c), ("number", .int n), ("sort_key", .ref t)]
def badOf (k : Str) (c : V) (n : Int) : Option Str := if colB k c then (if numB k n then none else some "number") else some "column"
inductive Res where
  | bad (p : Str)
  | ref (k : Str) (c : V) (n : Int)
def mkRes (k : Str) (c : V) (n : Int) : Res := match badOf k c n with | some p => .bad p | none => .ref k c n
def Bad (a : Ad) (p : Str) (H : Hp) (E : XK) : Prop := ∀ d H', Same H H' → H' d = some (.xd [("part", .str p)]) → E (.ref a.C_BadCell) (some d) H'
def RefAt (a : Ad) (H : Hp) (p : Addr) (k : Str) (c : V) (n : Int) : Prop := ∃ dx t, H p = some (.ins a.C_Ref dx (refFs k c n t))
def Gv (a : Ad) (r : Res) (H : Hp) (Q : VK) (E : XK) : Prop := match r with | .bad p => Bad a p H E | .ref k c n => ∀ p H', Same H H' → RefAt a H' p k c n → Q (.ref p) H'
theorem sm_trans {H H1 H2 : Hp} (h : Same H H1) (g : Same H1 H2) : Same H H2 := fun _ _ z => g _ _ (h _ _ z)
theorem sm_refl (H : Hp) : Same H H := fun _ _ z => z
theorem Bad.up {a : Ad} {p : Str} {H H1 : Hp} {E : XK} (h : Bad a p H E) (e : Same H H1) : Bad a p H1 E := fun d H' s q => h d H' (sm_trans e s) q
theorem Gv.up {a : Ad} {r : Res} {H H1 : Hp} {Q : VK} {E : XK} (h : Gv a r H Q E) (e : Same H H1) : Gv a r H1 Q E := by
  cases r with
  | bad p => exact Bad.up h e
  | ref k c n => exact fun p H' s q => h p H' (sm_trans e s) q
theorem An.same {H H' : Hp} {v : V} (h : An H v) (e : Same H H') : An H' v := by
  cases h with
  | non => exact .non
  | bl b => exact .bl b
  | int i => exact .int i
  | str x h1 h2 => exact .str x h1 h2
  | lst h => exact .lst (e _ _ h)
  | dK h => exact .dK (e _ _ h)
instance {k : Str} {c : V} {n : Int} {t : Addr} : Lkp (refFs k c n t) "kind" (.str k) := ⟨rfl⟩
instance {k : Str} {c : V} {n : Int} {t : Addr} : Lkp (refFs k c n t) "column" c := ⟨rfl⟩
instance {k : Str} {c : V} {n : Int} {t : Addr} : Lkp (refFs k c n t) "number" (.int n) := ⟨rfl⟩
def sp_Ref___init__ (a : Ad) : Sp := fun vs H Q E => ∃ x dx k c n, vs = [.ref x, .str k, c, .int n] ∧ H x = some (.ins a.C_Ref dx []) ∧ isKind k ∧ An H c ∧ match badOf k c n with
  | some p => Bad a p H E
  | none => ∀ H' t, ExtP x H H' → H' x = some (.ins a.C_Ref dx (refFs k c n t)) → Q .non H'
section
variable {P : Program} {w : World} {K : PySem.W.Frag} {mg : Str → Option Value} {base : Heap} {a : Ad}
theorem ok_BadCell___init__ (T : Tx K mg a) : FnOk P w K mg base (L2.CX P w) 1 a.f_BadCell___init__ a.fd_BadCell___init__ P_BadCell___init__ (spX1 a.C_BadCell "part") := by
  refine T.F_BadCell___init__.okX sc_BadCell___init__ (fun vs H Q E h => ?_) (fun cdv A outer s H vs Q E hr h => ?_)
  · obtain ⟨_, _, rfl, _⟩ := h
    rfl
  · obtain ⟨x, v, rfl, hx, q⟩ := h
    refine ⟨_, (pss_one (ps_ost (pv 0) (pv 1))), ?_⟩
    refine at_start (σ' := [some _, some _]) rfl ?_
    refine ⟨_, rfl, ⟨_, rfl, x, a.C_BadCell, rfl, T.x_BadCell.ox, T.n_BadCell_part, .inl ⟨hx, q⟩⟩⟩
theorem i_ite {c A B : Prop} [Decidable c] (h1 : c → A) (h2 : ¬ c → B) : if c then A else B := by
  by_cases h : c
  · rw [if_pos h]; exact h1 h
  · rw [if_neg h]; exact h2 h
theorem bad_new {p : Str} {H : Hp} {E : XK} (h : Bad a p H E) : ∀ d, H d = none → E (.ref a.C_BadCell) (some d) (upd H d (.xd [("part", .str p)])) := fun d hd => h d _ (Same.new (sm_refl H) hd) upd_same
theorem ok_Ref___init__ (T : Tx K mg a) (G_BadCell___init__ : FnOk P w K mg base (L2.CX P w) 1 a.f_BadCell___init__ a.fd_BadCell___init__ P_BadCell___init__ (spX1 a.C_BadCell "part"))
    (G_column_fits : FnOk P w K mg base (L2.CX P w) 2 a.f_column_fits a.fd_column_fits P_column_fits sp_column_fits)
    (G_number_fits : FnOk P w K mg base (L2.CX P w) 2 a.f_number_fits a.fd_number_fits P_number_fits sp_number_fits) : FnOk P w K mg base (L2.CX P w) 3 a.f_Ref___init__ a.fd_Ref___init__ P_Ref___init__ (sp_Ref___init__ a) := by
  refine T.F_Ref___init__.okX sc_Ref___init__ (fun vs H Q E h => ?_) (fun cdv A outer s H vs Q E hr h => ?_)
  · obtain ⟨_, _, _, _, _, rfl, _⟩ := h
    rfl
  · obtain ⟨x, dx, k, c, n, rfl, hx, hk, ha, q⟩ := h
    refine ⟨_, (pss_cons (ps_if (PW.pt (pw_or (pt_not (pt_trK K (pe_callB (k_isinstance K) (by rfl) T.z_isinstance (by decide +kernel) (pa_cons (pv 1) (pa_cons (pe_bltn (v := .ty "str") (by rfl) T.z_str (by decide +kernel) rfl) pa_nil))) (by intro _; rfl))) (pw_or1 (pt_cmpR (k_nin K) (pv 1) (pe_cvalK K (pe_glob (v := .ref a.C_Ref) (by rfl) T.g_Ref rfl)) (by rfl)))))
        (pss_one (ps_raise rfl (takes_of rfl rfl rfl rfl) (pmk_x1 T.x_BadCell G_BadCell___init__ (hr.mono (by decide)) T.b_BadCell___init__ (by rfl) pe_str)))
        pss_nil)
      (pss_cons (ps_if (pt_not (pt_trK K (pe_call G_column_fits (hr.mono (by decide)) (by rfl) T.g_column_fits T.F_column_fits.kp T.b_column_fits .nil (passes_call (takes_of rfl rfl rfl rfl) fun _ _ _ _ h => h) (pa_cons (pv 1) (pa_cons (pv 2) pa_nil))) (by intro _; rfl)))
        (pss_one (ps_raise rfl (takes_of rfl rfl rfl rfl) (pmk_x1 T.x_BadCell G_BadCell___init__ (hr.mono (by decide)) T.b_BadCell___init__ (by rfl) pe_str)))
        pss_nil)
      (pss_cons (ps_if (pt_not (pt_trK K (pe_call G_number_fits (hr.mono (by decide)) (by rfl) T.g_number_fits T.F_number_fits.kp T.b_number_fits .nil (passes_call (takes_of rfl rfl rfl rfl) fun _ _ _ _ h => h) (pa_cons (pv 1) (pa_cons (pv 3) pa_nil))) (by intro _; rfl)))
        (pss_one (ps_raise rfl (takes_of rfl rfl rfl rfl) (pmk_x1 T.x_BadCell G_BadCell___init__ (hr.mono (by decide)) T.b_BadCell___init__ (by rfl) pe_str)))
        pss_nil)
      (pss_cons (ps_fldK K (pv 0) (pv 1) rfl)
      (pss_cons (ps_fldK K (pv 0) (pv 2) rfl)
      (pss_cons (ps_fldK K (pv 0) (pv 3) rfl)
      (pss_one (ps_fldK K (pv 0) (pe_tup (pa_cons (pe_bm PySem.F.plainAttrs_tuple PySem.F.slot_tuple_index PySem.F.type_tuple_index mt_tup_index (pe_cvalK K (pe_glob (v := .ref a.C_Ref) (by rfl) T.g_Ref rfl)) (pa_cons (pv 1) pa_nil)) (pa_cons (pv 2) (pa_cons (pv 3) pa_nil)))) rfl)))))))), ?_⟩
    refine at_start (σ' := [some _, some _, some _, some _]) rfl ?_
    haveI : CV K a.C_Ref "KINDS" (.ref a.kinds) := ⟨_, _, T.cr_Ref, T.cv_KINDS⟩
    haveI : TupK K a.kinds (kindsV.map V.str) := ⟨T.sq_KINDS⟩
    haveI : Fl K a.C_Ref "kind" := ⟨T.cl_Ref, T.n_Ref_kind⟩
    haveI : Fl K a.C_Ref "column" := ⟨T.cl_Ref, T.n_Ref_column⟩
    haveI : Fl K a.C_Ref "number" := ⟨T.cl_Ref, T.n_Ref_number⟩
    haveI : Fl K a.C_Ref "sort_key" := ⟨T.cl_Ref, T.n_Ref_sort_key⟩
    haveI : At H x _ := ⟨hx⟩
    walk_at "z"
    rw [inV_strs, decide_eq_true hk.mem]
    walk_at "z"
    refine ⟨_, _, rfl, ha, fun H1 s1 => ?_⟩
    unfold badOf at q
    haveI : Sm H H1 := ⟨s1⟩
    cases hc : colB k c with
    | false =>
      rw [hc] at q
      walk_at "z"
      exact bad_new (Bad.up q s1)
    | true =>
      rw [hc] at q
      walk_at "z"
      refine ⟨_, _, rfl, ?_⟩
      cases hn : numB k n with
      | false =>
        rw [hn] at q
        walk_at "z"
        exact bad_new (Bad.up q s1)
      | true =>
        rw [hn] at q
        walk_at "z"
        obtain ⟨j, hj, hj2⟩ := hk.idx
        refine ⟨.inr (.inl ⟨rfl, T.ty_KINDS⟩), ?_⟩
        walk_at "z"
        refine ⟨a.kinds, kindsV, k, j, rfl, rfl, T.sq_KINDS _, hj, hj2, ?_⟩
        walk_at "z"
        exact q _ _ (ExtP.upd (ExtP.new (ExtP.upd (ExtP.upd (ExtP.upd (ExtP.of s1)))) Nw.h)) (by rw [upd_same]; rfl)
def sp_need_kind (a : Ad) : Sp := fun vs H Q E => ∃ p tp k c n ks, vs = [.ref p, .ref tp] ∧ RefAt a H p k c n ∧ H tp = some (.tup (List.map V.str ks)) ∧ (if k ∈ ks then Q .non H else Bad a "kind" H E)
def stepRes (k : Str) (c : V) (n : Int) : Res := if k ∈ (["nearby", "fixed"] : List Str) then mkRes k c n else .bad "kind"
def nearRes (k : Str) (c : V) (n : Int) : Res := if k ∈ (["nearby"] : List Str) then mkRes "nearby" c n else .bad "kind"
def intoRes (k : Str) (c : V) (n : Int) : Res := if k ∈ (["nearby", "fixed", "following"] : List Str) then mkRes k c n else .bad "kind"
def sp_Ref_stepped (a : Ad) : Sp := fun vs H Q E => ∃ p k c n m, vs = [.ref p, .int m] ∧ RefAt a H p k c n ∧ isKind k ∧ An H c ∧ Gv a (stepRes k c (n + m)) H Q E
def sp_Ref_sub (a : Ad) : Sp := fun vs H Q E => ∃ p k c n m, vs = [.ref p, .int m] ∧ RefAt a H p k c n ∧ isKind k ∧ An H c ∧ Gv a (stepRes k c (n - m)) H Q E
def sp_Ref_neg (a : Ad) : Sp := fun vs H Q E => ∃ p k c n, vs = [.ref p] ∧ RefAt a H p k c n ∧ isKind k ∧ An H c ∧ Gv a (nearRes k c (0 - n)) H Q E
def sp_Ref_abs (a : Ad) : Sp := fun vs H Q E => ∃ p k c n, vs = [.ref p] ∧ RefAt a H p k c n ∧ isKind k ∧ An H c ∧ Gv a (nearRes k c (if n < 0 then -n else n)) H Q E
def sp_Ref_into (a : Ad) : Sp := fun vs H Q E => ∃ p k c n u, vs = [.ref p, u] ∧ RefAt a H p k c n ∧ isKind k ∧ An H u ∧ Gv a (intoRes k u n) H Q E
theorem makes {k : Str} {c : V} {n : Int} {H : Hp} {Q : VK} {E : XK} (hk : isKind k) (ha : An H c) (g : Gv a (mkRes k c n) H Q E) : NewI a.C_Ref (sp_Ref___init__ a) E Q [.str k, c, .int n] H := by
  intro x dx hx hdx hne
  have s1 : Same H (upd (upd H dx (.own x)) x (.ins a.C_Ref dx [])) := Same.new (Same.new (sm_refl H) hdx) (by rw [upd_ne hne.symm]; exact hx)
  refine ⟨x, dx, k, c, n, rfl, upd_same, hk, An.same ha s1, ?_⟩
  unfold mkRes at g
  cases hb : badOf k c n with
  | some p =>
    rw [hb] at g
    exact Bad.up g s1
  | none =>
    rw [hb] at g
    refine fun H' t e h => ⟨rfl, g x H' (fun b o hb => ?_) ⟨dx, t, h⟩⟩
    exact e b o (ne_of_none hb hx) (s1 b o hb)
theorem ok_Ref_need_kind (T : Tx K mg a) (G_BadCell___init__ : FnOk P w K mg base (L2.CX P w) 1 a.f_BadCell___init__ a.fd_BadCell___init__ P_BadCell___init__ (spX1 a.C_BadCell "part")) : FnOk P w K mg base (L2.CX P w) 3 a.f_Ref_need_kind a.fd_Ref_need_kind P_Ref_need_kind (sp_need_kind a) := by
  refine T.F_Ref_need_kind.okX sc_Ref_need_kind (fun vs H Q E h => ?_) (fun cdv A outer s H vs Q E hr h => ?_)
  · obtain ⟨_, _, _, _, _, _, rfl, _⟩ := h
    rfl
  · obtain ⟨p, tp, k, c, n, ks, rfl, ⟨dx, t, hp⟩, ht, q⟩ := h
    refine ⟨_, (pss_one (ps_if (pt_cmpR (k_nin K) (pe_attK K (pv 0)) (pv 1) (by rfl))
        (pss_one (ps_raise rfl (takes_of rfl rfl rfl rfl) (pmk_x1 T.x_BadCell G_BadCell___init__ (hr.mono (by decide)) T.b_BadCell___init__ (by rfl) pe_str)))
        pss_nil)), ?_⟩
    refine at_start (σ' := [some _, some _]) rfl ?_
    haveI : Fl K a.C_Ref "kind" := ⟨T.cl_Ref, T.n_Ref_kind⟩
    haveI : At H p _ := ⟨hp⟩
    haveI : At H tp _ := ⟨ht⟩
    walk_at "z"
    refine ⟨by simp [flatV], ?_⟩
    rw [inV_strs]
    walk_at "z"
    refine i_ndec (fun c1 => ?_) (fun c1 => ?_)
    · rw [if_pos c1] at q
      walk_at "z"
      exact q
    · rw [if_neg c1] at q
      walk_at "z"
      exact bad_new q
theorem ok_Ref_stepped (T : Tx K mg a) (G_Ref_need_kind : FnOk P w K mg base (L2.CX P w) 3 a.f_Ref_need_kind a.fd_Ref_need_kind P_Ref_need_kind (sp_need_kind a))
    (G_Ref___init__ : FnOk P w K mg base (L2.CX P w) 3 a.f_Ref___init__ a.fd_Ref___init__ P_Ref___init__ (sp_Ref___init__ a)) : FnOk P w K mg base (L2.CX P w) 5 a.f_Ref_stepped a.fd_Ref_stepped P_Ref_stepped (sp_Ref_stepped a) := by
  refine T.F_Ref_stepped.okX sc_Ref_stepped (fun vs H Q E h => ?_) (fun cdv A outer s H vs Q E hr h => ?_)
  · obtain ⟨_, _, _, _, _, rfl, _⟩ := h
    rfl
  · obtain ⟨p, k, c, n, m, rfl, ⟨dx, t, hp⟩, hk, ha, g⟩ := h
    refine ⟨_, (pss_cons (ps_expr (pe_meth (pv 0) T.cl_Ref T.m_Ref_need_kind G_Ref_need_kind (hr.mono (by decide)) T.b_Ref_need_kind .nil (passes_call (takes_of rfl rfl rfl rfl) fun _ _ _ _ h => h) (pa_cons (pe_tup (pa_cons pe_str (pa_cons pe_str pa_nil))) pa_nil)))
      (pss_one (ps_ret (pe_make T.mk_Ref G_Ref___init__ (hr.mono (by decide)) (by rfl) T.g_Ref T.b_Ref___init__ .nil (passes_call (takes_of rfl rfl rfl rfl) fun _ _ _ _ h => h) (pa_cons (pe_attK K (pv 0)) (pa_cons (pe_attK K (pv 0)) (pa_cons (pe_op (k_add K) (pe_callTy c_int (by rfl) T.z_int (by decide +kernel) (pa_cons (pe_attK K (pv 0)) pa_nil)) (pe_callTy c_int (by rfl) T.z_int (by decide +kernel) (pa_cons (pv 1) pa_nil))) pa_nil))))))), ?_⟩
    refine at_start (σ' := [some _, some _]) rfl ?_
    haveI : Fl K a.C_Ref "kind" := ⟨T.cl_Ref, T.n_Ref_kind⟩
    haveI : Fl K a.C_Ref "column" := ⟨T.cl_Ref, T.n_Ref_column⟩
    haveI : Fl K a.C_Ref "number" := ⟨T.cl_Ref, T.n_Ref_number⟩
    haveI : At H p _ := ⟨hp⟩
    walk_at "z"
    refine ⟨p, _, k, _, n, ["nearby", "fixed"], rfl, ⟨dx, t, At.h⟩, upd_same, ?_⟩
    unfold stepRes at g
    refine i_ite (fun c1 => ?_) (fun c1 => ?_)
    · rw [if_pos c1] at g
      walk_at "z"
      exact makes hk (An.same ha Sc.h) (Gv.up g Sc.h)
    · rw [if_neg c1] at g
      exact Bad.up g Sc.h
theorem ok_Ref___neg__ (T : Tx K mg a) (G_Ref_need_kind : FnOk P w K mg base (L2.CX P w) 3 a.f_Ref_need_kind a.fd_Ref_need_kind P_Ref_need_kind (sp_need_kind a))
    (G_Ref___init__ : FnOk P w K mg base (L2.CX P w) 3 a.f_Ref___init__ a.fd_Ref___init__ P_Ref___init__ (sp_Ref___init__ a)) : FnOk P w K mg base (L2.CX P w) 5 a.f_Ref___neg__ a.fd_Ref___neg__ P_Ref___neg__ (sp_Ref_neg a) := by
  refine T.F_Ref___neg__.okX sc_Ref___neg__ (fun vs H Q E h => ?_) (fun cdv A outer s H vs Q E hr h => ?_)
  · obtain ⟨_, _, _, _, rfl, _⟩ := h
    rfl
  · obtain ⟨p, k, c, n, rfl, ⟨dx, t, hp⟩, hk, ha, g⟩ := h
    refine ⟨_, (pss_cons (ps_expr (pe_meth (pv 0) T.cl_Ref T.m_Ref_need_kind G_Ref_need_kind (hr.mono (by decide)) T.b_Ref_need_kind .nil (passes_call (takes_of rfl rfl rfl rfl) fun _ _ _ _ h => h) (pa_cons (pe_tup (pa_cons pe_str pa_nil)) pa_nil)))
      (pss_one (ps_ret (pe_make T.mk_Ref G_Ref___init__ (hr.mono (by decide)) (by rfl) T.g_Ref T.b_Ref___init__ .nil (passes_call (takes_of rfl rfl rfl rfl) fun _ _ _ _ h => h) (pa_cons pe_str (pa_cons (pe_attK K (pv 0)) (pa_cons (pe_op o_sub pe_int (pe_callTy c_int (by rfl) T.z_int (by decide +kernel) (pa_cons (pe_attK K (pv 0)) pa_nil))) pa_nil))))))), ?_⟩
    refine at_start (σ' := [some _]) rfl ?_
    haveI : Fl K a.C_Ref "kind" := ⟨T.cl_Ref, T.n_Ref_kind⟩
    haveI : Fl K a.C_Ref "column" := ⟨T.cl_Ref, T.n_Ref_column⟩
    haveI : Fl K a.C_Ref "number" := ⟨T.cl_Ref, T.n_Ref_number⟩
    haveI : At H p _ := ⟨hp⟩
    walk_at "z"
    refine ⟨p, _, k, _, n, ["nearby"], rfl, ⟨dx, t, At.h⟩, upd_same, ?_⟩
    unfold nearRes at g
    refine i_ite (fun c1 => ?_) (fun c1 => ?_)
    · rw [if_pos c1] at g
      walk_at "z"
      exact makes (.inl rfl) (An.same ha Sc.h) (Gv.up g Sc.h)
    · rw [if_neg c1] at g
      exact Bad.up g Sc.h
theorem ok_Ref___abs__ (T : Tx K mg a) (G_Ref_need_kind : FnOk P w K mg base (L2.CX P w) 3 a.f_Ref_need_kind a.fd_Ref_need_kind P_Ref_need_kind (sp_need_kind a))
    (G_Ref___init__ : FnOk P w K mg base (L2.CX P w) 3 a.f_Ref___init__ a.fd_Ref___init__ P_Ref___init__ (sp_Ref___init__ a)) : FnOk P w K mg base (L2.CX P w) 5 a.f_Ref___abs__ a.fd_Ref___abs__ P_Ref___abs__ (sp_Ref_abs a) := by
  refine T.F_Ref___abs__.okX sc_Ref___abs__ (fun vs H Q E h => ?_) (fun cdv A outer s H vs Q E hr h => ?_)
  · obtain ⟨_, _, _, _, rfl, _⟩ := h
    rfl
  · obtain ⟨p, k, c, n, rfl, ⟨dx, t, hp⟩, hk, ha, g⟩ := h
    refine ⟨_, (pss_cons (ps_expr (pe_meth (pv 0) T.cl_Ref T.m_Ref_need_kind G_Ref_need_kind (hr.mono (by decide)) T.b_Ref_need_kind .nil (passes_call (takes_of rfl rfl rfl rfl) fun _ _ _ _ h => h) (pa_cons (pe_tup (pa_cons pe_str pa_nil)) pa_nil)))
      (pss_one (ps_ret (pe_make T.mk_Ref G_Ref___init__ (hr.mono (by decide)) (by rfl) T.g_Ref T.b_Ref___init__ .nil (passes_call (takes_of rfl rfl rfl rfl) fun _ _ _ _ h => h) (pa_cons pe_str (pa_cons (pe_attK K (pv 0)) (pa_cons (pe_callB c_abs (by rfl) T.z_abs (by decide +kernel) (pa_cons (pe_callTy c_int (by rfl) T.z_int (by decide +kernel) (pa_cons (pe_attK K (pv 0)) pa_nil)) pa_nil)) pa_nil))))))), ?_⟩
    refine at_start (σ' := [some _]) rfl ?_
    haveI : Fl K a.C_Ref "kind" := ⟨T.cl_Ref, T.n_Ref_kind⟩
    haveI : Fl K a.C_Ref "column" := ⟨T.cl_Ref, T.n_Ref_column⟩
    haveI : Fl K a.C_Ref "number" := ⟨T.cl_Ref, T.n_Ref_number⟩
    haveI : At H p _ := ⟨hp⟩
    walk_at "z"
    refine ⟨p, _, k, _, n, ["nearby"], rfl, ⟨dx, t, At.h⟩, upd_same, ?_⟩
    unfold nearRes at g
    refine i_ite (fun c1 => ?_) (fun c1 => ?_)
    · rw [if_pos c1] at g
      walk_at "z"
      exact makes (.inl rfl) (An.same ha Sc.h) (Gv.up g Sc.h)
    · rw [if_neg c1] at g
      exact Bad.up g Sc.h
theorem ok_Ref_into (T : Tx K mg a) (G_Ref_need_kind : FnOk P w K mg base (L2.CX P w) 3 a.f_Ref_need_kind a.fd_Ref_need_kind P_Ref_need_kind (sp_need_kind a))
    (G_Ref___init__ : FnOk P w K mg base (L2.CX P w) 3 a.f_Ref___init__ a.fd_Ref___init__ P_Ref___init__ (sp_Ref___init__ a)) : FnOk P w K mg base (L2.CX P w) 5 a.f_Ref_into a.fd_Ref_into P_Ref_into (sp_Ref_into a) := by
  refine T.F_Ref_into.okX sc_Ref_into (fun vs H Q E h => ?_) (fun cdv A outer s H vs Q E hr h => ?_)
  · obtain ⟨_, _, _, _, _, rfl, _⟩ := h
    rfl
  · obtain ⟨p, k, c, n, u, rfl, ⟨dx, t, hp⟩, hk, ha, g⟩ := h
    refine ⟨_, (pss_cons (ps_expr (pe_meth (pv 0) T.cl_Ref T.m_Ref_need_kind G_Ref_need_kind (hr.mono (by decide)) T.b_Ref_need_kind .nil (passes_call (takes_of rfl rfl rfl rfl) fun _ _ _ _ h => h) (pa_cons (pe_tup (pa_cons pe_str (pa_cons pe_str (pa_cons pe_str pa_nil)))) pa_nil)))
      (pss_one (ps_ret (pe_make T.mk_Ref G_Ref___init__ (hr.mono (by decide)) (by rfl) T.g_Ref T.b_Ref___init__ .nil (passes_call (takes_of rfl rfl rfl rfl) fun _ _ _ _ h => h) (pa_cons (pe_attK K (pv 0)) (pa_cons (pv 1) (pa_cons (pe_attK K (pv 0)) pa_nil))))))), ?_⟩
    refine at_start (σ' := [some _, some _]) rfl ?_
    haveI : Fl K a.C_Ref "kind" := ⟨T.cl_Ref, T.n_Ref_kind⟩
    haveI : Fl K a.C_Ref "column" := ⟨T.cl_Ref, T.n_Ref_column⟩
    haveI : Fl K a.C_Ref "number" := ⟨T.cl_Ref, T.n_Ref_number⟩
    haveI : At H p _ := ⟨hp⟩
    walk_at "z"
    refine ⟨p, _, k, _, n, ["nearby", "fixed", "following"], rfl, ⟨dx, t, At.h⟩, upd_same, ?_⟩
    unfold intoRes at g
    refine i_ite (fun c1 => ?_) (fun c1 => ?_)
    · rw [if_pos c1] at g
      walk_at "z"
      exact makes hk (An.same ha Sc.h) (Gv.up g Sc.h)
    · rw [if_neg c1] at g
      exact Bad.up g Sc.h
theorem ok_Ref___add__ (T : Tx K mg a) (G_Ref_stepped : FnOk P w K mg base (L2.CX P w) 5 a.f_Ref_stepped a.fd_Ref_stepped P_Ref_stepped (sp_Ref_stepped a)) : FnOk P w K mg base (L2.CX P w) 6 a.f_Ref___add__ a.fd_Ref___add__ P_Ref___add__ (sp_Ref_stepped a) := by
  refine T.F_Ref___add__.okX sc_Ref___add__ (fun vs H Q E h => ?_) (fun cdv A outer s H vs Q E hr h => ?_)
  · obtain ⟨_, _, _, _, _, rfl, _⟩ := h
    rfl
  · obtain ⟨p, k, c, n, m, rfl, ⟨dx, t, hp⟩, hk, ha, g⟩ := h
    refine ⟨_, (pss_one (ps_ret (pe_meth (pv 0) T.cl_Ref T.m_Ref_stepped G_Ref_stepped (hr.mono (by decide)) T.b_Ref_stepped .nil (passes_call (takes_of rfl rfl rfl rfl) fun _ _ _ _ h => h) (pa_cons (pv 1) pa_nil)))), ?_⟩
    refine at_start (σ' := [some _, some _]) rfl ?_
    haveI : At H p _ := ⟨hp⟩
    walk_at "z"
    exact ⟨p, k, c, n, m, rfl, ⟨dx, t, hp⟩, hk, ha, g⟩
theorem ok_Ref___radd__ (T : Tx K mg a) (G_Ref_stepped : FnOk P w K mg base (L2.CX P w) 5 a.f_Ref_stepped a.fd_Ref_stepped P_Ref_stepped (sp_Ref_stepped a)) : FnOk P w K mg base (L2.CX P w) 6 a.f_Ref___radd__ a.fd_Ref___radd__ P_Ref___radd__ (sp_Ref_stepped a) := by
  refine T.F_Ref___radd__.okX sc_Ref___radd__ (fun vs H Q E h => ?_) (fun cdv A outer s H vs Q E hr h => ?_)
  · obtain ⟨_, _, _, _, _, rfl, _⟩ := h
    rfl
  · obtain ⟨p, k, c, n, m, rfl, ⟨dx, t, hp⟩, hk, ha, g⟩ := h
    refine ⟨_, (pss_one (ps_ret (pe_meth (pv 0) T.cl_Ref T.m_Ref_stepped G_Ref_stepped (hr.mono (by decide)) T.b_Ref_stepped .nil (passes_call (takes_of rfl rfl rfl rfl) fun _ _ _ _ h => h) (pa_cons (pv 1) pa_nil)))), ?_⟩
    refine at_start (σ' := [some _, some _]) rfl ?_
    haveI : At H p _ := ⟨hp⟩
    walk_at "z"
    exact ⟨p, k, c, n, m, rfl, ⟨dx, t, hp⟩, hk, ha, g⟩
theorem ok_Ref___sub__ (T : Tx K mg a) (G_Ref_stepped : FnOk P w K mg base (L2.CX P w) 5 a.f_Ref_stepped a.fd_Ref_stepped P_Ref_stepped (sp_Ref_stepped a)) : FnOk P w K mg base (L2.CX P w) 6 a.f_Ref___sub__ a.fd_Ref___sub__ P_Ref___sub__ (sp_Ref_sub a) := by
  refine T.F_Ref___sub__.okX sc_Ref___sub__ (fun vs H Q E h => ?_) (fun cdv A outer s H vs Q E hr h => ?_)
  · obtain ⟨_, _, _, _, _, rfl, _⟩ := h
    rfl
  · obtain ⟨p, k, c, n, m, rfl, ⟨dx, t, hp⟩, hk, ha, g⟩ := h
    refine ⟨_, (pss_one (ps_ret (pe_meth (pv 0) T.cl_Ref T.m_Ref_stepped G_Ref_stepped (hr.mono (by decide)) T.b_Ref_stepped .nil (passes_call (takes_of rfl rfl rfl rfl) fun _ _ _ _ h => h) (pa_cons (pe_op o_sub pe_int (pe_callTy c_int (by rfl) T.z_int (by decide +kernel) (pa_cons (pv 1) pa_nil))) pa_nil)))), ?_⟩
    refine at_start (σ' := [some _, some _]) rfl ?_
    haveI : At H p _ := ⟨hp⟩
    walk_at "z"
    refine ⟨p, k, c, n, 0 - m, rfl, ⟨dx, t, hp⟩, hk, ha, ?_⟩
    rw [show n + (0 - m) = n - m by omega]
    exact g
end
end R
end

section
open PySem PySem.Spec PyProof.Rows L2 Z
namespace R
/-- the pen at p -/
def Pen (n : Nat) (H : Hp) (p : Addr) : Prop := ∃ (q : Addr) (at_ : Nat) (rest : Int) (cs : List Int), H p = some (.lst [.ref q, .int at_, .int rest]) ∧ H q = some (.lst (cs.map V.int)) ∧ at_ ≤ n ∧ q ≠ p
def sp__law_draw : Sp := fun vs H Q _ => ∃ (p : Addr) (n : Nat) (m : Int), vs = [.ref p, .int m] ∧ Pen n H p ∧ 0 < m ∧ m < 1073741824 ∧ n < 1000000 ∧
  ∀ (d : Int) H', 0 ≤ d → d < m → ExtP p H H' → Pen (n + 1) H' p → Q (.int d) H'
theorem Pen.ps {n : Nat} {H : Hp} {p : Addr} (h : Pen n H p) : Ps H p := by
  obtain ⟨q, at_, rest, cs, hp, _⟩ := h
  exact ⟨_, hp⟩
theorem Pen.mono {n m : Nat} {H : Hp} {p : Addr} (h : Pen n H p) (e : n ≤ m) : Pen m H p := by
  obtain ⟨q, at_, rest, cs, hp, hq, h1, h2⟩ := h
  exact ⟨q, at_, rest, cs, hp, hq, by omega, h2⟩
theorem Pen.same {n : Nat} {H H' : Hp} {p : Addr} (h : Pen n H p) (e : Same H H') : Pen n H' p := by
  obtain ⟨q, at_, rest, cs, hp, hq, h1, h2⟩ := h
  exact ⟨q, at_, rest, cs, e _ _ hp, e _ _ hq, h1, h2⟩
section
variable {P : Program} {w : World} {K : PySem.W.Frag} {mg : Str → Option Value} {base : Heap} {a : Ad}
theorem ok__law_draw (T : Tx K mg a) : FnOk P w K mg base (L2.CX P w) 1 a.f__law_draw a.fd__law_draw P__law_draw sp__law_draw := by
  refine T.F__law_draw.okX sc__law_draw (fun vs H Q E h => ?_) (fun cdv A outer s H vs Q E hr h => ?_)
  · obtain ⟨p, n, m, rfl, _⟩ := h
    rfl
  · obtain ⟨p, n, m, rfl, ⟨q, at_, rest, cs, hp, hq, hat, hqp⟩, hm, hm2, hn, q0⟩ := h
    refine ⟨_, (pss_cons (ps_if (pt_cmpR o_gt (pe_ix (k_ix K) (pv 0) pe_int (fun _ _ => rfl)) pe_int (nomark _))
        (pss_cons (ps_set (i := 2) sc__law_draw.nd rfl (.inl rfl) (pe_op o_mod (pe_callTy c_int (by rfl) T.z_int (by decide +kernel) (pa_cons (pe_ix (k_ix K) (pv 0) pe_int (fun _ _ => rfl)) pa_nil)) (pv 1)))
      (pss_cons (ps_asg (pe_op o_div (pe_callTy c_int (by rfl) T.z_int (by decide +kernel) (pa_cons (pe_ix (k_ix K) (pv 0) pe_int (fun _ _ => rfl)) pa_nil)) (pv 1)) (pg_sub (pv 0) pe_int set_list))
      (pss_one (ps_ret (pv 2)))))
        pss_nil)
      (pss_cons (ps_set (i := 3) sc__law_draw.nd rfl (.inl rfl) (pe_ix (k_ix K) (pv 0) pe_int (fun _ _ => rfl)))
      (pss_cons (ps_asg (pe_op (k_add K) (pv 3) pe_int) (pg_sub (pv 0) pe_int set_list))
      (pss_cons (ps_set (i := 4) sc__law_draw.nd rfl (.inl rfl) (pe_op (k_add K) (pe_op o_mul pe_int (pv 3)) pe_int))
      (pss_cons (ps_if (pt_cmpR (k_ne K hr.units) (pe_ix (k_ix K) (pv 0) pe_int (fun _ _ => rfl)) (pe_lst pa_nil) (nomark _))
        (pss_one (ps_set (i := 4) sc__law_draw.nd rfl (.inl rfl) (pe_ix (k_ix K) (pe_ix (k_ix K) (pv 0) pe_int (fun _ _ => rfl)) (pe_op o_mod (pe_callTy c_int (by rfl) T.z_int (by decide +kernel) (pa_cons (pv 3) pa_nil)) (pe_callB (k_len K) (by rfl) T.z_len (by decide +kernel) (pa_cons (pe_ix (k_ix K) (pv 0) pe_int (fun _ _ => rfl)) pa_nil))) (fun _ _ => rfl))))
        pss_nil)
      (pss_cons (ps_if (PW.pt (pw_and (pt_cmpR o_lt (pv 3) (pe_callB (k_len K) (by rfl) T.z_len (by decide +kernel) (pa_cons (pe_ix (k_ix K) (pv 0) pe_int (fun _ _ => rfl)) pa_nil)) (nomark _)) (pw_and1 (pt_cmpR o_ge (pe_callB c_abs (by rfl) T.z_abs (by decide +kernel) (pa_cons (pv 4) pa_nil)) (pe_op o_pow pe_int pe_int) (nomark _)))))
        (pss_cons (ps_set (i := 5) sc__law_draw.nd rfl (.inl rfl) (pe_op (k_add K) (pe_op o_mul pe_int (pe_op o_sub (pe_callB c_abs (by rfl) T.z_abs (by decide +kernel) (pa_cons (pv 4) pa_nil)) (pe_op o_pow pe_int pe_int))) (pe_callTy c_int (by rfl) T.z_int (by decide +kernel) (pa_cons (pe_cmpR o_lt (pv 4) pe_int (nomark _)) pa_nil))))
      (pss_cons (ps_asg (pe_op o_div (pe_callTy c_int (by rfl) T.z_int (by decide +kernel) (pa_cons (pv 5) pa_nil)) (pv 1)) (pg_sub (pv 0) pe_int set_list))
      (pss_one (ps_ret (pe_op o_mod (pe_callTy c_int (by rfl) T.z_int (by decide +kernel) (pa_cons (pv 5) pa_nil)) (pv 1))))))
        pss_nil)
      (pss_cons (ps_set (i := 6) sc__law_draw.nd rfl (.inl rfl) (pe_op o_mod (pe_callTy c_int (by rfl) T.z_int (by decide +kernel) (pa_cons (pe_op o_pow (pe_op (k_add K) (pe_op (k_add K) (pe_op o_mod (pe_callTy c_int (by rfl) T.z_int (by decide +kernel) (pa_cons (pv 4) pa_nil)) pe_int) (pe_op o_mul pe_int (pv 3))) pe_int) pe_int) pa_nil)) pe_int))
      (pss_cons (ps_set (i := 6) sc__law_draw.nd rfl (.inl rfl) (pe_op o_mod (pe_callTy c_int (by rfl) T.z_int (by decide +kernel) (pa_cons (pe_op o_pow (pe_op (k_add K) (pe_op (k_add K) (pe_op o_mul (pv 6) (pe_op (k_add K) (pe_op o_mul pe_int (pv 3)) pe_int)) (pe_op o_mul (pe_op o_mul pe_int (pv 3)) (pv 3))) pe_int) pe_int) pa_nil)) pe_int))
      (pss_one (ps_ret (pe_op o_mod (pe_callTy c_int (by rfl) T.z_int (by decide +kernel) (pa_cons (pe_op o_div (pv 6) pe_int) pa_nil)) (pv 1)))))))))))), ?_⟩
    haveI : At H p _ := ⟨hp⟩
    haveI : At H q _ := ⟨hq⟩
    haveI : Dif q p := ⟨hqp⟩
    refine at_start (σ' := [some _, some _, none, none, none, none, none]) rfl ?_
    walk_at "z"
    refine i_dec (fun c => ?_) (fun c => ?_)
    · walk_at "z"
      refine q0 _ _ (Int.emod_nonneg _ (by omega)) (Int.emod_lt_of_pos _ hm) (ExtP.upd (ExtP.refl _)) ⟨q, at_, _, cs, upd_same, by walk_at "hp", by omega, hqp⟩
    · walk_at "z"
      cases cs with
      | nil =>
        refine i_neDt (dp_ints (p := q) (ns := []) At.h) (dp_nil At.h) (shaped_ints []) rfl (c := false) (by simp [PyData.eqv, PyData.eqvAll]) ?_
        walk_at "z"
        refine i_dec (fun c => absurd c (by simp)) (fun c => ?_)
        walk_at "z"
        refine q0 _ _ (Int.emod_nonneg _ (by omega)) (Int.emod_lt_of_pos _ hm) (ExtP.new (ExtP.upd (ExtP.refl _)) Nw.h) ⟨q, at_ + 1, _, [], At.h, At.h, by omega, hqp⟩
      | cons c0 cs =>
        refine i_neDt (dp_ints (p := q) (ns := c0 :: cs) At.h) (dp_nil At.h) (shaped_ints _) rfl (c := true) (by simp [PyData.eqv, PyData.eqvAll]) ?_
        walk_at "z"
        have hl : (0 : Int) < ((c0 :: cs).map V.int).length := by simp; try omega
        obtain ⟨c1, hc1⟩ := atI_ints (ns := c0 :: cs) (i := (at_ : Int) % ((c0 :: cs).map V.int).length) (Int.emod_nonneg _ (by omega)) (by rw [List.length_map]; exact Int.emod_lt_of_pos _ (by simp; try omega))
        refine ⟨hl, ?_⟩
        haveI : Ith ((c0 :: cs).map V.int) ((at_ : Int) % ((c0 :: cs).map V.int).length) (.int c1) := ⟨hc1⟩
        walk_at "z"
        refine i_dec (fun c => ?_) (fun c => ?_)
        · walk_at "z"
          refine i_dec (fun c => ?_) (fun c => ?_)
          · walk_at "z"
            refine q0 _ _ (Int.emod_nonneg _ (by omega)) (Int.emod_lt_of_pos _ hm) (ExtP.upd (ExtP.new (ExtP.upd (ExtP.refl _)) Nw.h)) ⟨q, at_ + 1, _, c0 :: cs, At.h, At.h, by omega, hqp⟩
          · walk_at "z"
            refine q0 _ _ (Int.emod_nonneg _ (by omega)) (Int.emod_lt_of_pos _ hm) (ExtP.new (ExtP.upd (ExtP.refl _)) Nw.h) ⟨q, at_ + 1, _, c0 :: cs, At.h, At.h, by omega, hqp⟩
        · walk_at "z"
          refine q0 _ _ (Int.emod_nonneg _ (by omega)) (Int.emod_lt_of_pos _ hm) (ExtP.new (ExtP.upd (ExtP.refl _)) Nw.h) ⟨q, at_ + 1, _, c0 :: cs, At.h, At.h, by omega, hqp⟩
theorem cutV_ints {ns : List Int} {lo hi : Option Int} : ∃ cs : List Int, cutV (ns.map V.int) lo hi = cs.map V.int := by
  unfold cutV
  rw [← List.map_drop, ← List.map_take]
  exact ⟨_, rfl⟩
def sp__law_pen (K : PySem.W.Frag) : Sp := fun vs H Q _ => ∃ l ns, vs = [.ref l] ∧ SqL K H l (List.map V.int ns) ∧ ∀ p H', H p = none → Same H H' → Pen 0 H' p → Q (.ref p) H'
theorem ok__law_pen (T : Tx K mg a) : FnOk P w K mg base (L2.CX P w) 1 a.f__law_pen a.fd__law_pen P__law_pen (sp__law_pen K) := by
  refine T.F__law_pen.okX sc__law_pen (fun vs H Q E h => ?_) (fun cdv A outer s H vs Q E hr h => ?_)
  · obtain ⟨_, _, rfl, _⟩ := h
    rfl
  · obtain ⟨l, ns, rfl, hl, q⟩ := h
    refine ⟨_, (pss_one (ps_ret (pe_lst (pa_cons (pe_callTy (k_list K) (by rfl) T.z_list (by decide +kernel) (pa_cons (pe_slice (k_sl K) (pv 0) po_none (po_some pe_int)) pa_nil)) (pa_cons pe_int (pa_cons pe_int pa_nil)))))), ?_⟩
    refine at_start (σ' := [some _]) rfl ?_
    walk_at "z"
    refine i_slL hl fun r hr1 => ?_
    obtain ⟨cs, hcs⟩ := cutV_ints (ns := ns) (lo := none) (hi := some 63)
    rw [hcs]
    haveI : Nw H r := ⟨hr1⟩
    walk_at "z"
    rename_i l2 n2 l3 n3
    refine q _ _ ?_ Sc.h ⟨l2, 0, 0, cs, upd_same, At.h, by omega, ne_of_none upd_same n3.h⟩
    cases hh : H l3 with
    | none => rfl
    | some o => exact absurd ((Sc.new (r := l2) (o := .lst (cs.map V.int)) (H := H)).h _ _ hh) (by rw [n3.h]; exact fun z => nomatch z)
def sp__law_pick : Sp := fun vs H Q _ => (∃ p l xs n, vs = [.ref p, .ref l] ∧ Pen n H p ∧ n < 1000000 ∧ l ≠ p ∧ H l = some (.lst xs) ∧ 0 < xs.length ∧ xs.length ≤ 1000 ∧ ∀ v H', v ∈ xs → ExtP p H H' → Pen (n + 1) H' p → Q v H') ∨
  ∃ p z n, vs = [.ref p, .str z] ∧ Pen n H p ∧ n < 1000000 ∧ 0 < z.cps.toList.length ∧ z.cps.toList.length ≤ 1000 ∧ ∀ c H', c ∈ z.cps.toList → ExtP p H H' → Pen (n + 1) H' p → Q (.str ⟨#[c]⟩) H'
theorem ok__law_pick (T : Tx K mg a) (G__law_draw : FnOk P w K mg base (L2.CX P w) 1 a.f__law_draw a.fd__law_draw P__law_draw sp__law_draw) : FnOk P w K mg base (L2.CX P w) 2 a.f__law_pick a.fd__law_pick P__law_pick sp__law_pick := by
  refine T.F__law_pick.okX sc__law_pick (fun vs H Q E h => ?_) (fun cdv A outer s H vs Q E hr h => ?_)
  · rcases h with ⟨_, _, _, _, rfl, _⟩ | ⟨_, _, _, rfl, _⟩ <;> rfl
  · rcases h with ⟨p, l, xs, n, rfl, hp, hn, hl, hx, h0, h1, q⟩ | ⟨p, z, n, rfl, hp, hn, h0, h1, q⟩
    · refine ⟨_, (pss_one (ps_ret (pe_ix (k_ix K) (pv 1) (pe_call G__law_draw (hr.mono (by decide)) (by rfl) T.g__law_draw T.F__law_draw.kp T.b__law_draw .nil (passes_call (takes_of rfl rfl rfl rfl) fun _ _ _ _ h => h) (pa_cons (pv 0) (pa_cons (pe_callB (k_len K) (by rfl) T.z_len (by decide +kernel) (pa_cons (pv 1) pa_nil)) pa_nil))) (fun _ _ => rfl)))), ?_⟩
      refine at_start (σ' := [some _, some _]) rfl ?_
      haveI : At H l _ := ⟨hx⟩
      haveI : Dif l p := ⟨hl⟩
      walk_at "z"
      refine ⟨p, n, xs.length, rfl, hp, by omega, by omega, hn, fun d H' d0 d1 e pn => ?_⟩
      haveI : Xp p H H' := ⟨e⟩
      exact i_ixL At.h (atI_of d0 d1) (q _ _ (List.getElem_mem _) e pn)
    · refine ⟨_, (pss_one (ps_ret (pe_ix (k_ix K) (pv 1) (pe_call G__law_draw (hr.mono (by decide)) (by rfl) T.g__law_draw T.F__law_draw.kp T.b__law_draw .nil (passes_call (takes_of rfl rfl rfl rfl) fun _ _ _ _ h => h) (pa_cons (pv 0) (pa_cons (pe_callB (k_len K) (by rfl) T.z_len (by decide +kernel) (pa_cons (pv 1) pa_nil)) pa_nil))) (fun _ _ => rfl)))), ?_⟩
      refine at_start (σ' := [some _, some _]) rfl ?_
      have hz : z.length = z.cps.toList.length := by simp [Str.length]
      walk_at "z"
      refine ⟨p, n, z.length, rfl, hp, by omega, by omega, hn, fun d H' d0 d1 e pn => ?_⟩
      exact i_ixS (Nat.le_trans (m := 1000) (by omega) (by decide)) (atI_of d0 (by omega)) (q _ _ (List.getElem_mem _) e pn)
end
end R
end

section
open PySem PySem.Spec PyProof.Rows L2 Z
namespace R
def toldL : Res → List V
  | .bad p => [.str "cell", .str p]
  | .ref k c n => [.str "ref", .str k, c, .int n]
def HeardAt (a : Ad) (H : Hp) (h : Addr) : Res → Prop
  | .bad p => H h = some (.tup [.str "cell", .str p])
  | .ref k c n => ∃ q, H h = some (.lst [.ref q]) ∧ RefAt a H q k c n
def dueRes (k : Str) (c : V) (n : Int) : Res := if k ∈ (["nearby", "fixed"] : List Str) then (if -999 ≤ n ∧ n ≤ 999 then .ref k c n else .bad "number") else .bad "kind"
theorem due_step {k : Str} {c : V} {n : Int} (hc : colB k c = true) : stepRes k c n = dueRes k c n := by
  unfold stepRes dueRes
  by_cases hk : k ∈ (["nearby", "fixed"] : List Str)
  · rw [if_pos hk, if_pos hk]
    unfold mkRes badOf
    rw [hc, if_pos rfl]
    have hn : numB k n = (decide (-999 ≤ n) && decide (n ≤ 999)) := by
      unfold numB
      rw [if_neg, if_neg]
      · intro z; subst z; exact absurd hk (by decide +kernel)
      · intro z; subst z; exact absurd hk (by decide +kernel)
    by_cases h : -999 ≤ n ∧ n ≤ 999
    · rw [if_pos h, hn, decide_eq_true h.1, decide_eq_true h.2]; rfl
    · rw [if_neg h, hn, ← Bool.decide_and, decide_eq_false h]; rfl
  · rw [if_neg hk, if_neg hk]
def sp__law_told (a : Ad) : Sp := fun vs H Q _ => ∃ h r, vs = [.ref h] ∧ HeardAt a H h r ∧ ∀ t H', Same H H' → H' t = some (.tup (toldL r)) → Q (.ref t) H'
def sp__law_step_due : Sp := fun vs H Q _ => ∃ t k c n m, vs = [.ref t, .int m] ∧ H t = some (.tup [.str k, c, .int n]) ∧ ∀ t' H', Same H H' → H' t' = some (.tup (toldL (dueRes k c (n + m)))) → Q (.ref t') H'
def sp__law_ref_made (a : Ad) : Sp := fun vs H Q _ => ∃ t k c n, vs = [.ref t] ∧ H t = some (.tup [.str k, c, .int n]) ∧ isKind k ∧ An H c ∧ badOf k c n = none ∧ ∀ p H', Same H H' → RefAt a H' p k c n → Q (.ref p) H'
section
variable {P : Program} {w : World} {K : PySem.W.Frag} {mg : Str → Option Value} {base : Heap} {a : Ad}
theorem ok__law_told (T : Tx K mg a) : FnOk P w K mg base (L2.CX P w) 1 a.f__law_told a.fd__law_told P__law_told (sp__law_told a) := by
  refine T.F__law_told.okX sc__law_told (fun vs H Q E h => ?_) (fun cdv A outer s H vs Q E hr h => ?_)
  · obtain ⟨_, _, rfl, _⟩ := h
    rfl
  · obtain ⟨h, r, rfl, hh, q⟩ := h
    refine ⟨_, (pss_cons (ps_if (pt_not (pt_trK K (pe_callB (k_isinstance K) (by rfl) T.z_isinstance (by decide +kernel) (pa_cons (pv 0) (pa_cons (pe_bltn (v := .ty "list") (by rfl) T.z_list (by decide +kernel) rfl) pa_nil))) (by intro _; rfl)))
        (pss_one (ps_ret (pv 0)))
        pss_nil)
      (pss_cons (ps_set (i := 1) sc__law_told.nd rfl (.inl rfl) (pe_ix (k_ix K) (pv 0) pe_int (fun _ _ => rfl)))
      (pss_one (ps_ret (pe_ifExp (pt_trK K (pe_callB (k_isinstance K) (by rfl) T.z_isinstance (by decide +kernel) (pa_cons (pv 1) (pa_cons (pe_glob (v := .ref a.C_Ref) (by rfl) T.g_Ref rfl) pa_nil))) (by intro _; rfl)) (pe_tup (pa_cons pe_str (pa_cons (pe_attK K (pv 1)) (pa_cons (pe_attK K (pv 1)) (pa_cons (pe_attK K (pv 1)) pa_nil))))) (pe_tup (pa_cons pe_str pa_nil))))))), ?_⟩
    refine at_start (σ' := [some _, none]) rfl ?_
    haveI : Fl K a.C_Ref "kind" := ⟨T.cl_Ref, T.n_Ref_kind⟩
    haveI : Fl K a.C_Ref "column" := ⟨T.cl_Ref, T.n_Ref_column⟩
    haveI : Fl K a.C_Ref "number" := ⟨T.cl_Ref, T.n_Ref_number⟩
    haveI : InsT K a.C_Ref := T.in_Ref
    haveI : Kit K (.ref a.C_Ref) (.ref a.C_Ref) true := ⟨T.k_RR⟩
    cases r with
    | bad p =>
      haveI : At H h _ := ⟨hh⟩
      walk_at "z"
      exact q _ _ (sm_refl H) hh
    | ref k c n =>
      obtain ⟨p, hh, dx, t, hp⟩ := hh
      haveI : At H h _ := ⟨hh⟩
      haveI : At H p _ := ⟨hp⟩
      walk_at "z"
      exact q _ _ Sc.h upd_same
theorem ok__law_step_due (T : Tx K mg a) : FnOk P w K mg base (L2.CX P w) 1 a.f__law_step_due a.fd__law_step_due P__law_step_due sp__law_step_due := by
  refine T.F__law_step_due.okX sc__law_step_due (fun vs H Q E h => ?_) (fun cdv A outer s H vs Q E hr h => ?_)
  · obtain ⟨_, _, _, _, _, rfl, _⟩ := h
    rfl
  · obtain ⟨t, k, c, n, m, rfl, ht, q⟩ := h
    refine ⟨_, (pss_cons (ps_asg (pv 0) (pg_tup (by rfl) (pgs_cons (pg_name (i := 2) sc__law_step_due.nd rfl (.inl rfl)) (pgs_cons (pg_name (i := 3) sc__law_step_due.nd rfl (.inl rfl)) (pgs_cons (pg_name (i := 4) sc__law_step_due.nd rfl (.inl rfl)) pgs_nil)))))
      (pss_cons (ps_if (pt_cmpR (k_nin K) (pv 2) (pe_tup (pa_cons pe_str (pa_cons pe_str pa_nil))) (by rfl))
        (pss_one (ps_ret (pe_tup (pa_cons pe_str (pa_cons pe_str pa_nil)))))
        pss_nil)
      (pss_one (ps_ret (pe_ifExp (pt_chain o_le o_le (pe_un u_neg pe_int) (pe_op (k_add K) (pv 4) (pv 1)) pe_int) (pe_tup (pa_cons pe_str (pa_cons (pv 2) (pa_cons (pv 3) (pa_cons (pe_op (k_add K) (pv 4) (pv 1)) pa_nil))))) (pe_tup (pa_cons pe_str (pa_cons pe_str pa_nil)))))))), ?_⟩
    refine at_start (σ' := [some _, some _, none, none, none]) rfl ?_
    haveI : At H t _ := ⟨ht⟩
    walk_at "z"
    rw [show ([.str "nearby", .str "fixed"] : List V) = List.map V.str ["nearby", "fixed"] from rfl, inV_strs]
    unfold dueRes at q
    refine i_ndec (fun c1 => ?_) (fun c1 => ?_)
    · simp only [if_pos c1] at q
      walk_at "z"
      refine i_dec (fun c2 => ?_) (fun c2 => ?_)
      · walk_at "z"
        refine i_dec (fun c3 => ?_) (fun c3 => ?_)
        · simp only [if_pos (And.intro c2 c3)] at q
          walk_at "z"
          exact q _ _ Sc.h upd_same
        · simp only [if_neg (show ¬ (-999 ≤ n + m ∧ n + m ≤ 999) from fun z => c3 z.2)] at q
          walk_at "z"
          exact q _ _ Sc.h upd_same
      · simp only [if_neg (show ¬ (-999 ≤ n + m ∧ n + m ≤ 999) from fun z => c2 z.1)] at q
        walk_at "z"
        exact q _ _ Sc.h upd_same
    · simp only [if_neg c1] at q
      walk_at "z"
      exact q _ _ Sc.h upd_same
theorem ok__law_ref_made (T : Tx K mg a) (G_Ref___init__ : FnOk P w K mg base (L2.CX P w) 3 a.f_Ref___init__ a.fd_Ref___init__ P_Ref___init__ (sp_Ref___init__ a)) : FnOk P w K mg base (L2.CX P w) 5 a.f__law_ref_made a.fd__law_ref_made P__law_ref_made (sp__law_ref_made a) := by
  refine T.F__law_ref_made.okX sc__law_ref_made (fun vs H Q E h => ?_) (fun cdv A outer s H vs Q E hr h => ?_)
  · obtain ⟨_, _, _, _, rfl, _⟩ := h
    rfl
  · obtain ⟨t, k, c, n, rfl, ht, hk, ha, hb, q⟩ := h
    refine ⟨_, (pss_cons (ps_asg (pv 0) (pg_tup (by rfl) (pgs_cons (pg_name (i := 1) sc__law_ref_made.nd rfl (.inl rfl)) (pgs_cons (pg_name (i := 2) sc__law_ref_made.nd rfl (.inl rfl)) (pgs_cons (pg_name (i := 3) sc__law_ref_made.nd rfl (.inl rfl)) pgs_nil)))))
      (pss_one (ps_ret (pe_make T.mk_Ref G_Ref___init__ (hr.mono (by decide)) (by rfl) T.g_Ref T.b_Ref___init__ .nil (passes_call (takes_of rfl rfl rfl rfl) fun _ _ _ _ h => h) (pa_cons (pv 1) (pa_cons (pv 2) (pa_cons (pv 3) pa_nil))))))), ?_⟩
    refine at_start (σ' := [some _, none, none, none]) rfl ?_
    haveI : At H t _ := ⟨ht⟩
    walk_at "z"
    refine makes hk ha ?_
    unfold mkRes
    rw [hb]
    exact q
theorem ok__law_more (T : Tx K mg a) (G_Ref___add__ : FnOk P w K mg base (L2.CX P w) 6 a.f_Ref___add__ a.fd_Ref___add__ P_Ref___add__ (sp_Ref_stepped a)) : FnOk P w K mg base (L2.CX P w) 7 a.f__law_more a.fd__law_more P__law_more (sp_Ref_stepped a) := by
  refine T.F__law_more.okX sc__law_more (fun vs H Q E h => ?_) (fun cdv A outer s H vs Q E hr h => ?_)
  · obtain ⟨_, _, _, _, _, rfl, _⟩ := h
    rfl
  · obtain ⟨p, k, c, n, m, rfl, ⟨dx, t, hp⟩, hk, ha, g⟩ := h
    refine ⟨_, (pss_cons (ps_set (i := 2) sc__law_more.nd rfl (.inl rfl) (pv 0))
      (pss_cons (ps_aug (i := 2) sc__law_more.nd rfl (.inl rfl) (pv 1) (ip_ownAdd T.oa T.oi.1 T.oi.2 G_Ref___add__ (hr.mono (by decide)) T.b_Ref___add__ (passes_call (takes_of rfl rfl rfl rfl) fun _ _ _ _ h => h)))
      (pss_one (ps_ret (pv 2))))), ?_⟩
    refine at_start (σ' := [some _, some _, none]) rfl ?_
    haveI : At H p _ := ⟨hp⟩
    walk_at "z"
    refine ⟨p, dx, _, m, rfl, rfl, hp, p, k, c, n, m, rfl, ⟨dx, t, hp⟩, hk, ha, ?_⟩
    cases hr : stepRes k c (n + m) with
    | bad p => rw [hr] at g; exact g
    | ref k' c' n' =>
      rw [hr] at g
      intro x H' s1 r
      refine (show tRet (tVar 2) _ [some _, some _, some (.ref x)] H' from ?_)
      walk_at "z"
      exact g x H' s1 r
end
end R
end

section
open PySem PySem.Spec PyProof.Rows L2 Z
namespace R
theorem word_of {z : Str} {c : Nat} {cs : List Nat} (h : z.cps.toList = c :: cs) (hl : cs.length ≤ 7) (hc : c ∈ small.cps.toList) (ha : ∀ d ∈ c :: cs, d ∈ small.cps.toList ∨ d ∈ nums.cps.toList) : wordB z = true := by
  have e : z.length = z.cps.toList.length := by simp [Str.length]
  rw [h, List.length_cons] at e
  unfold wordB
  rw [h]
  have h1 : 1 ≤ z.length := by omega
  have h2 : z.length ≤ 8 := by omega
  simp only [h1, h2, hc, decide_true, Bool.true_and]
  refine List.all_eq_true.mpr fun d hd => ?_
  rcases ha d hd with q | q
  · rw [decide_eq_true q, Bool.true_or]
  · rw [decide_eq_true q, Bool.or_true]
theorem word_to {z : Str} (h : wordB z = true) : ∃ c cs, z.cps.toList = c :: cs ∧ cs.length ≤ 7 ∧ c ∈ small.cps.toList ∧ ∀ d ∈ c :: cs, d ∈ small.cps.toList ∨ d ∈ nums.cps.toList := by
  have e : z.length = z.cps.toList.length := by simp [Str.length]
  unfold wordB at h
  simp only [Bool.and_eq_true, decide_eq_true_eq] at h
  obtain ⟨⟨⟨h1, h2⟩, h3⟩, h4⟩ := h
  cases hc : z.cps.toList with
  | nil => rw [hc] at h3; cases h3
  | cons c cs =>
    rw [hc] at h3 h4 e
    rw [List.length_cons] at e
    refine ⟨c, cs, rfl, by omega, of_decide_eq_true h3, fun d hd => ?_⟩
    have q := List.all_eq_true.mp h4 d hd
    simpa using q
theorem word_len {z : Str} (h : wordB z = true) : z.length ≤ 8 := by
  obtain ⟨c, cs, e, hl, _⟩ := word_to h
  have e2 : z.length = z.cps.toList.length := by simp [Str.length]
  rw [e, List.length_cons] at e2
  omega
theorem small_ok : ∀ d ∈ small.cps.toList, d < 128 := by decide +kernel
theorem nums_ok : ∀ d ∈ nums.cps.toList, d < 128 := by decide +kernel
theorem word_asc {z : Str} (h : wordB z = true) : ∀ d ∈ z.cps.toList, d < 128 := by
  obtain ⟨c, cs, e, hl, _, ha⟩ := word_to h
  intro d hd
  rw [e] at hd
  rcases ha d hd with q | q
  · exact small_ok d q
  · exact nums_ok d q
theorem word_ok {z : Str} (h : wordB z = true) : PyData.strOk z = true := by
  unfold PyData.strOk
  rw [← Array.all_toList]
  refine List.all_eq_true.mpr fun d hd => ?_
  have := word_asc h d hd
  simp; omega
theorem word_one {c : Nat} (h : c ∈ small.cps.toList) : wordB ⟨#[c]⟩ = true := word_of (c := c) (cs := []) rfl (by simp) h fun d hd => .inl (by simp at hd; rw [hd]; exact h)
theorem app_cps (x y : Str) : (x ++ y).cps.toList = x.cps.toList ++ y.cps.toList := (Array.toList_append : (x.cps ++ y.cps).toList = _)
theorem word_app {z : Str} {c : Nat} (h : wordB z = true) (hl : z.length < 8) (hc : c ∈ (small ++ nums).cps.toList) : wordB (z ++ ⟨#[c]⟩) = true := by
  obtain ⟨d, cs, e, h1, h2, h3⟩ := word_to h
  have e2 : z.length = z.cps.toList.length := by simp [Str.length]
  rw [e, List.length_cons] at e2
  refine word_of (c := d) (cs := cs ++ [c]) (by rw [app_cps, e]; rfl) (by rw [List.length_append]; simp; omega) h2 fun b hb => ?_
  rw [← List.cons_append] at hb
  rcases List.mem_append.mp hb with q | q
  · exact h3 b q
  · simp at q
    rw [app_cps] at hc
    rw [q]
    exact List.mem_append.mp hc
def GoodRef (k : Str) (c : Str) (n : Int) : Prop := isKind k ∧ colB k (.str c) = true ∧ numB k n = true ∧ c.length ≤ 8 ∧ ∀ d ∈ c.cps.toList, d < 128
def sp__law_word : Sp := fun vs H Q _ => ∃ p n, vs = [.ref p] ∧ Pen n H p ∧ n + 9 < 1000000 ∧ ∀ z H', wordB z = true → ExtP p H H' → Pen (n + 9) H' p → Q (.str z) H'
def sp__law_ref : Sp := fun vs H Q _ => ∃ p l cs n, vs = [.ref p, .ref l] ∧ Pen n H p ∧ n + 6 < 1000000 ∧ l ≠ p ∧ H l = some (.lst (List.map V.str cs)) ∧ 0 < cs.length ∧ cs.length ≤ 1000 ∧ (∀ c ∈ cs, wordB c = true) ∧
  ∀ t k c m H', GoodRef k c m → ExtP p H H' → Pen (n + 6) H' p → t ≠ p → H' t = some (.tup [.str k, .str c, .int m]) → Q (.ref t) H'
section
variable {P : Program} {w : World} {K : PySem.W.Frag} {mg : Str → Option Value} {base : Heap} {a : Ad}
theorem ok__law_word (T : Tx K mg a) (G__law_draw : FnOk P w K mg base (L2.CX P w) 1 a.f__law_draw a.fd__law_draw P__law_draw sp__law_draw) (G__law_pick : FnOk P w K mg base (L2.CX P w) 2 a.f__law_pick a.fd__law_pick P__law_pick sp__law_pick) : FnOk P w K mg base (L2.CX P w) 3 a.f__law_word a.fd__law_word P__law_word sp__law_word := by
  refine T.F__law_word.okX sc__law_word (fun vs H Q E h => ?_) (fun cdv A outer s H vs Q E hr h => ?_)
  · obtain ⟨_, _, rfl, _⟩ := h
    rfl
  · obtain ⟨p, n, rfl, hp, hn, q⟩ := h
    refine ⟨_, (pss_cons (ps_set (i := 1) sc__law_word.nd rfl (.inl rfl) pe_str)
      (pss_cons (ps_set (i := 2) sc__law_word.nd rfl (.inl rfl) (pe_ix (k_ix K) (pv 1) (pe_call G__law_draw (hr.mono (by decide)) (by rfl) T.g__law_draw T.F__law_draw.kp T.b__law_draw .nil (passes_call (takes_of rfl rfl rfl rfl) fun _ _ _ _ h => h) (pa_cons (pv 0) (pa_cons pe_int pa_nil))) (fun _ _ => rfl)))
      (pss_cons (ps_for (passes_of rfl) rfl (pi_range1 (by rfl) T.z_range (pa_cons (pe_call G__law_pick (hr.mono (by decide)) (by rfl) T.g__law_pick T.F__law_pick.kp T.b__law_pick .nil (passes_call (takes_of rfl rfl rfl rfl) fun _ _ _ _ h => h) (pa_cons (pv 0) (pa_cons (pe_lst (pa_cons pe_int (pa_cons pe_int (pa_cons pe_int (pa_cons pe_int (pa_cons pe_int (pa_cons pe_int (pa_cons pe_int pa_nil)))))))) pa_nil))) pa_nil)) (pg_name (i := 3) sc__law_word.nd rfl (.inl rfl))
        (pss_one (ps_set (i := 2) sc__law_word.nd rfl (.inl rfl) (pe_op (k_add K) (pv 2) (pe_call G__law_pick (hr.mono (by decide)) (by rfl) T.g__law_pick T.F__law_pick.kp T.b__law_pick .nil (passes_call (takes_of rfl rfl rfl rfl) fun _ _ _ _ h => h) (pa_cons (pv 0) (pa_cons (pe_op (k_add K) (pv 1) pe_str) pa_nil)))))))
      (pss_one (ps_ret (pv 2)))))), ?_⟩
    refine at_start (σ' := [some _, none, none, none]) rfl ?_
    walk_at "z"
    refine ⟨p, n, 26, rfl, hp, by omega, by omega, by omega, fun d H1 d0 d1 e1 pn1 => ?_⟩
    have hsm : small.cps.toList.length = 26 := by decide +kernel
    haveI := pn1.ps
    refine i_ixS (by decide) (atI_of (xs := small.cps.toList) d0 (by omega)) ?_
    have hc0 := List.getElem_mem (l := small.cps.toList) (n := d.toNat) (by omega)
    generalize small.cps.toList[d.toNat]'(by omega) = c0 at hc0 ⊢
    walk_at "z"
    refine .inl ⟨p, _, _, n + 1, rfl, pn1.same Sc.h, by omega, Dif.h, At.h, by decide, by decide, fun v H2 hv e2 pn2 => ?_⟩
    have hv' : ∃ j : Nat, v = .int j ∧ j ≤ 7 := by
      simp only [List.mem_cons, List.not_mem_nil, or_false] at hv
      rcases hv with rfl | rfl | rfl | rfl | rfl | rfl | rfl
      · exact ⟨0, rfl, by omega⟩
      · exact ⟨0, rfl, by omega⟩
      · exact ⟨0, rfl, by omega⟩
      · exact ⟨1, rfl, by omega⟩
      · exact ⟨2, rfl, by omega⟩
      · exact ⟨6, rfl, by omega⟩
      · exact ⟨7, rfl, by omega⟩
    obtain ⟨j, rfl, hj⟩ := hv'
    have e3 : ExtP p H H2 := ExtP.trans e1 (ExtP.trans (ExtP.of Sc.h) e2)
    walk_at "z"
    rw [Int.toNat_natCast]
    refine for_it walk_range (fun i σ H' => ∃ z u, σ = [some (.ref p), some (.str small), some (.str z), u] ∧ wordB z = true ∧ z.length = 1 + i ∧ ExtP p H H' ∧ Pen (n + 2 + i) H' p) ⟨⟨#[c0]⟩, none, rfl, word_one hc0, rfl, e3, pn2⟩ (fun _ _ _ _ _ => trivial) ?_ ?_
    · rintro i x σ H3 H3' hi ⟨z, u, rfl, hz, hlz, e4, pn3⟩ ⟨rfl, rfl⟩
      refine (show gName 3 _ [some (.ref p), some (.str small), some (.str z), u] _ _ from ?_)
      walk_at "z"
      refine .inr ⟨p, small ++ nums, n + 2 + i, rfl, pn3, by omega, by decide +kernel, by decide +kernel, fun c H4 hc e5 pn4 => ?_⟩
      have hl2 : (z ++ (⟨#[c]⟩ : Str)).length = z.length + 1 := by
        have e7 : (z ++ (⟨#[c]⟩ : Str)).length = (z ++ (⟨#[c]⟩ : Str)).cps.toList.length := by simp [Str.length]
        rw [e7, app_cps, List.length_append]
        simp [Str.length]
      refine i_addS (Nat.le_trans (m := 1000) (by show z.length + 1 ≤ 1000; omega) (by decide)) ?_
      walk_at "z"
      exact ⟨_, _, rfl, word_app hz (by omega) hc, by omega, ExtP.trans e4 e5, pn4.mono (by omega)⟩
    · rintro σ H3 ⟨z, u, rfl, hz, hlz, e4, pn3⟩
      refine (show tRet (tVar 2) _ [some (.ref p), some (.str small), some (.str z), u] H3 from ?_)
      walk_at "z"
      exact q _ _ hz e4 (pn3.mono (by omega))
theorem ok__law_ref (T : Tx K mg a) (G__law_draw : FnOk P w K mg base (L2.CX P w) 1 a.f__law_draw a.fd__law_draw P__law_draw sp__law_draw) (G__law_pick : FnOk P w K mg base (L2.CX P w) 2 a.f__law_pick a.fd__law_pick P__law_pick sp__law_pick) : FnOk P w K mg base (L2.CX P w) 3 a.f__law_ref a.fd__law_ref P__law_ref sp__law_ref := by
  refine T.F__law_ref.okX sc__law_ref (fun vs H Q E h => ?_) (fun cdv A outer s H vs Q E hr h => ?_)
  · obtain ⟨_, _, _, _, rfl, _⟩ := h
    rfl
  · obtain ⟨p, l, cs, n, rfl, hp, hn, hl, hcs, hc0, hc1, hcw, q⟩ := h
    refine ⟨_, (pss_cons (ps_set (i := 2) sc__law_ref.nd rfl (.inl rfl) (pe_call G__law_pick (hr.mono (by decide)) (by rfl) T.g__law_pick T.F__law_pick.kp T.b__law_pick .nil (passes_call (takes_of rfl rfl rfl rfl) fun _ _ _ _ h => h) (pa_cons (pv 0) (pa_cons (pe_lst (pa_cons pe_str (pa_cons pe_str (pa_cons pe_str (pa_cons pe_str (pa_cons pe_str (pa_cons pe_str (pa_cons pe_str pa_nil)))))))) pa_nil))))
      (pss_cons (ps_if (pt_cmpR (k_eq K hr.units) (pv 2) pe_str (nomark _))
        (pss_one (ps_ret (pe_tup (pa_cons (pv 2) (pa_cons pe_str (pa_cons pe_int pa_nil))))))
        pss_nil)
      (pss_cons (ps_set (i := 3) sc__law_ref.nd rfl (.inl rfl) (pe_call G__law_pick (hr.mono (by decide)) (by rfl) T.g__law_pick T.F__law_pick.kp T.b__law_pick .nil (passes_call (takes_of rfl rfl rfl rfl) fun _ _ _ _ h => h) (pa_cons (pv 0) (pa_cons (pe_lst (pa_cons pe_int (pa_cons pe_int (pa_cons pe_int (pa_cons (pe_un u_neg pe_int) (pa_cons pe_int (pa_cons pe_int (pa_cons (pe_un u_neg pe_int) (pa_cons pe_int (pa_cons (pe_un u_neg pe_int) (pa_cons (pe_op o_sub (pe_call G__law_draw (hr.mono (by decide)) (by rfl) T.g__law_draw T.F__law_draw.kp T.b__law_draw .nil (passes_call (takes_of rfl rfl rfl rfl) fun _ _ _ _ h => h) (pa_cons (pv 0) (pa_cons pe_int pa_nil))) pe_int) pa_nil))))))))))) pa_nil))))
      (pss_cons (ps_if (pt_cmpR (k_eq K hr.units) (pv 2) pe_str (nomark _))
        (pss_one (ps_set (i := 3) sc__law_ref.nd rfl (.inl rfl) (pe_call G__law_pick (hr.mono (by decide)) (by rfl) T.g__law_pick T.F__law_pick.kp T.b__law_pick .nil (passes_call (takes_of rfl rfl rfl rfl) fun _ _ _ _ h => h) (pa_cons (pv 0) (pa_cons (pe_lst (pa_cons (pe_callB c_abs (by rfl) T.z_abs (by decide +kernel) (pa_cons (pv 3) pa_nil)) (pa_cons pe_int (pa_cons (pe_call G__law_draw (hr.mono (by decide)) (by rfl) T.g__law_draw T.F__law_draw.kp T.b__law_draw .nil (passes_call (takes_of rfl rfl rfl rfl) fun _ _ _ _ h => h) (pa_cons (pv 0) (pa_cons pe_int pa_nil))) pa_nil)))) pa_nil)))))
        pss_nil)
      (pss_one (ps_ret (pe_tup (pa_cons (pv 2) (pa_cons (pe_call G__law_pick (hr.mono (by decide)) (by rfl) T.g__law_pick T.F__law_pick.kp T.b__law_pick .nil (passes_call (takes_of rfl rfl rfl rfl) fun _ _ _ _ h => h) (pa_cons (pv 0) (pa_cons (pv 1) pa_nil))) (pa_cons (pv 3) pa_nil)))))))))), ?_⟩
    refine at_start (σ' := [some _, some _, none, none]) rfl ?_
    haveI := hp.ps
    haveI : Dif l p := ⟨hl⟩
    haveI : At H l _ := ⟨hcs⟩
    walk_at "z"
    refine .inl ⟨p, _, _, n, rfl, hp.same Sc.h, by omega, Dif.h, At.h, by decide, by decide, fun v H1 hv e1 pn1 => ?_⟩
    haveI : Xp p _ H1 := ⟨e1⟩
    haveI := pn1.ps
    have hv' : ∃ k : Str, v = .str k ∧ isKind k := by
      simp only [List.mem_cons, List.not_mem_nil, or_false] at hv
      rcases hv with rfl | rfl | rfl | rfl | rfl | rfl | rfl
      · exact ⟨_, rfl, .inl rfl⟩
      · exact ⟨_, rfl, .inl rfl⟩
      · exact ⟨_, rfl, .inl rfl⟩
      · exact ⟨_, rfl, .inr (.inl rfl)⟩
      · exact ⟨_, rfl, .inr (.inl rfl)⟩
      · exact ⟨_, rfl, .inr (.inr (.inl rfl))⟩
      · exact ⟨_, rfl, .inr (.inr (.inr rfl))⟩
    obtain ⟨k, rfl, hk⟩ := hv'
    walk_at "z"
    refine i_dec (fun c1 => ?_) (fun c1 => ?_)
    · subst c1
      walk_at "z"
      refine q _ _ _ _ _ ⟨hk, rfl, rfl, by decide, by decide⟩ Pc.h ((pn1.mono (by omega)).same Sc.h) Dif.h upd_same
    · walk_at "z"
      refine ⟨p, n + 1, 1999, rfl, pn1, by omega, by omega, by omega, fun d H2 d0 d1 e2 pn2 => ?_⟩
      haveI : Xp p _ H2 := ⟨e2⟩
      haveI := pn2.ps
      walk_at "z"
      refine .inl ⟨p, _, _, n + 2, rfl, pn2.same Sc.h, by omega, Dif.h, At.h, by show 0 < 10; omega, by show 10 ≤ 1000; omega, fun v H3 hv e3 pn3 => ?_⟩
      haveI : Xp p _ H3 := ⟨e3⟩
      haveI := pn3.ps
      have hv' : ∃ m : Int, v = .int m ∧ -999 ≤ m ∧ m ≤ 999 := by
        simp only [List.mem_cons, List.not_mem_nil, or_false] at hv
        rcases hv with rfl | rfl | rfl | rfl | rfl | rfl | rfl | rfl | rfl | rfl <;> exact ⟨_, rfl, by omega, by omega⟩
      obtain ⟨m, rfl, hm0, hm1⟩ := hv'
      walk_at "z"
      refine i_dec (fun c2 => ?_) (fun c2 => ?_)
      · subst c2
        walk_at "z"
        refine ⟨p, n + 3, 10000, rfl, pn3, by omega, by omega, by omega, fun d H4 d0 d1 e4 pn4 => ?_⟩
        haveI : Xp p _ H4 := ⟨e4⟩
        haveI := pn4.ps
        walk_at "z"
        refine .inl ⟨p, _, _, n + 4, rfl, pn4.same Sc.h, by omega, Dif.h, At.h, by show 0 < 3; omega, by show 3 ≤ 1000; omega, fun v H5 hv e5 pn5 => ?_⟩
        haveI : Xp p _ H5 := ⟨e5⟩
        haveI := pn5.ps
        have hv' : ∃ m : Int, v = .int m ∧ 0 ≤ m ∧ m ≤ 9999 := by
          simp only [List.mem_cons, List.not_mem_nil, or_false] at hv
          rcases hv with rfl | rfl | rfl
          · refine ⟨_, rfl, ?_, ?_⟩ <;> split <;> omega
          · exact ⟨_, rfl, by omega, by omega⟩
          · exact ⟨_, rfl, by omega, by omega⟩
        obtain ⟨m, rfl, hm0, hm1⟩ := hv'
        walk_at "z"
        refine .inl ⟨p, l, _, n + 5, rfl, pn5, by omega, Dif.h, At.h, by rw [List.length_map]; exact hc0, by rw [List.length_map]; exact hc1, fun v H6 hv e6 pn6 => ?_⟩
        haveI : Xp p _ H6 := ⟨e6⟩
        haveI := pn6.ps
        obtain ⟨c, hc, rfl⟩ := List.mem_map.mp hv
        walk_at "z"
        refine q _ _ _ _ _ ⟨hk, ?_, ?_, word_len (hcw c hc), word_asc (hcw c hc)⟩ Pc.h ((pn6.mono (by omega)).same Sc.h) Dif.h upd_same
        · unfold colB
          rw [if_neg (by decide +kernel)]
          exact hcw c hc
        · unfold numB
          rw [if_pos rfl, decide_eq_true hm0, decide_eq_true hm1]; rfl
      · walk_at "z"
        refine .inl ⟨p, l, _, n + 3, rfl, pn3, by omega, Dif.h, At.h, by rw [List.length_map]; exact hc0, by rw [List.length_map]; exact hc1, fun v H6 hv e6 pn6 => ?_⟩
        haveI : Xp p _ H6 := ⟨e6⟩
        haveI := pn6.ps
        obtain ⟨c, hc, rfl⟩ := List.mem_map.mp hv
        walk_at "z"
        refine q _ _ _ _ _ ⟨hk, ?_, ?_, word_len (hcw c hc), word_asc (hcw c hc)⟩ Pc.h ((pn6.mono (by omega)).same Sc.h) Dif.h upd_same
        · unfold colB
          rw [if_neg c1]
          exact hcw c hc
        · unfold numB
          rw [if_neg c2, if_neg c1, decide_eq_true hm0, decide_eq_true hm1]; rfl
end
end R
end

section
open PySem PySem.Spec PyProof.Rows L2 Z LamX
namespace R
/-- what is heard of a call -/
def TTh (a : Ad) : (XK → Hp → VK → Prop) → Hp → VK → Prop := fun tl H Q =>
  tl (fun cls d H' => ∃ dd p, cls = .ref a.C_BadCell ∧ d = some dd ∧ H' dd = some (.xd [("part", .str p)]) ∧ ∀ t H2, Same H' H2 → H2 t = some (.tup [.str "cell", .str p]) → Q (.ref t) H2) H fun v H' => ∀ l, H' l = none → Q (.ref l) (upd H' l (.lst [v]))
def xIsi (K : PySem.W.Frag) : RC := rIsV K
theorem xc_isi {X : Cx} (K : PySem.W.Frag) (h : X.K = K := by rfl) : CallR X (.builtin "isinstance") (xIsi K) := h ▸ call_isV
theorem pe_xfK {X : Cx} (K : PySem.W.Frag) {e : Expr} {te : TE} {n : Str} {pos : Pos} (he : PE X e te) (hb : attributeBase e n X.env (eval e X.env) = eval e X.env := by rfl) (h : X.K = K := by rfl) : PE X (.Attribute e n pos) (tAtt (aXf K n) te) := h ▸ pe_xfV he hb
theorem heard_gives {X : Cx} {a : Ad} (T : Tx X.K X.mg a) (g : Addr) (cdg : Value) (q : Str) : GivesTo X N__law_heard "_law_heard" (defScope s__law_heard) g cdg (defBody s__law_heard) "_law_ask" q (TTh a) := by
  intro f c' s H Q tl act hc h
  refine ⟨_, (pss_cons (ps_set (i := 1) sc__law_heard.nd rfl (.inl rfl) pe_non)
    (pss_cons (ps_set (i := 2) sc__law_heard.nd rfl (.inl rfl) pe_non)
    (pss_cons (ps_tryK (X := (cxOf C8.CX0 X.prog X.w X.K X.mg X.base N__law_heard "_law_heard" (defScope s__law_heard) g cdg X.A X.stack s H C8.E0).nox) (i := 3) (c := .ref a.C_RowError)
      (tb := fun W D σ H => ∃ (Ech : XK) (Q0 : VK), (∀ cls d σ' H', Ech cls d H' → W cls d σ' H') ∧ σ[0]? = some (some (.ref f)) ∧ H c' = some (CodeO c' q) ∧ tl Ech H Q0 ∧ ∀ v H1, Q0 v H1 → D.nx (σ.set 2 (some v)) H1)
      rfl rfl rfl sc__law_heard.nd rfl rfl ⟨by rfl, by decide, .inl T.g_RowError⟩ L2.takes0 ?body (fun a oe cls d pn _ _ => pss_one (ps_set (i := 1) sc__law_heard.nd rfl (.inl rfl) (pv 3))))
    (pss_cons (ps_if (pt_cmpR o_is (pv 1) pe_non (nomark _)) (pss_one (ps_ret (pe_lst (pa_cons (pv 2) pa_nil)))) pss_nil)
    (pss_cons (ps_if (PW.pt (pw_or (pt_not (pt_trK X.K (pe_callB (xc_isi X.K) (by rfl) T.z_isinstance (by decide +kernel) (pa_cons (pv 1) (pa_cons (pe_glob (v := .ref a.C_BadCell) (by rfl) T.g_BadCell rfl) pa_nil))) (by intro _; rfl)))
      (pw_or (pt_not (pt_trK X.K (pe_callB (xc_isi X.K) (by rfl) T.z_isinstance (by decide +kernel) (pa_cons (pv 1) (pa_cons (pe_glob (v := .ref a.C_BadInput) (by rfl) T.g_BadInput rfl) pa_nil))) (by intro _; rfl)))
      (pw_or1 (pt_not (pt_trK X.K (pe_callB (xc_isi X.K) (by rfl) T.z_isinstance (by decide +kernel) (pa_cons (pv 1) (pa_cons (pe_bltn (v := .ty "ValueError") (by rfl) T.z_ValueError (by decide +kernel) rfl) pa_nil))) (by intro _; rfl)))))))
      (pss_one (ps_ret (pe_tup (pa_cons pe_str pa_nil)))) pss_nil)
    (pss_one (ps_ret (pe_tup (pa_cons pe_str (pa_cons (pe_xfK X.K (pv 1)) pa_nil)))))))))), ?_⟩
  case body =>
    intro W pn xe tk _
    refine ⟨fun pins s' σ H' D I h' => ?_⟩
    obtain ⟨Ech, Q0, hW, h1, h2, h3, h4⟩ := h'
    exact (pss_one (ps_set (i := 2) sc__law_heard.nd rfl (.inl rfl) (moE (act W pn xe Ech _ _ tk hW)))).run pins s' σ H' D I ⟨Q0, ⟨h1, h2, h3⟩, h4⟩
  refine at_start (σ' := [some (.ref f), none, none, none]) rfl ?_
  walk_at "z"
  refine ⟨_, _, ?_, rfl, hc, h, ?_⟩
  · rintro cls d σ' H' ⟨dd, p, rfl, rfl, hx, k⟩ hl
    refine ⟨true, T.ex_B, (fun z => nomatch z), fun _ e he => ?_⟩
    match σ', hl with
    | [s0, s1, s2, s3], _ =>
      refine (show tAsg (tVar 3) (gName 1) _ [s0, s1, s2, some (.ref e)] H' from ?_)
      haveI : Nw H' e := ⟨he⟩
      haveI : At H' dd _ := ⟨hx⟩
      walk_at "z"
      refine ⟨e, a.C_BadCell, some dd, _, _, true, rfl, upd_same, .inr ⟨dd, _, rfl, At.h⟩, .own _, T.e_BadCell, T.k_BB, ?_⟩
      walk_at "z"
      refine ⟨e, a.C_BadCell, some dd, _, _, true, rfl, upd_same, .inr ⟨dd, _, rfl, At.h⟩, .own _, T.e_BadCell, T.k_BI, ?_⟩
      walk_at "z"
      refine ⟨e, a.C_BadCell, some dd, _, _, true, rfl, upd_same, .inr ⟨dd, _, rfl, At.h⟩, .ty _, T.e_BadCell, T.k_BV, ?_⟩
      walk_at "z"
      refine ⟨e, a.C_BadCell, dd, _, .str p, rfl, upd_same, At.h, T.xf_BadCell, T.n_BadCell_part, rfl, ?_⟩
      walk_at "z"
      exact k _ _ Sc.h upd_same
  · intro v H1 k
    walk_at "z"
    rename_i l nl
    exact k _ nl.h
end R
end

section
open PySem PySem.Spec PyProof.Rows L2 Z LamX
namespace R
/-! ### what is told, as data -/
def ROk : Res → Prop
  | .bad p => p = "kind" ∨ p = "number" ∨ p = "column"
  | .ref k c n => isKind k ∧ ∃ z : Str, c = .str z ∧ z.length ≤ 8 ∧ (∀ d ∈ z.cps.toList, d < 128) ∧ -9999 ≤ n ∧ n ≤ 9999
def strD : V → PyData
  | .str z => .str z
  | _ => .none
def toldD : Res → PyData
  | .bad p => .tuple [.str "cell", .str p]
  | .ref k c n => .tuple [.str "ref", .str k, strD c, .int n]
theorem dp_told {K : PySem.W.Frag} {H : Hp} {t : Addr} {r : Res} (h : H t = some (.tup (toldL r))) (ok : ROk r) : Dp K H (.ref t) (toldD r) := by
  cases r with
  | bad p => exact .tup (SqT.of h) (.cons (.str _) (.cons (.str _) .nil))
  | ref k c n =>
    obtain ⟨_, z, rfl, _⟩ := ok
    exact .tup (SqT.of h) (.cons (.str _) (.cons (.str _) (.cons (.str _) (.cons (.int _) .nil))))
structure DOk (d : PyData) : Prop where
  sh : d.showable = true
  nd : d.hasDict = false
  dp : d.depth ≤ 10
  lv : d.leavesShort 13 = true
  wt : d.weight ≤ 200
theorem kind_ok {k : Str} (h : isKind k) : k.cps.size ≤ 10 ∧ k.cps.toList.all (fun c => decide (c < 16 ^ 8)) = true := by
  rcases h with rfl | rfl | rfl | rfl <;> exact ⟨by decide +kernel, by decide +kernel⟩
theorem part_ok {k : Str} (h : k = "kind" ∨ k = "number" ∨ k = "column") : k.cps.size ≤ 10 ∧ k.cps.toList.all (fun c => decide (c < 16 ^ 8)) = true := by
  rcases h with rfl | rfl | rfl <;> exact ⟨by decide +kernel, by decide +kernel⟩
theorem int_log {n : Int} (h0 : -9999 ≤ n) (h1 : n ≤ 9999) : n.natAbs.log2 < 14 := by
  rcases Nat.eq_zero_or_pos n.natAbs with h | h
  · rw [h]; decide
  · exact (Nat.log2_lt (by omega)).mpr (by omega)
theorem dok_told {r : Res} (ok : ROk r) : DOk (toldD r) := by
  cases r with
  | bad p =>
    obtain ⟨h1, h2⟩ := part_ok ok
    refine ⟨?_, ?_, ?_, ?_, ?_⟩
    · simp only [toldD, PyData.showable, PyData.showableAll, Bool.and_true]
    · simp only [toldD, PyData.hasDict, PyData.hasDictAll, Bool.or_false]
    · simp only [toldD, PyData.depth, PyData.depthAll]; simp
    · simp only [toldD, PyData.leavesShort, PyData.leavesShortAll, Bool.and_true, h2]; decide +kernel
    · simp only [toldD, PyData.weight, PyData.weightAll]
      have e : (("cell" : Str)).cps.size = 4 := by decide +kernel
      omega
  | ref k c n =>
    obtain ⟨hk, z, rfl, hz, ha, n0, n1⟩ := ok
    obtain ⟨h1, h2⟩ := kind_ok hk
    have hlg := int_log n0 n1
    have hz2 : z.cps.toList.all (fun c => decide (c < 16 ^ 8)) = true := List.all_eq_true.mpr fun d hd => decide_eq_true (Nat.lt_trans (ha d hd) (by decide))
    refine ⟨?_, ?_, ?_, ?_, ?_⟩
    · simp only [toldD, strD, PyData.showable, PyData.showableAll, Bool.and_true, Bool.true_and]
      exact decide_eq_true (by omega)
    · simp only [toldD, strD, PyData.hasDict, PyData.hasDictAll, Bool.or_false]
    · simp only [toldD, strD, PyData.depth, PyData.depthAll]; simp
    · simp only [toldD, strD, PyData.leavesShort, PyData.leavesShortAll, Bool.and_true, h2, hz2, Bool.true_and]
      rw [show (("ref" : Str)).cps.toList.all (fun c => decide (c < 16 ^ 8)) = true from by decide +kernel, Bool.true_and]
      exact decide_eq_true (PyData.shown_int_le (by omega))
    · simp only [toldD, strD, PyData.weight, PyData.weightAll]
      have e : (("ref" : Str)).cps.size = 3 := by decide +kernel
      have e2 : z.cps.size ≤ 8 := hz
      split <;> omega
theorem i_reprD {K : PySem.W.Frag} {H : Hp} {l : Addr} {d : PyData} {Q : VK} (hd : Dp K H (.ref l) d) (ok : d.showable = true ∧ d.hasDict = false ∧ d.depth ≤ 60 ∧ d.leavesShort 13 = true ∧ d.weight ≤ 1000) (q : Q (.str d.shown) H) : aRepr K [.ref l] H Q :=
  ⟨l, d, rfl, hd, ok.1, ok.2.1, ok.2.2.1, PyData.shown_fits (B := 13) (by omega) (by omega) ok.2.2.2.1 (by have := ok.2.2.2.2; omega), q⟩
theorem dok4 {a b c d : PyData} (ha : DOk a) (hb : DOk b) (hc : DOk c) (hd : DOk d) : (PyData.list [a, b, c, d]).showable = true ∧ (PyData.list [a, b, c, d]).hasDict = false ∧ (PyData.list [a, b, c, d]).depth ≤ 60 ∧ (PyData.list [a, b, c, d]).leavesShort 13 = true ∧ (PyData.list [a, b, c, d]).weight ≤ 1000 := by
  refine ⟨?_, ?_, ?_, ?_, ?_⟩
  · simp only [PyData.showable, PyData.showableAll, ha.sh, hb.sh, hc.sh, hd.sh, Bool.and_true]
  · simp only [PyData.hasDict, PyData.hasDictAll, ha.nd, hb.nd, hc.nd, hd.nd, Bool.or_false]
  · have h1 := ha.dp; have h2 := hb.dp; have h3 := hc.dp; have h4 := hd.dp
    simp only [PyData.depth, PyData.depthAll]; omega
  · simp only [PyData.leavesShort, PyData.leavesShortAll, ha.lv, hb.lv, hc.lv, hd.lv, Bool.and_true]
  · have h1 := ha.wt; have h2 := hb.wt; have h3 := hc.wt; have h4 := hd.wt
    simp only [PyData.weight, PyData.weightAll]; omega
theorem dok2 {a b : PyData} (ha : DOk a) (hb : DOk b) : (PyData.list [a, b]).showable = true ∧ (PyData.list [a, b]).hasDict = false ∧ (PyData.list [a, b]).depth ≤ 60 ∧ (PyData.list [a, b]).leavesShort 13 = true ∧ (PyData.list [a, b]).weight ≤ 1000 := by
  refine ⟨?_, ?_, ?_, ?_, ?_⟩
  · simp only [PyData.showable, PyData.showableAll, ha.sh, hb.sh, Bool.and_true]
  · simp only [PyData.hasDict, PyData.hasDictAll, ha.nd, hb.nd, Bool.or_false]
  · have h1 := ha.dp; have h2 := hb.dp
    simp only [PyData.depth, PyData.depthAll]; omega
  · simp only [PyData.leavesShort, PyData.leavesShortAll, ha.lv, hb.lv, Bool.and_true]
  · have h1 := ha.wt; have h2 := hb.wt
    simp only [PyData.weight, PyData.weightAll]; omega
end R
end

section
open PySem PySem.Spec PyProof.Rows L2 Z LamX
namespace Z
class Nc (H H' : Hp) : Prop where h : ExtN H H'
instance (priority := high) Nc.refl {H : Hp} : Nc H H := ⟨ExtN.refl H⟩
instance Nc.new {H H' : Hp} {r : Addr} {o : HO} [n : Nw H' r] [s : Nc H H'] : Nc H (upd H' r o) := ⟨ExtN.trans s.h (ExtN.of (Same.new (fun _ _ h => h) n.h))⟩
instance (priority := low) Nc.sm {H H1 H2 : Hp} [n : Sm H1 H2] [s : Nc H H1] : Nc H H2 := ⟨ExtN.trans s.h (ExtN.of n.h)⟩
instance (priority := low) Nc.xn {H H1 H2 : Hp} [n : Xn H1 H2] [s : Nc H H1] : Nc H H2 := ⟨ExtN.trans s.h n.h⟩
set_option synthInstance.checkSynthOrder false in
instance (priority := low) Nc.mut {H H0 H' : Hp} {r : Addr} {o : HO} [n : Nw H0 r] [s0 : Nc H H0] [s : Nc H H'] : Nc H (upd H' r o) := ⟨fun b u hb nt => by
  have h0 := s0.h b u hb nt
  rw [upd_ne (fun z => by rw [z, n.h] at h0; cases h0)]
  exact s.h b u hb nt⟩
instance (priority := low) At.mutT {H : Hp} {p r : Addr} {o' : HO} {xs ys : List V} [a : At H p (.tup xs)] [b : At H r (.lst ys)] : At (upd H r o') p (.tup xs) := ⟨h_mut (fun z => by have h := a.h; rw [z, b.h] at h; cases h) a.h⟩
instance (priority := low) At.mutI {H : Hp} {p r C dx : Addr} {fs : List (Str × V)} {o' : HO} {ys : List V} [a : At H p (.ins C dx fs)] [b : At H r (.lst ys)] : At (upd H r o') p (.ins C dx fs) := ⟨h_mut (fun z => by have h := a.h; rw [z, b.h] at h; cases h) a.h⟩
class Tc (T : List (Addr × Str)) (H : Hp) : Prop where h : Tabs T H
instance Tc.new {T : List (Addr × Str)} {H : Hp} {r : Addr} {o : HO} [n : Nw H r] [t : Tc T H] : Tc T (upd H r o) := ⟨Tabs.same t.h (Same.new (fun _ _ h => h) n.h)⟩
instance (priority := low) Tc.sm {T : List (Addr × Str)} {H H1 : Hp} [n : Sm H H1] [t : Tc T H] : Tc T H1 := ⟨Tabs.same t.h n.h⟩
instance (priority := low) Tc.mut {T : List (Addr × Str)} {H : Hp} {r : Addr} {o : HO} {xs : List V} [n : At H r (.lst xs)] [t : Tc T H] : Tc T (upd H r o) := ⟨Tabs.extP t.h (ExtP.upd (ExtP.refl H)) n.h⟩
end Z
namespace R
def q1 : Str := (envOfC "_law_steps_right" (defScope s__law_steps_right) 0 0 .none).qual ++ "<lambda>"
def q2 : Str := (envOfC "_law_signs_right" (defScope s__law_signs_right) 0 0 .none).qual ++ "<lambda>"
def q3 : Str := (envOfC "_law_into_right" (defScope s__law_into_right) 0 0 .none).qual ++ "<lambda>"
def tabsT (a : Ad) : List (Addr × Str) := [(a.P1, q1), (a.P2, q2), (a.P3, q3)]
theorem tabs_mem1 (a : Ad) : (a.P1, q1) ∈ tabsT a := List.mem_cons_self
theorem tabs_mem2 (a : Ad) : (a.P2, q2) ∈ tabsT a := List.mem_cons_of_mem _ List.mem_cons_self
theorem tabs_mem3 (a : Ad) : (a.P3, q3) ∈ tabsT a := List.mem_cons_of_mem _ (List.mem_cons_of_mem _ List.mem_cons_self)
theorem tabs_cases {a : Ad} {p : Addr × Str} (h : p ∈ tabsT a) : p = (a.P1, q1) ∨ p = (a.P2, q2) ∨ p = (a.P3, q3) := by
  unfold tabsT at h
  simpa using h
theorem tabs_un1 {a : Ad} (d : a.P1 ≠ a.P2 ∧ a.P1 ≠ a.P3 ∧ a.P2 ≠ a.P3) : ∀ p ∈ tabsT a, p.1 = a.P1 → p.2 = q1 := fun p hp e => by
  rcases tabs_cases hp with rfl | rfl | rfl
  · rfl
  · exact absurd e.symm d.1
  · exact absurd e.symm d.2.1
theorem tabs_un2 {a : Ad} (d : a.P1 ≠ a.P2 ∧ a.P1 ≠ a.P3 ∧ a.P2 ≠ a.P3) : ∀ p ∈ tabsT a, p.1 = a.P2 → p.2 = q2 := fun p hp e => by
  rcases tabs_cases hp with rfl | rfl | rfl
  · exact absurd e d.1
  · rfl
  · exact absurd e.symm d.2.2
theorem tabs_un3 {a : Ad} (d : a.P1 ≠ a.P2 ∧ a.P1 ≠ a.P3 ∧ a.P2 ≠ a.P3) : ∀ p ∈ tabsT a, p.1 = a.P3 → p.2 = q3 := fun p hp e => by
  rcases tabs_cases hp with rfl | rfl | rfl
  · exact absurd e d.2.1
  · exact absurd e d.2.2
  · rfl
theorem hear_of {a : Ad} {r : Res} {tl : XK → Hp → VK → Prop} {H1 : Hp} {Q : VK} (h : ∀ E Q', Gv a r H1 Q' E → tl E H1 Q') (k : ∀ h' H2, Same H1 H2 → HeardAt a H2 h' r → Q (.ref h') H2) : TTh a tl H1 Q := by
  refine h _ _ ?_
  cases r with
  | bad p => exact fun d H' s hx => ⟨d, p, rfl, rfl, hx, fun t H2 s2 ht => k t H2 (sm_trans s s2) ht⟩
  | ref kk c n =>
    intro p H' s rr l hl
    obtain ⟨dx, t, hp⟩ := rr
    exact k l _ (Same.new s hl) ⟨p, upd_same, dx, t, h_old hl hp⟩
theorem good_an {k c : Str} {n : Int} (g : GoodRef k c n) (H : Hp) : An H (.str c) := by
  refine .str c (by have := g.2.2.2.1; omega) ?_
  unfold PyData.strOk
  rw [← Array.all_toList]
  refine List.all_eq_true.mpr fun d hd => ?_
  have := g.2.2.2.2 d hd
  simp; omega
theorem good_bad {k c : Str} {n : Int} (g : GoodRef k c n) : badOf k (.str c) n = none := by
  unfold badOf
  rw [g.2.1, g.2.2.1]; rfl
theorem numB_lim {k : Str} {n : Int} (h : numB k n = true) : -9999 ≤ n ∧ n ≤ 9999 := by
  unfold numB at h
  split at h
  · simp at h; omega
  · split at h
    · simp at h; omega
    · simp at h; omega
theorem ok_ref {k c : Str} {n : Int} (hk : isKind k) (hl : c.length ≤ 8) (ha : ∀ d ∈ c.cps.toList, d < 128) (hn : numB k n = true) : ROk (.ref k (.str c) n) := ⟨hk, c, rfl, hl, ha, (numB_lim hn).1, (numB_lim hn).2⟩
theorem ok_mk {k c : Str} {n : Int} (hk : isKind k) (hl : c.length ≤ 8) (ha : ∀ d ∈ c.cps.toList, d < 128) : ROk (mkRes k (.str c) n) := by
  unfold mkRes badOf
  cases colB k (.str c) with
  | false => exact .inr (.inr rfl)
  | true =>
    cases hn : numB k n with
    | false => exact .inr (.inl rfl)
    | true => exact ok_ref hk hl ha hn
theorem ok_step {k c : Str} {n : Int} (hk : isKind k) (hl : c.length ≤ 8) (ha : ∀ d ∈ c.cps.toList, d < 128) : ROk (stepRes k (.str c) n) := by
  unfold stepRes
  split
  · exact ok_mk hk hl ha
  · exact .inl rfl
theorem shaped_ref {k c : Str} {n : Int} (hk : isKind k) (ha : ∀ d ∈ c.cps.toList, d < 128) : SeqAt.shaped (toldD (.ref k (.str c) n)) = true := by
  have h1 : PyData.strOk k = true := by rcases hk with rfl | rfl | rfl | rfl <;> decide +kernel
  have h2 : PyData.strOk c = true := by
    unfold PyData.strOk
    rw [← Array.all_toList]
    refine List.all_eq_true.mpr fun d hd => ?_
    have := ha d hd
    simp; omega
  have h3 : PyData.strOk "ref" = true := by decide +kernel
  unfold SeqAt.shaped
  rw [Bool.and_eq_true]
  refine ⟨?_, ?_⟩
  · simp only [toldD, strD, PyData.canLay0, PyData.canLayAll0, h1, h2, h3, Bool.and_true]
  · simp only [toldD, strD, PyData.depth, PyData.depthAll]; decide
theorem eqv_ref {k c : Str} {n : Int} : PyData.eqv (toldD (.ref k (.str c) n)) (toldD (.ref k (.str c) n)) = true := by
  simp [toldD, strD, PyData.eqv, PyData.eqvAll]
def sp__law_steps_right (a : Ad) : Sp := fun vs H Q _ => ∃ t k c n m, vs = [.ref t, .int m] ∧ H t = some (.tup [.str k, .str c, .int n]) ∧ GoodRef k c n ∧ Tabs (tabsT a) H ∧ ∀ H', ExtN H H' → Tabs (tabsT a) H' → Q (.bl true) H'
section
variable {P : Program} {w : World} {K : PySem.W.Frag} {mg : Str → Option Value} {base : Heap} {a : Ad}
theorem ok__law_steps_right (T : Tx K mg a) (B1 : TabB base mg a.c1 a.P1)
    (G__law_ref_made : FnOk P w K mg base (L2.CX P w) 5 a.f__law_ref_made a.fd__law_ref_made P__law_ref_made (sp__law_ref_made a))
    (G__law_told : FnOk P w K mg base (L2.CX P w) 1 a.f__law_told a.fd__law_told P__law_told (sp__law_told a))
    (G__law_step_due : FnOk P w K mg base (L2.CX P w) 1 a.f__law_step_due a.fd__law_step_due P__law_step_due sp__law_step_due)
    (G__law_more : FnOk P w K mg base (L2.CX P w) 7 a.f__law_more a.fd__law_more P__law_more (sp_Ref_stepped a))
    (G_Ref___add__ : FnOk P w K mg base (L2.CX P w) 6 a.f_Ref___add__ a.fd_Ref___add__ P_Ref___add__ (sp_Ref_stepped a))
    (G_Ref___radd__ : FnOk P w K mg base (L2.CX P w) 6 a.f_Ref___radd__ a.fd_Ref___radd__ P_Ref___radd__ (sp_Ref_stepped a))
    (G_Ref___sub__ : FnOk P w K mg base (L2.CX P w) 6 a.f_Ref___sub__ a.fd_Ref___sub__ P_Ref___sub__ (sp_Ref_sub a)) : FnG P w K mg base (L2.CX P w) 10 a.f__law_steps_right a.fd__law_steps_right P__law_steps_right (sp__law_steps_right a) := by
  refine okGc T.F__law_steps_right sc__law_steps_right (fun vs H Q E h => ?_) (fun cdv A outer s H vs Q E hcd hg hr h => ?_)
  · obtain ⟨_, _, _, _, _, rfl, _⟩ := h
    rfl
  · obtain ⟨t, k, c, n, m, rfl, ht, gr, tb, q⟩ := h
    refine ⟨_, (pss_cons (ps_set (i := 2) sc__law_steps_right.nd rfl (.inr rfl) (pe_call G__law_ref_made (hr.mono (by decide)) (by rfl) T.g__law_ref_made T.F__law_ref_made.kp T.b__law_ref_made .nil (passes_call (takes_of rfl rfl rfl rfl) fun _ _ _ _ h => h) (pa_cons (pv 0) pa_nil)))
      (pss_cons (ps_set (i := 3) sc__law_steps_right.nd rfl (.inl rfl) (pe_lst (pa_cons (pe_call G__law_told (hr.mono (by decide)) (by rfl) T.g__law_told T.F__law_told.kp T.b__law_told .nil (passes_call (takes_of rfl rfl rfl rfl) fun _ _ _ _ h => h) (pa_cons (pe_lam (T := tabsT a) (TT := TTh a) (k := 7) (by rfl) T.g__law_heard T.F__law_heard T.b__law_heard sc__law_heard rfl (.inl rfl) (fun cdv => heard_gives T _ cdv _) B1 (by exact hcd.symm.trans T.cd1) (tabs_mem1 a) (tabs_un1 T.dP) (hr.mono (by decide)) (lamS_by (sc := defScope s__law_steps_right) (by decide +kernel)) rfl (fun _ _ _ _ _ => rfl) (fun A outer s H E f c' hr => (pe_op (o_ownAdd T.oa G_Ref___add__ (hr.mono (by decide)) T.b_Ref___add__ (passes_call (takes_of rfl rfl rfl rfl) fun _ _ _ _ h => h)) (pv 2) (pv 1)))) pa_nil)) pa_nil)))
      (pss_cons (ps_expr (pe_bm PySem.F.plainAttrs_list PySem.F.slot_list_append PySem.F.type_list_append mt_append (pv 3) (pa_cons (pe_call G__law_told (hr.mono (by decide)) (by rfl) T.g__law_told T.F__law_told.kp T.b__law_told .nil (passes_call (takes_of rfl rfl rfl rfl) fun _ _ _ _ h => h) (pa_cons (pe_lam (T := tabsT a) (TT := TTh a) (k := 7) (by rfl) T.g__law_heard T.F__law_heard T.b__law_heard sc__law_heard rfl (.inl rfl) (fun cdv => heard_gives T _ cdv _) B1 (by exact hcd.symm.trans T.cd1) (tabs_mem1 a) (tabs_un1 T.dP) (hr.mono (by decide)) (lamS_by (sc := defScope s__law_steps_right) (by decide +kernel)) rfl (fun _ _ _ _ _ => rfl) (fun A outer s H E f c' hr => (pe_op (o_ownRadd T.ora G_Ref___radd__ (hr.mono (by decide)) T.b_Ref___radd__ (passes_call (takes_of rfl rfl rfl rfl) fun _ _ _ _ h => h)) (pv 1) (pv 2)))) pa_nil)) pa_nil)))
      (pss_cons (ps_expr (pe_bm PySem.F.plainAttrs_list PySem.F.slot_list_append PySem.F.type_list_append mt_append (pv 3) (pa_cons (pe_call G__law_told (hr.mono (by decide)) (by rfl) T.g__law_told T.F__law_told.kp T.b__law_told .nil (passes_call (takes_of rfl rfl rfl rfl) fun _ _ _ _ h => h) (pa_cons (pe_lam (T := tabsT a) (TT := TTh a) (k := 7) (by rfl) T.g__law_heard T.F__law_heard T.b__law_heard sc__law_heard rfl (.inl rfl) (fun cdv => heard_gives T _ cdv _) B1 (by exact hcd.symm.trans T.cd1) (tabs_mem1 a) (tabs_un1 T.dP) (hr.mono (by decide)) (lamS_by (sc := defScope s__law_steps_right) (by decide +kernel)) rfl (fun _ _ _ _ _ => rfl) (fun A outer s H E f c' hr => (pe_call G__law_more (hr.mono (by decide)) (by rfl) T.g__law_more T.F__law_more.kp T.b__law_more .nil (passes_call (takes_of rfl rfl rfl rfl) fun _ _ _ _ h => h) (pa_cons (pv 2) (pa_cons (pv 1) pa_nil))))) pa_nil)) pa_nil)))
      (pss_cons (ps_expr (pe_bm PySem.F.plainAttrs_list PySem.F.slot_list_append PySem.F.type_list_append mt_append (pv 3) (pa_cons (pe_call G__law_told (hr.mono (by decide)) (by rfl) T.g__law_told T.F__law_told.kp T.b__law_told .nil (passes_call (takes_of rfl rfl rfl rfl) fun _ _ _ _ h => h) (pa_cons (pe_lam (T := tabsT a) (TT := TTh a) (k := 7) (by rfl) T.g__law_heard T.F__law_heard T.b__law_heard sc__law_heard rfl (.inl rfl) (fun cdv => heard_gives T _ cdv _) B1 (by exact hcd.symm.trans T.cd1) (tabs_mem1 a) (tabs_un1 T.dP) (hr.mono (by decide)) (lamS_by (sc := defScope s__law_steps_right) (by decide +kernel)) rfl (fun _ _ _ _ _ => rfl) (fun A outer s H E f c' hr => (pe_op (o_ownSub T.os G_Ref___sub__ (hr.mono (by decide)) T.b_Ref___sub__ (passes_call (takes_of rfl rfl rfl rfl) fun _ _ _ _ h => h)) (pv 2) (pv 1)))) pa_nil)) pa_nil)))
      (pss_cons (ps_set (i := 4) sc__law_steps_right.nd rfl (.inl rfl) (pe_op (k_add K) (pe_op o_mul (pe_lst (pa_cons (pe_call G__law_step_due (hr.mono (by decide)) (by rfl) T.g__law_step_due T.F__law_step_due.kp T.b__law_step_due .nil (passes_call (takes_of rfl rfl rfl rfl) fun _ _ _ _ h => h) (pa_cons (pv 0) (pa_cons (pv 1) pa_nil))) pa_nil)) pe_int) (pe_lst (pa_cons (pe_call G__law_step_due (hr.mono (by decide)) (by rfl) T.g__law_step_due T.F__law_step_due.kp T.b__law_step_due .nil (passes_call (takes_of rfl rfl rfl rfl) fun _ _ _ _ h => h) (pa_cons (pv 0) (pa_cons (pe_un u_neg (pv 1)) pa_nil))) pa_nil))))
      (pss_one (ps_ret (pe_andK K (pe_cmpR (k_eq K hr.units) (pe_callB (k_repr K hg hr.units) (by rfl) T.z_repr (by decide +kernel) (pa_cons (pv 3) pa_nil)) (pe_callB (k_repr K hg hr.units) (by rfl) T.z_repr (by decide +kernel) (pa_cons (pv 4) pa_nil)) (nomark _)) (pe_one (pe_cmpR (k_eq K hr.units) (pe_call G__law_told (hr.mono (by decide)) (by rfl) T.g__law_told T.F__law_told.kp T.b__law_told .nil (passes_call (takes_of rfl rfl rfl rfl) fun _ _ _ _ h => h) (pa_cons (pe_lst (pa_cons (pv 2) pa_nil)) pa_nil)) (pe_op (k_add K) (pe_tup (pa_cons pe_str pa_nil)) (pv 0)) (nomark _)))))))))))), ?_⟩
    refine at_start (σ' := [some _, some _, none, none, none]) rfl ?_
    haveI : At H t _ := ⟨ht⟩
    haveI : Tc (tabsT a) H := ⟨tb⟩
    walk_at "z"
    refine ⟨t, k, .str c, n, rfl, ht, gr.1, good_an gr H, good_bad gr, fun p H1 s1 hp => ?_⟩
    haveI : Sm H H1 := ⟨s1⟩
    obtain ⟨dx, ts, hp⟩ := hp
    haveI : At H1 p _ := ⟨hp⟩
    walk_at "z"
    refine ⟨Tc.h, fun A1 e1 tb1 => hear_of (r := stepRes k (.str c) (n + m)) (fun E' Q' g => ?_) (fun h1 B1 s1 hh1 => ?_)⟩
    · haveI : Xn _ A1 := ⟨e1⟩
      dsimp only
      walk_at "z"
      exact ⟨p, dx, _, m, rfl, rfl, At.h, p, k, .str c, n, m, rfl, ⟨dx, ts, At.h⟩, gr.1, good_an gr _, g⟩
    haveI : Xn _ A1 := ⟨e1⟩
    haveI : Tc (tabsT a) A1 := ⟨tb1⟩
    haveI : Sm A1 B1 := ⟨s1⟩
    walk_at "z"
    refine ⟨h1, _, rfl, hh1, fun t1 C1 z1 ht1 => ?_⟩
    haveI : Sm B1 C1 := ⟨z1⟩
    haveI : At C1 t1 _ := ⟨ht1⟩
    walk_at "z"
    refine ⟨Tc.h, fun A2 e2 tb2 => hear_of (r := stepRes k (.str c) (n + m)) (fun E' Q' g => ?_) (fun h2 B2 s2 hh2 => ?_)⟩
    · haveI : Xn _ A2 := ⟨e2⟩
      dsimp only
      walk_at "z"
      exact ⟨p, dx, _, m, rfl, rfl, At.h, p, k, .str c, n, m, rfl, ⟨dx, ts, At.h⟩, gr.1, good_an gr _, g⟩
    haveI : Xn _ A2 := ⟨e2⟩
    haveI : Tc (tabsT a) A2 := ⟨tb2⟩
    haveI : Sm A2 B2 := ⟨s2⟩
    walk_at "z"
    refine ⟨h2, _, rfl, hh2, fun t2 C2 z2 ht2 => ?_⟩
    haveI : Sm B2 C2 := ⟨z2⟩
    haveI : At C2 t2 _ := ⟨ht2⟩
    walk_at "z"
    refine ⟨Tc.h, fun A3 e3 tb3 => hear_of (r := stepRes k (.str c) (n + m)) (fun E' Q' g => ?_) (fun h3 B3 s3 hh3 => ?_)⟩
    · haveI : Xn _ A3 := ⟨e3⟩
      dsimp only
      walk_at "z"
      exact ⟨p, k, .str c, n, m, rfl, ⟨dx, ts, At.h⟩, gr.1, good_an gr _, g⟩
    haveI : Xn _ A3 := ⟨e3⟩
    haveI : Tc (tabsT a) A3 := ⟨tb3⟩
    haveI : Sm A3 B3 := ⟨s3⟩
    walk_at "z"
    refine ⟨h3, _, rfl, hh3, fun t3 C3 z3 ht3 => ?_⟩
    haveI : Sm B3 C3 := ⟨z3⟩
    haveI : At C3 t3 _ := ⟨ht3⟩
    walk_at "z"
    refine ⟨Tc.h, fun A4 e4 tb4 => hear_of (r := stepRes k (.str c) (n - m)) (fun E' Q' g => ?_) (fun h4 B4 s4 hh4 => ?_)⟩
    · haveI : Xn _ A4 := ⟨e4⟩
      dsimp only
      walk_at "z"
      exact ⟨p, dx, _, m, rfl, rfl, At.h, p, k, .str c, n, m, rfl, ⟨dx, ts, At.h⟩, gr.1, good_an gr _, g⟩
    haveI : Xn _ A4 := ⟨e4⟩
    haveI : Tc (tabsT a) A4 := ⟨tb4⟩
    haveI : Sm A4 B4 := ⟨s4⟩
    walk_at "z"
    refine ⟨h4, _, rfl, hh4, fun t4 C4 z4 ht4 => ?_⟩
    haveI : Sm B4 C4 := ⟨z4⟩
    haveI : At C4 t4 _ := ⟨ht4⟩
    walk_at "z"
    have ok1 : ROk (stepRes k (.str c) (n + m)) := ok_step gr.1 gr.2.2.2.1 gr.2.2.2.2
    have ok2 : ROk (stepRes k (.str c) (n - m)) := ok_step gr.1 gr.2.2.2.1 gr.2.2.2.2
    refine ⟨t, k, .str c, n, m, rfl, At.h, fun d1 F1 f1 hd1 => ?_⟩
    rw [← due_step gr.2.1] at hd1
    haveI : Sm _ F1 := ⟨f1⟩
    haveI : At F1 d1 _ := ⟨hd1⟩
    walk_at "z"
    refine ⟨t, k, .str c, n, -m, rfl, At.h, fun d2 F2 f2 hd2 => ?_⟩
    rw [show n + -m = n - m from by omega, ← due_step gr.2.1] at hd2
    haveI : Sm _ F2 := ⟨f2⟩
    haveI : At F2 d2 _ := ⟨hd2⟩
    walk_at "z"
    refine i_reprD (d := .list [toldD (stepRes k (.str c) (n + m)), toldD (stepRes k (.str c) (n + m)), toldD (stepRes k (.str c) (n + m)), toldD (stepRes k (.str c) (n - m))]) (.lst (SqL.of At.h) (.cons (dp_told At.h ok1) (.cons (dp_told At.h ok1) (.cons (dp_told At.h ok1) (.cons (dp_told At.h ok2) .nil))))) (dok4 (dok_told ok1) (dok_told ok1) (dok_told ok1) (dok_told ok2)) ?_
    walk_at "z"
    refine i_reprD (d := .list [toldD (stepRes k (.str c) (n + m)), toldD (stepRes k (.str c) (n + m)), toldD (stepRes k (.str c) (n + m)), toldD (stepRes k (.str c) (n - m))]) (.lst (SqL.of At.h) (.cons (dp_told At.h ok1) (.cons (dp_told At.h ok1) (.cons (dp_told At.h ok1) (.cons (dp_told At.h ok2) .nil))))) (dok4 (dok_told ok1) (dok_told ok1) (dok_told ok1) (dok_told ok2)) ?_
    walk_at "z"
    refine i_dec (fun _ => ?_) (fun z => absurd rfl z)
    walk_at "z"
    refine ⟨_, .ref k (.str c) n, rfl, ⟨p, At.h, dx, ts, At.h⟩, fun t5 G1 g1 ht5 => ?_⟩
    haveI : Sm _ G1 := ⟨g1⟩
    haveI : At G1 t5 _ := ⟨ht5⟩
    walk_at "z"
    have okr : ROk (.ref k (.str c) n) := ok_ref gr.1 gr.2.2.2.1 gr.2.2.2.2 gr.2.2.1
    refine i_eqDt (dp_told At.h okr) (dp_told (r := .ref k (.str c) n) upd_same okr) (shaped_ref gr.1 gr.2.2.2.2) (shaped_ref gr.1 gr.2.2.2.2) eqv_ref ?_
    walk_at "z"
    exact q _ Nc.h Tc.h
end
end R
end

section
open PySem PySem.Spec PyProof.Rows L2 Z LamX
namespace R
theorem An.ext {H H' : Hp} {v : V} (h : An H v) (e : ExtN H H') : An H' v := by
  cases h with
  | non => exact .non
  | bl b => exact .bl b
  | int i => exact .int i
  | str x h1 h2 => exact .str x h1 h2
  | lst h => exact .lst (e _ _ h (fun _ z => by cases z))
  | dK h => exact .dK (e _ _ h (fun _ z => by cases z))
theorem near_bad {k : Str} {c : V} {n : Int} (h : ¬ k = "nearby") : nearRes k c n = .bad "kind" := by
  unfold nearRes
  rw [if_neg (by simpa using h)]
theorem near_ref {k : Str} {c : Str} {n n' : Int} (h : k = "nearby") (g : GoodRef k c n) (hn : -999 ≤ n' ∧ n' ≤ 999) : nearRes k (.str c) n' = .ref k (.str c) n' := by
  subst h
  unfold nearRes mkRes badOf
  rw [if_pos (by simp), g.2.1]
  have e : numB "nearby" n' = true := by
    unfold numB
    rw [if_neg (by decide +kernel), if_neg (by decide +kernel), decide_eq_true hn.1, decide_eq_true hn.2]; rfl
  rw [e]; rfl
theorem near_lim {k : Str} {c : Str} {n : Int} (h : k = "nearby") (g : GoodRef k c n) : -999 ≤ n ∧ n ≤ 999 := by
  subst h
  have h2 := g.2.2.1
  unfold numB at h2
  rw [if_neg (by decide +kernel), if_neg (by decide +kernel)] at h2
  simpa using h2
theorem ok_near {k c : Str} {n : Int} (hl : c.length ≤ 8) (ha : ∀ d ∈ c.cps.toList, d < 128) : ROk (nearRes k (.str c) n) := by
  unfold nearRes
  split
  · exact ok_mk (.inl rfl) hl ha
  · exact .inl rfl
theorem into_nothing {k : Str} {u : V} {n : Int} (h : k = "nothing") : intoRes k u n = .bad "kind" := by
  subst h
  unfold intoRes
  rw [if_neg (by decide +kernel)]
theorem into_col {k : Str} {u : V} {n : Int} (hk : isKind k) (h : ¬ k = "nothing") (hw : isW u = false) : intoRes k u n = .bad "column" := by
  unfold intoRes mkRes badOf colB
  rw [if_pos (by rcases hk with rfl | rfl | rfl | rfl <;> first | (exact absurd rfl h) | simp), if_neg h, hw]; rfl
theorem into_ref {k c : Str} {u : V} {n : Int} (g : GoodRef k c n) (h : ¬ k = "nothing") (hw : isW u = true) : intoRes k u n = .ref k u n := by
  have hk := g.1
  unfold intoRes mkRes badOf colB
  rw [if_pos (by rcases hk with rfl | rfl | rfl | rfl <;> first | (exact absurd rfl h) | simp), if_neg h, hw, g.2.2.1]; rfl
theorem isW_str {u : V} (h : isW u = true) : ∃ z, u = .str z ∧ wordB z = true := by
  cases u with
  | str z => exact ⟨z, rfl, h⟩
  | _ => cases h
theorem ok_into {k c : Str} {u : V} {n : Int} (g : GoodRef k c n) : ROk (intoRes k u n) := by
  by_cases h : k = "nothing"
  · rw [into_nothing h]; exact .inl rfl
  · cases hw : isW u with
    | false => rw [into_col g.1 h hw]; exact .inr (.inr rfl)
    | true =>
      rw [into_ref g h hw]
      obtain ⟨z, rfl, hz⟩ := isW_str hw
      exact ok_ref g.1 (word_len hz) (word_asc hz) g.2.2.1
def sp__law_signs_right (a : Ad) : Sp := fun vs H Q _ => ∃ t k c n, vs = [.ref t] ∧ H t = some (.tup [.str k, .str c, .int n]) ∧ GoodRef k c n ∧ Tabs (tabsT a) H ∧ ∀ H', ExtN H H' → Tabs (tabsT a) H' → Q (.bl true) H'
def sp__law_into_right (a : Ad) : Sp := fun vs H Q _ => ∃ t k c n u, vs = [.ref t, u] ∧ H t = some (.tup [.str k, .str c, .int n]) ∧ GoodRef k c n ∧ An H u ∧ Tabs (tabsT a) H ∧ ∀ H', ExtN H H' → Tabs (tabsT a) H' → Q (.bl true) H'
section
variable {P : Program} {w : World} {K : PySem.W.Frag} {mg : Str → Option Value} {base : Heap} {a : Ad}
theorem ok__law_signs_right (T : Tx K mg a) (B2 : TabB base mg a.c2 a.P2)
    (G__law_ref_made : FnOk P w K mg base (L2.CX P w) 5 a.f__law_ref_made a.fd__law_ref_made P__law_ref_made (sp__law_ref_made a))
    (G__law_told : FnOk P w K mg base (L2.CX P w) 1 a.f__law_told a.fd__law_told P__law_told (sp__law_told a))
    (G_Ref___neg__ : FnOk P w K mg base (L2.CX P w) 5 a.f_Ref___neg__ a.fd_Ref___neg__ P_Ref___neg__ (sp_Ref_neg a))
    (G_Ref___abs__ : FnOk P w K mg base (L2.CX P w) 5 a.f_Ref___abs__ a.fd_Ref___abs__ P_Ref___abs__ (sp_Ref_abs a)) : FnG P w K mg base (L2.CX P w) 10 a.f__law_signs_right a.fd__law_signs_right P__law_signs_right (sp__law_signs_right a) := by
  refine okGc T.F__law_signs_right sc__law_signs_right (fun vs H Q E h => ?_) (fun cdv A outer s H vs Q E hcd hg hr h => ?_)
  · obtain ⟨_, _, _, _, rfl, _⟩ := h
    rfl
  · obtain ⟨t, k, c, n, rfl, ht, gr, tb, q⟩ := h
    refine ⟨_, (pss_cons (ps_asg (pv 0) (pg_tup (by rfl) (pgs_cons (pg_name (i := 1) sc__law_signs_right.nd rfl (.inl rfl)) (pgs_cons (pg_name (i := 2) sc__law_signs_right.nd rfl (.inl rfl)) (pgs_cons (pg_name (i := 3) sc__law_signs_right.nd rfl (.inl rfl)) pgs_nil)))))
      (pss_cons (ps_set (i := 4) sc__law_signs_right.nd rfl (.inr rfl) (pe_call G__law_ref_made (hr.mono (by decide)) (by rfl) T.g__law_ref_made T.F__law_ref_made.kp T.b__law_ref_made .nil (passes_call (takes_of rfl rfl rfl rfl) fun _ _ _ _ h => h) (pa_cons (pv 0) pa_nil)))
      (pss_cons (ps_set (i := 5) sc__law_signs_right.nd rfl (.inl rfl) (pe_lst (pa_cons (pe_call G__law_told (hr.mono (by decide)) (by rfl) T.g__law_told T.F__law_told.kp T.b__law_told .nil (passes_call (takes_of rfl rfl rfl rfl) fun _ _ _ _ h => h) (pa_cons (pe_lam (T := tabsT a) (TT := TTh a) (k := 7) (by rfl) T.g__law_heard T.F__law_heard T.b__law_heard sc__law_heard rfl (.inl rfl) (fun cdv => heard_gives T _ cdv _) B2 (by exact hcd.symm.trans T.cd2) (tabs_mem2 a) (tabs_un2 T.dP) (hr.mono (by decide)) (lamS_by (sc := defScope s__law_signs_right) (by decide +kernel)) rfl (fun _ _ _ _ _ => rfl) (fun A outer s H E f c' hr => (pe_un (u_ownNeg T.on G_Ref___neg__ (hr.mono (by decide)) T.b_Ref___neg__ (passes_call (takes_of rfl rfl rfl rfl) fun _ _ _ _ h => h)) (pv 4)))) pa_nil)) pa_nil)))
      (pss_cons (ps_expr (pe_bm PySem.F.plainAttrs_list PySem.F.slot_list_append PySem.F.type_list_append mt_append (pv 5) (pa_cons (pe_call G__law_told (hr.mono (by decide)) (by rfl) T.g__law_told T.F__law_told.kp T.b__law_told .nil (passes_call (takes_of rfl rfl rfl rfl) fun _ _ _ _ h => h) (pa_cons (pe_lam (T := tabsT a) (TT := TTh a) (k := 7) (by rfl) T.g__law_heard T.F__law_heard T.b__law_heard sc__law_heard rfl (.inl rfl) (fun cdv => heard_gives T _ cdv _) B2 (by exact hcd.symm.trans T.cd2) (tabs_mem2 a) (tabs_un2 T.dP) (hr.mono (by decide)) (lamS_by (sc := defScope s__law_signs_right) (by decide +kernel)) rfl (fun _ _ _ _ _ => rfl) (fun A outer s H E f c' hr => (pe_callB (c_absO T.ob G_Ref___abs__ (hr.mono (by decide)) T.b_Ref___abs__ (passes_call (takes_of rfl rfl rfl rfl) fun _ _ _ _ h => h)) (by rfl) T.z_abs (by decide +kernel) (pa_cons (pv 4) pa_nil)))) pa_nil)) pa_nil)))
      (pss_cons (ps_set (i := 6) sc__law_signs_right.nd rfl (.inl rfl) (pe_op o_mul (pe_lst (pa_cons (pe_tup (pa_cons pe_str (pa_cons pe_str pa_nil))) pa_nil)) pe_int))
      (pss_cons (ps_if (pt_cmpR (k_eq K hr.units) (pv 1) pe_str (nomark _))
        (pss_one (ps_set (i := 6) sc__law_signs_right.nd rfl (.inl rfl) (pe_lst (pa_cons (pe_tup (pa_cons pe_str (pa_cons (pv 1) (pa_cons (pv 2) (pa_cons (pe_op o_sub pe_int (pv 3)) pa_nil))))) (pa_cons (pe_tup (pa_cons pe_str (pa_cons (pv 1) (pa_cons (pv 2) (pa_cons (pe_callB c_abs (by rfl) T.z_abs (by decide +kernel) (pa_cons (pv 3) pa_nil)) pa_nil))))) pa_nil)))))
        pss_nil)
      (pss_one (ps_ret (pe_andK K (pe_cmpR (k_eq K hr.units) (pe_callB (k_repr K hg hr.units) (by rfl) T.z_repr (by decide +kernel) (pa_cons (pv 5) pa_nil)) (pe_callB (k_repr K hg hr.units) (by rfl) T.z_repr (by decide +kernel) (pa_cons (pv 6) pa_nil)) (nomark _)) (pe_one (pe_cmpR (k_eq K hr.units) (pe_call G__law_told (hr.mono (by decide)) (by rfl) T.g__law_told T.F__law_told.kp T.b__law_told .nil (passes_call (takes_of rfl rfl rfl rfl) fun _ _ _ _ h => h) (pa_cons (pe_lst (pa_cons (pv 4) pa_nil)) pa_nil)) (pe_op (k_add K) (pe_tup (pa_cons pe_str pa_nil)) (pv 0)) (nomark _)))))))))))), ?_⟩
    refine at_start (σ' := [some _, none, none, none, none, none, none]) rfl ?_
    haveI : At H t _ := ⟨ht⟩
    haveI : Tc (tabsT a) H := ⟨tb⟩
    have okr : ROk (.ref k (.str c) n) := ok_ref gr.1 gr.2.2.2.1 gr.2.2.2.2 gr.2.2.1
    walk_at "z"
    refine ⟨t, k, .str c, n, rfl, ht, gr.1, good_an gr H, good_bad gr, fun p H1 s1 hp => ?_⟩
    haveI : Sm H H1 := ⟨s1⟩
    obtain ⟨dx, ts, hp⟩ := hp
    haveI : At H1 p _ := ⟨hp⟩
    walk_at "z"
    refine ⟨Tc.h, fun A1 e1 tb1 => hear_of (r := nearRes k (.str c) (0 - n)) (fun E' Q' g => ?_) (fun h1 B1 s1 hh1 => ?_)⟩
    · haveI : Xn _ A1 := ⟨e1⟩
      dsimp only
      walk_at "z"
      exact ⟨p, dx, _, rfl, At.h, p, k, .str c, n, rfl, ⟨dx, ts, At.h⟩, gr.1, good_an gr _, g⟩
    haveI : Xn _ A1 := ⟨e1⟩
    haveI : Tc (tabsT a) A1 := ⟨tb1⟩
    haveI : Sm A1 B1 := ⟨s1⟩
    walk_at "z"
    refine ⟨h1, _, rfl, hh1, fun t1 C1 z1 ht1 => ?_⟩
    haveI : Sm B1 C1 := ⟨z1⟩
    haveI : At C1 t1 _ := ⟨ht1⟩
    walk_at "z"
    refine ⟨Tc.h, fun A2 e2 tb2 => hear_of (r := nearRes k (.str c) (if n < 0 then -n else n)) (fun E' Q' g => ?_) (fun h2 B2 s2 hh2 => ?_)⟩
    · haveI : Xn _ A2 := ⟨e2⟩
      dsimp only
      walk_at "z"
      exact ⟨p, dx, _, rfl, At.h, p, k, .str c, n, rfl, ⟨dx, ts, At.h⟩, gr.1, good_an gr _, g⟩
    haveI : Xn _ A2 := ⟨e2⟩
    haveI : Tc (tabsT a) A2 := ⟨tb2⟩
    haveI : Sm A2 B2 := ⟨s2⟩
    walk_at "z"
    refine ⟨h2, _, rfl, hh2, fun t2 C2 z2 ht2 => ?_⟩
    haveI : Sm B2 C2 := ⟨z2⟩
    haveI : At C2 t2 _ := ⟨ht2⟩
    walk_at "z"
    have okn : ∀ n', ROk (nearRes k (.str c) n') := fun n' => ok_near gr.2.2.2.1 gr.2.2.2.2
    refine i_dec (fun c1 => ?_) (fun c1 => ?_)
    · have lim := near_lim c1 gr
      have e1 := near_ref c1 gr (n' := 0 - n) (by omega)
      have e2 := near_ref c1 gr (n' := if n < 0 then -n else n) (by split <;> omega)
      have od1 : ROk (.ref k (.str c) (0 - n)) := by have := okn (0 - n); rw [e1] at this; exact this
      have od2 : ROk (.ref k (.str c) (if n < 0 then -n else n)) := by have := okn (if n < 0 then -n else n); rw [e2] at this; exact this
      walk_at "z"
      refine i_reprD (d := .list [toldD (nearRes k (.str c) (0 - n)), toldD (nearRes k (.str c) (if n < 0 then -n else n))]) (.lst (SqL.of At.h) (.cons (dp_told At.h (okn _)) (.cons (dp_told At.h (okn _)) .nil))) (dok2 (dok_told (okn _)) (dok_told (okn _))) ?_
      walk_at "z"
      refine i_reprD (d := .list [toldD (.ref k (.str c) (0 - n)), toldD (.ref k (.str c) (if n < 0 then -n else n))]) (.lst (SqL.of At.h) (.cons (dp_told (r := .ref k (.str c) (0 - n)) At.h od1) (.cons (dp_told (r := .ref k (.str c) (if n < 0 then -n else n)) At.h od2) .nil))) (dok2 (dok_told od1) (dok_told od2)) ?_
      walk_at "z"
      refine i_dec (fun _ => ?_) (fun z => absurd (by rw [e1, e2]) z)
      walk_at "z"
      refine ⟨_, .ref k (.str c) n, rfl, ⟨p, At.h, dx, ts, At.h⟩, fun t5 G1 g1 ht5 => ?_⟩
      haveI : Sm _ G1 := ⟨g1⟩
      haveI : At G1 t5 _ := ⟨ht5⟩
      walk_at "z"
      refine i_eqDt (dp_told At.h okr) (dp_told (r := .ref k (.str c) n) upd_same okr) (shaped_ref gr.1 gr.2.2.2.2) (shaped_ref gr.1 gr.2.2.2.2) eqv_ref ?_
      walk_at "z"
      exact q _ Nc.h Tc.h
    · have e1 := near_bad (c := .str c) (n := 0 - n) c1
      have e2 := near_bad (c := .str c) (n := if n < 0 then -n else n) c1
      have od : ROk (.bad "kind") := .inl rfl
      walk_at "z"
      refine i_reprD (d := .list [toldD (nearRes k (.str c) (0 - n)), toldD (nearRes k (.str c) (if n < 0 then -n else n))]) (.lst (SqL.of At.h) (.cons (dp_told At.h (okn _)) (.cons (dp_told At.h (okn _)) .nil))) (dok2 (dok_told (okn _)) (dok_told (okn _))) ?_
      walk_at "z"
      refine i_reprD (d := .list [toldD (.bad "kind"), toldD (.bad "kind")]) (.lst (SqL.of At.h) (.cons (dp_told (r := .bad "kind") At.h od) (.cons (dp_told (r := .bad "kind") At.h od) .nil))) (dok2 (dok_told od) (dok_told od)) ?_
      walk_at "z"
      refine i_dec (fun _ => ?_) (fun z => absurd (by rw [e1, e2]) z)
      walk_at "z"
      refine ⟨_, .ref k (.str c) n, rfl, ⟨p, At.h, dx, ts, At.h⟩, fun t5 G1 g1 ht5 => ?_⟩
      haveI : Sm _ G1 := ⟨g1⟩
      haveI : At G1 t5 _ := ⟨ht5⟩
      walk_at "z"
      refine i_eqDt (dp_told At.h okr) (dp_told (r := .ref k (.str c) n) upd_same okr) (shaped_ref gr.1 gr.2.2.2.2) (shaped_ref gr.1 gr.2.2.2.2) eqv_ref ?_
      walk_at "z"
      exact q _ Nc.h Tc.h
theorem ok__law_into_right (T : Tx K mg a) (B3 : TabB base mg a.c3 a.P3)
    (G__law_ref_made : FnOk P w K mg base (L2.CX P w) 5 a.f__law_ref_made a.fd__law_ref_made P__law_ref_made (sp__law_ref_made a))
    (G__law_told : FnOk P w K mg base (L2.CX P w) 1 a.f__law_told a.fd__law_told P__law_told (sp__law_told a))
    (G__law_is_word : FnOk P w K mg base (L2.CX P w) 1 a.f__law_is_word a.fd__law_is_word P__law_is_word sp_is_word)
    (G_Ref_into : FnOk P w K mg base (L2.CX P w) 5 a.f_Ref_into a.fd_Ref_into P_Ref_into (sp_Ref_into a)) : FnG P w K mg base (L2.CX P w) 10 a.f__law_into_right a.fd__law_into_right P__law_into_right (sp__law_into_right a) := by
  refine okGc T.F__law_into_right sc__law_into_right (fun vs H Q E h => ?_) (fun cdv A outer s H vs Q E hcd hg hr h => ?_)
  · obtain ⟨_, _, _, _, _, rfl, _⟩ := h
    rfl
  · obtain ⟨t, k, c, n, u, rfl, ht, gr, hu, tb, q⟩ := h
    refine ⟨_, (pss_cons (ps_asg (pv 0) (pg_tup (by rfl) (pgs_cons (pg_name (i := 2) sc__law_into_right.nd rfl (.inl rfl)) (pgs_cons (pg_name (i := 3) sc__law_into_right.nd rfl (.inl rfl)) (pgs_cons (pg_name (i := 4) sc__law_into_right.nd rfl (.inl rfl)) pgs_nil)))))
      (pss_cons (ps_set (i := 5) sc__law_into_right.nd rfl (.inr rfl) (pe_call G__law_ref_made (hr.mono (by decide)) (by rfl) T.g__law_ref_made T.F__law_ref_made.kp T.b__law_ref_made .nil (passes_call (takes_of rfl rfl rfl rfl) fun _ _ _ _ h => h) (pa_cons (pv 0) pa_nil)))
      (pss_cons (ps_set (i := 6) sc__law_into_right.nd rfl (.inl rfl) (pe_lst (pa_cons (pe_call G__law_told (hr.mono (by decide)) (by rfl) T.g__law_told T.F__law_told.kp T.b__law_told .nil (passes_call (takes_of rfl rfl rfl rfl) fun _ _ _ _ h => h) (pa_cons (pe_lam (T := tabsT a) (TT := TTh a) (k := 7) (by rfl) T.g__law_heard T.F__law_heard T.b__law_heard sc__law_heard rfl (.inl rfl) (fun cdv => heard_gives T _ cdv _) B3 (by exact hcd.symm.trans T.cd3) (tabs_mem3 a) (tabs_un3 T.dP) (hr.mono (by decide)) (lamS_by (sc := defScope s__law_into_right) (by decide +kernel)) rfl (fun _ _ _ _ _ => rfl) (fun A outer s H E f c' hr => (pe_meth (pv 5) T.cl_Ref T.m_Ref_into G_Ref_into (hr.mono (by decide)) T.b_Ref_into .nil (passes_call (takes_of rfl rfl rfl rfl) fun _ _ _ _ h => h) (pa_cons (pv 1) pa_nil)))) pa_nil)) pa_nil)))
      (pss_cons (ps_expr (pe_bm PySem.F.plainAttrs_list PySem.F.slot_list_append PySem.F.type_list_append mt_append (pv 6) (pa_cons (pe_call G__law_told (hr.mono (by decide)) (by rfl) T.g__law_told T.F__law_told.kp T.b__law_told .nil (passes_call (takes_of rfl rfl rfl rfl) fun _ _ _ _ h => h) (pa_cons (pe_lam (T := tabsT a) (TT := TTh a) (k := 7) (by rfl) T.g__law_heard T.F__law_heard T.b__law_heard sc__law_heard rfl (.inl rfl) (fun cdv => heard_gives T _ cdv _) B3 (by exact hcd.symm.trans T.cd3) (tabs_mem3 a) (tabs_un3 T.dP) (hr.mono (by decide)) (lamS_by (sc := defScope s__law_into_right) (by decide +kernel)) rfl (fun _ _ _ _ _ => rfl) (fun A outer s H E f c' hr => (pe_methK1 (pv 5) T.cl_Ref T.m_Ref_into G_Ref_into (hr.mono (by decide)) T.bk_Ref_into (passes_call (takes_of rfl rfl rfl rfl) fun _ _ _ _ h => h) (pv 1)))) pa_nil)) pa_nil)))
      (pss_cons (ps_set (i := 7) sc__law_into_right.nd rfl (.inl rfl) (pe_tup (pa_cons pe_str (pa_cons (pv 2) (pa_cons (pv 1) (pa_cons (pv 4) pa_nil))))))
      (pss_cons (ps_if (pt_cmpR (k_eq K hr.units) (pv 2) pe_str (nomark _))
        (pss_one (ps_set (i := 7) sc__law_into_right.nd rfl (.inl rfl) (pe_tup (pa_cons pe_str (pa_cons pe_str pa_nil)))))
        (pss_one (ps_if (pt_not (pt_trK K (pe_call G__law_is_word (hr.mono (by decide)) (by rfl) T.g__law_is_word T.F__law_is_word.kp T.b__law_is_word .nil (passes_call (takes_of rfl rfl rfl rfl) fun _ _ _ _ h => h) (pa_cons (pv 1) pa_nil)) (by intro _; rfl)))
        (pss_one (ps_set (i := 7) sc__law_into_right.nd rfl (.inl rfl) (pe_tup (pa_cons pe_str (pa_cons pe_str pa_nil)))))
        pss_nil)))
      (pss_one (ps_ret (pe_andK K (pe_cmpR (k_eq K hr.units) (pe_callB (k_repr K hg hr.units) (by rfl) T.z_repr (by decide +kernel) (pa_cons (pv 6) pa_nil)) (pe_callB (k_repr K hg hr.units) (by rfl) T.z_repr (by decide +kernel) (pa_cons (pe_lst (pa_cons (pv 7) (pa_cons (pv 7) pa_nil))) pa_nil)) (nomark _)) (pe_one (pe_cmpR (k_eq K hr.units) (pe_call G__law_told (hr.mono (by decide)) (by rfl) T.g__law_told T.F__law_told.kp T.b__law_told .nil (passes_call (takes_of rfl rfl rfl rfl) fun _ _ _ _ h => h) (pa_cons (pe_lst (pa_cons (pv 5) pa_nil)) pa_nil)) (pe_op (k_add K) (pe_tup (pa_cons pe_str pa_nil)) (pv 0)) (nomark _)))))))))))), ?_⟩
    refine at_start (σ' := [some _, some _, none, none, none, none, none, none]) rfl ?_
    haveI : At H t _ := ⟨ht⟩
    haveI : Tc (tabsT a) H := ⟨tb⟩
    have okr : ROk (.ref k (.str c) n) := ok_ref gr.1 gr.2.2.2.1 gr.2.2.2.2 gr.2.2.1
    walk_at "z"
    refine ⟨t, k, .str c, n, rfl, ht, gr.1, good_an gr H, good_bad gr, fun p H1 s1 hp => ?_⟩
    haveI : Sm H H1 := ⟨s1⟩
    obtain ⟨dx, ts, hp⟩ := hp
    haveI : At H1 p _ := ⟨hp⟩
    walk_at "z"
    refine ⟨Tc.h, fun A1 e1 tb1 => hear_of (r := intoRes k u n) (fun E' Q' g => ?_) (fun h1 B1 s1 hh1 => ?_)⟩
    · haveI : Xn _ A1 := ⟨e1⟩
      dsimp only
      walk_at "z"
      exact ⟨p, k, .str c, n, u, rfl, ⟨dx, ts, At.h⟩, gr.1, hu.ext Nc.h, g⟩
    haveI : Xn _ A1 := ⟨e1⟩
    haveI : Tc (tabsT a) A1 := ⟨tb1⟩
    haveI : Sm A1 B1 := ⟨s1⟩
    walk_at "z"
    refine ⟨h1, _, rfl, hh1, fun t1 C1 z1 ht1 => ?_⟩
    haveI : Sm B1 C1 := ⟨z1⟩
    haveI : At C1 t1 _ := ⟨ht1⟩
    walk_at "z"
    refine ⟨Tc.h, fun A2 e2 tb2 => hear_of (r := intoRes k u n) (fun E' Q' g => ?_) (fun h2 B2 s2 hh2 => ?_)⟩
    · haveI : Xn _ A2 := ⟨e2⟩
      dsimp only
      walk_at "z"
      exact ⟨p, k, .str c, n, u, rfl, ⟨dx, ts, At.h⟩, gr.1, hu.ext Nc.h, g⟩
    haveI : Xn _ A2 := ⟨e2⟩
    haveI : Tc (tabsT a) A2 := ⟨tb2⟩
    haveI : Sm A2 B2 := ⟨s2⟩
    walk_at "z"
    refine ⟨h2, _, rfl, hh2, fun t2 C2 z2 ht2 => ?_⟩
    haveI : Sm B2 C2 := ⟨z2⟩
    haveI : At C2 t2 _ := ⟨ht2⟩
    walk_at "z"
    have okn : ROk (intoRes k u n) := ok_into gr
    refine i_dec (fun c1 => ?_) (fun c1 => ?_)
    · have e1 := into_nothing (u := u) (n := n) c1
      have od : ROk (.bad "kind") := .inl rfl
      walk_at "z"
      refine i_reprD (d := .list [toldD (intoRes k u n), toldD (intoRes k u n)]) (.lst (SqL.of At.h) (.cons (dp_told At.h okn) (.cons (dp_told At.h okn) .nil))) (dok2 (dok_told okn) (dok_told okn)) ?_
      walk_at "z"
      refine i_reprD (d := .list [toldD (.bad "kind"), toldD (.bad "kind")]) (.lst (SqL.of At.h) (.cons (dp_told (r := .bad "kind") At.h od) (.cons (dp_told (r := .bad "kind") At.h od) .nil))) (dok2 (dok_told od) (dok_told od)) ?_
      walk_at "z"
      refine i_dec (fun _ => ?_) (fun z => absurd (by rw [e1]) z)
      walk_at "z"
      refine ⟨_, .ref k (.str c) n, rfl, ⟨p, At.h, dx, ts, At.h⟩, fun t5 G1 g1 ht5 => ?_⟩
      haveI : Sm _ G1 := ⟨g1⟩
      haveI : At G1 t5 _ := ⟨ht5⟩
      walk_at "z"
      refine i_eqDt (dp_told At.h okr) (dp_told (r := .ref k (.str c) n) upd_same okr) (shaped_ref gr.1 gr.2.2.2.2) (shaped_ref gr.1 gr.2.2.2.2) eqv_ref ?_
      walk_at "z"
      exact q _ Nc.h Tc.h
    · walk_at "z"
      refine ⟨u, rfl, hu.ext Nc.h, fun D1 f1 => ?_⟩
      haveI : Sm _ D1 := ⟨f1⟩
      cases hw : isW u with
      | false =>
        have e1 := into_col (n := n) gr.1 c1 hw
        have od : ROk (.bad "column") := .inr (.inr rfl)
        walk_at "z"
        refine i_reprD (d := .list [toldD (intoRes k u n), toldD (intoRes k u n)]) (.lst (SqL.of At.h) (.cons (dp_told At.h okn) (.cons (dp_told At.h okn) .nil))) (dok2 (dok_told okn) (dok_told okn)) ?_
        walk_at "z"
        refine i_reprD (d := .list [toldD (.bad "column"), toldD (.bad "column")]) (.lst (SqL.of At.h) (.cons (dp_told (r := .bad "column") At.h od) (.cons (dp_told (r := .bad "column") At.h od) .nil))) (dok2 (dok_told od) (dok_told od)) ?_
        walk_at "z"
        refine i_dec (fun _ => ?_) (fun z => absurd (by rw [e1]) z)
        walk_at "z"
        refine ⟨_, .ref k (.str c) n, rfl, ⟨p, At.h, dx, ts, At.h⟩, fun t5 G1 g1 ht5 => ?_⟩
        haveI : Sm _ G1 := ⟨g1⟩
        haveI : At G1 t5 _ := ⟨ht5⟩
        walk_at "z"
        refine i_eqDt (dp_told At.h okr) (dp_told (r := .ref k (.str c) n) upd_same okr) (shaped_ref gr.1 gr.2.2.2.2) (shaped_ref gr.1 gr.2.2.2.2) eqv_ref ?_
        walk_at "z"
        exact q _ Nc.h Tc.h
      | true =>
        have e1 := into_ref gr c1 hw
        have od : ROk (.ref k u n) := by rw [e1] at okn; exact okn
        walk_at "z"
        refine i_reprD (d := .list [toldD (intoRes k u n), toldD (intoRes k u n)]) (.lst (SqL.of At.h) (.cons (dp_told At.h okn) (.cons (dp_told At.h okn) .nil))) (dok2 (dok_told okn) (dok_told okn)) ?_
        walk_at "z"
        refine i_reprD (d := .list [toldD (.ref k u n), toldD (.ref k u n)]) (.lst (SqL.of At.h) (.cons (dp_told (r := .ref k u n) At.h od) (.cons (dp_told (r := .ref k u n) At.h od) .nil))) (dok2 (dok_told od) (dok_told od)) ?_
        walk_at "z"
        refine i_dec (fun _ => ?_) (fun z => absurd (by rw [e1]) z)
        walk_at "z"
        refine ⟨_, .ref k (.str c) n, rfl, ⟨p, At.h, dx, ts, At.h⟩, fun t5 G1 g1 ht5 => ?_⟩
        haveI : Sm _ G1 := ⟨g1⟩
        haveI : At G1 t5 _ := ⟨ht5⟩
        walk_at "z"
        refine i_eqDt (dp_told At.h okr) (dp_told (r := .ref k (.str c) n) upd_same okr) (shaped_ref gr.1 gr.2.2.2.2) (shaped_ref gr.1 gr.2.2.2.2) eqv_ref ?_
        walk_at "z"
        exact q _ Nc.h Tc.h
end
end R
end

section
open PySem PySem.Spec PyProof.Rows L2 Z LamX
namespace Z
instance {σ : L2.St} {H : Hp} {Q : VK} : Stp (tDNewK σ H Q) (New H (.dK []) Q) := ⟨fun h => h⟩
end Z
namespace R
theorem tabX {T : List (Addr × Str)} {n : Nat} {H H' : Hp} {p : Addr} (t : Tabs T H) (h : Pen n H p) (e : ExtP p H H') : Tabs T H' := by
  obtain ⟨q, at_, rest, cs, hp, _⟩ := h
  exact Tabs.extP t e hp
theorem Pen.ext {n : Nat} {H H' : Hp} {p : Addr} (h : Pen n H p) (e : ExtN H H') : Pen n H' p := by
  obtain ⟨q, at_, rest, cs, hp, hq, h1, h2⟩ := h
  exact ⟨q, at_, rest, cs, e _ _ hp (fun _ z => by cases z), e _ _ hq (fun _ z => by cases z), h1, h2⟩
theorem an_word {z : Str} (h : wordB z = true) (H : Hp) : An H (.str z) := .str z (by have := word_len h; omega) (word_ok h)
def sp_law (K : PySem.W.Frag) (a : Ad) : Sp := fun vs H Q _ => ∃ l ns, vs = [.ref l] ∧ SqL K H l (List.map V.int ns) ∧ Tabs (tabsT a) H ∧ ∀ H', Q (.bl true) H'
section
variable {P : Program} {w : World} {K : PySem.W.Frag} {mg : Str → Option Value} {base : Heap} {a : Ad}
theorem ok_law (T : Tx K mg a)
    (G__law_pen : FnOk P w K mg base (L2.CX P w) 1 a.f__law_pen a.fd__law_pen P__law_pen (sp__law_pen K))
    (G__law_draw : FnOk P w K mg base (L2.CX P w) 1 a.f__law_draw a.fd__law_draw P__law_draw sp__law_draw)
    (G__law_pick : FnOk P w K mg base (L2.CX P w) 2 a.f__law_pick a.fd__law_pick P__law_pick sp__law_pick)
    (G__law_word : FnOk P w K mg base (L2.CX P w) 3 a.f__law_word a.fd__law_word P__law_word sp__law_word)
    (G__law_ref : FnOk P w K mg base (L2.CX P w) 3 a.f__law_ref a.fd__law_ref P__law_ref sp__law_ref)
    (G__law_steps_right : FnG P w K mg base (L2.CX P w) 10 a.f__law_steps_right a.fd__law_steps_right P__law_steps_right (sp__law_steps_right a))
    (G__law_signs_right : FnG P w K mg base (L2.CX P w) 10 a.f__law_signs_right a.fd__law_signs_right P__law_signs_right (sp__law_signs_right a))
    (G__law_into_right : FnG P w K mg base (L2.CX P w) 10 a.f__law_into_right a.fd__law_into_right P__law_into_right (sp__law_into_right a)) : FnG P w K mg base (L2.CX P w) 12 a.f_law a.fd_law P_law (sp_law K a) := by
  refine okG T.F_law sc_law (fun vs H Q E h => ?_) (fun cdv A outer s H vs Q E hg hr h => ?_)
  · obtain ⟨_, _, rfl, _⟩ := h
    rfl
  · obtain ⟨l, ns, rfl, hl, tb, q⟩ := h
    refine ⟨_, (pss_cons (ps_set (i := 1) sc_law.nd rfl (.inl rfl) (pe_call G__law_pen (hr.mono (by decide)) (by rfl) T.g__law_pen T.F__law_pen.kp T.b__law_pen .nil (passes_call (takes_of rfl rfl rfl rfl) fun _ _ _ _ h => h) (pa_cons (pv 0) pa_nil)))
      (pss_cons (ps_for (passes_of rfl) rfl (pi_range1 (by rfl) T.z_range (pa_cons pe_int pa_nil)) (pg_name (i := 2) sc_law.nd rfl (.inl rfl))
        (pss_cons (ps_set (i := 3) sc_law.nd rfl (.inl rfl) (pe_lst (pa_cons (pe_call G__law_word (hr.mono (by decide)) (by rfl) T.g__law_word T.F__law_word.kp T.b__law_word .nil (passes_call (takes_of rfl rfl rfl rfl) fun _ _ _ _ h => h) (pa_cons (pv 1) pa_nil)) (pa_cons (pe_call G__law_word (hr.mono (by decide)) (by rfl) T.g__law_word T.F__law_word.kp T.b__law_word .nil (passes_call (takes_of rfl rfl rfl rfl) fun _ _ _ _ h => h) (pa_cons (pv 1) pa_nil)) (pa_cons pe_str pa_nil)))))
      (pss_cons (ps_set (i := 4) sc_law.nd rfl (.inl rfl) (pe_call G__law_ref (hr.mono (by decide)) (by rfl) T.g__law_ref T.F__law_ref.kp T.b__law_ref .nil (passes_call (takes_of rfl rfl rfl rfl) fun _ _ _ _ h => h) (pa_cons (pv 1) (pa_cons (pv 3) pa_nil))))
      (pss_cons (ps_set (i := 5) sc_law.nd rfl (.inl rfl) (pe_op o_sub pe_int (pe_callB c_abs (by rfl) T.z_abs (by decide +kernel) (pa_cons (pe_ix (k_ix K) (pv 4) pe_int (fun _ _ => rfl)) pa_nil))))
      (pss_cons (ps_set (i := 6) sc_law.nd rfl (.inl rfl) (pe_lst (pa_cons pe_int (pa_cons pe_int (pa_cons (pe_un u_neg pe_int) (pa_cons pe_int (pa_cons pe_int (pa_cons (pe_un u_neg pe_int) (pa_cons pe_int (pa_cons (pe_un u_neg pe_int) (pa_cons (pv 5) (pa_cons (pe_op (k_add K) (pv 5) pe_int) (pa_cons (pe_un u_neg (pv 5)) (pa_cons (pe_op o_sub (pe_un u_neg (pv 5)) pe_int) (pa_cons (pe_op o_pow pe_int pe_int) (pa_cons (pe_un u_neg (pe_op o_pow pe_int pe_int)) pa_nil))))))))))))))))
      (pss_cons (ps_set (i := 7) sc_law.nd rfl (.inl rfl) (pe_call G__law_pick (hr.mono (by decide)) (by rfl) T.g__law_pick T.F__law_pick.kp T.b__law_pick .nil (passes_call (takes_of rfl rfl rfl rfl) fun _ _ _ _ h => h) (pa_cons (pv 1) (pa_cons (pe_op (k_add K) (pv 6) (pe_lst (pa_cons (pe_op o_sub (pe_call G__law_draw (hr.mono (by decide)) (by rfl) T.g__law_draw T.F__law_draw.kp T.b__law_draw .nil (passes_call (takes_of rfl rfl rfl rfl) fun _ _ _ _ h => h) (pa_cons (pv 1) (pa_cons pe_int pa_nil))) pe_int) pa_nil))) pa_nil))))
      (pss_cons (ps_set (i := 8) sc_law.nd rfl (.inl rfl) (pe_lst (pa_cons pe_str (pa_cons pe_str (pa_cons pe_str (pa_cons pe_str (pa_cons pe_str (pa_cons pe_str (pa_cons pe_non (pa_cons pe_int (pa_cons pe_bl (pa_cons (pe_lst (pa_cons (pe_ix (k_ix K) (pv 3) pe_int (fun _ _ => rfl)) pa_nil)) (pa_cons pe_dnewK (pa_cons pe_str pa_nil))))))))))))))
      (pss_cons (ps_set (i := 9) sc_law.nd rfl (.inl rfl) (pe_call G__law_pick (hr.mono (by decide)) (by rfl) T.g__law_pick T.F__law_pick.kp T.b__law_pick .nil (passes_call (takes_of rfl rfl rfl rfl) fun _ _ _ _ h => h) (pa_cons (pv 1) (pa_cons (pe_op (k_add K) (pe_op (k_add K) (pv 3) (pv 3)) (pe_lst (pa_cons (pe_call G__law_pick (hr.mono (by decide)) (by rfl) T.g__law_pick T.F__law_pick.kp T.b__law_pick .nil (passes_call (takes_of rfl rfl rfl rfl) fun _ _ _ _ h => h) (pa_cons (pv 1) (pa_cons (pv 8) pa_nil))) pa_nil))) pa_nil))))
      (pss_one (ps_if (PW.pt (pw_or (pt_not (pt_trK K (pe_callG G__law_steps_right hg (hr.mono (by decide)) (by rfl) T.g__law_steps_right T.F__law_steps_right.kp T.b__law_steps_right (passes_call (takes_of rfl rfl rfl rfl) fun _ _ _ _ h => h) (pa_cons (pv 4) (pa_cons (pv 7) pa_nil))) (by intro _; rfl))) (pw_or (pt_not (pt_trK K (pe_callG G__law_signs_right hg (hr.mono (by decide)) (by rfl) T.g__law_signs_right T.F__law_signs_right.kp T.b__law_signs_right (passes_call (takes_of rfl rfl rfl rfl) fun _ _ _ _ h => h) (pa_cons (pv 4) pa_nil)) (by intro _; rfl))) (pw_or1 (pt_not (pt_trK K (pe_callG G__law_into_right hg (hr.mono (by decide)) (by rfl) T.g__law_into_right T.F__law_into_right.kp T.b__law_into_right (passes_call (takes_of rfl rfl rfl rfl) fun _ _ _ _ h => h) (pa_cons (pv 4) (pa_cons (pv 9) pa_nil))) (by intro _; rfl)))))))
        (pss_one (ps_ret pe_bl))
        pss_nil))))))))))
      (pss_one (ps_ret pe_bl)))), ?_⟩
    refine at_start (σ' := [some _, none, none, none, none, none, none, none, none, none]) rfl ?_
    walk_at "z"
    refine ⟨l, ns, rfl, hl, fun p H1 _ s1 pn1 => ?_⟩
    walk_at "z"
    refine for_it walk_range (fun i σ H' => ∃ u2 u3 u4 u5 u6 u7 u8 u9, σ = [some (.ref l), some (.ref p), u2, u3, u4, u5, u6, u7, u8, u9] ∧ Pen (28 * i) H' p ∧ Tabs (tabsT a) H') ⟨_, _, _, _, _, _, _, _, rfl, pn1, Tabs.same tb s1⟩ (fun _ _ _ _ _ => trivial) ?_ ?_
    · rintro i x σ H0 _ hi ⟨u2, u3, u4, u5, u6, u7, u8, u9, rfl, pn, tb0⟩ ⟨rfl, rfl⟩
      have hi8 : i < 8 := hi
      rename_i H0
      refine (show gName 2 _ [some (.ref l), some (.ref p), u2, u3, u4, u5, u6, u7, u8, u9] H0 _ from ?_)
      haveI := pn.ps
      haveI : Tc (tabsT a) H0 := ⟨tb0⟩
      walk_at "z"
      refine ⟨p, 28 * i, rfl, pn, by omega, fun z1 H2 hz1 e2 pn2 => ?_⟩
      haveI := pn2.ps
      haveI : Tc (tabsT a) H2 := ⟨tabX Tc.h pn e2⟩
      walk_at "z"
      refine ⟨p, 28 * i + 9, rfl, pn2, by omega, fun z2 H3 hz2 e3 pn3 => ?_⟩
      haveI := pn3.ps
      haveI : Tc (tabsT a) H3 := ⟨tabX Tc.h pn2 e3⟩
      walk_at "z"
      refine ⟨p, _, [z1, z2, "v"], 28 * i + 18, rfl, pn3.same Sc.h, by omega, Dif.h, upd_same, by show 0 < 3; omega, by show 3 ≤ 1000; omega, ?_, fun t k c m H4 gr e4 pn4 tne ht => ?_⟩
      · intro c hc
        simp only [List.mem_cons, List.not_mem_nil, or_false] at hc
        rcases hc with rfl | rfl | rfl
        · exact hz1
        · exact hz2
        · decide +kernel
      haveI : Xp p _ H4 := ⟨e4⟩
      haveI := pn4.ps
      haveI : Dif t p := ⟨tne⟩
      haveI : At H4 t _ := ⟨ht⟩
      haveI : Tc (tabsT a) H4 := ⟨tabX Tc.h (pn3.same Sc.h) e4⟩
      walk_at "z"
      refine ⟨p, 28 * i + 24, 2001, rfl, pn4.same Sc.h, by omega, by omega, by omega, fun d H5 d0 d1 e5 pn5 => ?_⟩
      haveI : Xp p _ H5 := ⟨e5⟩
      haveI := pn5.ps
      haveI : Tc (tabsT a) H5 := ⟨tabX Tc.h (pn4.same Sc.h) e5⟩
      walk_at "z"
      refine .inl ⟨p, _, _, 28 * i + 25, rfl, pn5.same Sc.h, by omega, Dif.h, upd_same, by show 0 < 15; omega, by show 15 ≤ 1000; omega, fun v H6 hv e6 pn6 => ?_⟩
      haveI : Xp p _ H6 := ⟨e6⟩
      haveI := pn6.ps
      haveI : Tc (tabsT a) H6 := ⟨tabX Tc.h (pn5.same Sc.h) e6⟩
      have hv' : ∃ m' : Int, v = .int m' := by
        simp only [List.cons_append, List.nil_append, List.mem_cons, List.not_mem_nil, or_false] at hv
        rcases hv with rfl | rfl | rfl | rfl | rfl | rfl | rfl | rfl | rfl | rfl | rfl | rfl | rfl | rfl | rfl <;> exact ⟨_, rfl⟩
      obtain ⟨m', rfl⟩ := hv'
      walk_at "z"
      refine .inl ⟨p, _, _, 28 * i + 26, rfl, pn6.same Sc.h, by omega, Dif.h, At.h, by show 0 < 12; omega, by show 12 ≤ 1000; omega, fun v H7 hv7 e7 pn7 => ?_⟩
      haveI : Xp p _ H7 := ⟨e7⟩
      haveI := pn7.ps
      haveI : Tc (tabsT a) H7 := ⟨tabX Tc.h (pn6.same Sc.h) e7⟩
      walk_at "z"
      refine .inl ⟨p, _, _, 28 * i + 27, rfl, pn7.same Sc.h, by omega, Dif.h, upd_same, by show 0 < 7; omega, by show 7 ≤ 1000; omega, fun u H8 hu e8 pn8 => ?_⟩
      haveI : Xp p _ H8 := ⟨e8⟩
      haveI := pn8.ps
      haveI : Tc (tabsT a) H8 := ⟨tabX Tc.h (pn7.same Sc.h) e8⟩
      have an8 : An H8 u := by
        simp only [List.cons_append, List.nil_append, List.mem_cons, List.not_mem_nil, or_false] at hu hv7
        rcases hu with rfl | rfl | rfl | rfl | rfl | rfl | rfl
        · exact an_word hz1 _
        · exact an_word hz2 _
        · exact an_word (by decide +kernel) _
        · exact an_word hz1 _
        · exact an_word hz2 _
        · exact an_word (by decide +kernel) _
        · rcases hv7 with rfl | rfl | rfl | rfl | rfl | rfl | rfl | rfl | rfl | rfl | rfl | rfl
          · exact .str _ (by decide +kernel) (by decide +kernel)
          · exact .str _ (by decide +kernel) (by decide +kernel)
          · exact .str _ (by decide +kernel) (by decide +kernel)
          · exact .str _ (by decide +kernel) (by decide +kernel)
          · exact .str _ (by decide +kernel) (by decide +kernel)
          · exact .str _ (by decide +kernel) (by decide +kernel)
          · exact .non
          · exact .int _
          · exact .bl _
          · exact .lst At.h
          · exact .dK At.h
          · exact .str _ (by decide +kernel) (by decide +kernel)
      walk_at "z"
      refine ⟨t, k, c, m, m', rfl, At.h, gr, Tc.h, fun G1 e9 tb9 => ?_⟩
      haveI : Xn _ G1 := ⟨e9⟩
      haveI : Tc (tabsT a) G1 := ⟨tb9⟩
      walk_at "z"
      refine ⟨t, k, c, m, rfl, At.h, gr, Tc.h, fun G2 e10 tb10 => ?_⟩
      haveI : Xn _ G2 := ⟨e10⟩
      haveI : Tc (tabsT a) G2 := ⟨tb10⟩
      walk_at "z"
      refine ⟨t, k, c, m, u, rfl, At.h, gr, (an8.ext e9).ext e10, Tc.h, fun G3 e11 tb11 => ?_⟩
      walk_at "z"
      exact ⟨_, _, _, _, _, _, _, _, rfl, (((pn8.ext e9).ext e10).ext e11).mono (by omega), tb11⟩
    · rintro σ H3 ⟨u2, u3, u4, u5, u6, u7, u8, u9, rfl, pn, tb0⟩
      walk_at "z"
      exact q _
end
end R
end

section
namespace R
open PySem PySem.Spec PyProof.Rows L2 Z LamX
theorem tabS_new {H : Hp} {P : Addr} {q : Str} (h : H P = some (.tbl #[])) : TabS H P q := ⟨#[], h, by first | exact .nil | trivial | (simp [TriplesOk]), fun pos cv hc => by cases hc⟩
theorem fin {w : World} {K : PySem.W.Frag} {h : Heap} {mg : Str → Option Value} {a : Ad} (T : Tx K mg a)
    (t1 : h.get? a.P1 = some tabO) (t2 : h.get? a.P2 = some tabO) (t3 : h.get? a.P3 = some tabO) (n1 : K.lookup a.P1 = none) (n2 : K.lookup a.P2 = none) (n3 : K.lookup a.P3 = none)
    (k1 : PySem.W.CodeHd h a.c1 a.P1) (k2 : PySem.W.CodeHd h a.c2 a.P2) (k3 : PySem.W.CodeHd h a.c3 a.P3) : LawG PySem.Challenge.rw_rowshapes_k02_references_stepped w K 12 63 "_law_script" mg a.f_law h := by
  have cas : ∀ {R : Addr × Addr → Prop}, R (a.c1, a.P1) → R (a.c2, a.P2) → R (a.c3, a.P3) → ∀ p ∈ [(a.c1, a.P1), (a.c2, a.P2), (a.c3, a.P3)], R p := fun {R} r1 r2 r3 p hp => by
    simp only [List.mem_cons, List.not_mem_nil, or_false] at hp
    rcases hp with rfl | rfl | rfl
    · exact r1
    · exact r2
    · exact r3
  refine ⟨a.fd_law, [(a.c1, a.P1), (a.c2, a.P2), (a.c3, a.P3)], sp_law K a, cas t1 t2 t3, cas n1 n2 n3, cas k1 k2 k3, fun s u => ?_, fun H l ns hn ht hs => ?_, fun base KB GB TB => ?_⟩
  · have b := T.b_law
    obtain ⟨oc, od, kV, doc, pm, an, cdv, ct, osl, e, lk, hcd⟩ := T.F_law.ex
    rw [e]
    exact .of_eq rfl
  · refine ⟨l, ns, rfl, hs, fun p hp => ?_, fun _ => rfl⟩
    rcases tabs_cases hp with rfl | rfl | rfl
    · exact tabS_new (ht (a.c1, a.P1) List.mem_cons_self)
    · exact tabS_new (ht (a.c2, a.P2) (List.mem_cons_of_mem _ List.mem_cons_self))
    · exact tabS_new (ht (a.c3, a.P3) (List.mem_cons_of_mem _ (List.mem_cons_of_mem _ List.mem_cons_self)))
  · have B1 := TB (a.c1, a.P1) List.mem_cons_self
    have B2 := TB (a.c2, a.P2) (List.mem_cons_of_mem _ List.mem_cons_self)
    have B3 := TB (a.c3, a.P3) (List.mem_cons_of_mem _ (List.mem_cons_of_mem _ List.mem_cons_self))
    have i1 := ok_is_integer (P := PySem.Challenge.rw_rowshapes_k02_references_stepped.prog) (w := w) (base := base) T
    have i2 := ok_is_word (P := PySem.Challenge.rw_rowshapes_k02_references_stepped.prog) (w := w) (base := base) T
    have nf := ok_number_fits T i1
    have cf := ok_column_fits T i2
    have bc := ok_BadCell___init__ (P := PySem.Challenge.rw_rowshapes_k02_references_stepped.prog) (w := w) (base := base) T
    have ini := ok_Ref___init__ T bc cf nf
    have nk := ok_Ref_need_kind T bc
    have stp := ok_Ref_stepped T nk ini
    have add := ok_Ref___add__ T stp
    have rad := ok_Ref___radd__ T stp
    have sub := ok_Ref___sub__ T stp
    have neg := ok_Ref___neg__ T nk ini
    have ab := ok_Ref___abs__ T nk ini
    have into := ok_Ref_into T nk ini
    have drw := ok__law_draw (P := PySem.Challenge.rw_rowshapes_k02_references_stepped.prog) (w := w) (base := base) T
    have pk := ok__law_pick T drw
    have wd := ok__law_word T drw pk
    have rf := ok__law_ref T drw pk
    have rm := ok__law_ref_made T ini
    have td := ok__law_told (P := PySem.Challenge.rw_rowshapes_k02_references_stepped.prog) (w := w) (base := base) T
    have sd := ok__law_step_due (P := PySem.Challenge.rw_rowshapes_k02_references_stepped.prog) (w := w) (base := base) T
    have mr := ok__law_more T add
    have sr := ok__law_steps_right T B1 rm td sd mr add rad sub
    have sg := ok__law_signs_right T B2 rm td neg ab
    have ir := ok__law_into_right T B3 rm td (ok__law_is_word T) into
    exact ok_law T (ok__law_pen T) drw pk wd rf sr sg ir
end R
end

section
namespace R
open PySem PySem.Spec PyProof.Rows L2 Z LamX
theorem kit_self {K : PySem.W.Frag} (t : Value) : PySem.W.kitOne K t t = some true := by
  unfold PySem.W.kitOne
  rw [if_pos (by simp)]
theorem kit_subC {K : PySem.W.Frag} {t : Value} {C : Addr} (h1 : PySem.W.isClsIn K C = true) (h2 : PySem.W.typeIn K (.ref C) = some (.type "type")) (h3 : PySem.W.subIn K t (.ref C) = some true) : PySem.W.kitCls K t (.ref C) = some true := by
  have e2 : ((PySem.W.clsIn K C).isSome && PySem.W.typeIn K (.ref C) == some (.type "type")) = true := by
    have h2' : (PySem.W.clsIn K C).isSome = true := h1
    rw [h2', h2] <;> rfl
  unfold PySem.W.kitCls
  dsimp only
  rw [if_pos e2]
  exact h3
theorem kit_sub {K : PySem.W.Frag} {t : Value} {C : Addr} (h1 : PySem.W.isClsIn K C = true) (h2 : PySem.W.typeIn K (.ref C) = some (.type "type")) (h3 : PySem.W.subIn K t (.ref C) = some true) : PySem.W.kitOne K t (.ref C) = some true := by
  unfold PySem.W.kitOne
  split
  · rfl
  · exact kit_subC h1 h2 h3
theorem kit_subT {K : PySem.W.Frag} {t : Value} {T : String} (h1 : PySem.W.kitMeta T = true) (h3 : PySem.W.subIn K t (.type T) = some true) : PySem.W.kitOne K t (.type T) = some true := by
  unfold PySem.W.kitOne
  split
  · rfl
  · unfold PySem.W.kitCls
    dsimp only
    rw [if_pos h1]
    exact h3
theorem exm_sub {K : PySem.W.Frag} {t : Value} {C : Addr} (h0 : PySem.W.subIn K (.ref C) (.type "BaseException") = some true) (h1 : PySem.W.isClsIn K C = true) (h2 : PySem.W.typeIn K (.ref C) = some (.type "type")) (h3 : PySem.W.subIn K t (.ref C) = some true) : PySem.W.exmOne K t (.ref C) = some true := by
  unfold PySem.W.exmOne
  rw [if_pos (by rw [h0] <;> rfl)]
  exact kit_subC h1 h2 h3
theorem mkLaw {w : World} {K : PySem.W.Frag} {h : Heap} {mg : Str → Option Value} {fa : Addr} (X : K.In h) (G : h.Ns mainGlobals mg) (hfa : mg "law" = some (.ref fa))
    {u_SMALL : Value}
    {u_MOST_SIGNS : Value}
    {u_MOST_STEPS : Value}
    {u_MOST_RECORD : Value}
    {C_RowError : Addr}
    {C_BadInput : Addr}
    {C_BadCell : Addr}
    {C_Ref : Addr}
    {f_is_integer : Addr} {oc_is_integer kV_is_integer dc_is_integer pm_is_integer ct_is_integer : Value} {od_is_integer an_is_integer : Option Addr} {sl_is_integer : Array (Option Value)}
    {cd_is_integer : Value}
    {f_is_word : Addr} {oc_is_word kV_is_word dc_is_word pm_is_word ct_is_word : Value} {od_is_word an_is_word : Option Addr} {sl_is_word : Array (Option Value)}
    {cd_is_word : Value}
    {f_BadCell___init__ : Addr} {oc_BadCell___init__ kV_BadCell___init__ dc_BadCell___init__ pm_BadCell___init__ ct_BadCell___init__ : Value} {od_BadCell___init__ an_BadCell___init__ : Option Addr} {sl_BadCell___init__ : Array (Option Value)}
    {cd_BadCell___init__ : Value}
    {f_number_fits : Addr} {oc_number_fits kV_number_fits dc_number_fits pm_number_fits ct_number_fits : Value} {od_number_fits an_number_fits : Option Addr} {sl_number_fits : Array (Option Value)}
    {cd_number_fits : Value}
    {f_column_fits : Addr} {oc_column_fits kV_column_fits dc_column_fits pm_column_fits ct_column_fits : Value} {od_column_fits an_column_fits : Option Addr} {sl_column_fits : Array (Option Value)}
    {cd_column_fits : Value}
    {f_Ref___init__ : Addr} {oc_Ref___init__ kV_Ref___init__ dc_Ref___init__ pm_Ref___init__ ct_Ref___init__ : Value} {od_Ref___init__ an_Ref___init__ : Option Addr} {sl_Ref___init__ : Array (Option Value)}
    {cd_Ref___init__ : Value}
    {f_Ref_need_kind : Addr} {oc_Ref_need_kind kV_Ref_need_kind dc_Ref_need_kind pm_Ref_need_kind ct_Ref_need_kind : Value} {od_Ref_need_kind an_Ref_need_kind : Option Addr} {sl_Ref_need_kind : Array (Option Value)}
    {cd_Ref_need_kind : Value}
    {f_Ref_stepped : Addr} {oc_Ref_stepped kV_Ref_stepped dc_Ref_stepped pm_Ref_stepped ct_Ref_stepped : Value} {od_Ref_stepped an_Ref_stepped : Option Addr} {sl_Ref_stepped : Array (Option Value)}
    {cd_Ref_stepped : Value}
    {f_Ref___add__ : Addr} {oc_Ref___add__ kV_Ref___add__ dc_Ref___add__ pm_Ref___add__ ct_Ref___add__ : Value} {od_Ref___add__ an_Ref___add__ : Option Addr} {sl_Ref___add__ : Array (Option Value)}
    {cd_Ref___add__ : Value}
    {f_Ref___radd__ : Addr} {oc_Ref___radd__ kV_Ref___radd__ dc_Ref___radd__ pm_Ref___radd__ ct_Ref___radd__ : Value} {od_Ref___radd__ an_Ref___radd__ : Option Addr} {sl_Ref___radd__ : Array (Option Value)}
    {cd_Ref___radd__ : Value}
    {f_Ref___sub__ : Addr} {oc_Ref___sub__ kV_Ref___sub__ dc_Ref___sub__ pm_Ref___sub__ ct_Ref___sub__ : Value} {od_Ref___sub__ an_Ref___sub__ : Option Addr} {sl_Ref___sub__ : Array (Option Value)}
    {cd_Ref___sub__ : Value}
    {f_Ref___neg__ : Addr} {oc_Ref___neg__ kV_Ref___neg__ dc_Ref___neg__ pm_Ref___neg__ ct_Ref___neg__ : Value} {od_Ref___neg__ an_Ref___neg__ : Option Addr} {sl_Ref___neg__ : Array (Option Value)}
    {cd_Ref___neg__ : Value}
    {f_Ref___abs__ : Addr} {oc_Ref___abs__ kV_Ref___abs__ dc_Ref___abs__ pm_Ref___abs__ ct_Ref___abs__ : Value} {od_Ref___abs__ an_Ref___abs__ : Option Addr} {sl_Ref___abs__ : Array (Option Value)}
    {cd_Ref___abs__ : Value}
    {f_Ref_into : Addr} {oc_Ref_into kV_Ref_into dc_Ref_into pm_Ref_into ct_Ref_into : Value} {od_Ref_into an_Ref_into : Option Addr} {sl_Ref_into : Array (Option Value)}
    {cd_Ref_into : Value}
    {f__law_pen : Addr} {oc__law_pen kV__law_pen dc__law_pen pm__law_pen ct__law_pen : Value} {od__law_pen an__law_pen : Option Addr} {sl__law_pen : Array (Option Value)}
    {cd__law_pen : Value}
    {f__law_draw : Addr} {oc__law_draw kV__law_draw dc__law_draw pm__law_draw ct__law_draw : Value} {od__law_draw an__law_draw : Option Addr} {sl__law_draw : Array (Option Value)}
    {cd__law_draw : Value}
    {f__law_pick : Addr} {oc__law_pick kV__law_pick dc__law_pick pm__law_pick ct__law_pick : Value} {od__law_pick an__law_pick : Option Addr} {sl__law_pick : Array (Option Value)}
    {cd__law_pick : Value}
    {f__law_word : Addr} {oc__law_word kV__law_word dc__law_word pm__law_word ct__law_word : Value} {od__law_word an__law_word : Option Addr} {sl__law_word : Array (Option Value)}
    {cd__law_word : Value}
    {f__law_is_word : Addr} {oc__law_is_word kV__law_is_word dc__law_is_word pm__law_is_word ct__law_is_word : Value} {od__law_is_word an__law_is_word : Option Addr} {sl__law_is_word : Array (Option Value)}
    {cd__law_is_word : Value}
    {f__law_heard : Addr} {oc__law_heard kV__law_heard dc__law_heard pm__law_heard ct__law_heard : Value} {od__law_heard an__law_heard : Option Addr} {sl__law_heard : Array (Option Value)}
    {cd__law_heard : Value}
    {f__law_ref : Addr} {oc__law_ref kV__law_ref dc__law_ref pm__law_ref ct__law_ref : Value} {od__law_ref an__law_ref : Option Addr} {sl__law_ref : Array (Option Value)}
    {cd__law_ref : Value}
    {f__law_ref_made : Addr} {oc__law_ref_made kV__law_ref_made dc__law_ref_made pm__law_ref_made ct__law_ref_made : Value} {od__law_ref_made an__law_ref_made : Option Addr} {sl__law_ref_made : Array (Option Value)}
    {cd__law_ref_made : Value}
    {f__law_told : Addr} {oc__law_told kV__law_told dc__law_told pm__law_told ct__law_told : Value} {od__law_told an__law_told : Option Addr} {sl__law_told : Array (Option Value)}
    {cd__law_told : Value}
    {f__law_step_due : Addr} {oc__law_step_due kV__law_step_due dc__law_step_due pm__law_step_due ct__law_step_due : Value} {od__law_step_due an__law_step_due : Option Addr} {sl__law_step_due : Array (Option Value)}
    {cd__law_step_due : Value}
    {f__law_more : Addr} {oc__law_more kV__law_more dc__law_more pm__law_more ct__law_more : Value} {od__law_more an__law_more : Option Addr} {sl__law_more : Array (Option Value)}
    {cd__law_more : Value}
    {f__law_steps_right : Addr} {oc__law_steps_right kV__law_steps_right dc__law_steps_right pm__law_steps_right ct__law_steps_right : Value} {od__law_steps_right an__law_steps_right : Option Addr} {sl__law_steps_right : Array (Option Value)}
    {c1 P1 : Addr}
    {f__law_signs_right : Addr} {oc__law_signs_right kV__law_signs_right dc__law_signs_right pm__law_signs_right ct__law_signs_right : Value} {od__law_signs_right an__law_signs_right : Option Addr} {sl__law_signs_right : Array (Option Value)}
    {c2 P2 : Addr}
    {f__law_into_right : Addr} {oc__law_into_right kV__law_into_right dc__law_into_right pm__law_into_right ct__law_into_right : Value} {od__law_into_right an__law_into_right : Option Addr} {sl__law_into_right : Array (Option Value)}
    {c3 P3 : Addr}
    {f_law : Addr} {oc_law kV_law dc_law pm_law ct_law : Value} {od_law an_law : Option Addr} {sl_law : Array (Option Value)}
    {cd_law : Value}
    {nm qn : Str} {Nn : Addr} {bs bm sub : List Value} {sn : List Str} {ab : Bool} {col : Option Bool} {dd : Option Addr} {k0 k1 k2 k3 k5 : Option Value}
    {kinds nK : Addr} {itK : Array Value} {slK : Array (Option Value)}
    {cdR : ClassData}
    {dq1 : Option Addr} {vs1 : Array Value} {sq1 : Array (Option Value)}
    {dq2 : Option Addr} {vs2 : Array Value} {sq2 : Array (Option Value)}
    {dq3 : Option Addr} {vs3 : Array Value} {sq3 : Array (Option Value)}
    (z_isinstance : PySem.W.nsIn K mainGlobals "isinstance" = some none)
    (z_int : PySem.W.nsIn K mainGlobals "int" = some none)
    (z_bool : PySem.W.nsIn K mainGlobals "bool" = some none)
    (z_str : PySem.W.nsIn K mainGlobals "str" = some none)
    (z_len : PySem.W.nsIn K mainGlobals "len" = some none)
    (z_all : PySem.W.nsIn K mainGlobals "all" = some none)
    (z_abs : PySem.W.nsIn K mainGlobals "abs" = some none)
    (z_repr : PySem.W.nsIn K mainGlobals "repr" = some none)
    (z_range : PySem.W.nsIn K mainGlobals "range" = some none)
    (z_list : PySem.W.nsIn K mainGlobals "list" = some none)
    (z_ValueError : PySem.W.nsIn K mainGlobals "ValueError" = some none)
    (c_SMALL : PySem.W.nsIn K mainGlobals "SMALL" = some (some u_SMALL))
    (r_SMALL : RelV (.str "abcdefghijklmnopqrstuvwxyz") u_SMALL)
    (c_MOST_SIGNS : PySem.W.nsIn K mainGlobals "MOST_SIGNS" = some (some u_MOST_SIGNS))
    (r_MOST_SIGNS : RelV (.int 8) u_MOST_SIGNS)
    (c_MOST_STEPS : PySem.W.nsIn K mainGlobals "MOST_STEPS" = some (some u_MOST_STEPS))
    (r_MOST_STEPS : RelV (.int 999) u_MOST_STEPS)
    (c_MOST_RECORD : PySem.W.nsIn K mainGlobals "MOST_RECORD" = some (some u_MOST_RECORD))
    (r_MOST_RECORD : RelV (.int 9999) u_MOST_RECORD)
    (g_RowError : PySem.W.nsIn K mainGlobals "RowError" = some (some (.ref C_RowError)))
    (g_BadInput : PySem.W.nsIn K mainGlobals "BadInput" = some (some (.ref C_BadInput)))
    (g_BadCell : PySem.W.nsIn K mainGlobals "BadCell" = some (some (.ref C_BadCell)))
    (g_Ref : PySem.W.nsIn K mainGlobals "Ref" = some (some (.ref C_Ref)))
    (g_is_integer : PySem.W.nsIn K mainGlobals "is_integer" = some (some (.ref f_is_integer)))
    (l_is_integer : K.lookup f_is_integer = some ⟨oc_is_integer, od_is_integer, .func (PySem.W.fnOf "is_integer" "is_integer" (defArgs s_is_integer) (defBody s_is_integer) (defScope s_is_integer) .none kV_is_integer dc_is_integer pm_is_integer an_is_integer cd_is_integer ct_is_integer), sl_is_integer⟩)
    (k_is_integer : PySem.W.codeIn K cd_is_integer "is_integer" = true)
    (p_is_integer : PySem.W.keepIn K (.ref f_is_integer) = true)
    (g_is_word : PySem.W.nsIn K mainGlobals "is_word" = some (some (.ref f_is_word)))
    (l_is_word : K.lookup f_is_word = some ⟨oc_is_word, od_is_word, .func (PySem.W.fnOf "is_word" "is_word" (defArgs s_is_word) (defBody s_is_word) (defScope s_is_word) .none kV_is_word dc_is_word pm_is_word an_is_word cd_is_word ct_is_word), sl_is_word⟩)
    (k_is_word : PySem.W.codeIn K cd_is_word "is_word" = true)
    (p_is_word : PySem.W.keepIn K (.ref f_is_word) = true)
    (g_BadCell___init__ : PySem.W.findIn K (.ref C_BadCell) "__init__" = some (some (.ref f_BadCell___init__)))
    (l_BadCell___init__ : K.lookup f_BadCell___init__ = some ⟨oc_BadCell___init__, od_BadCell___init__, .func (PySem.W.fnOf "__init__" "BadCell.__init__" (defArgs s_BadCell___init__) (defBody s_BadCell___init__) (defScope s_BadCell___init__) .none kV_BadCell___init__ dc_BadCell___init__ pm_BadCell___init__ an_BadCell___init__ cd_BadCell___init__ ct_BadCell___init__), sl_BadCell___init__⟩)
    (k_BadCell___init__ : PySem.W.codeIn K cd_BadCell___init__ "BadCell.__init__" = true)
    (p_BadCell___init__ : PySem.W.keepIn K (.ref f_BadCell___init__) = true)
    (i_BadCell___init__ : PySem.W.isFn K (.ref f_BadCell___init__) = true)
    (g_number_fits : PySem.W.nsIn K mainGlobals "number_fits" = some (some (.ref f_number_fits)))
    (l_number_fits : K.lookup f_number_fits = some ⟨oc_number_fits, od_number_fits, .func (PySem.W.fnOf "number_fits" "number_fits" (defArgs s_number_fits) (defBody s_number_fits) (defScope s_number_fits) .none kV_number_fits dc_number_fits pm_number_fits an_number_fits cd_number_fits ct_number_fits), sl_number_fits⟩)
    (k_number_fits : PySem.W.codeIn K cd_number_fits "number_fits" = true)
    (p_number_fits : PySem.W.keepIn K (.ref f_number_fits) = true)
    (g_column_fits : PySem.W.nsIn K mainGlobals "column_fits" = some (some (.ref f_column_fits)))
    (l_column_fits : K.lookup f_column_fits = some ⟨oc_column_fits, od_column_fits, .func (PySem.W.fnOf "column_fits" "column_fits" (defArgs s_column_fits) (defBody s_column_fits) (defScope s_column_fits) .none kV_column_fits dc_column_fits pm_column_fits an_column_fits cd_column_fits ct_column_fits), sl_column_fits⟩)
    (k_column_fits : PySem.W.codeIn K cd_column_fits "column_fits" = true)
    (p_column_fits : PySem.W.keepIn K (.ref f_column_fits) = true)
    (g_Ref___init__ : PySem.W.findIn K (.ref C_Ref) "__init__" = some (some (.ref f_Ref___init__)))
    (l_Ref___init__ : K.lookup f_Ref___init__ = some ⟨oc_Ref___init__, od_Ref___init__, .func (PySem.W.fnOf "__init__" "Ref.__init__" (defArgs s_Ref___init__) (defBody s_Ref___init__) (defScope s_Ref___init__) .none kV_Ref___init__ dc_Ref___init__ pm_Ref___init__ an_Ref___init__ cd_Ref___init__ ct_Ref___init__), sl_Ref___init__⟩)
    (k_Ref___init__ : PySem.W.codeIn K cd_Ref___init__ "Ref.__init__" = true)
    (p_Ref___init__ : PySem.W.keepIn K (.ref f_Ref___init__) = true)
    (i_Ref___init__ : PySem.W.isFn K (.ref f_Ref___init__) = true)
    (g_Ref_need_kind : PySem.W.findIn K (.ref C_Ref) "need_kind" = some (some (.ref f_Ref_need_kind)))
    (l_Ref_need_kind : K.lookup f_Ref_need_kind = some ⟨oc_Ref_need_kind, od_Ref_need_kind, .func (PySem.W.fnOf "need_kind" "Ref.need_kind" (defArgs s_Ref_need_kind) (defBody s_Ref_need_kind) (defScope s_Ref_need_kind) .none kV_Ref_need_kind dc_Ref_need_kind pm_Ref_need_kind an_Ref_need_kind cd_Ref_need_kind ct_Ref_need_kind), sl_Ref_need_kind⟩)
    (k_Ref_need_kind : PySem.W.codeIn K cd_Ref_need_kind "Ref.need_kind" = true)
    (p_Ref_need_kind : PySem.W.keepIn K (.ref f_Ref_need_kind) = true)
    (i_Ref_need_kind : PySem.W.isFn K (.ref f_Ref_need_kind) = true)
    (g_Ref_stepped : PySem.W.findIn K (.ref C_Ref) "stepped" = some (some (.ref f_Ref_stepped)))
    (l_Ref_stepped : K.lookup f_Ref_stepped = some ⟨oc_Ref_stepped, od_Ref_stepped, .func (PySem.W.fnOf "stepped" "Ref.stepped" (defArgs s_Ref_stepped) (defBody s_Ref_stepped) (defScope s_Ref_stepped) .none kV_Ref_stepped dc_Ref_stepped pm_Ref_stepped an_Ref_stepped cd_Ref_stepped ct_Ref_stepped), sl_Ref_stepped⟩)
    (k_Ref_stepped : PySem.W.codeIn K cd_Ref_stepped "Ref.stepped" = true)
    (p_Ref_stepped : PySem.W.keepIn K (.ref f_Ref_stepped) = true)
    (i_Ref_stepped : PySem.W.isFn K (.ref f_Ref_stepped) = true)
    (g_Ref___add__ : PySem.W.findIn K (.ref C_Ref) "__add__" = some (some (.ref f_Ref___add__)))
    (l_Ref___add__ : K.lookup f_Ref___add__ = some ⟨oc_Ref___add__, od_Ref___add__, .func (PySem.W.fnOf "__add__" "Ref.__add__" (defArgs s_Ref___add__) (defBody s_Ref___add__) (defScope s_Ref___add__) .none kV_Ref___add__ dc_Ref___add__ pm_Ref___add__ an_Ref___add__ cd_Ref___add__ ct_Ref___add__), sl_Ref___add__⟩)
    (k_Ref___add__ : PySem.W.codeIn K cd_Ref___add__ "Ref.__add__" = true)
    (p_Ref___add__ : PySem.W.keepIn K (.ref f_Ref___add__) = true)
    (i_Ref___add__ : PySem.W.isFn K (.ref f_Ref___add__) = true)
    (g_Ref___radd__ : PySem.W.findIn K (.ref C_Ref) "__radd__" = some (some (.ref f_Ref___radd__)))
    (l_Ref___radd__ : K.lookup f_Ref___radd__ = some ⟨oc_Ref___radd__, od_Ref___radd__, .func (PySem.W.fnOf "__radd__" "Ref.__radd__" (defArgs s_Ref___radd__) (defBody s_Ref___radd__) (defScope s_Ref___radd__) .none kV_Ref___radd__ dc_Ref___radd__ pm_Ref___radd__ an_Ref___radd__ cd_Ref___radd__ ct_Ref___radd__), sl_Ref___radd__⟩)
    (k_Ref___radd__ : PySem.W.codeIn K cd_Ref___radd__ "Ref.__radd__" = true)
    (p_Ref___radd__ : PySem.W.keepIn K (.ref f_Ref___radd__) = true)
    (i_Ref___radd__ : PySem.W.isFn K (.ref f_Ref___radd__) = true)
    (g_Ref___sub__ : PySem.W.findIn K (.ref C_Ref) "__sub__" = some (some (.ref f_Ref___sub__)))
    (l_Ref___sub__ : K.lookup f_Ref___sub__ = some ⟨oc_Ref___sub__, od_Ref___sub__, .func (PySem.W.fnOf "__sub__" "Ref.__sub__" (defArgs s_Ref___sub__) (defBody s_Ref___sub__) (defScope s_Ref___sub__) .none kV_Ref___sub__ dc_Ref___sub__ pm_Ref___sub__ an_Ref___sub__ cd_Ref___sub__ ct_Ref___sub__), sl_Ref___sub__⟩)
    (k_Ref___sub__ : PySem.W.codeIn K cd_Ref___sub__ "Ref.__sub__" = true)
    (p_Ref___sub__ : PySem.W.keepIn K (.ref f_Ref___sub__) = true)
    (i_Ref___sub__ : PySem.W.isFn K (.ref f_Ref___sub__) = true)
    (g_Ref___neg__ : PySem.W.findIn K (.ref C_Ref) "__neg__" = some (some (.ref f_Ref___neg__)))
    (l_Ref___neg__ : K.lookup f_Ref___neg__ = some ⟨oc_Ref___neg__, od_Ref___neg__, .func (PySem.W.fnOf "__neg__" "Ref.__neg__" (defArgs s_Ref___neg__) (defBody s_Ref___neg__) (defScope s_Ref___neg__) .none kV_Ref___neg__ dc_Ref___neg__ pm_Ref___neg__ an_Ref___neg__ cd_Ref___neg__ ct_Ref___neg__), sl_Ref___neg__⟩)
    (k_Ref___neg__ : PySem.W.codeIn K cd_Ref___neg__ "Ref.__neg__" = true)
    (p_Ref___neg__ : PySem.W.keepIn K (.ref f_Ref___neg__) = true)
    (i_Ref___neg__ : PySem.W.isFn K (.ref f_Ref___neg__) = true)
    (g_Ref___abs__ : PySem.W.findIn K (.ref C_Ref) "__abs__" = some (some (.ref f_Ref___abs__)))
    (l_Ref___abs__ : K.lookup f_Ref___abs__ = some ⟨oc_Ref___abs__, od_Ref___abs__, .func (PySem.W.fnOf "__abs__" "Ref.__abs__" (defArgs s_Ref___abs__) (defBody s_Ref___abs__) (defScope s_Ref___abs__) .none kV_Ref___abs__ dc_Ref___abs__ pm_Ref___abs__ an_Ref___abs__ cd_Ref___abs__ ct_Ref___abs__), sl_Ref___abs__⟩)
    (k_Ref___abs__ : PySem.W.codeIn K cd_Ref___abs__ "Ref.__abs__" = true)
    (p_Ref___abs__ : PySem.W.keepIn K (.ref f_Ref___abs__) = true)
    (i_Ref___abs__ : PySem.W.isFn K (.ref f_Ref___abs__) = true)
    (g_Ref_into : PySem.W.findIn K (.ref C_Ref) "into" = some (some (.ref f_Ref_into)))
    (l_Ref_into : K.lookup f_Ref_into = some ⟨oc_Ref_into, od_Ref_into, .func (PySem.W.fnOf "into" "Ref.into" (defArgs s_Ref_into) (defBody s_Ref_into) (defScope s_Ref_into) .none kV_Ref_into dc_Ref_into pm_Ref_into an_Ref_into cd_Ref_into ct_Ref_into), sl_Ref_into⟩)
    (k_Ref_into : PySem.W.codeIn K cd_Ref_into "Ref.into" = true)
    (p_Ref_into : PySem.W.keepIn K (.ref f_Ref_into) = true)
    (i_Ref_into : PySem.W.isFn K (.ref f_Ref_into) = true)
    (g__law_pen : PySem.W.nsIn K mainGlobals "_law_pen" = some (some (.ref f__law_pen)))
    (l__law_pen : K.lookup f__law_pen = some ⟨oc__law_pen, od__law_pen, .func (PySem.W.fnOf "_law_pen" "_law_pen" (defArgs s__law_pen) (defBody s__law_pen) (defScope s__law_pen) .none kV__law_pen dc__law_pen pm__law_pen an__law_pen cd__law_pen ct__law_pen), sl__law_pen⟩)
    (k__law_pen : PySem.W.codeIn K cd__law_pen "_law_pen" = true)
    (p__law_pen : PySem.W.keepIn K (.ref f__law_pen) = true)
    (g__law_draw : PySem.W.nsIn K mainGlobals "_law_draw" = some (some (.ref f__law_draw)))
    (l__law_draw : K.lookup f__law_draw = some ⟨oc__law_draw, od__law_draw, .func (PySem.W.fnOf "_law_draw" "_law_draw" (defArgs s__law_draw) (defBody s__law_draw) (defScope s__law_draw) .none kV__law_draw dc__law_draw pm__law_draw an__law_draw cd__law_draw ct__law_draw), sl__law_draw⟩)
    (k__law_draw : PySem.W.codeIn K cd__law_draw "_law_draw" = true)
    (p__law_draw : PySem.W.keepIn K (.ref f__law_draw) = true)
    (g__law_pick : PySem.W.nsIn K mainGlobals "_law_pick" = some (some (.ref f__law_pick)))
    (l__law_pick : K.lookup f__law_pick = some ⟨oc__law_pick, od__law_pick, .func (PySem.W.fnOf "_law_pick" "_law_pick" (defArgs s__law_pick) (defBody s__law_pick) (defScope s__law_pick) .none kV__law_pick dc__law_pick pm__law_pick an__law_pick cd__law_pick ct__law_pick), sl__law_pick⟩)
    (k__law_pick : PySem.W.codeIn K cd__law_pick "_law_pick" = true)
    (p__law_pick : PySem.W.keepIn K (.ref f__law_pick) = true)
    (g__law_word : PySem.W.nsIn K mainGlobals "_law_word" = some (some (.ref f__law_word)))
    (l__law_word : K.lookup f__law_word = some ⟨oc__law_word, od__law_word, .func (PySem.W.fnOf "_law_word" "_law_word" (defArgs s__law_word) (defBody s__law_word) (defScope s__law_word) .none kV__law_word dc__law_word pm__law_word an__law_word cd__law_word ct__law_word), sl__law_word⟩)
    (k__law_word : PySem.W.codeIn K cd__law_word "_law_word" = true)
    (p__law_word : PySem.W.keepIn K (.ref f__law_word) = true)
    (g__law_is_word : PySem.W.nsIn K mainGlobals "_law_is_word" = some (some (.ref f__law_is_word)))
    (l__law_is_word : K.lookup f__law_is_word = some ⟨oc__law_is_word, od__law_is_word, .func (PySem.W.fnOf "_law_is_word" "_law_is_word" (defArgs s__law_is_word) (defBody s__law_is_word) (defScope s__law_is_word) .none kV__law_is_word dc__law_is_word pm__law_is_word an__law_is_word cd__law_is_word ct__law_is_word), sl__law_is_word⟩)
    (k__law_is_word : PySem.W.codeIn K cd__law_is_word "_law_is_word" = true)
    (p__law_is_word : PySem.W.keepIn K (.ref f__law_is_word) = true)
    (g__law_heard : PySem.W.nsIn K mainGlobals "_law_heard" = some (some (.ref f__law_heard)))
    (l__law_heard : K.lookup f__law_heard = some ⟨oc__law_heard, od__law_heard, .func (PySem.W.fnOf "_law_heard" "_law_heard" (defArgs s__law_heard) (defBody s__law_heard) (defScope s__law_heard) .none kV__law_heard dc__law_heard pm__law_heard an__law_heard cd__law_heard ct__law_heard), sl__law_heard⟩)
    (k__law_heard : PySem.W.codeIn K cd__law_heard "_law_heard" = true)
    (p__law_heard : PySem.W.keepIn K (.ref f__law_heard) = true)
    (g__law_ref : PySem.W.nsIn K mainGlobals "_law_ref" = some (some (.ref f__law_ref)))
    (l__law_ref : K.lookup f__law_ref = some ⟨oc__law_ref, od__law_ref, .func (PySem.W.fnOf "_law_ref" "_law_ref" (defArgs s__law_ref) (defBody s__law_ref) (defScope s__law_ref) .none kV__law_ref dc__law_ref pm__law_ref an__law_ref cd__law_ref ct__law_ref), sl__law_ref⟩)
    (k__law_ref : PySem.W.codeIn K cd__law_ref "_law_ref" = true)
    (p__law_ref : PySem.W.keepIn K (.ref f__law_ref) = true)
    (g__law_ref_made : PySem.W.nsIn K mainGlobals "_law_ref_made" = some (some (.ref f__law_ref_made)))
    (l__law_ref_made : K.lookup f__law_ref_made = some ⟨oc__law_ref_made, od__law_ref_made, .func (PySem.W.fnOf "_law_ref_made" "_law_ref_made" (defArgs s__law_ref_made) (defBody s__law_ref_made) (defScope s__law_ref_made) .none kV__law_ref_made dc__law_ref_made pm__law_ref_made an__law_ref_made cd__law_ref_made ct__law_ref_made), sl__law_ref_made⟩)
    (k__law_ref_made : PySem.W.codeIn K cd__law_ref_made "_law_ref_made" = true)
    (p__law_ref_made : PySem.W.keepIn K (.ref f__law_ref_made) = true)
    (g__law_told : PySem.W.nsIn K mainGlobals "_law_told" = some (some (.ref f__law_told)))
    (l__law_told : K.lookup f__law_told = some ⟨oc__law_told, od__law_told, .func (PySem.W.fnOf "_law_told" "_law_told" (defArgs s__law_told) (defBody s__law_told) (defScope s__law_told) .none kV__law_told dc__law_told pm__law_told an__law_told cd__law_told ct__law_told), sl__law_told⟩)
    (k__law_told : PySem.W.codeIn K cd__law_told "_law_told" = true)
    (p__law_told : PySem.W.keepIn K (.ref f__law_told) = true)
    (g__law_step_due : PySem.W.nsIn K mainGlobals "_law_step_due" = some (some (.ref f__law_step_due)))
    (l__law_step_due : K.lookup f__law_step_due = some ⟨oc__law_step_due, od__law_step_due, .func (PySem.W.fnOf "_law_step_due" "_law_step_due" (defArgs s__law_step_due) (defBody s__law_step_due) (defScope s__law_step_due) .none kV__law_step_due dc__law_step_due pm__law_step_due an__law_step_due cd__law_step_due ct__law_step_due), sl__law_step_due⟩)
    (k__law_step_due : PySem.W.codeIn K cd__law_step_due "_law_step_due" = true)
    (p__law_step_due : PySem.W.keepIn K (.ref f__law_step_due) = true)
    (g__law_more : PySem.W.nsIn K mainGlobals "_law_more" = some (some (.ref f__law_more)))
    (l__law_more : K.lookup f__law_more = some ⟨oc__law_more, od__law_more, .func (PySem.W.fnOf "_law_more" "_law_more" (defArgs s__law_more) (defBody s__law_more) (defScope s__law_more) .none kV__law_more dc__law_more pm__law_more an__law_more cd__law_more ct__law_more), sl__law_more⟩)
    (k__law_more : PySem.W.codeIn K cd__law_more "_law_more" = true)
    (p__law_more : PySem.W.keepIn K (.ref f__law_more) = true)
    (g__law_steps_right : PySem.W.nsIn K mainGlobals "_law_steps_right" = some (some (.ref f__law_steps_right)))
    (l__law_steps_right : K.lookup f__law_steps_right = some ⟨oc__law_steps_right, od__law_steps_right, .func (PySem.W.fnOf "_law_steps_right" "_law_steps_right" (defArgs s__law_steps_right) (defBody s__law_steps_right) (defScope s__law_steps_right) .none kV__law_steps_right dc__law_steps_right pm__law_steps_right an__law_steps_right (.ref c1) ct__law_steps_right), sl__law_steps_right⟩)
    (k__law_steps_right : PySem.W.codeIn K (.ref c1) "_law_steps_right" = true)
    (p__law_steps_right : PySem.W.keepIn K (.ref f__law_steps_right) = true)
    (g__law_signs_right : PySem.W.nsIn K mainGlobals "_law_signs_right" = some (some (.ref f__law_signs_right)))
    (l__law_signs_right : K.lookup f__law_signs_right = some ⟨oc__law_signs_right, od__law_signs_right, .func (PySem.W.fnOf "_law_signs_right" "_law_signs_right" (defArgs s__law_signs_right) (defBody s__law_signs_right) (defScope s__law_signs_right) .none kV__law_signs_right dc__law_signs_right pm__law_signs_right an__law_signs_right (.ref c2) ct__law_signs_right), sl__law_signs_right⟩)
    (k__law_signs_right : PySem.W.codeIn K (.ref c2) "_law_signs_right" = true)
    (p__law_signs_right : PySem.W.keepIn K (.ref f__law_signs_right) = true)
    (g__law_into_right : PySem.W.nsIn K mainGlobals "_law_into_right" = some (some (.ref f__law_into_right)))
    (l__law_into_right : K.lookup f__law_into_right = some ⟨oc__law_into_right, od__law_into_right, .func (PySem.W.fnOf "_law_into_right" "_law_into_right" (defArgs s__law_into_right) (defBody s__law_into_right) (defScope s__law_into_right) .none kV__law_into_right dc__law_into_right pm__law_into_right an__law_into_right (.ref c3) ct__law_into_right), sl__law_into_right⟩)
    (k__law_into_right : PySem.W.codeIn K (.ref c3) "_law_into_right" = true)
    (p__law_into_right : PySem.W.keepIn K (.ref f__law_into_right) = true)
    (g_law : PySem.W.nsIn K mainGlobals "law" = some (some (.ref f_law)))
    (l_law : K.lookup f_law = some ⟨oc_law, od_law, .func (PySem.W.fnOf "law" "law" (defArgs s_law) (defBody s_law) (defScope s_law) .none kV_law dc_law pm_law an_law cd_law ct_law), sl_law⟩)
    (k_law : PySem.W.codeIn K cd_law "law" = true)
    (p_law : PySem.W.keepIn K (.ref f_law) = true)
    (mk_Ref : PySem.W.makesIn K C_Ref = true)
    (kp_Ref : PySem.W.keepIn K (.ref C_Ref) = true)
    (pg_Ref : PySem.W.plainGet K C_Ref Str.empty = true)
    (hd_Ref : PySem.W.hasDictIn K C_Ref = true)
    (po_Ref : PySem.W.plainOver K C_Ref = true)
    (sa_Ref : PySem.W.findIn K (.ref C_Ref) "__setattr__" = some (some (.builtin "object.__setattr__")))
    (ha_Ref : PySem.W.findIn K (.ref C_Ref) "__class__" = some (some (.builtin "object.__class__")))
    (hm_Ref : PySem.W.mroIn K C_Ref (.type "object") = some true)
    (n_Ref_kind : PySem.W.findIn K (.ref C_Ref) "kind" = some none)
    (n_Ref_column : PySem.W.findIn K (.ref C_Ref) "column" = some none)
    (n_Ref_number : PySem.W.findIn K (.ref C_Ref) "number" = some none)
    (n_Ref_sort_key : PySem.W.findIn K (.ref C_Ref) "sort_key" = some none)
    (hn_cls : PySem.W.specialIn K (.builtin "object.__class__") "__get__" = some (some (.builtin "getset_descriptor.__get__")))
    (ht_cls : PySem.W.takesIn K (.builtin "object.__class__") = some true)
    (xB : K.lookup C_BadCell = some (excClassObj nm qn C_BadCell Nn bs bm true sn sub ab col dd k0 k1 k2 k3 k5 "ValueError.__new__"))
    (vB : PySem.HandSPX.refsVE bm = true)
    (saB : PySem.W.findIn K (.ref C_BadCell) "__setattr__" = some (some (.builtin "object.__setattr__")))
    (gaB : PySem.W.findIn K (.ref C_BadCell) "__getattribute__" = some (some (.builtin "BaseException.__getattribute__")))
    (ggB : PySem.W.findIn K (.ref C_BadCell) "__getattr__" = some none)
    (exB : PySem.W.subIn K (.ref C_BadCell) (.type "BaseException") = some true)
    (tyB : PySem.W.typeIn K (.ref C_BadCell) = some (.type "type"))
    (kpB : PySem.W.keepIn K (.ref C_BadCell) = true)
    (hdB : PySem.W.hasDictIn K C_BadCell = true)
    (haB : PySem.W.findIn K (.ref C_BadCell) "__class__" = some (some (.builtin "object.__class__")))
    (hmB : PySem.W.mroIn K C_BadCell (.type "object") = some true)
    (npB : PySem.W.findIn K (.ref C_BadCell) "part" = some none)
    (tiB : PySem.W.typeIn K (.ref f_BadCell___init__) = some (.type "function"))
    (clI : PySem.W.isClsIn K C_BadInput = true)
    (tyI : PySem.W.typeIn K (.ref C_BadInput) = some (.type "type"))
    (sbI : PySem.W.subIn K (.ref C_BadCell) (.ref C_BadInput) = some true)
    (clR : PySem.W.isClsIn K C_RowError = true)
    (tyR : PySem.W.typeIn K (.ref C_RowError) = some (.type "type"))
    (sbR : PySem.W.subIn K (.ref C_BadCell) (.ref C_RowError) = some true)
    (exR : PySem.W.subIn K (.ref C_RowError) (.type "BaseException") = some true)
    (sbV : PySem.W.subIn K (.ref C_BadCell) (.type "ValueError") = some true)
    (rdR : PySem.W.readsIn K C_Ref (.type "type") = true)
    (gmR : PySem.W.specialIn K (.ref C_Ref) "__getattribute__" = some (some (.builtin "type.__getattribute__")))
    (fcR : PySem.W.findCls K (.ref C_Ref) (.type "type") "KINDS" = some (.val (.ref kinds)))
    (lkK : K.lookup kinds = some ⟨.type "tuple", none, .seq itK nK, slK⟩)
    (szK : itK.size ≤ sizeLine)
    (vaK : Vals [.str "nearby", .str "fixed", .str "following", .str "nothing"] itK.toList)
    (sfR : PySem.W.selfFirst K C_Ref = true)
    (oaR : PySem.W.findIn K (.ref C_Ref) (PySem.dunder "add") = some (some (.ref f_Ref___add__)))
    (orR : PySem.W.findIn K (.ref C_Ref) (dunderR "add") = some (some (.ref f_Ref___radd__)))
    (osR : PySem.W.findIn K (.ref C_Ref) (PySem.dunder "sub") = some (some (.ref f_Ref___sub__)))
    (oqR : PySem.W.findIn K (.ref C_Ref) (dunderR "sub") = some none)
    (oiR : PySem.W.findIn K (.ref C_Ref) (dunderI "add") = some none)
    (siR : PySem.W.subIn K (.type "int") (.ref C_Ref) = some false)
    (sjR : PySem.W.subIn K (.ref C_Ref) (.type "int") = some false)
    (clsR : PySem.W.clsIn K C_Ref = some cdR)
    (mroR : cdR.mro = [.ref C_Ref, .type "object"])
    (q1 : K.lookup c1 = some ⟨.type "code", dq1, .fields vs1, sq1⟩)
    (w1 : vs1[11]? = some (.ref P1))
    (y1 : h.get? P1 = some tabO)
    (j1 : PySem.W.codeHdIn K c1 P1 = true)
    (o1 : K.lookup P1 = none)
    (q2 : K.lookup c2 = some ⟨.type "code", dq2, .fields vs2, sq2⟩)
    (w2 : vs2[11]? = some (.ref P2))
    (y2 : h.get? P2 = some tabO)
    (j2 : PySem.W.codeHdIn K c2 P2 = true)
    (o2 : K.lookup P2 = none)
    (q3 : K.lookup c3 = some ⟨.type "code", dq3, .fields vs3, sq3⟩)
    (w3 : vs3[11]? = some (.ref P3))
    (y3 : h.get? P3 = some tabO)
    (j3 : PySem.W.codeHdIn K c3 P3 = true)
    (o3 : K.lookup P3 = none)
    (dP : P1 ≠ P2 ∧ P1 ≠ P3 ∧ P2 ≠ P3)
    : LawG PySem.Challenge.rw_rowshapes_k02_references_stepped w K 12 63 "_law_script" mg fa h := by
  have e := hfa.symm.trans (PySem.W.mg_of X G g_law)
  rw [show fa = f_law from Value.ref.inj (Option.some.inj e)]
  exact fin (a := { C_RowError := C_RowError, C_BadInput := C_BadInput, C_BadCell := C_BadCell, C_Ref := C_Ref, f_is_integer := f_is_integer, fd_is_integer := PySem.W.fnOf "is_integer" "is_integer" (defArgs s_is_integer) (defBody s_is_integer) (defScope s_is_integer) .none kV_is_integer dc_is_integer pm_is_integer an_is_integer cd_is_integer ct_is_integer, f_is_word := f_is_word, fd_is_word := PySem.W.fnOf "is_word" "is_word" (defArgs s_is_word) (defBody s_is_word) (defScope s_is_word) .none kV_is_word dc_is_word pm_is_word an_is_word cd_is_word ct_is_word, f_BadCell___init__ := f_BadCell___init__, fd_BadCell___init__ := PySem.W.fnOf "__init__" "BadCell.__init__" (defArgs s_BadCell___init__) (defBody s_BadCell___init__) (defScope s_BadCell___init__) .none kV_BadCell___init__ dc_BadCell___init__ pm_BadCell___init__ an_BadCell___init__ cd_BadCell___init__ ct_BadCell___init__, f_number_fits := f_number_fits, fd_number_fits := PySem.W.fnOf "number_fits" "number_fits" (defArgs s_number_fits) (defBody s_number_fits) (defScope s_number_fits) .none kV_number_fits dc_number_fits pm_number_fits an_number_fits cd_number_fits ct_number_fits, f_column_fits := f_column_fits, fd_column_fits := PySem.W.fnOf "column_fits" "column_fits" (defArgs s_column_fits) (defBody s_column_fits) (defScope s_column_fits) .none kV_column_fits dc_column_fits pm_column_fits an_column_fits cd_column_fits ct_column_fits, f_Ref___init__ := f_Ref___init__, fd_Ref___init__ := PySem.W.fnOf "__init__" "Ref.__init__" (defArgs s_Ref___init__) (defBody s_Ref___init__) (defScope s_Ref___init__) .none kV_Ref___init__ dc_Ref___init__ pm_Ref___init__ an_Ref___init__ cd_Ref___init__ ct_Ref___init__, f_Ref_need_kind := f_Ref_need_kind, fd_Ref_need_kind := PySem.W.fnOf "need_kind" "Ref.need_kind" (defArgs s_Ref_need_kind) (defBody s_Ref_need_kind) (defScope s_Ref_need_kind) .none kV_Ref_need_kind dc_Ref_need_kind pm_Ref_need_kind an_Ref_need_kind cd_Ref_need_kind ct_Ref_need_kind, f_Ref_stepped := f_Ref_stepped, fd_Ref_stepped := PySem.W.fnOf "stepped" "Ref.stepped" (defArgs s_Ref_stepped) (defBody s_Ref_stepped) (defScope s_Ref_stepped) .none kV_Ref_stepped dc_Ref_stepped pm_Ref_stepped an_Ref_stepped cd_Ref_stepped ct_Ref_stepped, f_Ref___add__ := f_Ref___add__, fd_Ref___add__ := PySem.W.fnOf "__add__" "Ref.__add__" (defArgs s_Ref___add__) (defBody s_Ref___add__) (defScope s_Ref___add__) .none kV_Ref___add__ dc_Ref___add__ pm_Ref___add__ an_Ref___add__ cd_Ref___add__ ct_Ref___add__, f_Ref___radd__ := f_Ref___radd__, fd_Ref___radd__ := PySem.W.fnOf "__radd__" "Ref.__radd__" (defArgs s_Ref___radd__) (defBody s_Ref___radd__) (defScope s_Ref___radd__) .none kV_Ref___radd__ dc_Ref___radd__ pm_Ref___radd__ an_Ref___radd__ cd_Ref___radd__ ct_Ref___radd__, f_Ref___sub__ := f_Ref___sub__, fd_Ref___sub__ := PySem.W.fnOf "__sub__" "Ref.__sub__" (defArgs s_Ref___sub__) (defBody s_Ref___sub__) (defScope s_Ref___sub__) .none kV_Ref___sub__ dc_Ref___sub__ pm_Ref___sub__ an_Ref___sub__ cd_Ref___sub__ ct_Ref___sub__, f_Ref___neg__ := f_Ref___neg__, fd_Ref___neg__ := PySem.W.fnOf "__neg__" "Ref.__neg__" (defArgs s_Ref___neg__) (defBody s_Ref___neg__) (defScope s_Ref___neg__) .none kV_Ref___neg__ dc_Ref___neg__ pm_Ref___neg__ an_Ref___neg__ cd_Ref___neg__ ct_Ref___neg__, f_Ref___abs__ := f_Ref___abs__, fd_Ref___abs__ := PySem.W.fnOf "__abs__" "Ref.__abs__" (defArgs s_Ref___abs__) (defBody s_Ref___abs__) (defScope s_Ref___abs__) .none kV_Ref___abs__ dc_Ref___abs__ pm_Ref___abs__ an_Ref___abs__ cd_Ref___abs__ ct_Ref___abs__, f_Ref_into := f_Ref_into, fd_Ref_into := PySem.W.fnOf "into" "Ref.into" (defArgs s_Ref_into) (defBody s_Ref_into) (defScope s_Ref_into) .none kV_Ref_into dc_Ref_into pm_Ref_into an_Ref_into cd_Ref_into ct_Ref_into, f__law_pen := f__law_pen, fd__law_pen := PySem.W.fnOf "_law_pen" "_law_pen" (defArgs s__law_pen) (defBody s__law_pen) (defScope s__law_pen) .none kV__law_pen dc__law_pen pm__law_pen an__law_pen cd__law_pen ct__law_pen, f__law_draw := f__law_draw, fd__law_draw := PySem.W.fnOf "_law_draw" "_law_draw" (defArgs s__law_draw) (defBody s__law_draw) (defScope s__law_draw) .none kV__law_draw dc__law_draw pm__law_draw an__law_draw cd__law_draw ct__law_draw, f__law_pick := f__law_pick, fd__law_pick := PySem.W.fnOf "_law_pick" "_law_pick" (defArgs s__law_pick) (defBody s__law_pick) (defScope s__law_pick) .none kV__law_pick dc__law_pick pm__law_pick an__law_pick cd__law_pick ct__law_pick, f__law_word := f__law_word, fd__law_word := PySem.W.fnOf "_law_word" "_law_word" (defArgs s__law_word) (defBody s__law_word) (defScope s__law_word) .none kV__law_word dc__law_word pm__law_word an__law_word cd__law_word ct__law_word, f__law_is_word := f__law_is_word, fd__law_is_word := PySem.W.fnOf "_law_is_word" "_law_is_word" (defArgs s__law_is_word) (defBody s__law_is_word) (defScope s__law_is_word) .none kV__law_is_word dc__law_is_word pm__law_is_word an__law_is_word cd__law_is_word ct__law_is_word, f__law_heard := f__law_heard, fd__law_heard := PySem.W.fnOf "_law_heard" "_law_heard" (defArgs s__law_heard) (defBody s__law_heard) (defScope s__law_heard) .none kV__law_heard dc__law_heard pm__law_heard an__law_heard cd__law_heard ct__law_heard, f__law_ref := f__law_ref, fd__law_ref := PySem.W.fnOf "_law_ref" "_law_ref" (defArgs s__law_ref) (defBody s__law_ref) (defScope s__law_ref) .none kV__law_ref dc__law_ref pm__law_ref an__law_ref cd__law_ref ct__law_ref, f__law_ref_made := f__law_ref_made, fd__law_ref_made := PySem.W.fnOf "_law_ref_made" "_law_ref_made" (defArgs s__law_ref_made) (defBody s__law_ref_made) (defScope s__law_ref_made) .none kV__law_ref_made dc__law_ref_made pm__law_ref_made an__law_ref_made cd__law_ref_made ct__law_ref_made, f__law_told := f__law_told, fd__law_told := PySem.W.fnOf "_law_told" "_law_told" (defArgs s__law_told) (defBody s__law_told) (defScope s__law_told) .none kV__law_told dc__law_told pm__law_told an__law_told cd__law_told ct__law_told, f__law_step_due := f__law_step_due, fd__law_step_due := PySem.W.fnOf "_law_step_due" "_law_step_due" (defArgs s__law_step_due) (defBody s__law_step_due) (defScope s__law_step_due) .none kV__law_step_due dc__law_step_due pm__law_step_due an__law_step_due cd__law_step_due ct__law_step_due, f__law_more := f__law_more, fd__law_more := PySem.W.fnOf "_law_more" "_law_more" (defArgs s__law_more) (defBody s__law_more) (defScope s__law_more) .none kV__law_more dc__law_more pm__law_more an__law_more cd__law_more ct__law_more, f__law_steps_right := f__law_steps_right, fd__law_steps_right := PySem.W.fnOf "_law_steps_right" "_law_steps_right" (defArgs s__law_steps_right) (defBody s__law_steps_right) (defScope s__law_steps_right) .none kV__law_steps_right dc__law_steps_right pm__law_steps_right an__law_steps_right (.ref c1) ct__law_steps_right, f__law_signs_right := f__law_signs_right, fd__law_signs_right := PySem.W.fnOf "_law_signs_right" "_law_signs_right" (defArgs s__law_signs_right) (defBody s__law_signs_right) (defScope s__law_signs_right) .none kV__law_signs_right dc__law_signs_right pm__law_signs_right an__law_signs_right (.ref c2) ct__law_signs_right, f__law_into_right := f__law_into_right, fd__law_into_right := PySem.W.fnOf "_law_into_right" "_law_into_right" (defArgs s__law_into_right) (defBody s__law_into_right) (defScope s__law_into_right) .none kV__law_into_right dc__law_into_right pm__law_into_right an__law_into_right (.ref c3) ct__law_into_right, f_law := f_law, fd_law := PySem.W.fnOf "law" "law" (defArgs s_law) (defBody s_law) (defScope s_law) .none kV_law dc_law pm_law an_law cd_law ct_law, mcRef := .type "type", kinds := kinds, c1 := c1, P1 := P1, c2 := c2, P2 := P2, c3 := c3, P3 := P3 }) {
    z_isinstance := PySem.W.mg_none_of X G z_isinstance,
    z_int := PySem.W.mg_none_of X G z_int,
    z_bool := PySem.W.mg_none_of X G z_bool,
    z_str := PySem.W.mg_none_of X G z_str,
    z_len := PySem.W.mg_none_of X G z_len,
    z_all := PySem.W.mg_none_of X G z_all,
    z_abs := PySem.W.mg_none_of X G z_abs,
    z_repr := PySem.W.mg_none_of X G z_repr,
    z_range := PySem.W.mg_none_of X G z_range,
    z_list := PySem.W.mg_none_of X G z_list,
    z_ValueError := PySem.W.mg_none_of X G z_ValueError,
    c_SMALL := ⟨_, PySem.W.mg_of X G c_SMALL, r_SMALL⟩,
    c_MOST_SIGNS := ⟨_, PySem.W.mg_of X G c_MOST_SIGNS, r_MOST_SIGNS⟩,
    c_MOST_STEPS := ⟨_, PySem.W.mg_of X G c_MOST_STEPS, r_MOST_STEPS⟩,
    c_MOST_RECORD := ⟨_, PySem.W.mg_of X G c_MOST_RECORD, r_MOST_RECORD⟩,
    g_RowError := PySem.W.mg_of X G g_RowError,
    g_BadInput := PySem.W.mg_of X G g_BadInput,
    g_BadCell := PySem.W.mg_of X G g_BadCell,
    g_Ref := PySem.W.mg_of X G g_Ref,
    g_is_integer := PySem.W.mg_of X G g_is_integer,
    F_is_integer := fun_mk (st := s_is_integer) l_is_integer k_is_integer p_is_integer,
    b_is_integer := (fun_mk (st := s_is_integer) l_is_integer k_is_integer p_is_integer).binds (ps := P_is_integer) fun _ _ _ _ _ _ us hl => match us, hl with | [_], _ => rfl,
    g_is_word := PySem.W.mg_of X G g_is_word,
    F_is_word := fun_mk (st := s_is_word) l_is_word k_is_word p_is_word,
    b_is_word := (fun_mk (st := s_is_word) l_is_word k_is_word p_is_word).binds (ps := P_is_word) fun _ _ _ _ _ _ us hl => match us, hl with | [_], _ => rfl,
    F_BadCell___init__ := fun_mk (st := s_BadCell___init__) l_BadCell___init__ k_BadCell___init__ p_BadCell___init__,
    b_BadCell___init__ := (fun_mk (st := s_BadCell___init__) l_BadCell___init__ k_BadCell___init__ p_BadCell___init__).binds (ps := P_BadCell___init__) fun _ _ _ _ _ _ us hl => match us, hl with | [_, _], _ => rfl,
    g_number_fits := PySem.W.mg_of X G g_number_fits,
    F_number_fits := fun_mk (st := s_number_fits) l_number_fits k_number_fits p_number_fits,
    b_number_fits := (fun_mk (st := s_number_fits) l_number_fits k_number_fits p_number_fits).binds (ps := P_number_fits) fun _ _ _ _ _ _ us hl => match us, hl with | [_, _], _ => rfl,
    g_column_fits := PySem.W.mg_of X G g_column_fits,
    F_column_fits := fun_mk (st := s_column_fits) l_column_fits k_column_fits p_column_fits,
    b_column_fits := (fun_mk (st := s_column_fits) l_column_fits k_column_fits p_column_fits).binds (ps := P_column_fits) fun _ _ _ _ _ _ us hl => match us, hl with | [_, _], _ => rfl,
    F_Ref___init__ := fun_mk (st := s_Ref___init__) l_Ref___init__ k_Ref___init__ p_Ref___init__,
    b_Ref___init__ := (fun_mk (st := s_Ref___init__) l_Ref___init__ k_Ref___init__ p_Ref___init__).binds (ps := P_Ref___init__) fun _ _ _ _ _ _ us hl => match us, hl with | [_, _, _, _], _ => rfl,
    F_Ref_need_kind := fun_mk (st := s_Ref_need_kind) l_Ref_need_kind k_Ref_need_kind p_Ref_need_kind,
    b_Ref_need_kind := (fun_mk (st := s_Ref_need_kind) l_Ref_need_kind k_Ref_need_kind p_Ref_need_kind).binds (ps := P_Ref_need_kind) fun _ _ _ _ _ _ us hl => match us, hl with | [_, _], _ => rfl,
    m_Ref_need_kind := ⟨g_Ref_need_kind, i_Ref_need_kind, p_Ref_need_kind⟩,
    F_Ref_stepped := fun_mk (st := s_Ref_stepped) l_Ref_stepped k_Ref_stepped p_Ref_stepped,
    b_Ref_stepped := (fun_mk (st := s_Ref_stepped) l_Ref_stepped k_Ref_stepped p_Ref_stepped).binds (ps := P_Ref_stepped) fun _ _ _ _ _ _ us hl => match us, hl with | [_, _], _ => rfl,
    m_Ref_stepped := ⟨g_Ref_stepped, i_Ref_stepped, p_Ref_stepped⟩,
    F_Ref___add__ := fun_mk (st := s_Ref___add__) l_Ref___add__ k_Ref___add__ p_Ref___add__,
    b_Ref___add__ := (fun_mk (st := s_Ref___add__) l_Ref___add__ k_Ref___add__ p_Ref___add__).binds (ps := P_Ref___add__) fun _ _ _ _ _ _ us hl => match us, hl with | [_, _], _ => rfl,
    m_Ref___add__ := ⟨g_Ref___add__, i_Ref___add__, p_Ref___add__⟩,
    F_Ref___radd__ := fun_mk (st := s_Ref___radd__) l_Ref___radd__ k_Ref___radd__ p_Ref___radd__,
    b_Ref___radd__ := (fun_mk (st := s_Ref___radd__) l_Ref___radd__ k_Ref___radd__ p_Ref___radd__).binds (ps := P_Ref___radd__) fun _ _ _ _ _ _ us hl => match us, hl with | [_, _], _ => rfl,
    m_Ref___radd__ := ⟨g_Ref___radd__, i_Ref___radd__, p_Ref___radd__⟩,
    F_Ref___sub__ := fun_mk (st := s_Ref___sub__) l_Ref___sub__ k_Ref___sub__ p_Ref___sub__,
    b_Ref___sub__ := (fun_mk (st := s_Ref___sub__) l_Ref___sub__ k_Ref___sub__ p_Ref___sub__).binds (ps := P_Ref___sub__) fun _ _ _ _ _ _ us hl => match us, hl with | [_, _], _ => rfl,
    m_Ref___sub__ := ⟨g_Ref___sub__, i_Ref___sub__, p_Ref___sub__⟩,
    F_Ref___neg__ := fun_mk (st := s_Ref___neg__) l_Ref___neg__ k_Ref___neg__ p_Ref___neg__,
    b_Ref___neg__ := (fun_mk (st := s_Ref___neg__) l_Ref___neg__ k_Ref___neg__ p_Ref___neg__).binds (ps := P_Ref___neg__) fun _ _ _ _ _ _ us hl => match us, hl with | [_], _ => rfl,
    m_Ref___neg__ := ⟨g_Ref___neg__, i_Ref___neg__, p_Ref___neg__⟩,
    F_Ref___abs__ := fun_mk (st := s_Ref___abs__) l_Ref___abs__ k_Ref___abs__ p_Ref___abs__,
    b_Ref___abs__ := (fun_mk (st := s_Ref___abs__) l_Ref___abs__ k_Ref___abs__ p_Ref___abs__).binds (ps := P_Ref___abs__) fun _ _ _ _ _ _ us hl => match us, hl with | [_], _ => rfl,
    m_Ref___abs__ := ⟨g_Ref___abs__, i_Ref___abs__, p_Ref___abs__⟩,
    F_Ref_into := fun_mk (st := s_Ref_into) l_Ref_into k_Ref_into p_Ref_into,
    b_Ref_into := (fun_mk (st := s_Ref_into) l_Ref_into k_Ref_into p_Ref_into).binds (ps := P_Ref_into) fun _ _ _ _ _ _ us hl => match us, hl with | [_, _], _ => rfl,
    m_Ref_into := ⟨g_Ref_into, i_Ref_into, p_Ref_into⟩,
    g__law_pen := PySem.W.mg_of X G g__law_pen,
    F__law_pen := fun_mk (st := s__law_pen) l__law_pen k__law_pen p__law_pen,
    b__law_pen := (fun_mk (st := s__law_pen) l__law_pen k__law_pen p__law_pen).binds (ps := P__law_pen) fun _ _ _ _ _ _ us hl => match us, hl with | [_], _ => rfl,
    g__law_draw := PySem.W.mg_of X G g__law_draw,
    F__law_draw := fun_mk (st := s__law_draw) l__law_draw k__law_draw p__law_draw,
    b__law_draw := (fun_mk (st := s__law_draw) l__law_draw k__law_draw p__law_draw).binds (ps := P__law_draw) fun _ _ _ _ _ _ us hl => match us, hl with | [_, _], _ => rfl,
    g__law_pick := PySem.W.mg_of X G g__law_pick,
    F__law_pick := fun_mk (st := s__law_pick) l__law_pick k__law_pick p__law_pick,
    b__law_pick := (fun_mk (st := s__law_pick) l__law_pick k__law_pick p__law_pick).binds (ps := P__law_pick) fun _ _ _ _ _ _ us hl => match us, hl with | [_, _], _ => rfl,
    g__law_word := PySem.W.mg_of X G g__law_word,
    F__law_word := fun_mk (st := s__law_word) l__law_word k__law_word p__law_word,
    b__law_word := (fun_mk (st := s__law_word) l__law_word k__law_word p__law_word).binds (ps := P__law_word) fun _ _ _ _ _ _ us hl => match us, hl with | [_], _ => rfl,
    g__law_is_word := PySem.W.mg_of X G g__law_is_word,
    F__law_is_word := fun_mk (st := s__law_is_word) l__law_is_word k__law_is_word p__law_is_word,
    b__law_is_word := (fun_mk (st := s__law_is_word) l__law_is_word k__law_is_word p__law_is_word).binds (ps := P__law_is_word) fun _ _ _ _ _ _ us hl => match us, hl with | [_], _ => rfl,
    g__law_heard := PySem.W.mg_of X G g__law_heard,
    F__law_heard := fun_mk (st := s__law_heard) l__law_heard k__law_heard p__law_heard,
    b__law_heard := (fun_mk (st := s__law_heard) l__law_heard k__law_heard p__law_heard).binds (ps := P__law_heard) fun _ _ _ _ _ _ us hl => match us, hl with | [_], _ => rfl,
    g__law_ref := PySem.W.mg_of X G g__law_ref,
    F__law_ref := fun_mk (st := s__law_ref) l__law_ref k__law_ref p__law_ref,
    b__law_ref := (fun_mk (st := s__law_ref) l__law_ref k__law_ref p__law_ref).binds (ps := P__law_ref) fun _ _ _ _ _ _ us hl => match us, hl with | [_, _], _ => rfl,
    g__law_ref_made := PySem.W.mg_of X G g__law_ref_made,
    F__law_ref_made := fun_mk (st := s__law_ref_made) l__law_ref_made k__law_ref_made p__law_ref_made,
    b__law_ref_made := (fun_mk (st := s__law_ref_made) l__law_ref_made k__law_ref_made p__law_ref_made).binds (ps := P__law_ref_made) fun _ _ _ _ _ _ us hl => match us, hl with | [_], _ => rfl,
    g__law_told := PySem.W.mg_of X G g__law_told,
    F__law_told := fun_mk (st := s__law_told) l__law_told k__law_told p__law_told,
    b__law_told := (fun_mk (st := s__law_told) l__law_told k__law_told p__law_told).binds (ps := P__law_told) fun _ _ _ _ _ _ us hl => match us, hl with | [_], _ => rfl,
    g__law_step_due := PySem.W.mg_of X G g__law_step_due,
    F__law_step_due := fun_mk (st := s__law_step_due) l__law_step_due k__law_step_due p__law_step_due,
    b__law_step_due := (fun_mk (st := s__law_step_due) l__law_step_due k__law_step_due p__law_step_due).binds (ps := P__law_step_due) fun _ _ _ _ _ _ us hl => match us, hl with | [_, _], _ => rfl,
    g__law_more := PySem.W.mg_of X G g__law_more,
    F__law_more := fun_mk (st := s__law_more) l__law_more k__law_more p__law_more,
    b__law_more := (fun_mk (st := s__law_more) l__law_more k__law_more p__law_more).binds (ps := P__law_more) fun _ _ _ _ _ _ us hl => match us, hl with | [_, _], _ => rfl,
    g__law_steps_right := PySem.W.mg_of X G g__law_steps_right,
    F__law_steps_right := fun_mk (st := s__law_steps_right) l__law_steps_right k__law_steps_right p__law_steps_right,
    b__law_steps_right := (fun_mk (st := s__law_steps_right) l__law_steps_right k__law_steps_right p__law_steps_right).binds (ps := P__law_steps_right) fun _ _ _ _ _ _ us hl => match us, hl with | [_, _], _ => rfl,
    g__law_signs_right := PySem.W.mg_of X G g__law_signs_right,
    F__law_signs_right := fun_mk (st := s__law_signs_right) l__law_signs_right k__law_signs_right p__law_signs_right,
    b__law_signs_right := (fun_mk (st := s__law_signs_right) l__law_signs_right k__law_signs_right p__law_signs_right).binds (ps := P__law_signs_right) fun _ _ _ _ _ _ us hl => match us, hl with | [_], _ => rfl,
    g__law_into_right := PySem.W.mg_of X G g__law_into_right,
    F__law_into_right := fun_mk (st := s__law_into_right) l__law_into_right k__law_into_right p__law_into_right,
    b__law_into_right := (fun_mk (st := s__law_into_right) l__law_into_right k__law_into_right p__law_into_right).binds (ps := P__law_into_right) fun _ _ _ _ _ _ us hl => match us, hl with | [_, _], _ => rfl,
    g_law := PySem.W.mg_of X G g_law,
    F_law := fun_mk (st := s_law) l_law k_law p_law,
    b_law := (fun_mk (st := s_law) l_law k_law p_law).binds (ps := P_law) fun _ _ _ _ _ _ us hl => match us, hl with | [_], _ => rfl,
    mk_Ref := ⟨mk_Ref, g_Ref___init__, i_Ref___init__, kp_Ref⟩,
    cl_Ref := ⟨pg_Ref, hd_Ref, po_Ref, sa_Ref⟩,
    in_Ref := ⟨⟨⟨pg_Ref, hd_Ref, po_Ref, sa_Ref⟩, ha_Ref, hn_cls, ht_cls, hm_Ref, kit_self _⟩⟩,
    n_Ref_kind := n_Ref_kind,
    n_Ref_column := n_Ref_column,
    n_Ref_number := n_Ref_number,
    n_Ref_sort_key := n_Ref_sort_key,
    x_BadCell := ⟨⟨⟨nm, qn, Nn, bs, bm, sn, sub, ab, col, dd, k0, k1, k2, k3, k5, xB, vB⟩, saB, exB, tyB, kpB⟩, g_BadCell___init__, tiB, PySem.W.mg_of X G g_BadCell⟩,
    e_BadCell := ⟨gaB, ggB, exB, hdB, haB, hn_cls, ht_cls, hmB⟩,
    xf_BadCell := ⟨gaB, ggB, exB, hdB⟩,
    n_BadCell_part := npB,
    k_BB := kit_self _,
    k_BI := kit_sub clI tyI sbI,
    k_BV := kit_subT (by decide +kernel) sbV,
    k_RR := kit_self _,
    ex_B := exm_sub exR clR tyR sbR,
    cr_Ref := ⟨rdR, gmR⟩,
    cv_KINDS := ⟨fcR, rfl⟩,
    sq_KINDS := fun H => .inr ⟨_, itK, nK, lkK, rfl, rfl, szK, vaK⟩,
    ty_KINDS := ⟨_, lkK, rfl, rfl⟩,
    oa := ⟨sfR, oaR, i_Ref___add__, ⟨_, orR, .inr ⟨_, rfl⟩⟩, siR⟩,
    os := ⟨sfR, osR, i_Ref___sub__, ⟨_, oqR, .inl rfl⟩, siR⟩,
    ora := ⟨sfR, ⟨_, oaR⟩, orR, i_Ref___radd__, sjR⟩,
    oi := ⟨⟨cdR, clsR, mroR⟩, oiR⟩,
    bk_Ref_into := fun s u v _ => .of_eq rfl,
    cd1 := rfl,
    cd2 := rfl,
    cd3 := rfl,
    on := ⟨g_Ref___neg__, i_Ref___neg__⟩,
    ob := ⟨g_Ref___abs__, i_Ref___abs__⟩,
    dP := dP
    } y1 y2 y3 o1 o2 o3 (PySem.W.codeHd_of_K X j1) (PySem.W.codeHd_of_K X j2) (PySem.W.codeHd_of_K X j3)
end R
end

section
open PySem PySem.W PyProof.Rows
theorem PySem.Challenge.cw_rowshapes_k02_references_stepped_holds : PySem.Challenge.rw_rowshapes_k02_references_stepped.Holds := by
  w_on; o_law; k_head; (case hw => w_witness2)
  k_fill
  refine Z.walk_G (l := PySem.Challenge.rw_rowshapes_k02_references_stepped) (n := 63) (k := 12) (x := "_law_script") rfl (by decide) rfl ⟨rfl, by decide, by decide⟩ (fun w h Y => PySem.W.km_in_of Y) ?F
  intro w mg fa h Y KX G hmg
  refine' R.mkLaw KX G hmg ?z_isinstance ?z_int ?z_bool ?z_str ?z_len ?z_all ?z_abs ?z_repr ?z_range ?z_list ?z_ValueError ?c_SMALL ?r_SMALL ?c_MOST_SIGNS ?r_MOST_SIGNS ?c_MOST_STEPS ?r_MOST_STEPS ?c_MOST_RECORD ?r_MOST_RECORD ?g_RowError ?g_BadInput ?g_BadCell ?g_Ref ?g_is_integer ?l_is_integer ?k_is_integer ?p_is_integer ?g_is_word ?l_is_word ?k_is_word ?p_is_word ?g_BadCell___init__ ?l_BadCell___init__ ?k_BadCell___init__ ?p_BadCell___init__ ?i_BadCell___init__ ?g_number_fits ?l_number_fits ?k_number_fits ?p_number_fits ?g_column_fits ?l_column_fits ?k_column_fits ?p_column_fits ?g_Ref___init__ ?l_Ref___init__ ?k_Ref___init__ ?p_Ref___init__ ?i_Ref___init__ ?g_Ref_need_kind ?l_Ref_need_kind ?k_Ref_need_kind ?p_Ref_need_kind ?i_Ref_need_kind ?g_Ref_stepped ?l_Ref_stepped ?k_Ref_stepped ?p_Ref_stepped ?i_Ref_stepped ?g_Ref___add__ ?l_Ref___add__ ?k_Ref___add__ ?p_Ref___add__ ?i_Ref___add__ ?g_Ref___radd__ ?l_Ref___radd__ ?k_Ref___radd__ ?p_Ref___radd__ ?i_Ref___radd__ ?g_Ref___sub__ ?l_Ref___sub__ ?k_Ref___sub__ ?p_Ref___sub__ ?i_Ref___sub__ ?g_Ref___neg__ ?l_Ref___neg__ ?k_Ref___neg__ ?p_Ref___neg__ ?i_Ref___neg__ ?g_Ref___abs__ ?l_Ref___abs__ ?k_Ref___abs__ ?p_Ref___abs__ ?i_Ref___abs__ ?g_Ref_into ?l_Ref_into ?k_Ref_into ?p_Ref_into ?i_Ref_into ?g__law_pen ?l__law_pen ?k__law_pen ?p__law_pen ?g__law_draw ?l__law_draw ?k__law_draw ?p__law_draw ?g__law_pick ?l__law_pick ?k__law_pick ?p__law_pick ?g__law_word ?l__law_word ?k__law_word ?p__law_word ?g__law_is_word ?l__law_is_word ?k__law_is_word ?p__law_is_word ?g__law_heard ?l__law_heard ?k__law_heard ?p__law_heard ?g__law_ref ?l__law_ref ?k__law_ref ?p__law_ref ?g__law_ref_made ?l__law_ref_made ?k__law_ref_made ?p__law_ref_made ?g__law_told ?l__law_told ?k__law_told ?p__law_told ?g__law_step_due ?l__law_step_due ?k__law_step_due ?p__law_step_due ?g__law_more ?l__law_more ?k__law_more ?p__law_more ?g__law_steps_right ?l__law_steps_right ?k__law_steps_right ?p__law_steps_right ?g__law_signs_right ?l__law_signs_right ?k__law_signs_right ?p__law_signs_right ?g__law_into_right ?l__law_into_right ?k__law_into_right ?p__law_into_right ?g_law ?l_law ?k_law ?p_law ?mk_Ref ?kp_Ref ?pg_Ref ?hd_Ref ?po_Ref ?sa_Ref ?ha_Ref ?hm_Ref ?n_Ref_kind ?n_Ref_column ?n_Ref_number ?n_Ref_sort_key ?hn_cls ?ht_cls ?xB ?vB ?saB ?gaB ?ggB ?exB ?tyB ?kpB ?hdB ?haB ?hmB ?npB ?tiB ?clI ?tyI ?sbI ?clR ?tyR ?sbR ?exR ?sbV ?rdR ?gmR ?fcR ?lkK ?szK ?vaK ?sfR ?oaR ?orR ?osR ?oqR ?oiR ?siR ?sjR ?clsR ?mroR ?q1 ?w1 ?y1 ?j1 ?o1 ?q2 ?w2 ?y2 ?j2 ?o2 ?q3 ?w3 ?y3 ?j3 ?o3 ?dP
  (case z_isinstance => k_is)
  (case z_int => k_is)
  (case z_bool => k_is)
  (case z_str => k_is)
  (case z_len => k_is)
  (case z_all => k_is)
  (case z_abs => k_is)
  (case z_repr => k_is)
  (case z_range => k_is)
  (case z_list => k_is)
  (case z_ValueError => k_is)
  (case c_SMALL => k_is)
  (case r_SMALL => exact ⟨_, rfl⟩)
  (case c_MOST_SIGNS => k_is)
  (case r_MOST_SIGNS => exact ⟨_, rfl⟩)
  (case c_MOST_STEPS => k_is)
  (case r_MOST_STEPS => exact ⟨_, rfl⟩)
  (case c_MOST_RECORD => k_is)
  (case r_MOST_RECORD => exact ⟨_, rfl⟩)
  (case g_RowError => k_is)
  (case g_BadInput => k_is)
  (case g_BadCell => k_is)
  (case g_Ref => k_is)
  (case g_is_integer => k_is)
  (case l_is_integer => k_is)
  (case k_is_integer => k_is)
  (case p_is_integer => k_is)
  (case g_is_word => k_is)
  (case l_is_word => k_is)
  (case k_is_word => k_is)
  (case p_is_word => k_is)
  (case g_BadCell___init__ => k_is)
  (case l_BadCell___init__ => k_is)
  (case k_BadCell___init__ => k_is)
  (case p_BadCell___init__ => k_is)
  (case i_BadCell___init__ => k_is)
  (case g_number_fits => k_is)
  (case l_number_fits => k_is)
  (case k_number_fits => k_is)
  (case p_number_fits => k_is)
  (case g_column_fits => k_is)
  (case l_column_fits => k_is)
  (case k_column_fits => k_is)
  (case p_column_fits => k_is)
  (case g_Ref___init__ => k_is)
  (case l_Ref___init__ => k_is)
  (case k_Ref___init__ => k_is)
  (case p_Ref___init__ => k_is)
  (case i_Ref___init__ => k_is)
  (case g_Ref_need_kind => k_is)
  (case l_Ref_need_kind => k_is)
  (case k_Ref_need_kind => k_is)
  (case p_Ref_need_kind => k_is)
  (case i_Ref_need_kind => k_is)
  (case g_Ref_stepped => k_is)
  (case l_Ref_stepped => k_is)
  (case k_Ref_stepped => k_is)
  (case p_Ref_stepped => k_is)
  (case i_Ref_stepped => k_is)
  (case g_Ref___add__ => k_is)
  (case l_Ref___add__ => k_is)
  (case k_Ref___add__ => k_is)
  (case p_Ref___add__ => k_is)
  (case i_Ref___add__ => k_is)
  (case g_Ref___radd__ => k_is)
  (case l_Ref___radd__ => k_is)
  (case k_Ref___radd__ => k_is)
  (case p_Ref___radd__ => k_is)
  (case i_Ref___radd__ => k_is)
  (case g_Ref___sub__ => k_is)
  (case l_Ref___sub__ => k_is)
  (case k_Ref___sub__ => k_is)
  (case p_Ref___sub__ => k_is)
  (case i_Ref___sub__ => k_is)
  (case g_Ref___neg__ => k_is)
  (case l_Ref___neg__ => k_is)
  (case k_Ref___neg__ => k_is)
  (case p_Ref___neg__ => k_is)
  (case i_Ref___neg__ => k_is)
  (case g_Ref___abs__ => k_is)
  (case l_Ref___abs__ => k_is)
  (case k_Ref___abs__ => k_is)
  (case p_Ref___abs__ => k_is)
  (case i_Ref___abs__ => k_is)
  (case g_Ref_into => k_is)
  (case l_Ref_into => k_is)
  (case k_Ref_into => k_is)
  (case p_Ref_into => k_is)
  (case i_Ref_into => k_is)
  (case g__law_pen => k_is)
  (case l__law_pen => k_is)
  (case k__law_pen => k_is)
  (case p__law_pen => k_is)
  (case g__law_draw => k_is)
  (case l__law_draw => k_is)
  (case k__law_draw => k_is)
  (case p__law_draw => k_is)
  (case g__law_pick => k_is)
  (case l__law_pick => k_is)
  (case k__law_pick => k_is)
  (case p__law_pick => k_is)
  (case g__law_word => k_is)
  (case l__law_word => k_is)
  (case k__law_word => k_is)
  (case p__law_word => k_is)
  (case g__law_is_word => k_is)
  (case l__law_is_word => k_is)
  (case k__law_is_word => k_is)
  (case p__law_is_word => k_is)
  (case g__law_heard => k_is)
  (case l__law_heard => k_is)
  (case k__law_heard => k_is)
  (case p__law_heard => k_is)
  (case g__law_ref => k_is)
  (case l__law_ref => k_is)
  (case k__law_ref => k_is)
  (case p__law_ref => k_is)
  (case g__law_ref_made => k_is)
  (case l__law_ref_made => k_is)
  (case k__law_ref_made => k_is)
  (case p__law_ref_made => k_is)
  (case g__law_told => k_is)
  (case l__law_told => k_is)
  (case k__law_told => k_is)
  (case p__law_told => k_is)
  (case g__law_step_due => k_is)
  (case l__law_step_due => k_is)
  (case k__law_step_due => k_is)
  (case p__law_step_due => k_is)
  (case g__law_more => k_is)
  (case l__law_more => k_is)
  (case k__law_more => k_is)
  (case p__law_more => k_is)
  (case g__law_steps_right => k_is)
  (case l__law_steps_right => k_is)
  (case k__law_steps_right => k_is)
  (case p__law_steps_right => k_is)
  (case g__law_signs_right => k_is)
  (case l__law_signs_right => k_is)
  (case k__law_signs_right => k_is)
  (case p__law_signs_right => k_is)
  (case g__law_into_right => k_is)
  (case l__law_into_right => k_is)
  (case k__law_into_right => k_is)
  (case p__law_into_right => k_is)
  (case g_law => k_is)
  (case l_law => k_is)
  (case k_law => k_is)
  (case p_law => k_is)
  (case mk_Ref => k_is)
  (case kp_Ref => k_is)
  (case pg_Ref => k_is)
  (case hd_Ref => k_is)
  (case po_Ref => k_is)
  (case sa_Ref => k_is)
  (case ha_Ref => k_is)
  (case hm_Ref => k_is)
  (case n_Ref_kind => k_is)
  (case n_Ref_column => k_is)
  (case n_Ref_number => k_is)
  (case n_Ref_sort_key => k_is)
  (case hn_cls => k_is)
  (case ht_cls => k_is)
  (case xB => k_is)
  (case vB => first | rfl | decide +kernel)
  (case saB => k_is)
  (case gaB => k_is)
  (case ggB => k_is)
  (case exB => k_is)
  (case tyB => k_is)
  (case kpB => k_is)
  (case hdB => k_is)
  (case haB => k_is)
  (case hmB => k_is)
  (case npB => k_is)
  (case tiB => k_is)
  (case clI => k_is)
  (case tyI => k_is)
  (case sbI => k_is)
  (case clR => k_is)
  (case tyR => k_is)
  (case sbR => k_is)
  (case exR => k_is)
  (case sbV => k_is)
  (case rdR => k_is)
  (case gmR => k_is)
  (case fcR => k_is)
  (case lkK => k_is)
  (case szK => decide)
  (case vaK => exact .cons ⟨_, rfl⟩ (.cons ⟨_, rfl⟩ (.cons ⟨_, rfl⟩ (.cons ⟨_, rfl⟩ .nil))))
  (case sfR => k_is)
  (case oaR => k_is)
  (case orR => k_is)
  (case osR => k_is)
  (case oqR => k_is)
  (case oiR => k_is)
  (case siR => k_is)
  (case sjR => k_is)
  (case clsR => k_is)
  (case mroR => rfl)
  (case q1 => k_is)
  (case w1 => rfl)
  (case y1 => exact PySem.W.km_tabs_of Y _ (by decide))
  (case j1 => first | kernel_rfl | rfl)
  (case o1 => first | kernel_rfl | rfl)
  (case q2 => k_is)
  (case w2 => rfl)
  (case y2 => exact PySem.W.km_tabs_of Y _ (by decide))
  (case j2 => first | kernel_rfl | rfl)
  (case o2 => first | kernel_rfl | rfl)
  (case q3 => k_is)
  (case w3 => rfl)
  (case y3 => exact PySem.W.km_tabs_of Y _ (by decide))
  (case j3 => first | kernel_rfl | rfl)
  (case o3 => first | kernel_rfl | rfl)
  (case dP => decide)
end
