import PyProof.Rows.All
import Wide.All
import OpenK.AllK
import Wide.FinOn
import HandS.ForMost
import HandS.Wide
import HandS.Small
import HandS.IsInst
import HandS.Property
import PySem.Challenge.RW_copiesfollow_k52_reader_items
set_option Elab.async false
set_option linter.all false
set_option maxRecDepth 100000
set_option maxHeartbeats 4000000
namespace Cf
open PySem L2 PySem.Spec PyProof.Rows
/-! ## operators that fit every kind of value -/
section
variable {X : Cx}
/-- nothing is tracked there -/
def Fresh (H : Hp) (p : Addr) : Prop := H p = none
def rPlus : R2 := fun x y H Q => rI0 (fun i j => .int (i + j)) x y H Q ∨ ((∃ i j, x = .str i ∧ y = .str j ∧ i.length + j.length ≤ sizeLine ∧ Q (.str (i ++ j)) H) ∨ rCat x y H Q)
theorem op_plus : OpR X (binaryOp .Add) rPlus := op_add.or (op_add_str.or op_cat)
def rTimes : R2 := fun x y H Q => rI CMul (fun i j => .int (i * j)) x y H Q ∨ rRep x y H Q
theorem op_times : OpR X (binaryOp .Mult) rTimes := op_mul.or op_rep
def rEqq (K : PySem.W.Frag) : R2 := fun x y H Q => rEq x y H Q ∨ rEqD K x y H Q
theorem op_eqq (hu : X.A.units + 64 < cLine) : OpR X (compareOp .Eq) (rEqq X.K) := op_eq.or (op_eqD hu)
def rNeq (K : PySem.W.Frag) : R2 := fun x y H Q => rNe x y H Q ∨ rNeD K x y H Q
theorem op_neq (hu : X.A.units + 64 < cLine) : OpR X (compareOp .NotEq) (rNeq X.K) := op_ne.or (op_neD hu)
def rDIn : R2 := fun y x H Q => ∃ a o, x = .ref a ∧ DGet H a y o ∧ Q (.bl o.isSome) H
theorem op_din (hu : X.A.units + 1 < cLine) : OpR X (compareOp .In) rDIn := by
  intro pins s σ H y x u v Q I ry rx h
  obtain ⟨a, o, rfl, g, q⟩ := h
  obtain rfl : v = Value.ref a := rx
  exact d_in hu I g ry fun s3 I3 => ⟨.bl o.isSome, H, I3, rfl, q⟩
def rDNotIn : R2 := fun y x H Q => ∃ a o, x = .ref a ∧ DGet H a y o ∧ Q (.bl (!o.isSome)) H
theorem op_dnotin (hu : X.A.units + 1 < cLine) : OpR X (compareOp .NotIn) rDNotIn := by
  intro pins s σ H y x u v Q I ry rx h
  obtain ⟨a, o, rfl, g, q⟩ := h
  obtain rfl : v = Value.ref a := rx
  exact d_notIn hu I g ry fun s3 I3 => ⟨.bl (!o.isSome), H, I3, rfl, q⟩
def rInn (K : PySem.W.Frag) : R2 := fun x y H Q => rIn K false x y H Q ∨ rDIn x y H Q
theorem op_inn (hu : X.A.units + 1 < cLine) : OpR X (compareOp .In) (rInn X.K) := op_in_seq.or (op_din hu)
def rNotInn (K : PySem.W.Frag) : R2 := fun x y H Q => rIn K true x y H Q ∨ rDNotIn x y H Q
theorem op_notInn (hu : X.A.units + 1 < cLine) : OpR X (compareOp .NotIn) (rNotInn X.K) := op_notIn_seq.or (op_dnotin hu)
def rIxD : R2 := fun x y H Q => ∃ a v, x = .ref a ∧ DGet H a y (some v) ∧ Q v H
theorem ix_dict (hu : X.A.units + 1 < cLine) : IxR X rIxD := by
  intro value slice pins s σ H x y v u Q I rx ry h hs
  obtain ⟨a, z, rfl, g, q⟩ := h
  obtain rfl : v = Value.ref a := rx
  exact tail_any (dict_typeIs I g) PySem.F.slot_dict_getitem.lookup (d_getItem hu I g ry fun w' s3 I3 rw' => ⟨z, H, I3, rw', q⟩) hs
def rIxx (K : PySem.W.Frag) : R2 := fun x y H Q => rIx K x y H Q ∨ rIxD x y H Q
theorem ix_any (hu : X.A.units + 1 < cLine) : IxR X (rIxx X.K) := ix_seq.or (ix_dict hu)
theorem PSet.or {r r' : TSet} (h : PSet X r) (h' : PSet X r') : PSet X (fun o i v H Q => r o i v H Q ∨ r' o i v H Q) := by
  intro pins s σ H o i v ov iv u Q I ro ri rv q
  rcases q with q | q
  · exact h pins s σ H o i v ov iv u Q I ro ri rv q
  · exact h' pins s σ H o i v ov iv u Q I ro ri rv q
def rSett : TSet := fun o i v H Q => rSetL o i v H Q ∨ rSetD o i v H Q
theorem set_any (hu : X.A.units + 1 < cLine) : PSet X rSett := PSet.or set_list (set_dict hu)
def rLen (K : PySem.W.Frag) : List V → Hp → VK → Prop := fun xs H Q => (∃ p ys, xs = [.ref p] ∧ (SqL K H p ys ∨ SqT K H p ys) ∧ Q (.int ys.length) H) ∨ (∃ z, xs = [.str z] ∧ z.length ≤ sizeLine ∧ Q (.int z.length) H)
def rIsN : R2 := fun x y H Q => y = .non ∧ Q (.bl (decide (x = .non))) H
theorem op_isNA : OpR X (compareOp .Is) rIsN := op_isN
def rNotN : R2 := fun x y H Q => y = .non ∧ Q (.bl (!decide (x = .non))) H
theorem op_notNA : OpR X (compareOp .IsNot) rNotN := op_notN
def rInt : List V → Hp → VK → Prop := fun xs H Q => ∃ i, xs = [.int i] ∧ Q (.int i) H
theorem call_intA : CallR X (.type "int") rInt := fun pins s σ H xs us Q I r h => call_int1 pins s σ H xs us Q I r (.inl h)
def rListOf (K : PySem.W.Frag) : List V → Hp → VK → Prop := fun xs H Q => ∃ p ys, xs = [.ref p] ∧ (SqL K H p ys ∨ SqT K H p ys) ∧ ∀ l, H l = none → Q (.ref l) (upd H l (.lst ys))
theorem call_listA : CallR X (.type "list") (rListOf X.K) := call_list_of
def rTupOf (K : PySem.W.Frag) : List V → Hp → VK → Prop := fun xs H Q => ∃ p ys, xs = [.ref p] ∧ ((SqL K H p ys ∧ ∀ l, H l = none → Q (.ref l) (upd H l (.tup ys))) ∨ (SqT K H p ys ∧ Q (.ref p) H))
theorem call_tupleA : CallR X (.type "tuple") (rTupOf X.K) := call_tuple_of
theorem call_lenA : CallR X (.builtin "len") (rLen X.K) := CallR.or call_len_seq call_len_str
end
/-! the same in a block whose context is not X itself -/
section
variable {X : Cx} {K : PySem.W.Frag}
theorem ix_anyK (h : X.K = K) (hu : X.A.units + 1 < cLine) : IxR X (rIxx K) := h ▸ ix_any hu
theorem op_eqqK (h : X.K = K) (hu : X.A.units + 64 < cLine) : OpR X (compareOp .Eq) (rEqq K) := h ▸ op_eqq hu
theorem op_neqK (h : X.K = K) (hu : X.A.units + 64 < cLine) : OpR X (compareOp .NotEq) (rNeq K) := h ▸ op_neq hu
theorem op_innK (h : X.K = K) (hu : X.A.units + 1 < cLine) : OpR X (compareOp .In) (rInn K) := h ▸ op_inn hu
theorem op_notInnK (h : X.K = K) (hu : X.A.units + 1 < cLine) : OpR X (compareOp .NotIn) (rNotInn K) := h ▸ op_notInn hu
theorem call_lenAK (h : X.K = K) : CallR X (.builtin "len") (rLen K) := h ▸ call_lenA
theorem call_listAK (h : X.K = K) : CallR X (.type "list") (rListOf K) := h ▸ call_listA
theorem call_tupleAK (h : X.K = K) : CallR X (.type "tuple") (rTupOf K) := h ▸ call_tupleA
theorem call_isiK' (h : X.K = K) : CallR X (.builtin "isinstance") (rIsi K) := h ▸ call_isi
theorem sl_listK (h : X.K = K) : SlR X (rSlL K) := h ▸ sl_list
theorem pe_fldK {e : Expr} {f : Str} {pos : Pos} {ta : TE} (h : X.K = K) (he : PE X e ta) (hb : attributeBase e f X.env (eval e X.env) = eval e X.env) : PE X (.Attribute e f pos) (tFld K ta f) := h ▸ pe_fld he hb
theorem pi_listK {tg l : Expr} {tl : TE} (h : X.K = K) (hl : PE X l tl) : PI X tg l (iList K tl) := h ▸ pi_list hl
end
end Cf
namespace Cf
open PySem L2 PySem.Spec PyProof.Rows
/-! ## steps of a reading, by its head -/
def TFld (K : PySem.W.Frag) (f : Str) (x : V) (H1 : Hp) (Q : VK) : Prop := ∃ a C dx fs v, x = .ref a ∧ H1 a = some (.ins C dx fs) ∧ Cls K C ∧ NoAttr K C f ∧ fs.lookup f = some v ∧ Q v H1
def TProp (C : Addr) (sp : Sp) (dvs : List V) (E : XK) (x : V) (H1 : Hp) (Q : VK) : Prop := ∃ a dx fs, x = .ref a ∧ H1 a = some (.ins C dx fs) ∧ sp (.ref a :: dvs) H1 Q E
def SFld (K : PySem.W.Frag) (f : Str) (y x : V) (H2 : Hp) (R : Hp → Prop) : Prop := ∃ a C dx fs, x = .ref a ∧ H2 a = some (.ins C dx fs) ∧ Cls K C ∧ NoAttr K C f ∧ fs.length < 1000 ∧ R (upd H2 a (.ins C dx (putF f y fs)))
def TMeth (C : Addr) (m : Str) (x : V) (H1 : Hp) (R : Prop) : Prop := ∃ a dx fs, x = .ref a ∧ H1 a = some (.ins C dx fs) ∧ fs.lookup m = none ∧ R
def tTru (K : PySem.W.Frag) (ta : TE) : TT := fun σ H Q => ta σ H fun x H' => ∃ k, TruV K x H' k ∧ Q k H'
theorem pt_tru {X : Cx} {a : Expr} {ta : TE} (ha : PE X a ta) (he : ∀ whole, isTrue a X.env whole = (do let v ← whole; standAt a.pos; holding [v] (truthy v))) : PT X a (tTru X.K ta) := pt_truth ha he
section
variable {K : PySem.W.Frag} {σ : L2.St} {H : Hp} {D : Ends} {ta tb te : TE} {t u : TT} {tA tr : TA} {a b : TS} {r : R2} {C : Addr} {sp : Sp} {dvs : List V} {E : XK}
theorem k_var {i : Nat} {v : V} {Q : VK} (e : σ[i]? = some (some v)) (h : Q v H) : tVar i σ H Q := ⟨v, e, h⟩
theorem k_c {v : V} {Q : VK} (h : Q v H) : tC v σ H Q := h
theorem k_op {Q : VK} (h : ta σ H fun x H1 => tb σ H1 fun y H2 => r x y H2 Q) : tOp r ta tb σ H Q := h
theorem k_un {r : V → Hp → VK → Prop} {Q : VK} (h : ta σ H fun x H1 => r x H1 Q) : tUn r ta σ H Q := h
theorem k_test {Q : Bool → Hp → Prop} (h : ta σ H fun x H' => ∃ k, x = .bl k ∧ Q k H') : tTest ta σ H Q := h
theorem k_tB {Q : Bool → Hp → Prop} (h : ta σ H fun x H' => ∃ k, x = .bl k ∧ Q k H') : tB ta σ H Q := h
theorem k_tru {Q : Bool → Hp → Prop} (h : ta σ H fun x H' => ∃ k, TruV K x H' k ∧ Q k H') : tTru K ta σ H Q := h
theorem k_ex {b : Bool} {P : Bool → Prop} (h : P b) : ∃ k, V.bl b = .bl k ∧ P k := ⟨b, rfl, h⟩
theorem k_exT {b : Bool} {P : Bool → Prop} (h : P b) : ∃ k, TruV K (V.bl b) H k ∧ P k := ⟨b, rfl, h⟩
theorem k_exI {i : Int} {P : Bool → Prop} (h : P (i != 0)) : ∃ k, TruV K (V.int i) H k ∧ P k := ⟨_, rfl, h⟩
theorem k_and {Q : Bool → Hp → Prop} (h : t σ H fun c H1 => if c = true then u σ H1 Q else Q false H1) : tAnd t u σ H Q := h
theorem k_or {Q : Bool → Hp → Prop} (h : t σ H fun c H1 => if c = true then Q true H1 else u σ H1 Q) : tOr t u σ H Q := h
theorem k_not {Q : Bool → Hp → Prop} (h : t σ H fun c H1 => Q (!c) H1) : tNot t σ H Q := h
theorem k_andV {Q : VK} (h : ta σ H fun x H1 => ∃ c, x = .bl c ∧ if c = true then tb σ H1 Q else Q (.bl false) H1) : tAndV ta tb σ H Q := h
theorem k_orV {Q : VK} (h : ta σ H fun x H1 => ∃ c, x = .bl c ∧ if c = true then Q (.bl true) H1 else tb σ H1 Q) : tOrV ta tb σ H Q := h
theorem k_notV {Q : VK} (h : ta σ H fun x H1 => ∃ c, x = .bl c ∧ Q (.bl (!c)) H1) : tNotV ta σ H Q := h
theorem k_ifE {Q : VK} (h : t σ H fun c H1 => if c = true then ta σ H1 Q else tb σ H1 Q) : tIf t ta tb σ H Q := h
theorem k_cons {Q : List V → Hp → Prop} (h : ta σ H fun x H1 => tr σ H1 fun xs H2 => Q (x :: xs) H2) : tCons ta tr σ H Q := h
theorem k_nil {Q : List V → Hp → Prop} (h : Q [] H) : tNil σ H Q := h
theorem k_tup {Q : VK} (h : tA σ H fun xs H1 => xs.length ≤ sizeLine ∧ ∀ p, Fresh H1 p → Q (.ref p) (upd H1 p (.tup xs))) : tTup tA σ H Q := h
theorem k_lst {Q : VK} (h : tA σ H fun xs H1 => xs.length ≤ sizeLine ∧ ∀ p, Fresh H1 p → Q (.ref p) (upd H1 p (.lst xs))) : tLst tA σ H Q := h
theorem k_call {Q : VK} (h : tA σ H fun vs H1 => sp (vs ++ dvs) H1 Q E) : tCall sp dvs E tA σ H Q := h
theorem k_cb {r : List V → Hp → VK → Prop} {Q : VK} (h : tA σ H fun vs H1 => r vs H1 Q) : tCB r tA σ H Q := h
theorem k_bm0 {T : String} {r : V → List V → Hp → VK → Prop} {Q : VK} (h : te σ H fun x H1 => tyV K T x H1 ∧ r x [] H1 Q) : tBM0 K T r te σ H Q := h
theorem k_bm {T : String} {r : V → List V → Hp → VK → Prop} {Q : VK} (h : te σ H fun x H1 => tyV K T x H1 ∧ tA σ H1 fun xs H2 => r x xs H2 Q) : tBM K T r te tA σ H Q := h
theorem k_fld {f : Str} {Q : VK} (h : ta σ H fun x H1 => TFld K f x H1 Q) : tFld K ta f σ H Q := h
theorem k_prop {Q : VK} (h : ta σ H fun x H1 => TProp C sp dvs E x H1 Q) : tProp C sp dvs E ta σ H Q := h
theorem k_sl {r : V → Option Int → Option Int → Hp → VK → Prop} {tl th : TO} {Q : VK} (h : te σ H fun x H1 => tl σ H1 fun l H2 => th σ H2 fun u H3 => r x l u H3 Q) : tSl r te tl th σ H Q := h
theorem k_nopart {Q : Option Int → Hp → Prop} (h : Q none H) : tNoPart σ H Q := h
theorem k_part {Q : Option Int → Hp → Prop} (h : te σ H fun x H1 => ∃ i, x = .int i ∧ Q (some i) H1) : tPart te σ H Q := h
theorem k_exint {i : Int} {P : Int → Prop} (h : P i) : ∃ k, V.int i = .int k ∧ P k := ⟨i, rfl, h⟩
-- statements
variable {nx : L2.St → Hp → Prop} {rt : VK} {bk ct : L2.St → Hp → Prop}
theorem k_next (h : nx σ H) : tNext ⟨nx, rt, bk, ct⟩ σ H := h
theorem k_brk (h : bk σ H) : tBreak ⟨nx, rt, bk, ct⟩ σ H := h
theorem k_cont (h : ct σ H) : tCont ⟨nx, rt, bk, ct⟩ σ H := h
theorem k_seq (h : a ⟨b ⟨nx, rt, bk, ct⟩, rt, bk, ct⟩ σ H) : tSeq a b ⟨nx, rt, bk, ct⟩ σ H := h
theorem k_drop (h : te σ H fun _ H1 => nx σ H1) : tDrop te ⟨nx, rt, bk, ct⟩ σ H := h
theorem k_ret (h : te σ H rt) : tRet te ⟨nx, rt, bk, ct⟩ σ H := h
theorem k_retN (h : rt .non H) : tRetN ⟨nx, rt, bk, ct⟩ σ H := h
theorem k_ifs (h : t σ H fun b' H1 => if b' = true then a D σ H1 else b D σ H1) : tIfS t a b D σ H := h
theorem k_asg {g : TG} (h : te σ H fun x H1 => g x σ H1 nx) : tAsg te g ⟨nx, rt, bk, ct⟩ σ H := h
theorem k_gname {i : Nat} {v : V} {σ' : L2.St} {Q : L2.St → Hp → Prop} (e : σ.set i (some v) = σ') (h : Q σ' H) : gName i v σ H Q := by subst e; exact h
theorem k_gsub {to ti : TE} {st : TSet} {v : V} {Q : L2.St → Hp → Prop} (h : to σ H fun o H1 => ti σ H1 fun i H2 => st o i v H2 fun H3 => Q σ H3) : gSub to ti st v σ H Q := h
theorem k_sfld {tv : TE} {f : Str} (h : tv σ H fun y H1 => ta σ H1 fun x H2 => SFld K f y x H2 (nx σ)) : sFld K ta tv f ⟨nx, rt, bk, ct⟩ σ H := h
/-- a loop over J, from H1 -/
def ForE (g : TG) (tb : TS) (D : Ends) (J : It) (σ : L2.St) (H1 : Hp) : Prop := ∃ W : Nat → Nat → L2.St → Hp → Prop, (∃ m, W 0 m σ H1) ∧ ∀ i m σ H, W i m σ H →
  (J.stop i H ∧ D.nx σ H) ∨ (J.go i H ∧ ∃ N : L2.St → Hp → Prop, (∀ σ' H', N σ' H' → ∃ m', m' < m ∧ W (i + 1) m' σ' H') ∧ ∀ x H', J.yld i H x H' → g x σ H' fun σ2 H2 => tb { D with nx := N, ct := N, bk := D.nx } σ2 H2)
theorem k_for {wi : TI} {g : TG} {tb : TS} (h : wi σ H fun J H1 => ForE g tb ⟨nx, rt, bk, ct⟩ J σ H1) : tFor wi g tb ⟨nx, rt, bk, ct⟩ σ H := h
theorem k_rng1 {R : It → Hp → Prop} (h : tA σ H fun vs H1 => ∃ j : Int, vs = [.int j] ∧ -(2 ^ 62) ≤ j ∧ j < 2 ^ 62 ∧ R (Itr 0 j.toNat) H1) : iRng1 tA σ H R := h
theorem k_rng2 {R : It → Hp → Prop} (h : tA σ H fun vs H1 => ∃ i j : Int, vs = [.int i, .int j] ∧ (-(2 ^ 62) ≤ i ∧ i < 2 ^ 62 ∧ -(2 ^ 62) ≤ j ∧ j < 2 ^ 62) ∧ R (Itr i (j - i).toNat) H1) : iRng2 tA σ H R := h
theorem k_ilist {tl : TE} {R : It → Hp → Prop} (h : tl σ H fun x H1 => ∃ a, x = .ref a ∧ (∃ xs, SqL K H1 a xs) ∧ R (Itl K a) H1) : iList K tl σ H R := h
theorem k_itup {tl : TE} {R : It → Hp → Prop} (h : tl σ H fun x H1 => ∃ a, x = .ref a ∧ (∃ xs, SqT K H1 a xs) ∧ R (Itt K a) H1) : iTup K tl σ H R := h
theorem k_exrng {n : Int} {R : Int → Prop} (h : -(2 ^ 62) ≤ n ∧ n < 2 ^ 62) (q : R n) : ∃ j : Int, [V.int n] = [.int j] ∧ -(2 ^ 62) ≤ j ∧ j < 2 ^ 62 ∧ R j := ⟨n, rfl, h.1, h.2, q⟩
theorem k_exrng2 {m n : Int} {R : Int → Int → Prop} (h : -(2 ^ 62) ≤ m ∧ m < 2 ^ 62 ∧ -(2 ^ 62) ≤ n ∧ n < 2 ^ 62) (q : R m n) : ∃ i j : Int, [V.int m, V.int n] = [.int i, .int j] ∧ (-(2 ^ 62) ≤ i ∧ i < 2 ^ 62 ∧ -(2 ^ 62) ≤ j ∧ j < 2 ^ 62) ∧ R i j := ⟨m, n, rfl, h, q⟩
theorem k_exlst {a : Addr} {xs : List V} {R : Addr → Prop} (h : H a = some (.lst xs)) (q : R a) : ∃ b, V.ref a = .ref b ∧ (∃ xs, SqL K H b xs) ∧ R b := ⟨a, rfl, ⟨xs, SqL.of h⟩, q⟩
theorem k_extup {a : Addr} {xs : List V} {R : Addr → Prop} (h : H a = some (.tup xs)) (q : R a) : ∃ b, V.ref a = .ref b ∧ (∃ xs, SqT K H b xs) ∧ R b := ⟨a, rfl, ⟨xs, SqT.of h⟩, q⟩
theorem for_r {g : TG} {tb : TS} {n : Nat} (Pv : Nat → L2.St → Hp → Prop) (h0 : Pv 0 σ H)
    (hs : ∀ (i : Nat) σ H, i < n → Pv i σ H → g (.int i) σ H fun σ2 H2 => tb ⟨Pv (i + 1), rt, nx, Pv (i + 1)⟩ σ2 H2) (hd : ∀ σ H, Pv n σ H → nx σ H) : ForE g tb ⟨nx, rt, bk, ct⟩ (Itr 0 n) σ H :=
  for_range (D := ⟨nx, rt, bk, ct⟩) Pv h0 (fun i σ H hi p => by
    have e := hs i σ H hi p
    have z : (0 : Int) + (i : Int) = (i : Int) := Int.zero_add _
    rw [z]
    exact e) hd
theorem for_rl {g : TG} {tb : TS} {n : Nat} {lo : Int} (Pv : Nat → L2.St → Hp → Prop) (h0 : Pv 0 σ H)
    (hs : ∀ (i : Nat) σ H, i < n → Pv i σ H → g (.int (lo + i)) σ H fun σ2 H2 => tb ⟨Pv (i + 1), rt, nx, Pv (i + 1)⟩ σ2 H2) (hd : ∀ σ H, Pv n σ H → nx σ H) : ForE g tb ⟨nx, rt, bk, ct⟩ (Itr lo n) σ H :=
  for_range (D := ⟨nx, rt, bk, ct⟩) Pv h0 hs hd
theorem for_l {g : TG} {tb : TS} {p : Addr} (xs : List V) (Pv : Nat → L2.St → Hp → Prop) (h0 : Pv 0 σ H) (hl : ∀ i σ H, i ≤ xs.length → Pv i σ H → SqL K H p xs)
    (hs : ∀ (i : Nat) x σ H, xs[i]? = some x → Pv i σ H → g x σ H fun σ2 H2 => tb ⟨Pv (i + 1), rt, nx, Pv (i + 1)⟩ σ2 H2) (hd : ∀ σ H, Pv xs.length σ H → nx σ H) : ForE g tb ⟨nx, rt, bk, ct⟩ (Itl K p) σ H :=
  for_list (D := ⟨nx, rt, bk, ct⟩) Pv h0 hl hs hd
theorem for_t {g : TG} {tb : TS} {p : Addr} (xs : List V) (Pv : Nat → L2.St → Hp → Prop) (h0 : Pv 0 σ H) (hl : ∀ i σ H, i ≤ xs.length → Pv i σ H → SqT K H p xs)
    (hs : ∀ (i : Nat) x σ H, xs[i]? = some x → Pv i σ H → g x σ H fun σ2 H2 => tb ⟨Pv (i + 1), rt, nx, Pv (i + 1)⟩ σ2 H2) (hd : ∀ σ H, Pv xs.length σ H → nx σ H) : ForE g tb ⟨nx, rt, bk, ct⟩ (Itt K p) σ H :=
  for_tup (D := ⟨nx, rt, bk, ct⟩) Pv h0 hl hs hd
/-- a comprehension over J, its list at L -/
def LcE (g : TG) (tt : TT) (te : TE) (vs : List Nat) (J : It) (σ : L2.St) (L : Addr) (H1 : Hp) (Qd : Hp → Prop) : Prop := ∃ W : Nat → Nat → Hp → Prop, (∃ m, W 0 m (upd H1 L (.lst []))) ∧ ∀ i m H, W i m H →
  (J.stop i H ∧ Qd H) ∨ (J.go i H ∧ ∃ Nx : Hp → Prop, (∀ H', Nx H' → ∃ m', m' < m ∧ W (i + 1) m' H') ∧ ∀ x H', J.yld i H x H' → g x (wipe σ vs) H' fun σ2 H2 => wipe σ2 vs = wipe σ vs ∧ tt σ2 H2 fun b H3 =>
    if b = true then te σ2 H3 fun y H4 => ∃ acc, H4 L = some (.lst acc) ∧ acc.length < sizeLine ∧ Nx (upd H4 L (.lst (acc ++ [y]))) else Nx H3)
theorem k_lc {wi : TI} {g : TG} {tt : TT} {te : TE} {vs : List Nat} {Q : VK} (h : wi σ H fun J H1 => ∀ L, Fresh H1 L → LcE g tt te vs J σ L H1 (Q (.ref L))) : tLc wi g tt te vs σ H Q := h
theorem k_yes {Q : Bool → Hp → Prop} (h : Q true H) : tYes σ H Q := h
theorem lc_r {g : TG} {tt : TT} {vs : List Nat} {n : Nat} {L : Addr} {Qd : Hp → Prop} (Pv : Nat → Hp → Prop) (h0 : Pv 0 (upd H L (.lst [])))
    (hs : ∀ (i : Nat) H, i < n → Pv i H → g (.int i) (wipe σ vs) H fun σ2 H2 => wipe σ2 vs = wipe σ vs ∧ tt σ2 H2 fun b H3 =>
      if b = true then te σ2 H3 fun y H4 => ∃ acc, H4 L = some (.lst acc) ∧ acc.length < sizeLine ∧ Pv (i + 1) (upd H4 L (.lst (acc ++ [y]))) else Pv (i + 1) H3) (hd : ∀ H, Pv n H → Qd H) : LcE g tt te vs (Itr 0 n) σ L H Qd :=
  lc_range Pv h0 (fun i H hi p => by
    have e := hs i H hi p
    have z : (0 : Int) + (i : Int) = (i : Int) := Int.zero_add _
    rw [z]
    exact e) hd
theorem lc_l {g : TG} {tt : TT} {vs : List Nat} {p : Addr} {L : Addr} {Qd : Hp → Prop} (xs : List V) (Pv : Nat → Hp → Prop) (h0 : Pv 0 (upd H L (.lst []))) (hl : ∀ i H, i ≤ xs.length → Pv i H → SqL K H p xs)
    (hs : ∀ (i : Nat) x H, xs[i]? = some x → Pv i H → g x (wipe σ vs) H fun σ2 H2 => wipe σ2 vs = wipe σ vs ∧ tt σ2 H2 fun b H3 =>
      if b = true then te σ2 H3 fun y H4 => ∃ acc, H4 L = some (.lst acc) ∧ acc.length < sizeLine ∧ Pv (i + 1) (upd H4 L (.lst (acc ++ [y]))) else Pv (i + 1) H3) (hd : ∀ H, Pv xs.length H → Qd H) : LcE g tt te vs (Itl K p) σ L H Qd :=
  lc_list (K := K) Pv h0 hl hs hd
/-- the end of a comprehension's turn -/
theorem lc_put {L : Addr} {acc : List V} {y : V} {N : Hp → Prop} (h : H L = some (.lst acc)) (hl : acc.length < 1000) (q : N (upd H L (.lst (acc ++ [y])))) : ∃ acc, H L = some (.lst acc) ∧ acc.length < sizeLine ∧ N (upd H L (.lst (acc ++ [y]))) := ⟨acc, h, small1000 (Nat.le_of_lt hl), q⟩
theorem k_meth {m : Str} {Q : VK} (h : ta σ H fun x H1 => TMeth C m x H1 (tA σ H1 fun vs H2 => sp (x :: (vs ++ dvs)) H2 Q E)) : tMeth C m sp dvs E ta tA σ H Q := h
theorem k_make {Q : VK} (h : tA σ H fun vs H1 => ∀ x dx, Fresh H1 x → Fresh H1 dx → dx ≠ x → sp (.ref x :: (vs ++ dvs)) (upd (upd H1 dx (.own x)) x (.ins C dx [])) (fun v H2 => v = .non ∧ Q (.ref x) H2) E) : tMake C sp dvs E tA σ H Q := h
theorem k_disp {trs : List (TE × TE)} {Q : VK} (h : ∀ p, Fresh H p → tPairs trs σ (upd H p (.dK [])) fun ps H2 => H2 p = some (.dK []) ∧ ∃ kvs : List (Key × V), ps = kvs.map (fun kv => (kV kv.1, kv.2)) ∧ kvs.length ≤ 15 ∧ Q (.ref p) (upd H2 p (.dK (mergeK [] kvs)))) : tDisp trs σ H Q := h
theorem kr_meth {r dx : Addr} {fs : List (Str × V)} {m : Str} {R : Prop} (h : H r = some (.ins C dx fs)) (l : fs.lookup m = none) (q : R) : TMeth C m (.ref r) H R := ⟨r, dx, fs, rfl, h, l, q⟩
theorem kr_fld {r C dx : Addr} {fs : List (Str × V)} {f : Str} {v : V} {Q : VK} (h : H r = some (.ins C dx fs)) (c : Cls K C) (n : NoAttr K C f) (l : fs.lookup f = some v) (q : Q v H) : TFld K f (.ref r) H Q := ⟨r, C, dx, fs, v, rfl, h, c, n, l, q⟩
theorem kr_sfld {r C dx : Addr} {fs fs' : List (Str × V)} {f : Str} {y : V} {R : Hp → Prop} (h : H r = some (.ins C dx fs)) (c : Cls K C) (n : NoAttr K C f) (l : fs.length < 1000) (e : putF f y fs = fs') (q : R (upd H r (.ins C dx fs'))) : SFld K f y (.ref r) H R := by
  subst e; exact ⟨r, C, dx, fs, rfl, h, c, n, l, q⟩
theorem kr_prop {r dx : Addr} {fs : List (Str × V)} {Q : VK} (h : H r = some (.ins C dx fs)) (q : sp (.ref r :: dvs) H Q E) : TProp C sp dvs E (.ref r) H Q := ⟨r, dx, fs, rfl, h, q⟩
theorem k_tyL {l : Addr} {xs : List V} {R : Prop} (h : H l = some (.lst xs)) (q : R) : tyV K "list" (.ref l) H ∧ R := ⟨.inl ⟨rfl, xs, SqL.of h⟩, q⟩
theorem kr_inI {p : Addr} {xs : List V} {x : V} {b : Bool} {Q : VK} (h : H p = some (.lst xs)) (f : flatV x = true) (g : xs.all flatV = true) (e : inV x xs = b) (q : Q (.bl b) H) : rInn K x (.ref p) H Q := by
  subst e; exact .inl ⟨p, xs, rfl, .inl (SqL.of h), f, g, q⟩
theorem kr_inT {p : Addr} {xs : List V} {x : V} {b : Bool} {Q : VK} (h : H p = some (.tup xs)) (f : flatV x = true) (g : xs.all flatV = true) (e : inV x xs = b) (q : Q (.bl b) H) : rInn K x (.ref p) H Q := by
  subst e; exact .inl ⟨p, xs, rfl, .inr (SqT.of h), f, g, q⟩
theorem kr_inD {d : Addr} {kvs : List (Key × V)} {s : Str} {b : Bool} {Q : VK} (h : H d = some (.dK kvs)) (e : (valV kvs (Sum.inr s)).isSome = b) (q : Q (.bl b) H) : rInn K (.str s) (.ref d) H Q := by
  subst e; exact .inr ⟨d, _, rfl, DGet.k (k := Sum.inr s) h, q⟩
theorem kr_notInI {p : Addr} {xs : List V} {x : V} {b : Bool} {Q : VK} (h : H p = some (.lst xs)) (f : flatV x = true) (g : xs.all flatV = true) (e : inV x xs = b) (q : Q (.bl (!b)) H) : rNotInn K x (.ref p) H Q := by
  subst e; exact .inl ⟨p, xs, rfl, .inl (SqL.of h), f, g, q⟩
theorem kr_notInT {p : Addr} {xs : List V} {x : V} {b : Bool} {Q : VK} (h : H p = some (.tup xs)) (f : flatV x = true) (g : xs.all flatV = true) (e : inV x xs = b) (q : Q (.bl (!b)) H) : rNotInn K x (.ref p) H Q := by
  subst e; exact .inl ⟨p, xs, rfl, .inr (SqT.of h), f, g, q⟩
theorem kr_notInD {d : Addr} {kvs : List (Key × V)} {s : Str} {b : Bool} {Q : VK} (h : H d = some (.dK kvs)) (e : (valV kvs (Sum.inr s)).isSome = b) (q : Q (.bl (!b)) H) : rNotInn K (.str s) (.ref d) H Q := by
  subst e; exact .inr ⟨d, _, rfl, DGet.k (k := Sum.inr s) h, q⟩
theorem kr_slL {p : Addr} {xs : List V} {lo hi : Option Int} {Q : VK} (h : H p = some (.lst xs)) (q : ∀ l, Fresh H l → Q (.ref l) (upd H l (.lst (cutV xs lo hi)))) : rSlL K (.ref p) lo hi H Q := ⟨p, xs, rfl, SqL.of h, q⟩
theorem kr_append {l : Addr} {xs : List V} {y : V} {Q : VK} (h : H l = some (.lst xs)) (hl : xs.length < sizeLine) (q : Q .non (upd H l (.lst (xs ++ [y])))) : rAppend (.ref l) [y] H Q := ⟨l, xs, y, rfl, rfl, h, hl, q⟩
theorem kr_pop0 {l : Addr} {xs : List V} {x : V} {Q : VK} (h : H l = some (.lst (x :: xs))) (q : Q x (upd H l (.lst xs))) : rPopAt (.ref l) [.int 0] H Q :=
  ⟨l, x :: xs, 0, 0, x, rfl, rfl, h, by decide, by decide, by simp [seqIndex?], rfl, q⟩
theorem k_pairs_nil {Q : List (V × V) → Hp → Prop} (h : Q [] H) : tPairs [] σ H Q := h
theorem k_pairs {tk tv : TE} {r : List (TE × TE)} {Q : List (V × V) → Hp → Prop} (h : tk σ H fun x H1 => tv σ H1 fun y H2 => tPairs r σ H2 fun ps H3 => Q ((x, y) :: ps) H3) : tPairs ((tk, tv) :: r) σ H Q := h
-- operators
theorem kr_I0 {g : Int → Int → V} {i j : Int} {Q : VK} (h : Q (g i j) H) : rI0 g (.int i) (.int j) H Q := ⟨i, j, rfl, rfl, h⟩
theorem kr_I {Co : Int → Int → Prop} {g : Int → Int → V} {i j : Int} {Q : VK} (hc : Co i j) (h : Q (g i j) H) : rI Co g (.int i) (.int j) H Q := ⟨i, j, rfl, rfl, hc, h⟩
theorem kr_U {g : Int → V} {i : Int} {Q : VK} (h : Q (g i) H) : rU g (.int i) H Q := ⟨i, rfl, h⟩
theorem kr_plus {i j : Int} {Q : VK} (h : Q (.int (i + j)) H) : rPlus (.int i) (.int j) H Q := .inl ⟨i, j, rfl, rfl, h⟩
theorem kr_plusS {i j : Str} {Q : VK} (hl : i.length + j.length ≤ sizeLine) (h : Q (.str (i ++ j)) H) : rPlus (.str i) (.str j) H Q := .inr (.inl ⟨i, j, rfl, rfl, hl, h⟩)
theorem kr_plusL {l q : Addr} {xs zs : List V} {Q : VK} (h1 : H l = some (.lst xs)) (h2 : H q = some (.lst zs)) (hl : xs.length + zs.length ≤ sizeLine) (h : ∀ p, Fresh H p → Q (.ref p) (upd H p (.lst (xs ++ zs)))) : rPlus (.ref l) (.ref q) H Q :=
  .inr (.inr ⟨l, q, xs, zs, rfl, rfl, h1, h2, hl, h⟩)
theorem kr_times {i j : Int} {Q : VK} (hc : CMul i j) (h : Q (.int (i * j)) H) : rTimes (.int i) (.int j) H Q := .inl ⟨i, j, rfl, rfl, hc, h⟩
theorem kr_eq {x y : V} {Q : VK} (hc : scal x y = true) (h : Q (.bl (decide (x = y))) H) : rEqq K x y H Q := .inl ⟨hc, h⟩
theorem kr_ne {x y : V} {Q : VK} (hc : scal x y = true) (h : Q (.bl (!decide (x = y))) H) : rNeq K x y H Q := .inl ⟨hc, h⟩
theorem kr_ixL {p : Addr} {xs : List V} {i : Int} {v : V} {Q : VK} (h : H p = some (.lst xs)) (ha : atI xs i = some v) (q : Q v H) : rIxx K (.ref p) (.int i) H Q := .inl (.inl ⟨p, xs, i, v, rfl, rfl, SqL.of h, ha, q⟩)
theorem kr_ixT {p : Addr} {xs : List V} {i : Int} {v : V} {Q : VK} (h : H p = some (.tup xs)) (ha : atI xs i = some v) (q : Q v H) : rIxx K (.ref p) (.int i) H Q := .inl (.inr (.inl ⟨p, xs, i, v, rfl, rfl, SqT.of h, ha, q⟩))
theorem kr_ixS {z : Str} {i : Int} {c : Nat} {Q : VK} (hz : z.length ≤ sizeLine) (ha : atI z.cps.toList i = some c) (q : Q (.str ⟨#[c]⟩) H) : rIxx K (.str z) (.int i) H Q := .inl (.inr (.inr ⟨z, i, c, rfl, rfl, hz, ha, q⟩))
theorem kr_ixD {d : Addr} {kvs : List (Key × V)} {s : Str} {v : V} {Q : VK} (h : H d = some (.dK kvs)) (ha : valV kvs (Sum.inr s) = some v) (q : Q v H) : rIxx K (.ref d) (.str s) H Q :=
  .inr ⟨d, v, rfl, ha ▸ DGet.k (k := Sum.inr s) h, q⟩
theorem kr_ixDi {d : Addr} {kvs : List (Key × V)} {s : Int} {v : V} {Q : VK} (h : H d = some (.dK kvs)) (ha : valV kvs (Sum.inl s) = some v) (q : Q v H) : rIxx K (.ref d) (.int s) H Q :=
  .inr ⟨d, v, rfl, ha ▸ DGet.k (k := Sum.inl s) h, q⟩
theorem kr_setL {p : Addr} {xs xs' : List V} {i : Int} {j : Nat} {v : V} {Q : Hp → Prop} (h : H p = some (.lst xs)) (ha : ixN xs.length i = some j) (e : xs.set j v = xs') (q : Q (upd H p (.lst xs'))) : rSett (.ref p) (.int i) v H Q := by subst e; exact .inl ⟨p, xs, i, j, rfl, rfl, h, ha, q⟩
theorem kr_setD {d : Addr} {kvs kvs' : List (Key × V)} {s : Str} {v : V} {Q : Hp → Prop} (h : H d = some (.dK kvs)) (hl : kvs.length < sizeLine) (e : putK kvs (Sum.inr s) v = kvs') (q : Q (upd H d (.dK kvs'))) : rSett (.ref d) (.str s) v H Q := by
  subst e; exact .inr ⟨d, _, rfl, DPut.k (k := Sum.inr s) h hl, q⟩
theorem kr_int {i : Int} {Q : VK} (q : Q (.int i) H) : rInt [.int i] H Q := ⟨i, rfl, q⟩
theorem kr_listL {p : Addr} {xs : List V} {Q : VK} (h : H p = some (.lst xs)) (q : ∀ l, Fresh H l → Q (.ref l) (upd H l (.lst xs))) : rListOf K [.ref p] H Q := ⟨p, xs, rfl, .inl (SqL.of h), q⟩
theorem kr_listT {p : Addr} {xs : List V} {Q : VK} (h : H p = some (.tup xs)) (q : ∀ l, Fresh H l → Q (.ref l) (upd H l (.lst xs))) : rListOf K [.ref p] H Q := ⟨p, xs, rfl, .inr (SqT.of h), q⟩
theorem kr_tupL {p : Addr} {xs : List V} {Q : VK} (h : H p = some (.lst xs)) (q : ∀ l, Fresh H l → Q (.ref l) (upd H l (.tup xs))) : rTupOf K [.ref p] H Q := ⟨p, xs, rfl, .inl ⟨SqL.of h, q⟩⟩
theorem kr_tupT {p : Addr} {xs : List V} {Q : VK} (h : H p = some (.tup xs)) (q : Q (.ref p) H) : rTupOf K [.ref p] H Q := ⟨p, xs, rfl, .inr ⟨SqT.of h, q⟩⟩
theorem kr_lenL {p : Addr} {xs : List V} {Q : VK} (h : H p = some (.lst xs)) (q : Q (.int xs.length) H) : rLen K [.ref p] H Q := .inl ⟨p, xs, rfl, .inl (SqL.of h), q⟩
theorem kr_lenT {p : Addr} {xs : List V} {Q : VK} (h : H p = some (.tup xs)) (q : Q (.int xs.length) H) : rLen K [.ref p] H Q := .inl ⟨p, xs, rfl, .inr (SqT.of h), q⟩
theorem kr_lenS {z : Str} {Q : VK} (h : z.length ≤ sizeLine) (q : Q (.int z.length) H) : rLen K [.str z] H Q := .inr ⟨z, rfl, h, q⟩
theorem kr_disp {p : Addr} {ps : List (V × V)} {kvs kvs' : List (Key × V)} {Q : VK} (h : H p = some (.dK [])) (e : ps = kvs.map (fun kv => (kV kv.1, kv.2))) (hl : kvs.length ≤ 15) (m : mergeK [] kvs = kvs') (q : Q (.ref p) (upd H p (.dK kvs'))) :
    H p = some (.dK []) ∧ ∃ kvs : List (Key × V), ps = kvs.map (fun kv => (kV kv.1, kv.2)) ∧ kvs.length ≤ 15 ∧ Q (.ref p) (upd H p (.dK (mergeK [] kvs))) := by subst m; exact ⟨h, kvs, e, hl, q⟩
/-- what holds behind a statement, once for all its ways -/
theorem k_cut {R : L2.St → Hp → Prop} (h1 : ∀ B : L2.St → Hp → Prop, (∀ σ' H', R σ' H' → B σ' H') → a ⟨B, rt, bk, ct⟩ σ H) (h2 : ∀ σ' H', R σ' H' → b ⟨nx, rt, bk, ct⟩ σ' H') : tSeq a b ⟨nx, rt, bk, ct⟩ σ H := h1 _ h2
/-- .. behind a test -/
theorem k_cutI {R : Bool → Hp → Prop} (h1 : ∀ B : Bool → Hp → Prop, (∀ c H', R c H' → B c H') → t σ H B) (h2 : ∀ c H', R c H' → if c = true then a D σ H' else b D σ H') : tIfS t a b D σ H := h1 _ h2
/-- .. behind an expression -/
theorem k_cutE {Q : VK} (R : VK) (h1 : ∀ B : VK, (∀ v H', R v H' → B v H') → te σ H B) (h2 : ∀ v H', R v H' → Q v H') : te σ H Q := h1 _ h2
theorem k_size {xs : List V} {R : Prop} (h : Nat.ble xs.length 1000 = true) (q : R) : xs.length ≤ sizeLine ∧ R := ⟨Nat.le_of_lt (small1000 (Nat.le_of_ble_eq_true h)), q⟩
/-- forgetting what the state is made of -/
theorem k_gen {t : TS} {R : L2.St → Hp → Prop} (h : R σ H) (k : ∀ σ' H', R σ' H' → t D σ' H') : t D σ H := k σ H h
theorem k_wipe {a b : L2.St} {vs : List Nat} {R : Prop} (e : wipe a vs = wipe b vs) (q : R) : wipe a vs = wipe b vs ∧ R := ⟨e, q⟩
theorem k_ite {c : Bool} {A B : Prop} (h1 : c = true → A) (h2 : c = false → B) : if c = true then A else B := by
  cases c with
  | true => rw [if_pos rfl]; exact h1 rfl
  | false => rw [if_neg (by decide)]; exact h2 rfl
theorem k_iteT {c : Bool} {A B : Prop} (h : c = true) (k : A) : if c = true then A else B := by rw [if_pos h]; exact k
theorem k_iteF {c : Bool} {A B : Prop} (h : c = false) (k : B) : if c = true then A else B := by rw [h, if_neg (by decide)]; exact k
end
theorem start_cons {n : Str} {N : List Str} {v : V} {vs : List V} : L2.start (n :: N) (v :: vs) = some v :: L2.start N vs := by simp [L2.start]
theorem start_none {n : Str} {N : List Str} : L2.start (n :: N) [] = none :: L2.start N [] := by simp [L2.start, List.replicate_succ]
theorem start_nil : L2.start [] [] = [] := rfl
/-! ## heaps -/
/-- what is tracked is kept, but for the objects at S -/
def Keep (S : List Addr) (H H' : Hp) : Prop := ∀ b o, b ∉ S → H b = some o → H' b = some o
theorem Keep.refl {S : List Addr} (H : Hp) : Keep S H H := fun _ _ _ h => h
theorem Keep.trans {S : List Addr} {H H1 H2 : Hp} (a : Keep S H H1) (b : Keep S H1 H2) : Keep S H H2 := fun c o n h => b c o n (a c o n h)
theorem Keep.mono {S S' : List Addr} {H H' : Hp} (a : Keep S H H') (h : ∀ b, b ∈ S → b ∈ S') : Keep S' H H' := fun c o n e => a c o (fun z => n (h c z)) e
theorem Keep.same {S : List Addr} {H H' : Hp} (a : Keep [] H H') : Keep S H H' := fun c o _ e => a c o (by simp) e
theorem Keep.at {S : List Addr} {H H' : Hp} {b : Addr} {o : HO} (k : Keep S H H') (n : b ∉ S) (h : H b = some o) : H' b = some o := k b o n h
theorem get_new {H : Hp} {r p : Addr} {o u : HO} (hp : Fresh H p) (h : H r = some o) : upd H p u r = some o := by rw [upd_ne (ne_of_none h hp)]; exact h
theorem get_ne {H : Hp} {r p : Addr} {o u : HO} (hn : r ≠ p) (h : H r = some o) : upd H p u r = some o := by rw [upd_ne hn]; exact h
theorem Keep.new {S : List Addr} {H H1 : Hp} {p : Addr} {o : HO} (k : Keep S H H1) (hp : Fresh H1 p) : Keep S H (upd H1 p o) := fun c u n e => get_new hp (k c u n e)
theorem Keep.mut {S : List Addr} {H H1 : Hp} {p : Addr} {o : HO} (k : Keep S H H1) (hp : p ∈ S) : Keep S H (upd H1 p o) := fun c u n e => get_ne (fun z => n (z ▸ hp)) (k c u n e)
/-- an object that was not tracked at H may change -/
theorem Keep.mutN {S : List Addr} {H H1 : Hp} {p : Addr} {o : HO} (k : Keep S H H1) (hp : Fresh H p) : Keep S H (upd H1 p o) := fun c u n e => get_ne (ne_of_none e hp) (k c u n e)
theorem Keep.free' {H H' : Hp} (e : Keep [] H H') {l : Addr} (h : Fresh H' l) : Fresh H l := by
  show H l = Option.none
  have h : H' l = Option.none := h
  cases q : H l with
  | none => rfl
  | some o => rw [e l o (by simp) q] at h; cases h
theorem Keep.free {S : List Addr} {H H' : Hp} (e : Keep S H H') {l : Addr} (h : H' l = Option.none) (hs : ∀ b ∈ S, ∃ o, H' b = some o) : H l = Option.none := by
  cases q : H l with
  | none => rfl
  | some o =>
    by_cases m : l ∈ S
    · obtain ⟨o', e'⟩ := hs l m
      rw [h] at e'; cases e'
    · rw [e l o m q] at h; cases h
theorem upd_none {H : Hp} {p l : Addr} {o : HO} (h : Fresh (upd H p o) l) : l ≠ p ∧ Fresh H l := by
  unfold Fresh upd at h
  by_cases e : l = p
  · rw [if_pos e] at h; cases h
  · rw [if_neg e] at h; exact ⟨e, h⟩
theorem Keep.step {S S' : List Addr} {H H1 H2 : Hp} (k : Keep S' H1 H2) (h : ∀ b, b ∈ S' → b ∈ S) (k0 : Keep S H H1) : Keep S H H2 := k0.trans (k.mono h)
/-- behind a change of objects that are new -/
theorem Keep.stepN {S S' : List Addr} {H H1 H2 : Hp} (k : Keep S' H1 H2) (h : ∀ b, b ∈ S' → b ∈ S ∨ Fresh H b) (k0 : Keep S H H1) : Keep S H H2 := fun c o n e => k.at (fun z => (h c z).elim n fun q => by have q : H c = Option.none := q; rw [q] at e; cases e) (k0 c o n e)
theorem Keep.none {S : List Addr} {H H1 : Hp} {l : Addr} (k : Keep S H H1) (h : Fresh H1 l) (n : l ∉ S) : Fresh H l := by
  show H l = Option.none
  have h : H1 l = Option.none := h
  cases q : H l with
  | none => rfl
  | some o => rw [k l o n q] at h; cases h
theorem nin0 {b : Addr} : b ∉ ([] : List Addr) := by simp
theorem nin1 {b p : Addr} (h : b ≠ p) : b ∉ [p] := by simpa using h
theorem ninc {b p : Addr} {S : List Addr} (h : b ≠ p) (h2 : b ∉ S) : b ∉ p :: S := by simp [h, h2]
/-- something is tracked there -/
def Tr (H : Hp) (p : Addr) : Prop := ∃ o, H p = some o
theorem Tr.of {H : Hp} {p : Addr} {o : HO} (h : H p = some o) : Tr H p := ⟨o, h⟩
theorem Tr.same {H : Hp} {p : Addr} {o : HO} : Tr (upd H p o) p := ⟨o, upd_same⟩
theorem Tr.up {H : Hp} {p r : Addr} {o : HO} (h : Tr H r) : Tr (upd H p o) r := by
  obtain ⟨u, h⟩ := h
  by_cases e : r = p
  · subst e; exact Tr.same
  · exact ⟨u, get_ne e h⟩
theorem Tr.keep {S : List Addr} {H H' : Hp} {r : Addr} (k : Keep S H H') (n : r ∉ S) (h : Tr H r) : Tr H' r := let ⟨o, e⟩ := h; ⟨o, k.at n e⟩
theorem ne_new {H : Hp} {r p : Addr} (hp : Fresh H p) (h : Tr H r) : r ≠ p := let ⟨_, e⟩ := h; ne_of_none e hp
theorem ne_new' {H : Hp} {r p : Addr} (hp : Fresh H p) (h : Tr H r) : p ≠ r := (ne_new hp h).symm
end Cf

namespace Cf
open PySem L2 PySem.Spec PyProof.Rows
/-! ## draws -/
def spMixed : Sp := fun vs H Q _ => ∃ (c t n : Int), vs = [.int c, .int t, .int n] ∧ 0 < n ∧ ∀ d, 0 ≤ d → d < n → Q (.int d) H
/-- the state of a law's draws: the list at p, the script's copy at q -/
structure StAt (H : Hp) (p q : Addr) : Prop where
  ne : q ≠ p
  at_ : ∃ (ns : List Int) (i b c m t : Int), H p = some (.lst [.ref q, .int i, .int b, .int c, .int m, .int t]) ∧ H q = some (.lst (ns.map V.int)) ∧ 0 ≤ i
def spDraw : Sp := fun vs H Q _ => ∃ (p q : Addr) (n : Int), vs = [.ref p, .int n] ∧ StAt H p q ∧ 0 < n ∧ n.natAbs.log2 < 9000 ∧
  ∀ d H', 0 ≤ d → d < n → StAt H' p q → Keep [p] H H' → Q (.int d) H'
section
variable {H H' : Hp} {p q : Addr} {S : List Addr} {Q : VK} {E : XK} {n c t : Int}
theorem StAt.keep (h : StAt H p q) (k : Keep S H H') (hp : p ∉ S) (hq : q ∉ S) : StAt H' p q := by
  obtain ⟨ne, ns, i, b, c, m, t, h1, h2, h3⟩ := h
  exact ⟨ne, ns, i, b, c, m, t, k.at hp h1, k.at hq h2, h3⟩
theorem StAt.new {r : Addr} {o : HO} (h : StAt H p q) (hr : Fresh H r) : StAt (upd H r o) p q := h.keep (S := []) ((Keep.refl H).new hr) nin0 nin0
theorem StAt.mut {r : Addr} {o : HO} (h : StAt H p q) (h1 : r ≠ p) (h2 : r ≠ q) : StAt (upd H r o) p q := h.keep (S := [r]) ((Keep.refl H).mut (by simp)) (nin1 h1.symm) (nin1 h2.symm)
theorem StAt.p_some (h : StAt H p q) : ∃ o, H p = some o := let ⟨_, _, _, _, _, _, h, _, _⟩ := h.at_; ⟨_, h⟩
theorem StAt.q_some (h : StAt H p q) : ∃ o, H q = some o := let ⟨_, _, _, _, _, _, _, h, _⟩ := h.at_; ⟨_, h⟩
theorem StAt.tp (h : StAt H p q) : Tr H p := h.p_some
theorem StAt.tq (h : StAt H p q) : Tr H q := h.q_some
theorem StAt.p_ne {r : Addr} (h : StAt H p q) (hr : Fresh H r) : p ≠ r := let ⟨_, e⟩ := h.p_some; ne_of_none e hr
theorem StAt.q_ne {r : Addr} (h : StAt H p q) (hr : Fresh H r) : q ≠ r := let ⟨_, e⟩ := h.q_some; ne_of_none e hr
theorem use_mixed (h0 : 0 < n) (k : ∀ d, 0 ≤ d → d < n → Q (.int d) H) : spMixed ([.int c, .int t, .int n] ++ []) H Q E := ⟨c, t, n, rfl, h0, k⟩
theorem use_draw (h : StAt H p q) (h0 : 0 < n) (h1 : n.natAbs.log2 < 9000) (k : ∀ d H', 0 ≤ d → d < n → StAt H' p q → Keep [p] H H' → Q (.int d) H') : spDraw ([.ref p, .int n] ++ []) H Q E := ⟨p, q, n, rfl, h, h0, h1, k⟩
end
theorem atI_zero {α : Type} {x : α} {xs : List α} : atI (x :: xs) 0 = some x := atI_nat (j := 0) (xs := x :: xs) rfl
theorem atI_lt {α : Type} {xs : List α} {i : Int} (h0 : 0 ≤ i) (h : i < xs.length) : ∃ x, x ∈ xs ∧ atI xs i = some x := by
  have hk : i.toNat < xs.length := by omega
  have ek : i = ((i.toNat : Nat) : Int) := by omega
  refine ⟨xs[i.toNat], List.getElem_mem hk, ?_⟩
  have e := atI_nat (List.getElem?_eq_getElem hk)
  rw [← ek] at e
  exact e
theorem atI_ints {ns : List Int} {i : Int} (h0 : 0 ≤ i) (h : i < ns.length) : ∃ x, x ∈ ns ∧ atI (ns.map V.int) i = some (.int x) := by
  obtain ⟨v, hv, e⟩ := atI_lt (xs := ns.map V.int) h0 (by simpa using h)
  obtain ⟨x, hx, rfl⟩ := List.mem_map.mp hv
  exact ⟨x, hx, e⟩
def spStart (K : PySem.W.Frag) : Sp := fun vs H Q _ => ∃ (a : Addr) (ns : List Int), vs = [.ref a] ∧ SqL K H a (ns.map V.int) ∧ ∀ p q H', Fresh H p → Fresh H q → StAt H' p q → Keep [] H H' → Q (.ref p) H'
def Small (s : Str) : Prop := s.length ≤ 8 ∧ 1 ≤ s.length ∧ ∀ c ∈ s.cps.toList, 97 ≤ c ∧ c ≤ 122
def spWord : Sp := fun vs H Q _ => ∃ (p q : Addr), vs = [.ref p] ∧ StAt H p q ∧ ∀ s H', Small s → StAt H' p q → Keep [p] H H' → Q (.str s) H'
abbrev abc : Str := Str.ofString "abcdefghijklmnopqrstuvwxyz"
theorem abc_list : abc.cps.toList = (List.range 26).map (97 + ·) := by decide +kernel
theorem abc_len : abc.length ≤ sizeLine := by decide +kernel
theorem abc_at {d : Int} (h0 : 0 ≤ d) (h : d < 26) : ∃ c, (97 ≤ c ∧ c ≤ 122) ∧ atI abc.cps.toList d = some c := by
  obtain ⟨c, hc, e⟩ := atI_lt (xs := abc.cps.toList) h0 (by rw [abc_list]; simpa using h)
  refine ⟨c, ?_, e⟩
  rw [abc_list] at hc
  obtain ⟨k, hk, rfl⟩ := List.mem_map.mp hc
  have := List.mem_range.mp hk
  omega
theorem str_app (x y : Str) : (x ++ y).cps.toList = x.cps.toList ++ y.cps.toList := by
  show (x.cps ++ y.cps).toList = _
  simp
theorem str_len (x : Str) : x.length = x.cps.toList.length := by simp [Str.length]
theorem app_len (x y : Str) : (x ++ y).length = x.length + y.length := by rw [str_len, str_app, List.length_append, ← str_len, ← str_len]
theorem one_len (c : Nat) : (⟨#[c]⟩ : Str).length = 1 := rfl
theorem size_ok {n : Nat} (h : n ≤ 1000) : n ≤ sizeLine := Nat.le_of_lt (small1000 h)
theorem log_ok {n : Int} (h : n.natAbs < 2 ^ 64) : n.natAbs.log2 < 9000 := Nat.lt_of_lt_of_le (PySem.Flt.log2_lt_of (by decide) h) (by decide)
theorem small_ext {z : Str} {c : Nat} (ha : ∀ x ∈ z.cps.toList, 97 ≤ x ∧ x ≤ 122) (hc : 97 ≤ c ∧ c ≤ 122) : ∀ x ∈ (z ++ (⟨#[c]⟩ : Str)).cps.toList, 97 ≤ x ∧ x ≤ 122 := by
  intro x hx
  rw [str_app] at hx
  rcases List.mem_append.mp hx with h | h
  · exact ha x h
  · have e : x = c := by simpa using h
    rw [e]
    exact hc
def spValue : Sp := fun vs H Q _ => ∃ (p q : Addr), vs = [.ref p] ∧ StAt H p q ∧ ∀ i H', StAt H' p q → Keep [p] H H' → Q (.int i) H'
theorem use_value {H : Hp} {p q : Addr} {Q : VK} {E : XK} (h : StAt H p q) (k : ∀ i H', StAt H' p q → Keep [p] H H' → Q (.int i) H') : spValue ([.ref p] ++ []) H Q E := ⟨p, q, rfl, h, k⟩
theorem use_word {H : Hp} {p q : Addr} {Q : VK} {E : XK} (h : StAt H p q) (k : ∀ s H', Small s → StAt H' p q → Keep [p] H H' → Q (.str s) H') : spWord ([.ref p] ++ []) H Q E := ⟨p, q, rfl, h, k⟩
theorem use_start {K : PySem.W.Frag} {H : Hp} {a : Addr} {ns : List Int} {Q : VK} {E : XK} (h : SqL K H a (ns.map V.int)) (k : ∀ p q H', Fresh H p → Fresh H q → StAt H' p q → Keep [] H H' → Q (.ref p) H') : spStart K ([.ref a] ++ []) H Q E := ⟨a, ns, rfl, h, k⟩
theorem cmulR {i j : Int} (h : -(2 ^ 64) < j ∧ j < 2 ^ 64) : CMul i j := .inr h
end Cf

namespace Cf
open PySem L2 PySem.Spec PyProof.Rows
/-! ## plain data -/
inductive D where
  | non
  | bl (b : Bool)
  | int (i : Int)
  | str (s : Str)
  | lst (ds : List D)
  | tup (ds : List D)
mutual
def D.depth : D → Nat
  | .lst ds => D.depths ds + 1
  | .tup ds => D.depths ds + 1
  | _ => 0
def D.depths : List D → Nat
  | [] => 0
  | d :: ds => max d.depth (D.depths ds)
end
theorem depth_mem : ∀ {ds : List D} {d : D}, d ∈ ds → d.depth ≤ D.depths ds
  | e :: r, d, h => by
    unfold D.depths
    rcases List.mem_cons.mp h with h | h
    · subst h; omega
    · have := depth_mem h; omega
mutual
/-- at v stands the datum, none of its objects at S -/
inductive Is (S : List Addr) (H : Hp) : V → D → Prop
  | non : Is S H .non .non
  | bl (b : Bool) : Is S H (.bl b) (.bl b)
  | int (i : Int) : Is S H (.int i) (.int i)
  | str (x : Str) : Is S H (.str x) (.str x)
  | lst {a : Addr} {xs : List V} {ds : List D} (h : H a = some (.lst xs)) (n : a ∉ S) (l : xs.length < 1000000) (t : IsL S H xs ds) : Is S H (.ref a) (.lst ds)
  | tup {a : Addr} {xs : List V} {ds : List D} (h : H a = some (.tup xs)) (n : a ∉ S) (l : xs.length < 1000000) (t : IsL S H xs ds) : Is S H (.ref a) (.tup ds)
inductive IsL (S : List Addr) (H : Hp) : List V → List D → Prop
  | nil : IsL S H [] []
  | cons {v : V} {vs : List V} {d : D} {ds : List D} (h : Is S H v d) (t : IsL S H vs ds) : IsL S H (v :: vs) (d :: ds)
end
mutual
theorem Is.keep {S S' : List Addr} {H H' : Hp} (k : Keep S' H H') (hs : ∀ b ∈ S', b ∈ S) : ∀ {v : V} {d : D}, Is S H v d → Is S H' v d
  | _, _, .non => .non
  | _, _, .bl b => .bl b
  | _, _, .int b => .int b
  | _, _, .str b => .str b
  | _, _, .lst h n l t => .lst (k.at (fun z => n (hs _ z)) h) n l (IsL.keep k hs t)
  | _, _, .tup h n l t => .tup (k.at (fun z => n (hs _ z)) h) n l (IsL.keep k hs t)
theorem IsL.keep {S S' : List Addr} {H H' : Hp} (k : Keep S' H H') (hs : ∀ b ∈ S', b ∈ S) : ∀ {vs : List V} {ds : List D}, IsL S H vs ds → IsL S H' vs ds
  | _, _, .nil => .nil
  | _, _, .cons h t => .cons (Is.keep k hs h) (IsL.keep k hs t)
end
mutual
theorem Is.less {S S' : List Addr} {H : Hp} (hs : ∀ b ∈ S', b ∈ S) : ∀ {v : V} {d : D}, Is S H v d → Is S' H v d
  | _, _, .non => .non
  | _, _, .bl b => .bl b
  | _, _, .int b => .int b
  | _, _, .str b => .str b
  | _, _, .lst h n l t => .lst h (fun z => n (hs _ z)) l (IsL.less hs t)
  | _, _, .tup h n l t => .tup h (fun z => n (hs _ z)) l (IsL.less hs t)
theorem IsL.less {S S' : List Addr} {H : Hp} (hs : ∀ b ∈ S', b ∈ S) : ∀ {vs : List V} {ds : List D}, IsL S H vs ds → IsL S' H vs ds
  | _, _, .nil => .nil
  | _, _, .cons h t => .cons (Is.less hs h) (IsL.less hs t)
end
theorem Is.free {S : List Addr} {H : Hp} {v : V} {d : D} (h : Is S H v d) : Is [] H v d := h.less (by simp)
theorem IsL.free {S : List Addr} {H : Hp} {v : List V} {d : List D} (h : IsL S H v d) : IsL [] H v d := h.less (by simp)
theorem Is.new {S : List Addr} {H : Hp} {v : V} {d : D} {r : Addr} {o : HO} (h : Is S H v d) (hr : Fresh H r) : Is S (upd H r o) v d := h.keep (S' := []) ((Keep.refl H).new hr) (by simp)
theorem IsL.new {S : List Addr} {H : Hp} {v : List V} {d : List D} {r : Addr} {o : HO} (h : IsL S H v d) (hr : Fresh H r) : IsL S (upd H r o) v d := h.keep (S' := []) ((Keep.refl H).new hr) (by simp)
theorem IsL.len {S : List Addr} {H : Hp} : ∀ {vs : List V} {ds : List D}, IsL S H vs ds → vs.length = ds.length
  | _, _, .nil => rfl
  | _, _, .cons _ t => by rw [List.length_cons, List.length_cons, IsL.len t]
theorem IsL.get {S : List Addr} {H : Hp} : ∀ {vs : List V} {ds : List D} {i : Nat} {v : V}, IsL S H vs ds → vs[i]? = some v → ∃ d, ds[i]? = some d ∧ Is S H v d := by
  intro vs
  induction vs with
  | nil => intro ds i v h e; simp at e
  | cons w vs ih =>
    intro ds i v h e
    cases h with
    | cons h t =>
      cases i with
      | zero => cases e; exact ⟨_, rfl, h⟩
      | succ i =>
        have z := ih t (show vs[i]? = some v from e)
        obtain ⟨d, e1, e2⟩ := z
        exact ⟨d, e1, e2⟩
theorem IsL.app {S : List Addr} {H : Hp} : ∀ {vs : List V} {ds : List D} {ws : List V} {es : List D}, IsL S H vs ds → IsL S H ws es → IsL S H (vs ++ ws) (ds ++ es)
  | _, _, _, _, .nil, h => h
  | _, _, _, _, .cons h t, k => .cons h (IsL.app t k)
theorem IsL.app_inv {S : List Addr} {H : Hp} : ∀ {ds es : List D} {vs : List V}, IsL S H vs (ds ++ es) → ∃ ys zs, vs = ys ++ zs ∧ IsL S H ys ds ∧ IsL S H zs es
  | [], _, vs, h => ⟨[], vs, rfl, .nil, h⟩
  | d :: ds, es, vs, h => by
    have h' : IsL S H vs (d :: (ds ++ es)) := h
    cases h' with
    | cons h t =>
      obtain ⟨ys, zs, e, h1, h2⟩ := IsL.app_inv t
      subst e
      rename_i hh
      exact ⟨_ :: ys, zs, rfl, .cons (by assumption) h1, h2⟩
theorem IsL.snoc_inv {S : List Addr} {H : Hp} {ds : List D} {d : D} {vs : List V} (h : IsL S H vs (ds ++ [d])) : ∃ ys y, vs = ys ++ [y] ∧ IsL S H ys ds ∧ Is S H y d := by
  obtain ⟨ys, zs, e, h1, h2⟩ := h.app_inv
  cases h2 with
  | cons h2 h3 =>
    cases h3
    exact ⟨ys, _, e, h1, h2⟩
theorem IsL.put {S : List Addr} {H : Hp} {vs : List V} {ds : List D} {v : V} {d : D} (t : IsL S H vs ds) (h : Is S H v d) : IsL S H (vs ++ [v]) (ds ++ [d]) := t.app (.cons h .nil)
/-! ## the kinds of data -/
inductive Kd where
  | non | bl | int | str | lst | tup | dic
@[reducible] def Kd.name : Kd → String
  | .non => "NoneType" | .bl => "bool" | .int => "int" | .str => "str" | .lst => "list" | .tup => "tuple" | .dic => "dict"
@[reducible] def isk : Kd → Kd → Bool
  | .non, .non => true | .bl, .bl => true | .bl, .int => true | .int, .int => true | .str, .str => true | .lst, .lst => true | .tup, .tup => true | .dic, .dic => true
  | _, _ => false
theorem kit_isk (a b : Kd) : kitB a.name b.name = some (isk a b) := by
  cases a <;> cases b <;> decide +kernel
inductive KdOf (H : Hp) : V → Kd → Prop
  | non : KdOf H .non .non
  | bl (b : Bool) : KdOf H (.bl b) .bl
  | int (b : Int) : KdOf H (.int b) .int
  | str (b : Str) : KdOf H (.str b) .str
  | lst {a : Addr} {xs : List V} (h : H a = some (.lst xs)) : KdOf H (.ref a) .lst
  | tup {a : Addr} {xs : List V} (h : H a = some (.tup xs)) : KdOf H (.ref a) .tup
  | dic {a : Addr} {xs : List (Key × V)} (h : H a = some (.dK xs)) : KdOf H (.ref a) .dic
theorem KdOf.ty {K : PySem.W.Frag} {H : Hp} {x : V} {a : Kd} (h : KdOf H x a) : TyX K H x (.type a.name) := by
  cases h with
  | non => exact .base .non
  | bl b => exact .base (.bl b)
  | int b => exact .base (.int b)
  | str b => exact .base (.str b)
  | lst h => exact .base (.lst h)
  | tup h => exact .base (.tup h)
  | dic h => exact .base (.dK h)
section
variable {K : PySem.W.Frag} {H : Hp} {x : V} {a : Kd} {Q : VK}
theorem kr_isi (b : Kd) (ty : KdOf H x a) (q : Q (.bl (isk a b)) H) : rIsi K [x, .ty b.name] H Q := ⟨x, .ty b.name, _, _, _, rfl, .ty _, ty.ty, kit_ty (kit_isk a b), q⟩
theorem kr_isi_bool (ty : KdOf H x a) (q : Q (.bl (isk a .bl)) H) : rIsi K [x, .ty "bool"] H Q := kr_isi .bl ty q
theorem kr_isi_int (ty : KdOf H x a) (q : Q (.bl (isk a .int)) H) : rIsi K [x, .ty "int"] H Q := kr_isi .int ty q
theorem kr_isi_str (ty : KdOf H x a) (q : Q (.bl (isk a .str)) H) : rIsi K [x, .ty "str"] H Q := kr_isi .str ty q
theorem kr_isi_list (ty : KdOf H x a) (q : Q (.bl (isk a .lst)) H) : rIsi K [x, .ty "list"] H Q := kr_isi .lst ty q
theorem kr_isi_tuple (ty : KdOf H x a) (q : Q (.bl (isk a .tup)) H) : rIsi K [x, .ty "tuple"] H Q := kr_isi .tup ty q
theorem kr_isi_dict (ty : KdOf H x a) (q : Q (.bl (isk a .dic)) H) : rIsi K [x, .ty "dict"] H Q := kr_isi .dic ty q
theorem kr_isN {x : V} (q : Q (.bl (decide (x = .non))) H) : rIsN x .non H Q := ⟨rfl, q⟩
theorem kr_notN {x : V} (q : Q (.bl (!decide (x = .non))) H) : rNotN x .non H Q := ⟨rfl, q⟩
end
/-! ## the law's own equality -/
def spSame (n : Nat) : Sp := fun vs H Q _ => ∃ (x y : V) (d e : D), vs = [x, y] ∧ Is [] H x d ∧ Is [] H y e ∧ d.depth < n ∧ ∀ (b : Bool) H', (b = true ↔ d = e) → Keep [] H H' → Q (.bl b) H'
theorem use_same {n : Nat} {H : Hp} {x y : V} {d e : D} {Q : VK} {E : XK} (h1 : Is [] H x d) (h2 : Is [] H y e) (h3 : d.depth < n) (k : ∀ (b : Bool) H', (b = true ↔ d = e) → Keep [] H H' → Q (.bl b) H') : spSame n ([x, y] ++ []) H Q E :=
  ⟨x, y, d, e, rfl, h1, h2, h3, k⟩
theorem same_none {P : Program} {w : World} {K : PySem.W.Frag} {mg : Str → Option Value} {base : Heap} {f : Addr} {fd : FuncData} : FnOk P w K mg base CX0 0 f fd ["here", "there"] (spSame 0) := by
  have no : ∀ vs H Q E, ¬ spSame 0 vs H Q E := fun vs H Q E h => by
    obtain ⟨_, _, _, _, _, _, _, h, _⟩ := h
    omega
  exact ⟨fun vs H Q E h => absurd h (no vs H Q E), fun A outer s H args us vs Q E _ _ _ _ h => absurd h (no vs H Q E)⟩
theorem take_eq {α : Type} {ds es : List α} {i : Nat} {d : α} (h : ds.take i = es.take i) (h1 : ds[i]? = some d) (h2 : es[i]? = some d) : ds.take (i + 1) = es.take (i + 1) := by
  rw [List.take_add_one, List.take_add_one, h, h1, h2]
theorem some_of {α : Type} {xs : List α} {i : Nat} (h : i < xs.length) : ∃ x, xs[i]? = some x := ⟨xs[i], List.getElem?_eq_getElem h⟩
theorem take_all {α : Type} {ds es : List α} (hl : ds.length = es.length) (h : ds.take ds.length = es.take ds.length) : ds = es := by
  rw [List.take_length] at h
  rw [hl, List.take_length] at h
  exact h
end Cf

namespace Cf
open PySem L2 PySem.Spec PyProof.Rows
/-! ## footprints: what may change, part by part -/
def Dj (f g : List Addr) : Prop := ∀ x, x ∈ f → x ∉ g
theorem Dj.symm {f g : List Addr} (h : Dj f g) : Dj g f := fun x h1 h2 => h x h2 h1
/-- the parts stand apart, all their objects are tracked -/
structure Wd (H : Hp) (L : List (List Addr)) : Prop where
  pw : L.Pairwise Dj
  tr : ∀ f, f ∈ L → ∀ x, x ∈ f → ∃ o, H x = some o
theorem pw_get {L : List (List Addr)} {i j : Nat} {f g : List Addr} (h : L.Pairwise Dj) (hi : L[i]? = some f) (hj : L[j]? = some g) (n : i ≠ j) : Dj f g := by
  rcases Nat.lt_or_gt_of_ne n with n | n
  · obtain ⟨a, rfl⟩ := List.getElem?_eq_some_iff.mp hi
    obtain ⟨b, rfl⟩ := List.getElem?_eq_some_iff.mp hj
    exact List.pairwise_iff_getElem.mp h i j a b n
  · obtain ⟨a, rfl⟩ := List.getElem?_eq_some_iff.mp hi
    obtain ⟨b, rfl⟩ := List.getElem?_eq_some_iff.mp hj
    exact (List.pairwise_iff_getElem.mp h j i b a n).symm
theorem Wd.dj {H : Hp} {L : List (List Addr)} (w : Wd H L) (i j : Nat) {f g : List Addr} (hi : L[i]? = some f) (hj : L[j]? = some g) (n : i ≠ j := by decide) : Dj f g := pw_get w.pw hi hj n
theorem mem_flat {L : List (List Addr)} {i : Nat} {f : List Addr} {x : Addr} (hi : L[i]? = some f) (h : x ∈ f) : x ∈ L.flatten := List.mem_flatten.mpr ⟨f, List.mem_of_getElem? hi, h⟩
/-- what is new: all that is there is known or new -/
def Grow (H : Hp) (S S' : List Addr) : Prop := ∀ x, x ∈ S' → x ∈ S ∨ Fresh H x
theorem Grow.refl {H : Hp} {S : List Addr} : Grow H S S := fun _ h => .inl h
theorem Wd.same {H H' : Hp} {L : List (List Addr)} (w : Wd H L) (k : Keep [] H H') : Wd H' L := ⟨w.pw, fun f hf x hx => let ⟨o, e⟩ := w.tr f hf x hx; ⟨o, k.at nin0 e⟩⟩
theorem Wd.set {H H' : Hp} {L : List (List Addr)} {f f' : List Addr} (w : Wd H L) (i : Nat) (hi : L[i]? = some f) (k : Keep f H H') (g : Grow H f f') (t : ∀ x, x ∈ f' → ∃ o, H' x = some o) : Wd H' (L.set i f') := by
  have hl : i < L.length := (List.getElem?_eq_some_iff.mp hi).1
  have at_ : ∀ j y, (L.set i f')[j]? = some y → (j = i ∧ y = f') ∨ (j ≠ i ∧ L[j]? = some y) := by
    intro j y h
    by_cases e : j = i
    · subst e
      rw [List.getElem?_set_self hl] at h
      exact .inl ⟨rfl, (Option.some.inj h).symm⟩
    · rw [List.getElem?_set_ne (fun z => e z.symm)] at h
      exact .inr ⟨e, h⟩
  have dj : ∀ j y, j ≠ i → L[j]? = some y → Dj f' y := by
    intro j y n h x h1 h2
    rcases g x h1 with h3 | h3
    · exact pw_get w.pw hi h (fun z => n z.symm) x h3 h2
    · obtain ⟨o, e⟩ := w.tr y (List.mem_of_getElem? h) x h2
      have h3 : H x = none := h3
      rw [h3] at e
      cases e
  refine ⟨?_, ?_⟩
  · refine List.pairwise_iff_getElem.mpr fun a b ha hb n => ?_
    have ea := at_ a _ (List.getElem?_eq_getElem ha)
    have eb := at_ b _ (List.getElem?_eq_getElem hb)
    rcases ea with ⟨e1, e2⟩ | ⟨e1, e2⟩
    · rcases eb with ⟨e3, e4⟩ | ⟨e3, e4⟩
      · omega
      · rw [e2]
        exact dj b _ e3 e4
    · rcases eb with ⟨e3, e4⟩ | ⟨e3, e4⟩
      · rw [e4]
        exact (dj a _ e1 e2).symm
      · exact pw_get w.pw e2 e4 (Nat.ne_of_lt n)
  · intro y hy x hx
    obtain ⟨j, hj⟩ := List.mem_iff_getElem?.mp hy
    rcases at_ j y hj with ⟨e1, e2⟩ | ⟨e1, e2⟩
    · subst e2
      exact t x hx
    · obtain ⟨o, e⟩ := w.tr y (List.mem_of_getElem? e2) x hx
      exact ⟨o, k.at (fun z => pw_get w.pw e2 hi e1 x hx z) e⟩
theorem grow_set {H : Hp} {L : List (List Addr)} {f f' : List Addr} {i : Nat} (hi : L[i]? = some f) (g : Grow H f f') : Grow H L.flatten (L.set i f').flatten := by
  intro x hx
  obtain ⟨y, hy, hxy⟩ := List.mem_flatten.mp hx
  obtain ⟨j, hj⟩ := List.mem_iff_getElem?.mp hy
  have hl : i < L.length := (List.getElem?_eq_some_iff.mp hi).1
  by_cases e : j = i
  · subst e
    rw [List.getElem?_set_self hl] at hj
    cases hj
    rcases g x hxy with h | h
    · exact .inl (mem_flat hi h)
    · exact .inr h
  · rw [List.getElem?_set_ne (fun z => e z.symm)] at hj
    exact .inl (mem_flat hj hxy)
mutual
/-- data stands when a part changes, and beside new parts -/
theorem Is.go {S S' F : List Addr} {H H' : Hp} (k : Keep F H H') (hf : ∀ x, x ∈ F → x ∈ S) (g : Grow H S S') : ∀ {v : V} {d : D}, Is S H v d → Is S' H' v d
  | _, _, .non => .non
  | _, _, .bl b => .bl b
  | _, _, .int b => .int b
  | _, _, .str b => .str b
  | _, _, .lst h n l t => .lst (k.at (fun z => n (hf _ z)) h) (fun z => (g _ z).elim n fun e => by have e : H _ = none := e; rw [e] at h; cases h) l (IsL.go k hf g t)
  | _, _, .tup h n l t => .tup (k.at (fun z => n (hf _ z)) h) (fun z => (g _ z).elim n fun e => by have e : H _ = none := e; rw [e] at h; cases h) l (IsL.go k hf g t)
theorem IsL.go {S S' F : List Addr} {H H' : Hp} (k : Keep F H H') (hf : ∀ x, x ∈ F → x ∈ S) (g : Grow H S S') : ∀ {vs : List V} {ds : List D}, IsL S H vs ds → IsL S' H' vs ds
  | _, _, .nil => .nil
  | _, _, .cons h t => .cons (Is.go k hf g h) (IsL.go k hf g t)
end
/-- while the state is built: the parts L, and other objects N that are no part -/
structure Bd (H : Hp) (L : List (List Addr)) (N : List Addr) : Prop where
  wd : Wd H L
  out : ∀ x, x ∈ N → x ∉ L.flatten ∧ Tr H x
theorem Bd.same {H H' : Hp} {L : List (List Addr)} {N : List Addr} (b : Bd H L N) (k : Keep [] H H') : Bd H' L N := ⟨b.wd.same k, fun x hx => ⟨(b.out x hx).1, (b.out x hx).2.keep k nin0⟩⟩
theorem Wd.fresh {H : Hp} {L : List (List Addr)} (w : Wd H L) {x : Addr} (h : Fresh H x) : x ∉ L.flatten := fun z => by
  obtain ⟨f, hf, hx⟩ := List.mem_flatten.mp z
  obtain ⟨o, e⟩ := w.tr f hf x hx
  have h : H x = none := h
  rw [h] at e
  cases e
theorem Bd.obj {H H' : Hp} {L : List (List Addr)} {N : List Addr} {x : Addr} (b : Bd H L N) (h : Fresh H x) (k : Keep [] H H') (t : Tr H' x) : Bd H' L (x :: N) := by
  have b' := b.same k
  refine ⟨b'.wd, fun y hy => ?_⟩
  rcases List.mem_cons.mp hy with e | e
  · subst e
    exact ⟨b.wd.fresh h, t⟩
  · exact b'.out y e
theorem Bd.part {H H' : Hp} {L : List (List Addr)} {N g : List Addr} (b : Bd H L N) (k : Keep [] H H') (hg : ∀ y, y ∈ g → Fresh H y ∧ Tr H' y) : Bd H' (L ++ [g]) N := by
  have b' := b.same k
  refine ⟨⟨?_, ?_⟩, ?_⟩
  · refine List.pairwise_append.mpr ⟨b.wd.pw, by simp, fun f hf g' hg' => ?_⟩
    have e : g' = g := by simpa using hg'
    subst e
    intro x hx hx'
    exact b.wd.fresh (hg x hx').1 (List.mem_flatten.mpr ⟨f, hf, hx⟩)
  · intro f hf x hx
    rcases List.mem_append.mp hf with h | h
    · exact b'.wd.tr f h x hx
    · have e : f = g := by simpa using h
      subst e
      exact (hg x hx).2
  · intro x hx
    refine ⟨fun z => ?_, (b'.out x hx).2⟩
    rw [List.flatten_append] at z
    rcases List.mem_append.mp z with h | h
    · exact (b.out x hx).1 h
    · have h' : x ∈ g := by simpa using h
      obtain ⟨o, e⟩ := (b.out x hx).2
      have q : H x = none := (hg x h').1
      rw [q] at e
      cases e
theorem Bd.one {H : Hp} {p q : Addr} (s : StAt H p q) : Bd H [[p, q]] [] := by
  refine ⟨⟨by simp, ?_⟩, by simp⟩
  intro f hf x hx
  have e : f = [p, q] := by simpa using hf
  subst e
  simp at hx
  rcases hx with h | h
  · rw [h]; exact s.tp
  · rw [h]; exact s.tq
/-! ## data by its form -/
section
variable {S : List Addr} {H : Hp} {v : V} {vs : List V} {d : D} {ds : List D}
theorem Is.int_inv {i : Int} (h : Is S H v (.int i)) : v = .int i := by cases h; rfl
theorem Is.str_inv {i : Str} (h : Is S H v (.str i)) : v = .str i := by cases h; rfl
theorem Is.bl_inv {i : Bool} (h : Is S H v (.bl i)) : v = .bl i := by cases h; rfl
theorem Is.non_inv (h : Is S H v .non) : v = .non := by cases h; rfl
theorem Is.tup_inv (h : Is S H v (.tup ds)) : ∃ a xs, v = .ref a ∧ H a = some (.tup xs) ∧ a ∉ S ∧ xs.length < 1000000 ∧ IsL S H xs ds := by
  cases h with
  | tup h n l t => exact ⟨_, _, rfl, h, n, l, t⟩
theorem Is.lst_inv (h : Is S H v (.lst ds)) : ∃ a xs, v = .ref a ∧ H a = some (.lst xs) ∧ a ∉ S ∧ xs.length < 1000000 ∧ IsL S H xs ds := by
  cases h with
  | lst h n l t => exact ⟨_, _, rfl, h, n, l, t⟩
theorem IsL.nil_inv (h : IsL S H vs []) : vs = [] := by cases h; rfl
theorem IsL.cons_inv (h : IsL S H vs (d :: ds)) : ∃ x xs, vs = x :: xs ∧ Is S H x d ∧ IsL S H xs ds := by
  cases h with
  | cons h t => exact ⟨_, _, rfl, h, t⟩
theorem IsL.ints : ∀ {ns : List Int}, IsL S H (ns.map V.int) (ns.map D.int)
  | [] => .nil
  | _ :: _ => .cons (.int _) IsL.ints
theorem IsL.ints_inv : ∀ {ns : List Int} {vs : List V}, IsL S H vs (ns.map D.int) → vs = ns.map V.int
  | [], _, h => h.nil_inv
  | n :: ns, _, h => by
    obtain ⟨x, xs, rfl, h1, h2⟩ := IsL.cons_inv (d := .int n) (ds := ns.map D.int) h
    rw [h1.int_inv, IsL.ints_inv h2]
    rfl
theorem inV_ints {n : Int} : ∀ {ns : List Int}, inV (.int n) (ns.map V.int) = decide (n ∈ ns)
  | [] => rfl
  | m :: ns => by
    have ih := inV_ints (n := n) (ns := ns)
    unfold inV at ih ⊢
    rw [List.map_cons, List.any_cons, ih]
    show ((m == n) || decide (n ∈ ns)) = _
    by_cases e : m = n
    · subst e; simp
    · have e' : ¬ n = m := fun z => e z.symm
      simp [e, e']
theorem ints_flat : ∀ {ns : List Int}, (ns.map V.int).all flatV = true
  | [] => rfl
  | m :: ns => by rw [List.map_cons, List.all_cons, ints_flat]; rfl
end
end Cf

local macro_rules | `(tactic| walk_at "tr") => `(tactic| first
  | assumption
  | exact Cf.Tr.same
  | exact Cf.Tr.of (by assumption)
  | exact Cf.StAt.tp (by assumption)
  | exact Cf.StAt.tq (by assumption)
  | (refine Cf.Tr.up ?_; walk_at "tr")
  | (refine Cf.Tr.keep (by assumption) (by walk_at "nin") ?_; walk_at "tr"))
local macro_rules | `(tactic| walk_at "ne") => `(tactic| first
  | assumption
  | exact Ne.symm (by assumption)
  | exact Cf.ne_new (by assumption) (by walk_at "tr")
  | exact Cf.ne_new' (by assumption) (by walk_at "tr"))
local macro_rules | `(tactic| walk_at "nin") => `(tactic| first
  | exact Cf.nin0
  | (refine Cf.nin1 ?_; walk_at "ne")
  | (refine Cf.ninc ?a ?b; (case a => walk_at "ne"); (case b => walk_at "nin")))
local macro_rules | `(tactic| walk_at "hp") => `(tactic| first
  | assumption
  | exact L2.upd_same
  | (refine Cf.get_new (by assumption) ?_; walk_at "hp")
  | (refine Cf.get_ne (by walk_at "ne") ?_; walk_at "hp")
  | (refine Cf.Keep.at (by assumption) (by walk_at "nin") ?_; walk_at "hp"))
local macro_rules | `(tactic| walk_at "kd") => `(tactic| first
  | exact Cf.KdOf.non | exact Cf.KdOf.bl _ | exact Cf.KdOf.int _ | exact Cf.KdOf.str _
  | (exact Cf.KdOf.lst (by walk_at "hp")) | (exact Cf.KdOf.tup (by walk_at "hp")) | (exact Cf.KdOf.dic (by walk_at "hp")))
local macro_rules | `(tactic| walk_at "fr") => `(tactic| first
  | assumption
  | exact (Cf.upd_none (by assumption)).2
  | exact (Cf.upd_none (Cf.upd_none (by assumption)).2).2
  | exact (Cf.upd_none (Cf.upd_none (Cf.upd_none (by assumption)).2).2).2
  | exact (Cf.upd_none (Cf.upd_none (Cf.upd_none (Cf.upd_none (by assumption)).2).2).2).2
  | exact (Cf.upd_none (Cf.upd_none (Cf.upd_none (Cf.upd_none (Cf.upd_none (by assumption)).2).2).2).2).2
  | exact (Cf.upd_none (Cf.upd_none (Cf.upd_none (Cf.upd_none (Cf.upd_none (Cf.upd_none (by assumption)).2).2).2).2).2).2
  | exact (Cf.upd_none (Cf.upd_none (Cf.upd_none (Cf.upd_none (Cf.upd_none (Cf.upd_none (Cf.upd_none (by assumption)).2).2).2).2).2).2).2
  | exact (Cf.upd_none (Cf.upd_none (Cf.upd_none (Cf.upd_none (Cf.upd_none (Cf.upd_none (Cf.upd_none (Cf.upd_none (by assumption)).2).2).2).2).2).2).2).2
  | exact (Cf.upd_none (Cf.upd_none (Cf.upd_none (Cf.upd_none (Cf.upd_none (Cf.upd_none (Cf.upd_none (Cf.upd_none (Cf.upd_none (by assumption)).2).2).2).2).2).2).2).2).2)
local macro_rules | `(tactic| walk_at "sub") => `(tactic| first
  | (intro b hb; exact hb)
  | (simp; done)
  | (intro b hb; simp only [List.mem_cons, List.not_mem_nil, or_false] at hb ⊢; first | exact hb | (subst hb; simp) | (rcases hb with h | h <;> simp [h]) | (rcases hb with h | h | h <;> simp [h]) | (rcases hb with h | h | h | h <;> simp [h])))
local macro_rules | `(tactic| walk_at "kp") => `(tactic| first
  | exact Cf.Keep.refl _
  | assumption
  | (refine Cf.Keep.new ?_ (by assumption); walk_at "kp")
  | (refine Cf.Keep.mut ?_ (by first | (simp; done) | assumption); walk_at "kp")
  | (refine Cf.Keep.mutN ?_ (by walk_at "fr"); walk_at "kp")
  | (refine Cf.Keep.step (by assumption) (by walk_at "sub") ?_; walk_at "kp"))
local macro_rules | `(tactic| walk_at "side") => `(tactic| first
  | assumption
  | omega
  | (exact And.intro (by omega) (by omega))
  | rfl
  | decide
  | (exact Or.inr (by decide))
  | (exact Or.inl (by decide))
  | (exact Or.inl (by constructor <;> omega))
  | (exact Or.inr (by constructor <;> omega))
  | (exact And.intro (by first | assumption | decide | omega) (by first | assumption | decide | omega))
  | (exact And.intro (by omega) (by decide))
  | (exact And.intro (by decide) (And.intro (by decide) (by decide))))
local macro_rules | `(tactic| walk_at "gx1") => `(tactic| first
  | ((with_reducible refine' Cf.k_var ?e ?_); (case e => rfl))
  | (with_reducible refine' Cf.k_c ?_)
  | (with_reducible refine' Cf.k_op ?_)
  | (with_reducible refine' Cf.k_cons ?_)
  | (with_reducible refine' Cf.k_nil ?_)
  | (with_reducible refine' Cf.k_un ?_)
  | (with_reducible refine' Cf.k_call ?_)
  | (with_reducible refine' Cf.k_cb ?_)
  | (with_reducible refine' Cf.k_test ?_)
  | (with_reducible refine' Cf.k_tB ?_)
  | (with_reducible refine' Cf.k_tru ?_)
  | (with_reducible refine' Cf.k_ex ?_)
  | (with_reducible refine' Cf.k_exT ?_)
  | (with_reducible refine' Cf.k_exI ?_)
  | (with_reducible refine' Cf.k_exint ?_)
  | (with_reducible refine' Cf.k_and ?_)
  | (with_reducible refine' Cf.k_or ?_)
  | (with_reducible refine' Cf.k_not ?_)
  | (with_reducible refine' Cf.k_andV ?_)
  | (with_reducible refine' Cf.k_orV ?_)
  | (with_reducible refine' Cf.k_notV ?_)
  | (with_reducible refine' Cf.k_ifE ?_)
  | (with_reducible refine' Cf.k_tup ?_)
  | (with_reducible refine' Cf.k_lst ?_)
  | (with_reducible refine' Cf.k_asg ?_)
  | ((with_reducible refine' Cf.k_gname ?e ?_); (case e => ((try simp only [List.map_cons, List.map_nil, L2.wipe, List.set_cons_succ, List.set_cons_zero]); rfl)))
  | ((with_reducible refine' Cf.k_wipe ?e ?_); (case e => rfl))
  | (with_reducible refine' Cf.k_gsub ?_)
  | (with_reducible refine' Cf.k_ifs ?_)
  | (with_reducible refine' Cf.k_ret ?_)
  | (with_reducible refine' Cf.k_retN ?_)
  | (with_reducible refine' Cf.k_drop ?_)
  | (with_reducible refine' Cf.k_next ?_)
  | (with_reducible refine' Cf.k_for ?_)
  | (with_reducible refine' Cf.k_rng1 ?_)
  | (with_reducible refine' Cf.k_rng2 ?_)
  | (with_reducible refine' Cf.k_ilist ?_)
  | (with_reducible refine' Cf.k_itup ?_)
  | ((with_reducible refine' Cf.k_exrng ?c ?_); (case c => walk_at "side"))
  | ((with_reducible refine' Cf.k_exrng2 ?c ?_); (case c => walk_at "side"))
  | ((with_reducible refine' Cf.k_exlst ?c ?_); (case c => walk_at "hp"))
  | ((with_reducible refine' Cf.k_extup ?c ?_); (case c => walk_at "hp"))
  | (with_reducible refine' Cf.k_lc ?_)
  | (with_reducible refine' Cf.k_yes ?_)
  | (with_reducible refine' Cf.k_brk ?_)
  | (with_reducible refine' Cf.k_cont ?_)
  | (with_reducible refine' Cf.k_bm0 ?_)
  | (with_reducible refine' Cf.k_bm ?_)
  | (with_reducible refine' Cf.k_fld ?_)
  | (with_reducible refine' Cf.k_sfld ?_)
  | (with_reducible refine' Cf.k_prop ?_)
  | ((with_reducible refine' Cf.k_size ?h ?_); (case h => rfl))
  | (with_reducible refine' Cf.k_meth ?_)
  | (with_reducible refine' Cf.k_make ?_)
  | (with_reducible refine' Cf.k_disp ?_)
  | (with_reducible refine' Cf.k_pairs_nil ?_)
  | (with_reducible refine' Cf.k_pairs ?_)
  | ((with_reducible refine' Cf.kr_fld ?h ?c ?n ?l ?_); (case h => walk_at "hp"); (case c => assumption); (case n => assumption); (case l => walk_at "lk"))
  | ((with_reducible refine' Cf.kr_sfld ?h ?c ?n ?l ?e ?_); (case h => walk_at "hp"); (case c => assumption); (case n => assumption); (case l => walk_at "lk"); (case e => walk_at "lk"))
  | ((with_reducible refine' Cf.kr_meth ?h ?l ?_); (case h => walk_at "hp"); (case l => walk_at "lk"))
  | ((with_reducible refine' Cf.kr_prop ?h ?_); (case h => walk_at "hp"))
  | ((with_reducible refine' Cf.k_tyL ?h ?_); (case h => walk_at "hp"))
  | ((with_reducible refine' Cf.kr_append ?h ?l ?_); (case h => walk_at "hp"); (case l => walk_at "side"))
  | ((with_reducible refine' Cf.kr_pop0 ?h ?_); (case h => walk_at "hp"))
  | ((with_reducible refine' Cf.kr_inI ?h ?f ?g ?e ?_); (case h => walk_at "hp"); (case f => rfl); (case g => (first | exact Cf.ints_flat | rfl)); (case e => (first | exact Cf.inV_ints | rfl)))
  | ((with_reducible refine' Cf.kr_slL ?h ?_); (case h => walk_at "hp"))
  | (with_reducible refine' Cf.k_sl ?_)
  | (with_reducible refine' Cf.k_nopart ?_)
  | (with_reducible refine' Cf.k_part ?_)
  | (with_reducible refine' Cf.kr_I0 ?_)
  | ((with_reducible refine' Cf.kr_I ?c ?_); (case c => walk_at "side"))
  | (with_reducible refine' Cf.kr_U ?_)
  | (with_reducible refine' Cf.kr_plus ?_)
  | ((with_reducible refine' Cf.kr_times ?c ?_); (case c => walk_at "side"))
  | ((with_reducible refine' Cf.kr_eq ?c ?_); (case c => rfl))
  | ((with_reducible refine' Cf.kr_ne ?c ?_); (case c => rfl))
  | ((with_reducible refine' Cf.kr_ixL ?h ?a ?_); (case h => walk_at "hp"); (case a => (first | rfl | exact Cf.atI_zero | exact L2.atI_last _ _)))
  | ((with_reducible refine' Cf.kr_ixT ?h ?a ?_); (case h => walk_at "hp"); (case a => (first | rfl | exact Cf.atI_zero | exact L2.atI_last _ _)))
  | ((with_reducible refine' Cf.kr_ixD ?h ?a ?_); (case h => walk_at "hp"); (case a => walk_at "lk"))
  | ((with_reducible refine' Cf.kr_setD ?h ?l ?e ?_); (case h => walk_at "hp"); (case l => walk_at "lk"); (case e => walk_at "lk"))
  | ((with_reducible refine' Cf.kr_setL ?h ?a ?e ?_); (case h => walk_at "hp"); (case a => rfl); (case e => ((try simp only [Int.reduceToNat, List.set_cons_succ, List.set_cons_zero]); rfl)))
  | ((with_reducible refine' Cf.kr_lenL ?h ?_); (case h => walk_at "hp"))
  | ((with_reducible refine' Cf.kr_lenT ?h ?_); (case h => walk_at "hp"))
  | (with_reducible refine' Cf.kr_int ?_)
  | (with_reducible refine' Cf.kr_isN ?_)
  | (with_reducible refine' Cf.kr_notN ?_)
  | ((with_reducible refine' Cf.kr_isi_bool ?ty ?_); (case ty => walk_at "kd"))
  | ((with_reducible refine' Cf.kr_isi_int ?ty ?_); (case ty => walk_at "kd"))
  | ((with_reducible refine' Cf.kr_isi_str ?ty ?_); (case ty => walk_at "kd"))
  | ((with_reducible refine' Cf.kr_isi_list ?ty ?_); (case ty => walk_at "kd"))
  | ((with_reducible refine' Cf.kr_isi_tuple ?ty ?_); (case ty => walk_at "kd"))
  | ((with_reducible refine' Cf.kr_isi_dict ?ty ?_); (case ty => walk_at "kd"))
  | ((with_reducible refine' Cf.kr_listL ?h ?_); (case h => walk_at "hp"))
  | ((with_reducible refine' Cf.kr_tupL ?h ?_); (case h => walk_at "hp"))
  | ((with_reducible refine' Cf.k_iteT ?c ?_); (case c => first | assumption | rfl))
  | ((with_reducible refine' Cf.k_iteF ?c ?_); (case c => first | assumption | rfl)))
local macro_rules | `(tactic| walk_at "go1") => `(tactic| first
  | walk_at "gx1"
  | (with_reducible refine' Cf.k_seq ?_))
local macro_rules | `(tactic| walk_at "go") => `(tactic| repeat walk_at "go1")
local macro_rules | `(tactic| walk_at "gx") => `(tactic| repeat walk_at "gx1")
local macro_rules | `(tactic| walk_at "g1") => `(tactic| ((with_reducible refine' Cf.k_seq ?_); walk_at "gx"))
local macro_rules | `(tactic| walk_at "start") => `(tactic| simp only [Cf.start_cons, Cf.start_none, Cf.start_nil])

namespace K
open PySem L2 Cf
def top (i : Nat) : Stmt := PySem.Challenge.pw_copiesfollow_k52_reader_items.main.body.getD i (.Pass ⟨0, 0, 0, 0⟩)
abbrev s_law_mixed : Stmt := top 6
theorem sc_law_mixed : FnScope ["cell", "turn", "limit", "once"] ["cell", "turn", "limit"] (defScope s_law_mixed) := ⟨rfl, rfl, rfl, by decide +kernel, rfl, by decide +kernel, by decide +kernel⟩
abbrev s_law_draw : Stmt := top 7
theorem sc_law_draw : FnScope ["state", "limit", "digit", "cell"] ["state", "limit"] (defScope s_law_draw) := ⟨rfl, rfl, rfl, by decide +kernel, rfl, by decide +kernel, by decide +kernel⟩
abbrev s_law_start : Stmt := top 5
theorem sc_law_start : FnScope ["script"] ["script"] (defScope s_law_start) := ⟨rfl, rfl, rfl, by decide +kernel, rfl, by decide +kernel, by decide +kernel⟩
abbrev s_law_word : Stmt := top 8
theorem sc_law_word : FnScope ["state", "letters", "many", "alike", "sign", "spot", "word", "k"] ["state"] (defScope s_law_word) := ⟨rfl, rfl, rfl, by decide +kernel, rfl, by decide +kernel, by decide +kernel⟩
abbrev s_law_same : Stmt := top 4
theorem sc_law_same : FnScope ["here", "there", "key", "k"] ["here", "there"] (defScope s_law_same) := ⟨rfl, rfl, rfl, by decide +kernel, rfl, by decide +kernel, by decide +kernel⟩
abbrev s_law_value : Stmt := top 9
theorem sc_law_value : FnScope ["state", "pick"] ["state"] (defScope s_law_value) := ⟨rfl, rfl, rfl, by decide +kernel, rfl, by decide +kernel, by decide +kernel⟩
abbrev s_Reader_init : Stmt := inClass (top 2) 0
theorem sc_Reader_init : FnScope ["self", "birth"] ["self", "birth"] (defScope s_Reader_init) := ⟨rfl, rfl, rfl, by decide +kernel, rfl, by decide +kernel, by decide +kernel⟩
abbrev s_Reader_got : Stmt := inClass (top 2) 1
theorem sc_Reader_got : FnScope ["self"] ["self"] (defScope s_Reader_got) := ⟨rfl, rfl, rfl, by decide +kernel, rfl, by decide +kernel, by decide +kernel⟩
abbrev s_Reader_receive : Stmt := inClass (top 2) 2
theorem sc_Reader_receive : FnScope ["self", "item"] ["self", "item"] (defScope s_Reader_receive) := ⟨rfl, rfl, rfl, by decide +kernel, rfl, by decide +kernel, by decide +kernel⟩
abbrev s_Reader_apply : Stmt := inClass (top 2) 3
theorem sc_Reader_apply : FnScope ["self", "item"] ["self"] (defScope s_Reader_apply) := ⟨rfl, rfl, rfl, by decide +kernel, rfl, by decide +kernel, by decide +kernel⟩
abbrev s_Reader_drop : Stmt := inClass (top 2) 4
theorem sc_Reader_drop : FnScope ["self"] ["self"] (defScope s_Reader_drop) := ⟨rfl, rfl, rfl, by decide +kernel, rfl, by decide +kernel, by decide +kernel⟩
abbrev s_Reader_inbox : Stmt := inClass (top 2) 5
theorem sc_Reader_inbox : FnScope ["self"] ["self"] (defScope s_Reader_inbox) := ⟨rfl, rfl, rfl, by decide +kernel, rfl, by decide +kernel, by decide +kernel⟩
abbrev s_Reader_journal : Stmt := inClass (top 2) 6
theorem sc_Reader_journal : FnScope ["self"] ["self"] (defScope s_Reader_journal) := ⟨rfl, rfl, rfl, by decide +kernel, rfl, by decide +kernel, by decide +kernel⟩
abbrev s_Reader_repeats : Stmt := inClass (top 2) 7
theorem sc_Reader_repeats : FnScope ["self"] ["self"] (defScope s_Reader_repeats) := ⟨rfl, rfl, rfl, by decide +kernel, rfl, by decide +kernel, by decide +kernel⟩
abbrev s_law_fresh : Stmt := top 10
theorem sc_law_fresh : FnScope ["birth"] ["birth"] (defScope s_law_fresh) := ⟨rfl, rfl, rfl, by decide +kernel, rfl, by decide +kernel, by decide +kernel⟩
abbrev s_law_got : Stmt := top 11
theorem sc_law_got : FnScope ["row"] ["row"] (defScope s_law_got) := ⟨rfl, rfl, rfl, by decide +kernel, rfl, by decide +kernel, by decide +kernel⟩
abbrev s_law_received : Stmt := top 12
theorem sc_law_received : FnScope ["row", "item"] ["row", "item"] (defScope s_law_received) := ⟨rfl, rfl, rfl, by decide +kernel, rfl, by decide +kernel, by decide +kernel⟩
abbrev s_law_applied : Stmt := top 13
theorem sc_law_applied : FnScope ["row", "item"] ["row"] (defScope s_law_applied) := ⟨rfl, rfl, rfl, by decide +kernel, rfl, by decide +kernel, by decide +kernel⟩
abbrev s_law_tells : Stmt := top 14
theorem sc_law_tells : FnScope ["reader", "row", "lists", "due"] ["reader", "row"] (defScope s_law_tells) := ⟨rfl, rfl, rfl, by decide +kernel, rfl, by decide +kernel, by decide +kernel⟩
abbrev s_law_item : Stmt := top 15
theorem sc_law_item : FnScope ["state", "birth", "last", "name", "way", "place", "changes", "k"] ["state", "birth", "last"] (defScope s_law_item) := ⟨rfl, rfl, rfl, by decide +kernel, rfl, by decide +kernel, by decide +kernel⟩
abbrev s_law : Stmt := top 16
theorem sc_law : FnScope ["script", "state", "births", "k", "readers", "rows", "last", "turn", "at", "reader", "way", "item"] ["script"] (defScope s_law) := ⟨rfl, rfl, rfl, by decide +kernel, rfl, by decide +kernel, by decide +kernel⟩
structure Txt (K : PySem.W.Frag) (mg : Str → Option Value) : Type where
  z_bool : mg "bool" = none
  z_dict : mg "dict" = none
  z_int : mg "int" = none
  z_isinstance : mg "isinstance" = none
  z_len : mg "len" = none
  z_list : mg "list" = none
  z_range : mg "range" = none
  z_str : mg "str" = none
  z_tuple : mg "tuple" = none
  c_Reader : Addr
  cl_Reader : Cls K c_Reader
  mc_Reader : mg "Reader" = some (.ref c_Reader)
  n_Reader_own : NoAttr K c_Reader "own"
  n_Reader_inbox : NoAttr K c_Reader "_inbox"
  n_Reader_journal : NoAttr K c_Reader "_journal"
  n_Reader_repeats : NoAttr K c_Reader "_repeats"
  a_law_mixed : Addr
  d_law_mixed : FuncData
  F_law_mixed : Fun K "_law_mixed" "_law_mixed" s_law_mixed a_law_mixed d_law_mixed
  b_law_mixed : Binds K d_law_mixed ["cell", "turn", "limit"] []
  m_law_mixed : mg "_law_mixed" = some (.ref a_law_mixed)
  a_law_draw : Addr
  d_law_draw : FuncData
  F_law_draw : Fun K "_law_draw" "_law_draw" s_law_draw a_law_draw d_law_draw
  b_law_draw : Binds K d_law_draw ["state", "limit"] []
  m_law_draw : mg "_law_draw" = some (.ref a_law_draw)
  a_law_start : Addr
  d_law_start : FuncData
  F_law_start : Fun K "_law_start" "_law_start" s_law_start a_law_start d_law_start
  b_law_start : Binds K d_law_start ["script"] []
  m_law_start : mg "_law_start" = some (.ref a_law_start)
  a_law_word : Addr
  d_law_word : FuncData
  F_law_word : Fun K "_law_word" "_law_word" s_law_word a_law_word d_law_word
  b_law_word : Binds K d_law_word ["state"] []
  m_law_word : mg "_law_word" = some (.ref a_law_word)
  a_law_same : Addr
  d_law_same : FuncData
  F_law_same : Fun K "_law_same" "_law_same" s_law_same a_law_same d_law_same
  b_law_same : Binds K d_law_same ["here", "there"] []
  m_law_same : mg "_law_same" = some (.ref a_law_same)
  a_law_value : Addr
  d_law_value : FuncData
  F_law_value : Fun K "_law_value" "_law_value" s_law_value a_law_value d_law_value
  b_law_value : Binds K d_law_value ["state"] []
  m_law_value : mg "_law_value" = some (.ref a_law_value)
  a_Reader_init : Addr
  d_Reader_init : FuncData
  F_Reader_init : Fun K "__init__" "Reader.__init__" s_Reader_init a_Reader_init d_Reader_init
  b_Reader_init : Binds K d_Reader_init ["self", "birth"] []
  mk_Reader : Mk K c_Reader a_Reader_init
  a_Reader_got : Addr
  d_Reader_got : FuncData
  F_Reader_got : Fun K "got" "Reader.got" s_Reader_got a_Reader_got d_Reader_got
  b_Reader_got : Binds K d_Reader_got ["self"] []
  p_Reader_got : Addr
  pr_Reader_got : PropOf K c_Reader "got" p_Reader_got a_Reader_got
  a_Reader_receive : Addr
  d_Reader_receive : FuncData
  F_Reader_receive : Fun K "receive" "Reader.receive" s_Reader_receive a_Reader_receive d_Reader_receive
  b_Reader_receive : Binds K d_Reader_receive ["self", "item"] []
  me_Reader_receive : Meth K c_Reader "receive" a_Reader_receive
  a_Reader_apply : Addr
  d_Reader_apply : FuncData
  F_Reader_apply : Fun K "apply" "Reader.apply" s_Reader_apply a_Reader_apply d_Reader_apply
  b_Reader_apply : Binds K d_Reader_apply ["self"] []
  me_Reader_apply : Meth K c_Reader "apply" a_Reader_apply
  a_Reader_drop : Addr
  d_Reader_drop : FuncData
  F_Reader_drop : Fun K "drop" "Reader.drop" s_Reader_drop a_Reader_drop d_Reader_drop
  b_Reader_drop : Binds K d_Reader_drop ["self"] []
  me_Reader_drop : Meth K c_Reader "drop" a_Reader_drop
  a_Reader_inbox : Addr
  d_Reader_inbox : FuncData
  F_Reader_inbox : Fun K "inbox" "Reader.inbox" s_Reader_inbox a_Reader_inbox d_Reader_inbox
  b_Reader_inbox : Binds K d_Reader_inbox ["self"] []
  me_Reader_inbox : Meth K c_Reader "inbox" a_Reader_inbox
  a_Reader_journal : Addr
  d_Reader_journal : FuncData
  F_Reader_journal : Fun K "journal" "Reader.journal" s_Reader_journal a_Reader_journal d_Reader_journal
  b_Reader_journal : Binds K d_Reader_journal ["self"] []
  me_Reader_journal : Meth K c_Reader "journal" a_Reader_journal
  a_Reader_repeats : Addr
  d_Reader_repeats : FuncData
  F_Reader_repeats : Fun K "repeats" "Reader.repeats" s_Reader_repeats a_Reader_repeats d_Reader_repeats
  b_Reader_repeats : Binds K d_Reader_repeats ["self"] []
  me_Reader_repeats : Meth K c_Reader "repeats" a_Reader_repeats
  a_law_fresh : Addr
  d_law_fresh : FuncData
  F_law_fresh : Fun K "_law_fresh" "_law_fresh" s_law_fresh a_law_fresh d_law_fresh
  b_law_fresh : Binds K d_law_fresh ["birth"] []
  m_law_fresh : mg "_law_fresh" = some (.ref a_law_fresh)
  a_law_got : Addr
  d_law_got : FuncData
  F_law_got : Fun K "_law_got" "_law_got" s_law_got a_law_got d_law_got
  b_law_got : Binds K d_law_got ["row"] []
  m_law_got : mg "_law_got" = some (.ref a_law_got)
  a_law_received : Addr
  d_law_received : FuncData
  F_law_received : Fun K "_law_received" "_law_received" s_law_received a_law_received d_law_received
  b_law_received : Binds K d_law_received ["row", "item"] []
  m_law_received : mg "_law_received" = some (.ref a_law_received)
  a_law_applied : Addr
  d_law_applied : FuncData
  F_law_applied : Fun K "_law_applied" "_law_applied" s_law_applied a_law_applied d_law_applied
  b_law_applied : Binds K d_law_applied ["row"] []
  m_law_applied : mg "_law_applied" = some (.ref a_law_applied)
  a_law_tells : Addr
  d_law_tells : FuncData
  F_law_tells : Fun K "_law_tells" "_law_tells" s_law_tells a_law_tells d_law_tells
  b_law_tells : Binds K d_law_tells ["reader", "row"] []
  m_law_tells : mg "_law_tells" = some (.ref a_law_tells)
  a_law_item : Addr
  d_law_item : FuncData
  F_law_item : Fun K "_law_item" "_law_item" s_law_item a_law_item d_law_item
  b_law_item : Binds K d_law_item ["state", "birth", "last"] []
  m_law_item : mg "_law_item" = some (.ref a_law_item)
  a_law : Addr
  d_law : FuncData
  F_law : Fun K "law" "law" s_law a_law d_law
  b_law : Binds K d_law ["script"] []
  m_law : mg "law" = some (.ref a_law)
abbrev fl_Reader (x0 x1 x2 x3 : V) : List (Str × V) := [("own", x0), ("_inbox", x1), ("_journal", x2), ("_repeats", x3)]
theorem fl_Reader_own {x0 x1 x2 x3 : V} : (fl_Reader x0 x1 x2 x3).lookup ("own" : Str) = some x0 := by kernel_rfl
theorem pf_Reader_own {x0 x1 x2 x3 y : V} : putF ("own" : Str) y (fl_Reader x0 x1 x2 x3) = fl_Reader y x1 x2 x3 := by kernel_rfl
theorem pi_Reader_own {y : V} : putF ("own" : Str) y ([] : List (Str × V)) = ([("own", y)] : List (Str × V)) := by kernel_rfl
theorem ln_Reader_0  : ([] : List (Str × V)).length < 1000 := by show 0 < 1000; decide
theorem fl_Reader_inbox {x0 x1 x2 x3 : V} : (fl_Reader x0 x1 x2 x3).lookup ("_inbox" : Str) = some x1 := by kernel_rfl
theorem pf_Reader_inbox {x0 x1 x2 x3 y : V} : putF ("_inbox" : Str) y (fl_Reader x0 x1 x2 x3) = fl_Reader x0 y x2 x3 := by kernel_rfl
theorem pi_Reader_inbox {x0 y : V} : putF ("_inbox" : Str) y ([("own", x0)] : List (Str × V)) = ([("own", x0), ("_inbox", y)] : List (Str × V)) := by kernel_rfl
theorem ln_Reader_1 {x0 : V} : ([("own", x0)] : List (Str × V)).length < 1000 := by show 1 < 1000; decide
theorem fl_Reader_journal {x0 x1 x2 x3 : V} : (fl_Reader x0 x1 x2 x3).lookup ("_journal" : Str) = some x2 := by kernel_rfl
theorem pf_Reader_journal {x0 x1 x2 x3 y : V} : putF ("_journal" : Str) y (fl_Reader x0 x1 x2 x3) = fl_Reader x0 x1 y x3 := by kernel_rfl
theorem pi_Reader_journal {x0 x1 y : V} : putF ("_journal" : Str) y ([("own", x0), ("_inbox", x1)] : List (Str × V)) = ([("own", x0), ("_inbox", x1), ("_journal", y)] : List (Str × V)) := by kernel_rfl
theorem ln_Reader_2 {x0 x1 : V} : ([("own", x0), ("_inbox", x1)] : List (Str × V)).length < 1000 := by show 2 < 1000; decide
theorem fl_Reader_repeats {x0 x1 x2 x3 : V} : (fl_Reader x0 x1 x2 x3).lookup ("_repeats" : Str) = some x3 := by kernel_rfl
theorem pf_Reader_repeats {x0 x1 x2 x3 y : V} : putF ("_repeats" : Str) y (fl_Reader x0 x1 x2 x3) = fl_Reader x0 x1 x2 y := by kernel_rfl
theorem pi_Reader_repeats {x0 x1 x2 y : V} : putF ("_repeats" : Str) y ([("own", x0), ("_inbox", x1), ("_journal", x2)] : List (Str × V)) = ([("own", x0), ("_inbox", x1), ("_journal", x2), ("_repeats", y)] : List (Str × V)) := by kernel_rfl
theorem ln_Reader_3 {x0 x1 x2 : V} : ([("own", x0), ("_inbox", x1), ("_journal", x2)] : List (Str × V)).length < 1000 := by show 3 < 1000; decide
theorem ln_Reader {x0 x1 x2 x3 : V} : (fl_Reader x0 x1 x2 x3).length < 1000 := by show 4 < 1000; decide
theorem nl_Reader_receive {x0 x1 x2 x3 : V} : (fl_Reader x0 x1 x2 x3).lookup ("receive" : Str) = none := by kernel_rfl
theorem nl_Reader_apply {x0 x1 x2 x3 : V} : (fl_Reader x0 x1 x2 x3).lookup ("apply" : Str) = none := by kernel_rfl
theorem nl_Reader_drop {x0 x1 x2 x3 : V} : (fl_Reader x0 x1 x2 x3).lookup ("drop" : Str) = none := by kernel_rfl
theorem nl_Reader_inbox {x0 x1 x2 x3 : V} : (fl_Reader x0 x1 x2 x3).lookup ("inbox" : Str) = none := by kernel_rfl
theorem nl_Reader_journal {x0 x1 x2 x3 : V} : (fl_Reader x0 x1 x2 x3).lookup ("journal" : Str) = none := by kernel_rfl
theorem nl_Reader_repeats {x0 x1 x2 x3 : V} : (fl_Reader x0 x1 x2 x3).lookup ("repeats" : Str) = none := by kernel_rfl
theorem nl_Reader_fill {x0 x1 x2 x3 : V} : (fl_Reader x0 x1 x2 x3).lookup ("fill" : Str) = none := by kernel_rfl
abbrev dk_Row (x0 x1 x2 x3 : V) : List (Key × V) := [(Sum.inr ("own" : Str), x0), (Sum.inr ("inbox" : Str), x1), (Sum.inr ("journal" : Str), x2), (Sum.inr ("repeats" : Str), x3)]
theorem dg_Row_0 {x0 x1 x2 x3 : V} : valV (dk_Row x0 x1 x2 x3) (Sum.inr ("own" : Str)) = some x0 := by kernel_rfl
theorem dp_Row_0 {x0 x1 x2 x3 y : V} : putK (dk_Row x0 x1 x2 x3) (Sum.inr ("own" : Str)) y = dk_Row y x1 x2 x3 := by kernel_rfl
theorem dg_Row_1 {x0 x1 x2 x3 : V} : valV (dk_Row x0 x1 x2 x3) (Sum.inr ("inbox" : Str)) = some x1 := by kernel_rfl
theorem dp_Row_1 {x0 x1 x2 x3 y : V} : putK (dk_Row x0 x1 x2 x3) (Sum.inr ("inbox" : Str)) y = dk_Row x0 y x2 x3 := by kernel_rfl
theorem dg_Row_2 {x0 x1 x2 x3 : V} : valV (dk_Row x0 x1 x2 x3) (Sum.inr ("journal" : Str)) = some x2 := by kernel_rfl
theorem dp_Row_2 {x0 x1 x2 x3 y : V} : putK (dk_Row x0 x1 x2 x3) (Sum.inr ("journal" : Str)) y = dk_Row x0 x1 y x3 := by kernel_rfl
theorem dg_Row_3 {x0 x1 x2 x3 : V} : valV (dk_Row x0 x1 x2 x3) (Sum.inr ("repeats" : Str)) = some x3 := by kernel_rfl
theorem dp_Row_3 {x0 x1 x2 x3 y : V} : putK (dk_Row x0 x1 x2 x3) (Sum.inr ("repeats" : Str)) y = dk_Row x0 x1 x2 y := by kernel_rfl
theorem dm_Row {x0 x1 x2 x3 : V} : mergeK [] (dk_Row x0 x1 x2 x3) = dk_Row x0 x1 x2 x3 := by kernel_rfl
theorem dl_Row {x0 x1 x2 x3 : V} : (dk_Row x0 x1 x2 x3).length < sizeLine := by show 4 < sizeLine; decide
local macro_rules | `(tactic| walk_at "lk") => `(tactic| first
  | exact fl_Reader_own
  | exact pf_Reader_own
  | exact pi_Reader_own
  | exact ln_Reader_0
  | exact fl_Reader_inbox
  | exact pf_Reader_inbox
  | exact pi_Reader_inbox
  | exact ln_Reader_1
  | exact fl_Reader_journal
  | exact pf_Reader_journal
  | exact pi_Reader_journal
  | exact ln_Reader_2
  | exact fl_Reader_repeats
  | exact pf_Reader_repeats
  | exact pi_Reader_repeats
  | exact ln_Reader_3
  | exact ln_Reader
  | exact nl_Reader_receive
  | exact nl_Reader_apply
  | exact nl_Reader_drop
  | exact nl_Reader_inbox
  | exact nl_Reader_journal
  | exact nl_Reader_repeats
  | exact nl_Reader_fill
  | exact dg_Row_0
  | exact dp_Row_0
  | exact dg_Row_1
  | exact dp_Row_1
  | exact dg_Row_2
  | exact dp_Row_2
  | exact dg_Row_3
  | exact dp_Row_3
  | exact dm_Row
  | exact dl_Row)
section
variable {P : Program} {w : World} {K : PySem.W.Frag} {mg : Str → Option Value} {base : Heap}
theorem ok_law_mixed (T : Txt K mg)  : FnOk P w K mg base CX0 (1) T.a_law_mixed T.d_law_mixed ["cell", "turn", "limit"] (spMixed) := by
  refine T.F_law_mixed.ok sc_law_mixed (fun vs H Q E h => by obtain ⟨_, _, _, rfl, _⟩ := h; rfl) (fun cdv A outer s H vs Q E hr h => ?_)
  have hu := hu_of hr
  have hu64 := hr.units
  refine ⟨_, (pss_cons (ps_set (i := 3) sc_law_mixed.nd rfl (by first | exact Or.inl rfl | exact Or.inr rfl) (pe_op op_mod (pe_callTy call_intA (by rfl) T.z_int (by decide +kernel) (pa_cons (pe_op op_plus (pe_op op_plus (pe_op op_times (pv 0) pe_int) (pe_op op_times (pv 1) pe_int)) pe_int) pa_nil)) pe_int))
      (pss_one (ps_ret (pe_op op_mod (pe_op op_mod (pe_callTy call_intA (by rfl) T.z_int (by decide +kernel) (pa_cons (pe_op op_plus (pe_op op_plus (pe_op op_times (pv 3) pe_int) (pe_op op_times (pv 1) pe_int)) pe_int) pa_nil)) pe_int) (pv 2))))), ?_⟩
  obtain ⟨c, t, n, rfl, h0, k⟩ := h
  walk_at "start"
  walk_at "go"
  exact k _ (Int.emod_nonneg _ (by omega)) (Int.emod_lt_of_pos _ h0)
theorem ok_law_draw (T : Txt K mg)  : FnOk P w K mg base CX0 (2) T.a_law_draw T.d_law_draw ["state", "limit"] (spDraw) := by
  refine T.F_law_draw.ok sc_law_draw (fun vs H Q E h => by obtain ⟨_, _, _, rfl, _⟩ := h; rfl) (fun cdv A outer s H vs Q E hr h => ?_)
  have hu := hu_of hr
  have hu64 := hr.units
  refine ⟨_, (pss_cons (ps_if (pt_cmpR op_gt (pe_ix (ix_any hu) (pv 0) pe_int (fun _ _ => rfl)) pe_int (nomark _)) (pss_cons (ps_set (i := 2) sc_law_draw.nd rfl (by first | exact Or.inl rfl | exact Or.inr rfl) (pe_op op_mod (pe_callTy call_intA (by rfl) T.z_int (by decide +kernel) (pa_cons (pe_ix (ix_any hu) (pv 0) pe_int (fun _ _ => rfl)) pa_nil)) (pv 1)))
      (pss_cons (ps_asg (pe_op op_fdivW (pe_ix (ix_any hu) (pv 0) pe_int (fun _ _ => rfl)) (pv 1)) (pg_sub (pv 0) pe_int (set_any hu)))
      (pss_one (ps_ret (pv 2))))) pss_nil)
      (pss_cons (ps_if (pt_cmpR op_gt (pe_ix (ix_any hu) (pv 0) pe_int (fun _ _ => rfl)) pe_int (nomark _)) (pss_cons (ps_asg (pe_op op_sub (pe_ix (ix_any hu) (pv 0) pe_int (fun _ _ => rfl)) pe_int) (pg_sub (pv 0) pe_int (set_any hu)))
      (pss_cons (ps_asg (pe_op op_plus (pe_ix (ix_any hu) (pv 0) pe_int (fun _ _ => rfl)) pe_int) (pg_sub (pv 0) pe_int (set_any hu)))
      (pss_one (ps_ret (pe_call (ok_law_mixed T) (hr.mono (by first | decide | omega)) (by rfl) T.m_law_mixed T.F_law_mixed.kp T.b_law_mixed .nil pass0 (pa_cons (pe_ix (ix_any hu) (pv 0) pe_int (fun _ _ => rfl)) (pa_cons (pe_ix (ix_any hu) (pv 0) pe_int (fun _ _ => rfl)) (pa_cons (pv 1) pa_nil)))))))) pss_nil)
      (pss_cons (ps_if (pt_cmpR op_ge (pe_ix (ix_any hu) (pv 0) pe_int (fun _ _ => rfl)) (pe_callB call_lenA (by rfl) T.z_len (by decide +kernel) (pa_cons (pe_ix (ix_any hu) (pv 0) pe_int (fun _ _ => rfl)) pa_nil)) (nomark _)) (pss_one (ps_ret pe_int)) pss_nil)
      (pss_cons (ps_set (i := 3) sc_law_draw.nd rfl (by first | exact Or.inl rfl | exact Or.inr rfl) (pe_ix (ix_any hu) (pe_ix (ix_any hu) (pv 0) pe_int (fun _ _ => rfl)) (pe_ix (ix_any hu) (pv 0) pe_int (fun _ _ => rfl)) (fun _ _ => rfl)))
      (pss_cons (ps_asg (pe_op op_plus (pe_ix (ix_any hu) (pv 0) pe_int (fun _ _ => rfl)) pe_int) (pg_sub (pv 0) pe_int (set_any hu)))
      (pss_cons (ps_if (pt_cmpR op_ge (pv 3) (pe_op op_pow pe_int pe_int) (nomark _)) (pss_cons (ps_asg (pe_op op_fdivW (pv 3) (pv 1)) (pg_sub (pv 0) pe_int (set_any hu)))
      (pss_one (ps_ret (pe_op op_mod (pe_callTy call_intA (by rfl) T.z_int (by decide +kernel) (pa_cons (pv 3) pa_nil)) (pv 1))))) pss_nil)
      (pss_cons (ps_asg (pv 3) (pg_sub (pv 0) pe_int (set_any hu)))
      (pss_cons (ps_asg pe_int (pg_sub (pv 0) pe_int (set_any hu)))
      (pss_cons (ps_asg (pe_op op_plus (pe_ix (ix_any hu) (pv 0) pe_int (fun _ _ => rfl)) pe_int) (pg_sub (pv 0) pe_int (set_any hu)))
      (pss_one (ps_ret (pe_call (ok_law_mixed T) (hr.mono (by first | decide | omega)) (by rfl) T.m_law_mixed T.F_law_mixed.kp T.b_law_mixed .nil pass0 (pa_cons (pv 3) (pa_cons (pe_ix (ix_any hu) (pv 0) pe_int (fun _ _ => rfl)) (pa_cons (pv 1) pa_nil))))))))))))))), ?_⟩
  obtain ⟨p, q, n, rfl, S, h0, h1, k⟩ := h
  obtain ⟨ne, ns, i, b, c, m, t, e1, e2, e3⟩ := id S
  walk_at "start"
  walk_at "go"
  refine k_ite (fun c1 => ?_) (fun c1 => ?_)
  · walk_at "go"
    exact k _ _ (Int.emod_nonneg _ (by omega)) (Int.emod_lt_of_pos _ h0) ⟨ne, ns, i, b / n, c, m, t, upd_same, get_ne ne e2, e3⟩ ((Keep.refl H).mut (by simp))
  walk_at "go"
  refine k_ite (fun c2 => ?_) (fun c2 => ?_)
  · walk_at "go"
    refine use_mixed h0 fun d d0 d1 => ?_
    exact k _ _ d0 d1 ⟨ne, ns, i, b, c, m - 1, t + 1, upd_same, get_ne ne (get_ne ne e2), e3⟩ (((Keep.refl H).mut (by simp)).mut (by simp))
  walk_at "go"
  refine k_ite (fun c3 => ?_) (fun c3 => ?_)
  · walk_at "go"
    exact k _ _ (Int.le_refl 0) h0 S (Keep.refl H)
  walk_at "go"
  obtain ⟨x, -, hx⟩ := atI_ints (ns := ns) e3 (by simpa using c3)
  refine kr_ixL e2 hx ?_
  walk_at "go"
  refine k_ite (fun c4 => ?_) (fun c4 => ?_)
  · walk_at "go"
    exact k _ _ (Int.emod_nonneg _ (by omega)) (Int.emod_lt_of_pos _ h0) ⟨ne, ns, i + 1, x / n, c, m, t, upd_same, get_ne ne (get_ne ne e2), by omega⟩ (((Keep.refl H).mut (by simp)).mut (by simp))
  · walk_at "go"
    refine use_mixed h0 fun d d0 d1 => ?_
    refine k _ _ d0 d1 ⟨ne, ns, i + 1, b, x, 3, t + 1, upd_same, get_ne ne (get_ne ne (get_ne ne (get_ne ne e2))), by omega⟩ (((((Keep.refl H).mut (by simp)).mut (by simp)).mut (by simp)).mut (by simp))
theorem ok_law_start (T : Txt K mg)  : FnOk P w K mg base CX0 (1) T.a_law_start T.d_law_start ["script"] (spStart K) := by
  refine T.F_law_start.ok sc_law_start (fun vs H Q E h => by obtain ⟨_, _, rfl, _⟩ := h; rfl) (fun cdv A outer s H vs Q E hr h => ?_)
  have hu := hu_of hr
  have hu64 := hr.units
  refine ⟨_, (pss_one (ps_ret (pe_lst (pa_cons (pe_callTy call_listA (by rfl) T.z_list (by decide +kernel) (pa_cons (pv 0) pa_nil)) (pa_cons pe_int (pa_cons pe_int (pa_cons pe_int (pa_cons pe_int (pa_cons pe_int pa_nil))))))))), ?_⟩
  obtain ⟨a, ns, rfl, hs, k⟩ := h
  walk_at "start"
  walk_at "go"
  refine ⟨a, _, rfl, .inl hs, fun l hl => ?_⟩
  walk_at "go"
  intro p hp
  have ne : l ≠ p := ne_new hp .same
  exact k p l _ (((Keep.refl H).new hl).free' hp) hl ⟨ne, ns, 0, 0, 0, 0, 0, upd_same, get_new hp upd_same, Int.le_refl _⟩ (((Keep.refl H).new hl).new hp)
theorem ok_law_word (T : Txt K mg)  : FnOk P w K mg base CX0 (3) T.a_law_word T.d_law_word ["state"] (spWord) := by
  refine T.F_law_word.ok sc_law_word (fun vs H Q E h => by obtain ⟨_, _, rfl, _⟩ := h; rfl) (fun cdv A outer s H vs Q E hr h => ?_)
  have hu := hu_of hr
  have hu64 := hr.units
  refine ⟨_, (pss_cons (ps_set (i := 1) sc_law_word.nd rfl (by first | exact Or.inl rfl | exact Or.inr rfl) pe_str)
      (pss_cons (ps_set (i := 2) sc_law_word.nd rfl (by first | exact Or.inl rfl | exact Or.inr rfl) (pe_op op_plus pe_int (pe_call (ok_law_draw T) (hr.mono (by first | decide | omega)) (by rfl) T.m_law_draw T.F_law_draw.kp T.b_law_draw .nil pass0 (pa_cons (pv 0) (pa_cons pe_int pa_nil)))))
      (pss_cons (ps_set (i := 3) sc_law_word.nd rfl (by first | exact Or.inl rfl | exact Or.inr rfl) (pe_call (ok_law_draw T) (hr.mono (by first | decide | omega)) (by rfl) T.m_law_draw T.F_law_draw.kp T.b_law_draw .nil pass0 (pa_cons (pv 0) (pa_cons pe_int pa_nil))))
      (pss_cons (ps_set (i := 4) sc_law_word.nd rfl (by first | exact Or.inl rfl | exact Or.inr rfl) (pe_ix (ix_any hu) (pv 1) (pe_call (ok_law_draw T) (hr.mono (by first | decide | omega)) (by rfl) T.m_law_draw T.F_law_draw.kp T.b_law_draw .nil pass0 (pa_cons (pv 0) (pa_cons pe_int pa_nil))) (fun _ _ => rfl)))
      (pss_cons (ps_set (i := 5) sc_law_word.nd rfl (by first | exact Or.inl rfl | exact Or.inr rfl) (pe_call (ok_law_draw T) (hr.mono (by first | decide | omega)) (by rfl) T.m_law_draw T.F_law_draw.kp T.b_law_draw .nil pass0 (pa_cons (pv 0) (pa_cons (pv 2) pa_nil))))
      (pss_cons (ps_set (i := 6) sc_law_word.nd rfl (by first | exact Or.inl rfl | exact Or.inr rfl) pe_str)
      (pss_cons (ps_for PassesOwn.never rfl (pi_range1 (by rfl) T.z_range (pa_cons (pv 2) pa_nil)) (pg_name (i := 7) sc_law_word.nd rfl (by first | exact Or.inl rfl | exact Or.inr rfl))
      (pss_one (ps_if (PW.pt (pw_or (pt_cmpR (op_eqq hu64) (pv 3) pe_int (nomark _)) (pw_or1 (pt_cmpR (op_eqq hu64) (pv 7) (pv 5) (nomark _))))) (pss_one (ps_set (i := 6) sc_law_word.nd rfl (by first | exact Or.inl rfl | exact Or.inr rfl) (pe_op op_plus (pv 6) (pe_ix (ix_any hu) (pv 1) (pe_call (ok_law_draw T) (hr.mono (by first | decide | omega)) (by rfl) T.m_law_draw T.F_law_draw.kp T.b_law_draw .nil pass0 (pa_cons (pv 0) (pa_cons pe_int pa_nil))) (fun _ _ => rfl))))) (pss_one (ps_set (i := 6) sc_law_word.nd rfl (by first | exact Or.inl rfl | exact Or.inr rfl) (pe_op op_plus (pv 6) (pv 4)))))))
      (pss_one (ps_ret (pv 6)))))))))), ?_⟩
  obtain ⟨p, q, rfl, S, k⟩ := h
  walk_at "start"
  walk_at "go"
  refine use_draw S (by decide) (by decide) fun d1 H1 l1 u1 S1 k1 => ?_
  walk_at "go"
  refine use_draw S1 (by decide) (by decide) fun d2 H2 l2 u2 S2 k2 => ?_
  walk_at "go"
  refine use_draw S2 (by decide) (by decide) fun d3 H3 l3 u3 S3 k3 => ?_
  walk_at "go"
  obtain ⟨c, hc, ec⟩ := abc_at l3 u3
  refine kr_ixS abc_len ec ?_
  walk_at "go"
  refine use_draw S3 (by omega) (log_ok (by omega)) fun d4 H4 l4 u4 S4 k4 => ?_
  walk_at "go"
  refine for_r (fun i σ H' => ∃ (z : Str) (x : Option V), σ = [some (.ref p), some (.str abc), some (.int (1 + d1)), some (.int d2), some (.str ⟨#[c]⟩), some (.int d4), some (.str z), x] ∧
    z.length = i ∧ (∀ c ∈ z.cps.toList, 97 ≤ c ∧ c ≤ 122) ∧ StAt H' p q ∧ Keep [p] H H') ⟨Str.ofString "", none, rfl, rfl, (by intro c h; cases h), S4, (((k1.trans k2).trans k3).trans k4)⟩ ?_ ?_
  · rintro i σ H5 hi ⟨z, x, rfl, hz, ha, S5, k5⟩
    walk_at "go"
    have hi' : i < 8 := by omega
    refine k_ite (fun c1 => ?_) (fun c1 => ?_)
    · walk_at "go"
      refine use_draw S5 (by decide) (by decide) fun d5 H6 l5 u5 S6 k6 => ?_
      walk_at "go"
      obtain ⟨c', hc', ec'⟩ := abc_at l5 u5
      refine kr_ixS abc_len ec' ?_
      refine kr_plusS (size_ok (by rw [hz, one_len]; omega)) ?_
      walk_at "go"
      exact ⟨_, _, rfl, by rw [app_len, hz, one_len], small_ext ha hc', S6, k5.trans k6⟩
    walk_at "go"
    refine k_ite (fun c2 => ?_) (fun c2 => ?_)
    · walk_at "go"
      refine use_draw S5 (by decide) (by decide) fun d5 H6 l5 u5 S6 k6 => ?_
      walk_at "go"
      obtain ⟨c', hc', ec'⟩ := abc_at l5 u5
      refine kr_ixS abc_len ec' ?_
      refine kr_plusS (size_ok (by rw [hz, one_len]; omega)) ?_
      walk_at "go"
      exact ⟨_, _, rfl, by rw [app_len, hz, one_len], small_ext ha hc', S6, k5.trans k6⟩
    · walk_at "go"
      refine kr_plusS (size_ok (by rw [hz, one_len]; omega)) ?_
      walk_at "go"
      exact ⟨_, _, rfl, by rw [app_len, hz, one_len], small_ext ha hc, S5, k5⟩
  · rintro σ H5 ⟨z, x, rfl, hz, ha, S5, k5⟩
    walk_at "go"
    exact k _ _ ⟨by omega, by omega, ha⟩ S5 k5
theorem same_step (T : Txt K mg) (n : Nat) (G : FnOk P w K mg base CX0 n T.a_law_same T.d_law_same ["here", "there"] (spSame n)) : FnOk P w K mg base CX0 (n + 1) T.a_law_same T.d_law_same ["here", "there"] (spSame (n + 1)) := by
  refine T.F_law_same.ok sc_law_same (fun vs H Q E h => by obtain ⟨_, _, _, _, rfl, _⟩ := h; rfl) (fun cdv A outer s H vs Q E hr h => ?_)
  have hu := hu_of hr
  have hu64 := hr.units
  refine ⟨_, (pss_cons (ps_if (PW.pt (pw_or (pt_cmpR op_isNA (pv 0) pe_non (nomark _)) (pw_or1 (pt_cmpR op_isNA (pv 1) pe_non (nomark _))))) (pss_one (ps_ret (pe_and (pe_cmpR op_isNA (pv 0) pe_non (nomark _)) (pe_one (pe_cmpR op_isNA (pv 1) pe_non (nomark _)))))) pss_nil)
      (pss_cons (ps_if (PW.pt (pw_or (pt_val (pe_callB call_isi (by rfl) T.z_isinstance (by decide +kernel) (pa_cons (pv 0) (pa_cons (pe_bltn (v := .ty "bool") (by rfl) T.z_bool (by decide +kernel) rfl) pa_nil)))) (pw_or1 (pt_val (pe_callB call_isi (by rfl) T.z_isinstance (by decide +kernel) (pa_cons (pv 1) (pa_cons (pe_bltn (v := .ty "bool") (by rfl) T.z_bool (by decide +kernel) rfl) pa_nil))))))) (pss_one (ps_ret (pe_and (pe_callB call_isi (by rfl) T.z_isinstance (by decide +kernel) (pa_cons (pv 0) (pa_cons (pe_bltn (v := .ty "bool") (by rfl) T.z_bool (by decide +kernel) rfl) pa_nil))) (pe_and (pe_callB call_isi (by rfl) T.z_isinstance (by decide +kernel) (pa_cons (pv 1) (pa_cons (pe_bltn (v := .ty "bool") (by rfl) T.z_bool (by decide +kernel) rfl) pa_nil))) (pe_one (pe_cmpR (op_eqq hu64) (pv 0) (pv 1) (nomark _))))))) pss_nil)
      (pss_cons (ps_if (PW.pt (pw_or (pt_val (pe_callB call_isi (by rfl) T.z_isinstance (by decide +kernel) (pa_cons (pv 0) (pa_cons (pe_bltn (v := .ty "int") (by rfl) T.z_int (by decide +kernel) rfl) pa_nil)))) (pw_or1 (pt_val (pe_callB call_isi (by rfl) T.z_isinstance (by decide +kernel) (pa_cons (pv 1) (pa_cons (pe_bltn (v := .ty "int") (by rfl) T.z_int (by decide +kernel) rfl) pa_nil))))))) (pss_one (ps_ret (pe_and (pe_callB call_isi (by rfl) T.z_isinstance (by decide +kernel) (pa_cons (pv 0) (pa_cons (pe_bltn (v := .ty "int") (by rfl) T.z_int (by decide +kernel) rfl) pa_nil))) (pe_and (pe_callB call_isi (by rfl) T.z_isinstance (by decide +kernel) (pa_cons (pv 1) (pa_cons (pe_bltn (v := .ty "int") (by rfl) T.z_int (by decide +kernel) rfl) pa_nil))) (pe_one (pe_cmpR (op_eqq hu64) (pv 0) (pv 1) (nomark _))))))) pss_nil)
      (pss_cons (ps_if (PW.pt (pw_or (pt_val (pe_callB call_isi (by rfl) T.z_isinstance (by decide +kernel) (pa_cons (pv 0) (pa_cons (pe_bltn (v := .ty "str") (by rfl) T.z_str (by decide +kernel) rfl) pa_nil)))) (pw_or1 (pt_val (pe_callB call_isi (by rfl) T.z_isinstance (by decide +kernel) (pa_cons (pv 1) (pa_cons (pe_bltn (v := .ty "str") (by rfl) T.z_str (by decide +kernel) rfl) pa_nil))))))) (pss_one (ps_ret (pe_and (pe_callB call_isi (by rfl) T.z_isinstance (by decide +kernel) (pa_cons (pv 0) (pa_cons (pe_bltn (v := .ty "str") (by rfl) T.z_str (by decide +kernel) rfl) pa_nil))) (pe_and (pe_callB call_isi (by rfl) T.z_isinstance (by decide +kernel) (pa_cons (pv 1) (pa_cons (pe_bltn (v := .ty "str") (by rfl) T.z_str (by decide +kernel) rfl) pa_nil))) (pe_one (pe_cmpR (op_eqq hu64) (pv 0) (pv 1) (nomark _))))))) pss_nil)
      (pss_cons (ps_if (PW.pt (pw_and (pt_val (pe_callB call_isi (by rfl) T.z_isinstance (by decide +kernel) (pa_cons (pv 0) (pa_cons (pe_bltn (v := .ty "dict") (by rfl) T.z_dict (by decide +kernel) rfl) pa_nil)))) (pw_and1 (pt_val (pe_callB call_isi (by rfl) T.z_isinstance (by decide +kernel) (pa_cons (pv 1) (pa_cons (pe_bltn (v := .ty "dict") (by rfl) T.z_dict (by decide +kernel) rfl) pa_nil))))))) pss_never pss_nil)
      (pss_cons (ps_if (PW.pt (pw_or (pt_cmpR (op_neq hu64) (pe_callB call_isi (by rfl) T.z_isinstance (by decide +kernel) (pa_cons (pv 0) (pa_cons (pe_bltn (v := .ty "tuple") (by rfl) T.z_tuple (by decide +kernel) rfl) pa_nil))) (pe_callB call_isi (by rfl) T.z_isinstance (by decide +kernel) (pa_cons (pv 1) (pa_cons (pe_bltn (v := .ty "tuple") (by rfl) T.z_tuple (by decide +kernel) rfl) pa_nil))) (nomark _)) (pw_or1 (pt_cmpR (op_neq hu64) (pe_callB call_isi (by rfl) T.z_isinstance (by decide +kernel) (pa_cons (pv 0) (pa_cons (pe_bltn (v := .ty "list") (by rfl) T.z_list (by decide +kernel) rfl) pa_nil))) (pe_callB call_isi (by rfl) T.z_isinstance (by decide +kernel) (pa_cons (pv 1) (pa_cons (pe_bltn (v := .ty "list") (by rfl) T.z_list (by decide +kernel) rfl) pa_nil))) (nomark _))))) (pss_one (ps_ret pe_bl)) pss_nil)
      (pss_cons (ps_if (PW.pt (pw_and (pt_not (pt_val (pe_callB call_isi (by rfl) T.z_isinstance (by decide +kernel) (pa_cons (pv 0) (pa_cons (pe_bltn (v := .ty "tuple") (by rfl) T.z_tuple (by decide +kernel) rfl) pa_nil))))) (pw_and1 (pt_not (pt_val (pe_callB call_isi (by rfl) T.z_isinstance (by decide +kernel) (pa_cons (pv 0) (pa_cons (pe_bltn (v := .ty "list") (by rfl) T.z_list (by decide +kernel) rfl) pa_nil)))))))) (pss_one (ps_ret pe_bl)) pss_nil)
      (pss_cons (ps_if (pt_cmpR (op_neq hu64) (pe_callB call_lenA (by rfl) T.z_len (by decide +kernel) (pa_cons (pv 0) pa_nil)) (pe_callB call_lenA (by rfl) T.z_len (by decide +kernel) (pa_cons (pv 1) pa_nil)) (nomark _)) (pss_one (ps_ret pe_bl)) pss_nil)
      (pss_cons (ps_for PassesOwn.never rfl (pi_range1 (by rfl) T.z_range (pa_cons (pe_callB call_lenA (by rfl) T.z_len (by decide +kernel) (pa_cons (pv 0) pa_nil)) pa_nil)) (pg_name (i := 3) sc_law_same.nd rfl (by first | exact Or.inl rfl | exact Or.inr rfl))
      (pss_one (ps_if (pt_not (pt_val (pe_call G (hr.mono (by first | decide | omega)) (by rfl) T.m_law_same T.F_law_same.kp T.b_law_same .nil pass0 (pa_cons (pe_ix (ix_any hu) (pv 0) (pv 3) (fun _ _ => rfl)) (pa_cons (pe_ix (ix_any hu) (pv 1) (pv 3) (fun _ _ => rfl)) pa_nil))))) (pss_one (ps_ret pe_bl)) pss_nil)))
      (pss_one (ps_ret pe_bl))))))))))), ?_⟩
  obtain ⟨x, y, d, e, rfl, hx, hy, hd, k⟩ := h
  walk_at "start"
  walk_at "go"
  cases hx <;> cases hy
  all_goals (walk_at "go")
  all_goals try (exact k _ _ (by simp) (Keep.refl H))
  all_goals
    rename_i a xs ds h1 n1 l1 t1 a' ys es h2 n2 l2 t2
    refine k_ite (fun c1 => ?_) (fun c1 => ?_)
    · walk_at "go"
      refine k _ _ ?_ (Keep.refl H)
      have e1 := t1.len
      have e2 := t2.len
      have e3 : ¬ xs.length = ys.length := by intro z; rw [z] at c1; simp at c1
      constructor
      · intro z; cases z
      · intro z; cases z; exact absurd (e1.trans e2.symm) e3
    have e1 := t1.len
    have e2 := t2.len
    have e4 : (xs.length : Int) = ys.length := by simpa using c1
    have e3 : xs.length = ys.length := by omega
    walk_at "go"
    refine for_r (fun i σ H' => (∃ v, σ = [some (.ref a), some (.ref a'), none, v]) ∧ Keep [] H H' ∧ ds.take i = es.take i) ⟨⟨none, rfl⟩, Keep.refl H, rfl⟩ ?_ ?_
    · rintro i σ H1 hi ⟨⟨v, rfl⟩, k1, eq⟩
      have hi' : i < xs.length := by omega
      obtain ⟨x, hx⟩ := some_of hi'
      obtain ⟨y, hy⟩ := some_of (xs := ys) (i := i) (by omega)
      obtain ⟨d, hd1, id⟩ := t1.get hx
      obtain ⟨e, he1, ie⟩ := t2.get hy
      walk_at "go"
      first | refine kr_ixL (k1.at nin0 h1) (atI_nat hx) ?_ | refine kr_ixT (k1.at nin0 h1) (atI_nat hx) ?_
      walk_at "go"
      first | refine kr_ixL (k1.at nin0 h2) (atI_nat hy) ?_ | refine kr_ixT (k1.at nin0 h2) (atI_nat hy) ?_
      walk_at "go"
      have dd : d.depth < n := by
        have := depth_mem (List.mem_of_getElem? hd1)
        simp only [D.depth] at hd
        omega
      refine use_same (id.keep k1 (by simp)) (ie.keep k1 (by simp)) dd fun b H2 hb k2 => ?_
      walk_at "go"
      cases b with
      | true =>
        walk_at "go"
        have q := hb.mp rfl
        exact ⟨⟨_, rfl⟩, k1.trans k2, take_eq eq hd1 (q ▸ he1)⟩
      | false =>
        walk_at "go"
        refine k _ _ ?_ (k1.trans k2)
        constructor
        · intro z; cases z
        · intro z
          cases z
          have q : d = e := Option.some.inj (hd1.symm.trans he1)
          have := hb.mpr q
          cases this
    · rintro σ H1 ⟨⟨v, rfl⟩, k1, eq⟩
      walk_at "go"
      have q : ds = es := take_all (by omega) (by rw [← e1]; simpa using eq)
      exact k _ _ (by simp [q]) k1
theorem ok_law_same (T : Txt K mg) : ∀ n : Nat, FnOk P w K mg base CX0 n T.a_law_same T.d_law_same ["here", "there"] (spSame n)
  | 0 => same_none
  | n + 1 => same_step T n (ok_law_same T n)
theorem ok_law_value (T : Txt K mg)  : FnOk P w K mg base CX0 (3) T.a_law_value T.d_law_value ["state"] (spValue) := by
  refine T.F_law_value.ok sc_law_value (fun vs H Q E h => by obtain ⟨_, _, rfl, _⟩ := h; rfl) (fun cdv A outer s H vs Q E hr h => ?_)
  have hu := hu_of hr
  have hu64 := hr.units
  refine ⟨_, (pss_cons (ps_set (i := 1) sc_law_value.nd rfl (by first | exact Or.inl rfl | exact Or.inr rfl) (pe_call (ok_law_draw T) (hr.mono (by first | decide | omega)) (by rfl) T.m_law_draw T.F_law_draw.kp T.b_law_draw .nil pass0 (pa_cons (pv 0) (pa_cons pe_int pa_nil))))
      (pss_cons (ps_if (pt_cmpR (op_eqq hu64) (pv 1) pe_int (nomark _)) (pss_one (ps_ret (pe_op op_sub (pe_call (ok_law_draw T) (hr.mono (by first | decide | omega)) (by rfl) T.m_law_draw T.F_law_draw.kp T.b_law_draw .nil pass0 (pa_cons (pv 0) (pa_cons pe_int pa_nil))) pe_int))) pss_nil)
      (pss_cons (ps_if (pt_cmpR (op_eqq hu64) (pv 1) pe_int (nomark _)) (pss_one (ps_ret (pe_op op_sub (pe_op op_sub (pe_op op_pow pe_int pe_int) pe_int) (pe_call (ok_law_draw T) (hr.mono (by first | decide | omega)) (by rfl) T.m_law_draw T.F_law_draw.kp T.b_law_draw .nil pass0 (pa_cons (pv 0) (pa_cons pe_int pa_nil)))))) pss_nil)
      (pss_cons (ps_if (pt_cmpR (op_eqq hu64) (pv 1) pe_int (nomark _)) (pss_one (ps_ret (pe_op op_sub pe_int (pe_op op_sub (pe_op op_sub (pe_op op_pow pe_int pe_int) pe_int) (pe_call (ok_law_draw T) (hr.mono (by first | decide | omega)) (by rfl) T.m_law_draw T.F_law_draw.kp T.b_law_draw .nil pass0 (pa_cons (pv 0) (pa_cons pe_int pa_nil))))))) pss_nil)
      (pss_one (ps_ret (pe_op op_sub (pe_call (ok_law_draw T) (hr.mono (by first | decide | omega)) (by rfl) T.m_law_draw T.F_law_draw.kp T.b_law_draw .nil pass0 (pa_cons (pv 0) (pa_cons (pe_op op_pow pe_int pe_int) pa_nil))) (pe_op op_times pe_int (pe_op op_pow pe_int pe_int))))))))), ?_⟩
  obtain ⟨p, q, rfl, S, k⟩ := h
  walk_at "start"
  walk_at "go"
  refine use_draw S (by decide) (by decide) fun d1 H1 l1 u1 S1 k1 => ?_
  walk_at "go"
  refine k_ite (fun c1 => ?_) (fun c1 => ?_)
  · walk_at "go"
    refine use_draw S1 (by decide) (by decide) fun d2 H2 l2 u2 S2 k2 => ?_
    walk_at "go"
    exact k _ _ S2 (k1.trans k2)
  walk_at "go"
  refine k_ite (fun c2 => ?_) (fun c2 => ?_)
  · walk_at "go"
    refine use_draw S1 (by decide) (by decide) fun d2 H2 l2 u2 S2 k2 => ?_
    walk_at "go"
    exact k _ _ S2 (k1.trans k2)
  walk_at "go"
  refine k_ite (fun c3 => ?_) (fun c3 => ?_)
  · walk_at "go"
    refine use_draw S1 (by decide) (by decide) fun d2 H2 l2 u2 S2 k2 => ?_
    walk_at "go"
    exact k _ _ S2 (k1.trans k2)
  walk_at "go"
  refine use_draw S1 (by decide) (by decide) fun d2 H2 l2 u2 S2 k2 => ?_
  walk_at "go"
  exact k _ _ S2 (k1.trans k2)
/-! ## what a reader and its row hold -/
structure Itm where
  name : Int
  ch : D
  place : Int
def Itm.d (t : Itm) : D := .tup [.int t.name, t.ch, .int t.place]
/-- the state of a reader: own, the inbox, the journal, the repeats -/
structure Rs where
  own : Int
  inb : List Itm
  jou : List Int
  rep : List Int
def Rs.small (s : Rs) (n : Nat) : Prop := s.inb.length ≤ n ∧ s.jou.length ≤ n ∧ s.rep.length ≤ n
def Rs.got (s : Rs) : Int := match s.inb.getLast? with
  | some t => if t.place > s.own then t.place else s.own
  | none => s.own
def Rs.recv (s : Rs) (t : Itm) : Rs := { s with inb := s.inb ++ [t], rep := if t.name ≠ 0 ∧ t.name ∈ s.jou then s.rep ++ [t.name] else s.rep }
def Rs.appl (s : Rs) (t : Itm) (r : List Itm) : Rs := { own := if t.place > s.own then t.place else s.own, inb := r, jou := if t.name ≠ 0 then s.jou ++ [t.name] else s.jou, rep := s.rep }
structure ReaderAt (C : Addr) (S : List Addr) (H : Hp) (r l1 l2 l3 : Addr) (s : Rs) : Prop where
  ob : ∃ dx, H r = some (.ins C dx (fl_Reader (.int s.own) (.ref l1) (.ref l2) (.ref l3)))
  inb : ∃ xs, H l1 = some (.lst xs) ∧ IsL S H xs (s.inb.map Itm.d)
  jou : H l2 = some (.lst (s.jou.map V.int))
  rep : H l3 = some (.lst (s.rep.map V.int))
  n12 : l1 ≠ l2
  n13 : l1 ≠ l3
  n23 : l2 ≠ l3
theorem item_inv {S : List Addr} {H : Hp} {v : V} {t : Itm} (h : Is S H v t.d) : ∃ a c, v = .ref a ∧ H a = some (.tup [.int t.name, c, .int t.place]) ∧ a ∉ S ∧ Is S H c t.ch := by
  obtain ⟨a, xs, rfl, ha, n, l, t1⟩ := Is.tup_inv h
  obtain ⟨x, xs, rfl, h1, t2⟩ := t1.cons_inv
  obtain ⟨c, xs, rfl, h2, t3⟩ := t2.cons_inv
  obtain ⟨z, xs, rfl, h3, t4⟩ := t3.cons_inv
  cases t4.nil_inv
  cases h1.int_inv
  cases h3.int_inv
  exact ⟨a, c, rfl, ha, n, h2⟩
def spInit (C : Addr) : Sp := fun vs H Q _ => ∃ (x dx : Addr) (b : Int), vs = [.ref x, .int b] ∧ H x = some (.ins C dx []) ∧
  ∀ (H' : Hp) (l1 l2 l3 : Addr), Fresh H l1 → Fresh H l2 → Fresh H l3 → (∀ S, ReaderAt C S H' x l1 l2 l3 ⟨b, [], [], []⟩) → Keep [x] H H' → Q .non H'
def spGot (C : Addr) : Sp := fun vs H Q _ => ∃ (S : List Addr) (r l1 l2 l3 : Addr) (s : Rs), vs = [.ref r] ∧ ReaderAt C S H r l1 l2 l3 s ∧ Q (.int s.got) H
def spList (C : Addr) (f : V → V → V → V) : Sp := fun vs H Q _ => ∃ (r dx : Addr) (o a b c : V) (l : Addr) (xs : List V), vs = [.ref r] ∧ H r = some (.ins C dx (fl_Reader o a b c)) ∧ f a b c = .ref l ∧ H l = some (.lst xs) ∧
  ∀ p, Fresh H p → Q (.ref p) (upd H p (.lst xs))
def spRecv (C : Addr) : Sp := fun vs H Q _ => ∃ (S : List Addr) (r l1 l2 l3 : Addr) (s : Rs) (v : V) (t : Itm), vs = [.ref r, v] ∧ ReaderAt C S H r l1 l2 l3 s ∧ Is S H v t.d ∧ s.small 900 ∧ (l1 ∈ S ∧ l3 ∈ S) ∧
  ∀ H', ReaderAt C S H' r l1 l2 l3 (s.recv t) → Keep [l1, l3] H H' → Q .non H'
def spAppl (C : Addr) : Sp := fun vs H Q _ => ∃ (S : List Addr) (r l1 l2 l3 : Addr) (s : Rs), vs = [.ref r] ∧ ReaderAt C S H r l1 l2 l3 s ∧ s.small 900 ∧ (r ∈ S ∧ l1 ∈ S ∧ l2 ∈ S) ∧
  (s.inb = [] → Q .non H) ∧ ∀ H' v t z, s.inb = t :: z → Is S H' v t.d → ReaderAt C S H' r l1 l2 l3 (s.appl t z) → Keep [r, l1, l2] H H' → Q v H'
def spDrop (C : Addr) : Sp := fun vs H Q _ => ∃ (S : List Addr) (r l1 l2 l3 : Addr) (s : Rs), vs = [.ref r] ∧ ReaderAt C S H r l1 l2 l3 s ∧ r ∈ S ∧ 
  ∀ H' l, Fresh H l → ReaderAt C S H' r l l2 l3 { s with inb := [] } → Keep [r] H H' → Q .non H'
theorem ok_Reader_init (T : Txt K mg)  : FnOk P w K mg base CX0 (1) T.a_Reader_init T.d_Reader_init ["self", "birth"] (spInit T.c_Reader) := by
  refine T.F_Reader_init.ok sc_Reader_init (fun vs H Q E h => by obtain ⟨_, _, _, rfl, _⟩ := h; rfl) (fun cdv A outer s H vs Q E hr h => ?_)
  have hu := hu_of hr
  have hu64 := hr.units
  refine ⟨_, (pss_cons (ps_fld (pv 0) (pv 1) rfl)
      (pss_cons (ps_fld (pv 0) (pe_lst pa_nil) rfl)
      (pss_cons (ps_fld (pv 0) (pe_lst pa_nil) rfl)
      (pss_one (ps_fld (pv 0) (pe_lst pa_nil) rfl))))), ?_⟩
  obtain ⟨x, dx, b, rfl, hx, k⟩ := h
  have cl := T.cl_Reader; have n1 := T.n_Reader_own; have n2 := T.n_Reader_inbox; have n3 := T.n_Reader_journal; have n4 := T.n_Reader_repeats
  walk_at "start"
  walk_at "go"
  intro l1 e1
  walk_at "go"
  intro l2 e2
  walk_at "go"
  intro l3 e3
  walk_at "go"
  exact k _ l1 l2 l3 (by walk_at "fr") (by walk_at "fr") (by walk_at "fr") (fun S => ⟨⟨dx, upd_same⟩, ⟨[], by walk_at "hp", .nil⟩, by walk_at "hp", by walk_at "hp", by walk_at "ne", by walk_at "ne", by walk_at "ne"⟩) (by walk_at "kp")
theorem ok_Reader_got (T : Txt K mg)  : FnOk P w K mg base CX0 (1) T.a_Reader_got T.d_Reader_got ["self"] (spGot T.c_Reader) := by
  refine T.F_Reader_got.ok sc_Reader_got (fun vs H Q E h => by obtain ⟨_, _, _, _, _, _, rfl, _⟩ := h; rfl) (fun cdv A outer s H vs Q E hr h => ?_)
  have hu := hu_of hr
  have hu64 := hr.units
  refine ⟨_, (pss_cons (ps_if (PW.pt (pw_and (pt_cmpR op_gt (pe_callB call_lenA (by rfl) T.z_len (by decide +kernel) (pa_cons (pe_fld (pv 0) rfl) pa_nil)) pe_int (nomark _)) (pw_and1 (pt_cmpR op_gt (pe_ix (ix_any hu) (pe_ix (ix_any hu) (pe_fld (pv 0) rfl) (pe_un un_neg pe_int) (fun _ _ => rfl)) pe_int (fun _ _ => rfl)) (pe_fld (pv 0) rfl) (nomark _))))) (pss_one (ps_ret (pe_ix (ix_any hu) (pe_ix (ix_any hu) (pe_fld (pv 0) rfl) (pe_un un_neg pe_int) (fun _ _ => rfl)) pe_int (fun _ _ => rfl)))) pss_nil)
      (pss_one (ps_ret (pe_fld (pv 0) rfl)))), ?_⟩
  obtain ⟨S, r, l1, l2, l3, s, rfl, R, k⟩ := h
  obtain ⟨⟨dx, ob⟩, ⟨xs, hi, ti⟩, hj, hr', d12, d13, d23⟩ := id R
  have cl := T.cl_Reader; have n1 := T.n_Reader_own; have n2 := T.n_Reader_inbox; have n3 := T.n_Reader_journal; have n4 := T.n_Reader_repeats
  walk_at "start"
  walk_at "go"
  rcases List.eq_nil_or_concat s.inb with h0 | ⟨ini, t, h0⟩
  · rw [h0] at ti
    cases ti.nil_inv
    walk_at "go"
    have e : s.got = s.own := by simp [Rs.got, h0]
    rw [e] at k
    exact k
  · rw [h0, List.concat_eq_append, List.map_append] at ti
    obtain ⟨ys, y, rfl, t1, t2⟩ := IsL.snoc_inv ti
    obtain ⟨a, c, rfl, ha, na, hc⟩ := item_inv t2
    refine k_iteT (by simp) ?_
    walk_at "go"
    have e : s.got = if t.place > s.own then t.place else s.own := by simp [Rs.got, h0]
    rw [e] at k
    refine k_ite (fun c1 => ?_) (fun c1 => ?_)
    · rw [if_pos (of_decide_eq_true c1)] at k
      walk_at "go"
      exact k
    · rw [if_neg (of_decide_eq_false c1)] at k
      walk_at "go"
      exact k
theorem ok_Reader_receive (T : Txt K mg)  : FnOk P w K mg base CX0 (1) T.a_Reader_receive T.d_Reader_receive ["self", "item"] (spRecv T.c_Reader) := by
  refine T.F_Reader_receive.ok sc_Reader_receive (fun vs H Q E h => by obtain ⟨_, _, _, _, _, _, _, _, rfl, _⟩ := h; rfl) (fun cdv A outer s H vs Q E hr h => ?_)
  have hu := hu_of hr
  have hu64 := hr.units
  refine ⟨_, (pss_cons (ps_if (PW.pt (pw_and (pt_cmpR (op_neq hu64) (pe_ix (ix_any hu) (pv 1) pe_int (fun _ _ => rfl)) pe_int (nomark _)) (pw_and1 (pt_cmpR (op_inn hu) (pe_ix (ix_any hu) (pv 1) pe_int (fun _ _ => rfl)) (pe_fld (pv 0) rfl) (by rfl))))) (pss_one (ps_expr (pe_bm PySem.F.plainAttrs_list PySem.F.slot_list_append PySem.F.type_list_append mt_append (pe_fld (pv 0) rfl) (pa_cons (pe_ix (ix_any hu) (pv 1) pe_int (fun _ _ => rfl)) pa_nil)))) pss_nil)
      (pss_one (ps_expr (pe_bm PySem.F.plainAttrs_list PySem.F.slot_list_append PySem.F.type_list_append mt_append (pe_fld (pv 0) rfl) (pa_cons (pv 1) pa_nil))))), ?_⟩
  obtain ⟨S, r, l1, l2, l3, s, v, t, rfl, R, hv, hs, hS, k⟩ := h
  obtain ⟨⟨dx, ob⟩, ⟨xs, hi, ti⟩, hj, hr', d12, d13, d23⟩ := id R
  obtain ⟨a, c, rfl, ha, na, hc⟩ := item_inv hv
  have cl := T.cl_Reader; have n1 := T.n_Reader_own; have n2 := T.n_Reader_inbox; have n3 := T.n_Reader_journal; have n4 := T.n_Reader_repeats
  have d1r : r ≠ l1 := ne_of ob hi (by intro z; cases z)
  have d3r : r ≠ l3 := ne_of ob hr' (by intro z; cases z)
  have hxl : xs.length < sizeLine := by have := ti.len; rw [List.length_map] at this; exact small1000 (by have := hs.1; omega)
  have hrl : (s.rep.map V.int).length < sizeLine := by rw [List.length_map]; exact small1000 (by have := hs.2.2; omega)
  walk_at "start"
  refine k_seq ?_
  refine k_cutI (R := fun c H' => H' = H ∧ c = decide (t.name ≠ 0 ∧ t.name ∈ s.jou)) (fun B hB => ?_) ?_
  · walk_at "go"
    refine k_ite (fun c1 => ?_) (fun c1 => ?_)
    · walk_at "go"
      exact hB _ _ ⟨rfl, by simp at c1; simp [c1]⟩
    · exact hB _ _ ⟨rfl, by simp at c1; simp [c1]⟩
  · rintro b H ⟨rfl, hb⟩
    refine k_ite (fun c1 => ?_) (fun c1 => ?_)
    · walk_at "go"
      have e : t.name ≠ 0 ∧ t.name ∈ s.jou := by rw [c1] at hb; exact of_decide_eq_true hb.symm
      have kk : Keep [l1, l3] H (upd (upd H l3 (.lst (s.rep.map V.int ++ [.int t.name]))) l1 (.lst (xs ++ [.ref a]))) := by walk_at "kp"
      refine k _ ⟨⟨dx, by walk_at "hp"⟩, ⟨xs ++ [.ref a], upd_same, ?_⟩, by walk_at "hp", ?_, d12, d13, d23⟩ kk
      · simp only [Rs.recv, List.map_append, List.map_cons, List.map_nil]
        exact (ti.put hv).keep kk (by intro b hb; simp at hb; rcases hb with h | h <;> subst h <;> simp [hS])
      · simp only [Rs.recv, if_pos e, List.map_append, List.map_cons, List.map_nil]
        exact get_ne d13.symm upd_same
    · walk_at "go"
      have e : ¬ (t.name ≠ 0 ∧ t.name ∈ s.jou) := by rw [c1] at hb; exact of_decide_eq_false hb.symm
      have kk : Keep [l1, l3] H (upd H l1 (.lst (xs ++ [.ref a]))) := by walk_at "kp"
      refine k _ ⟨⟨dx, by walk_at "hp"⟩, ⟨xs ++ [.ref a], upd_same, ?_⟩, by walk_at "hp", ?_, d12, d13, d23⟩ kk
      · simp only [Rs.recv, List.map_append, List.map_cons, List.map_nil]
        exact (ti.put hv).keep kk (by intro b hb; simp at hb; rcases hb with h | h <;> subst h <;> simp [hS])
      · simp only [Rs.recv, if_neg e]
        exact get_ne d13.symm hr'
theorem ok_Reader_apply (T : Txt K mg)  : FnOk P w K mg base CX0 (1) T.a_Reader_apply T.d_Reader_apply ["self"] (spAppl T.c_Reader) := by
  refine T.F_Reader_apply.ok sc_Reader_apply (fun vs H Q E h => by obtain ⟨_, _, _, _, _, _, rfl, _⟩ := h; rfl) (fun cdv A outer s H vs Q E hr h => ?_)
  have hu := hu_of hr
  have hu64 := hr.units
  refine ⟨_, (pss_cons (ps_if (pt_cmpR (op_eqq hu64) (pe_callB call_lenA (by rfl) T.z_len (by decide +kernel) (pa_cons (pe_fld (pv 0) rfl) pa_nil)) pe_int (nomark _)) (pss_one (ps_ret pe_non)) pss_nil)
      (pss_cons (ps_set (i := 1) sc_Reader_apply.nd rfl (by first | exact Or.inl rfl | exact Or.inr rfl) (pe_bm PySem.F.plainAttrs_list PySem.F.slot_list_pop PySem.F.type_list_pop mt_popAt (pe_fld (pv 0) rfl) (pa_cons pe_int pa_nil)))
      (pss_cons (ps_if (pt_cmpR (op_neq hu64) (pe_ix (ix_any hu) (pv 1) pe_int (fun _ _ => rfl)) pe_int (nomark _)) (pss_one (ps_expr (pe_bm PySem.F.plainAttrs_list PySem.F.slot_list_append PySem.F.type_list_append mt_append (pe_fld (pv 0) rfl) (pa_cons (pe_ix (ix_any hu) (pv 1) pe_int (fun _ _ => rfl)) pa_nil)))) pss_nil)
      (pss_cons (ps_if (pt_cmpR op_gt (pe_ix (ix_any hu) (pv 1) pe_int (fun _ _ => rfl)) (pe_fld (pv 0) rfl) (nomark _)) (pss_one (ps_fld (pv 0) (pe_ix (ix_any hu) (pv 1) pe_int (fun _ _ => rfl)) rfl)) pss_nil)
      (pss_one (ps_ret (pv 1))))))), ?_⟩
  obtain ⟨S, r, l1, l2, l3, s, rfl, R, hs, hS, k0, k⟩ := h
  obtain ⟨⟨dx, ob⟩, ⟨xs, hi, ti⟩, hj, hr', d12, d13, d23⟩ := id R
  have cl := T.cl_Reader; have n1 := T.n_Reader_own; have n2 := T.n_Reader_inbox; have n3 := T.n_Reader_journal; have n4 := T.n_Reader_repeats
  have d1r : r ≠ l1 := ne_of ob hi (by intro z; cases z)
  have d2r : r ≠ l2 := ne_of ob hj (by intro z; cases z)
  have d3r : r ≠ l3 := ne_of ob hr' (by intro z; cases z)
  have hjl : (s.jou.map V.int).length < sizeLine := by rw [List.length_map]; exact small1000 (by have := hs.2.1; omega)
  walk_at "start"
  walk_at "go"
  rcases h0 : s.inb with _ | ⟨t, z⟩
  · rw [h0] at ti
    cases ti.nil_inv
    walk_at "go"
    exact k0 h0
  rw [h0] at ti
  obtain ⟨y, ys, rfl, t1, t2⟩ := IsL.cons_inv ti
  obtain ⟨a, c, rfl, ha, na, hc⟩ := item_inv t1
  have da1 : a ≠ l1 := ne_of ha hi (by intro z; cases z)
  have da2 : a ≠ l2 := ne_of ha hj (by intro z; cases z)
  have dar : a ≠ r := ne_of ha ob (by intro z; cases z)
  refine k_iteF (by simp; omega) ?_
  walk_at "gx"
  walk_at "g1"
  refine k_cut (R := fun σ' H' => σ' = [some (.ref r), some (.ref a)] ∧ H' l1 = some (.lst ys) ∧ Keep [l1, l2] H H' ∧ H' l2 = some (.lst ((if t.name ≠ 0 then s.jou ++ [t.name] else s.jou).map V.int))) (fun B hB => ?_) ?_
  · walk_at "go"
    refine k_ite (fun c1 => ?_) (fun c1 => ?_)
    · walk_at "go"
      have e : t.name ≠ 0 := by simpa using c1
      exact hB _ _ ⟨rfl, by walk_at "hp", by walk_at "kp", by rw [if_pos e, List.map_append]; exact upd_same⟩
    · walk_at "go"
      have e : ¬ t.name ≠ 0 := by simpa using c1
      exact hB _ _ ⟨rfl, by walk_at "hp", by walk_at "kp", by rw [if_neg e]; walk_at "hp"⟩
  rintro σ' H1 ⟨rfl, e1, kk, e2⟩
  have ha1 : H1 a = some (.tup [.int t.name, c, .int t.place]) := kk.at (ninc da1 (nin1 da2)) ha
  have ob1 := kk.at (ninc d1r (nin1 d2r)) ob
  have e3 := kk.at (ninc d13.symm (nin1 d23.symm)) hr'
  walk_at "go"
  have sub : ∀ b, b ∈ [r, l1, l2] → b ∈ S := by intro b hb; simp at hb; rcases hb with h | h | h <;> subst h <;> simp [hS]
  refine k_ite (fun c1 => ?_) (fun c1 => ?_)
  · walk_at "go"
    have e : t.place > s.own := of_decide_eq_true c1
    have kk2 : Keep [r, l1, l2] H (upd H1 r (.ins T.c_Reader dx (fl_Reader (.int t.place) (.ref l1) (.ref l2) (.ref l3)))) := by walk_at "kp"
    refine k _ _ t z h0 (t1.keep kk2 sub) ⟨⟨dx, ?_⟩, ⟨ys, by walk_at "hp", t2.keep kk2 sub⟩, by walk_at "hp", by walk_at "hp", d12, d13, d23⟩ kk2
    simp only [Rs.appl, if_pos e]
    exact upd_same
  · walk_at "go"
    have e : ¬ t.place > s.own := of_decide_eq_false c1
    have kk2 : Keep [r, l1, l2] H H1 := by walk_at "kp"
    refine k _ _ t z h0 (t1.keep kk2 sub) ⟨⟨dx, ?_⟩, ⟨ys, by walk_at "hp", t2.keep kk2 sub⟩, by walk_at "hp", by walk_at "hp", d12, d13, d23⟩ kk2
    simp only [Rs.appl, if_neg e]
    exact ob1
theorem ok_Reader_drop (T : Txt K mg)  : FnOk P w K mg base CX0 (1) T.a_Reader_drop T.d_Reader_drop ["self"] (spDrop T.c_Reader) := by
  refine T.F_Reader_drop.ok sc_Reader_drop (fun vs H Q E h => by obtain ⟨_, _, _, _, _, _, rfl, _⟩ := h; rfl) (fun cdv A outer s H vs Q E hr h => ?_)
  have hu := hu_of hr
  have hu64 := hr.units
  refine ⟨_, (pss_one (ps_fld (pv 0) (pe_lst pa_nil) rfl)), ?_⟩
  obtain ⟨S, r, l1, l2, l3, s, rfl, R, hS, k⟩ := h
  obtain ⟨⟨dx, ob⟩, ⟨xs, hi, ti⟩, hj, hr', d12, d13, d23⟩ := id R
  have cl := T.cl_Reader; have n1 := T.n_Reader_own; have n2 := T.n_Reader_inbox; have n3 := T.n_Reader_journal; have n4 := T.n_Reader_repeats
  have d2r : r ≠ l2 := ne_of ob hj (by intro z; cases z)
  have d3r : r ≠ l3 := ne_of ob hr' (by intro z; cases z)
  walk_at "start"
  walk_at "go"
  intro l e
  walk_at "go"
  exact k _ l e ⟨⟨dx, upd_same⟩, ⟨[], by walk_at "hp", .nil⟩, by walk_at "hp", by walk_at "hp", by walk_at "ne", by walk_at "ne", d23⟩ (by walk_at "kp")
theorem ok_Reader_inbox (T : Txt K mg)  : FnOk P w K mg base CX0 (1) T.a_Reader_inbox T.d_Reader_inbox ["self"] (spList T.c_Reader (fun a _ _ => a)) := by
  refine T.F_Reader_inbox.ok sc_Reader_inbox (fun vs H Q E h => by obtain ⟨_, _, _, _, _, _, _, _, rfl, _⟩ := h; rfl) (fun cdv A outer s H vs Q E hr h => ?_)
  have hu := hu_of hr
  have hu64 := hr.units
  refine ⟨_, (pss_one (ps_ret (pe_callTy call_listA (by rfl) T.z_list (by decide +kernel) (pa_cons (pe_fld (pv 0) rfl) pa_nil)))), ?_⟩
  obtain ⟨r, dx, o, a, b, c, l, xs, rfl, ob, rfl, hl, k⟩ := h
  have cl := T.cl_Reader; have n2 := T.n_Reader_inbox
  walk_at "start"
  walk_at "go"
  exact k
theorem ok_Reader_journal (T : Txt K mg)  : FnOk P w K mg base CX0 (1) T.a_Reader_journal T.d_Reader_journal ["self"] (spList T.c_Reader (fun _ b _ => b)) := by
  refine T.F_Reader_journal.ok sc_Reader_journal (fun vs H Q E h => by obtain ⟨_, _, _, _, _, _, _, _, rfl, _⟩ := h; rfl) (fun cdv A outer s H vs Q E hr h => ?_)
  have hu := hu_of hr
  have hu64 := hr.units
  refine ⟨_, (pss_one (ps_ret (pe_callTy call_listA (by rfl) T.z_list (by decide +kernel) (pa_cons (pe_fld (pv 0) rfl) pa_nil)))), ?_⟩
  obtain ⟨r, dx, o, a, b, c, l, xs, rfl, ob, rfl, hl, k⟩ := h
  have cl := T.cl_Reader; have n2 := T.n_Reader_journal
  walk_at "start"
  walk_at "go"
  exact k
theorem ok_Reader_repeats (T : Txt K mg)  : FnOk P w K mg base CX0 (1) T.a_Reader_repeats T.d_Reader_repeats ["self"] (spList T.c_Reader (fun _ _ c => c)) := by
  refine T.F_Reader_repeats.ok sc_Reader_repeats (fun vs H Q E h => by obtain ⟨_, _, _, _, _, _, _, _, rfl, _⟩ := h; rfl) (fun cdv A outer s H vs Q E hr h => ?_)
  have hu := hu_of hr
  have hu64 := hr.units
  refine ⟨_, (pss_one (ps_ret (pe_callTy call_listA (by rfl) T.z_list (by decide +kernel) (pa_cons (pe_fld (pv 0) rfl) pa_nil)))), ?_⟩
  obtain ⟨r, dx, o, a, b, c, l, xs, rfl, ob, rfl, hl, k⟩ := h
  have cl := T.cl_Reader; have n2 := T.n_Reader_repeats
  walk_at "start"
  walk_at "go"
  exact k
/-! ## the law's own row -/
def TrS (S : List Addr) (H : Hp) : Prop := ∀ x, x ∈ S → Tr H x
theorem TrS.keep {S F : List Addr} {H H' : Hp} (h : TrS S H) (k : Keep F H H') (t : ∀ x, x ∈ F → Tr H' x) : TrS S H' := fun x hx => by
  by_cases e : x ∈ F
  · exact t x e
  · exact (h x hx).keep k e
theorem TrS.out {S : List Addr} {H : Hp} {a : Addr} (h : TrS S H) (f : Fresh H a) : a ∉ S := fun z => by
  obtain ⟨o, e⟩ := h a z
  have f : H a = none := f
  rw [f] at e
  cases e
theorem TrS.up {S : List Addr} {H : Hp} {a : Addr} {o : HO} (h : TrS S H) : TrS S (upd H a o) := fun x hx => (h x hx).up
structure RowAt (S : List Addr) (H : Hp) (d : Addr) (s : Rs) : Prop where
  ex : ∃ a b c xs, H d = some (.dK (dk_Row (.int s.own) (.ref a) (.ref b) (.ref c))) ∧ (H a = some (.lst xs) ∧ a ∉ S ∧ IsL S H xs (s.inb.map Itm.d)) ∧ (H b = some (.lst (s.jou.map V.int)) ∧ b ∉ S) ∧ (H c = some (.lst (s.rep.map V.int)) ∧ c ∉ S)
def spFresh : Sp := fun vs H Q _ => ∃ (b : Int), vs = [.int b] ∧ ∀ d H', Fresh H d → (∀ S, TrS S H → RowAt (d :: S) H' d ⟨b, [], [], []⟩) → Keep [] H H' → Tr H' d → Q (.ref d) H'
def spGotR : Sp := fun vs H Q _ => ∃ (S : List Addr) (d : Addr) (s : Rs), vs = [.ref d] ∧ RowAt S H d s ∧ Q (.int s.got) H
def spRecvR : Sp := fun vs H Q _ => ∃ (S : List Addr) (d : Addr) (s : Rs) (v : V) (t : Itm), vs = [.ref d, v] ∧ RowAt S H d s ∧ Is S H v t.d ∧ s.small 900 ∧ d ∈ S ∧ TrS S H ∧ ∀ H', RowAt S H' d (s.recv t) → Keep [d] H H' → Q .non H'
def spApplR : Sp := fun vs H Q _ => ∃ (S : List Addr) (d : Addr) (s : Rs), vs = [.ref d] ∧ RowAt S H d s ∧ s.small 900 ∧ d ∈ S ∧ TrS S H ∧
  (s.inb = [] → Q .non H) ∧ ∀ H' v t z, s.inb = t :: z → Is S H' v t.d → RowAt S H' d (s.appl t z) → Keep [d] H H' → Q v H'
theorem cut_tail (x : V) (xs : List V) : cutV (x :: xs) (some 1) none = xs := by
  have e1 : HT.sIx (x :: xs).length 0 (some 1) = 1 := by simp [HT.sIx]
  have e2 : HT.sIx (x :: xs).length (x :: xs).length none = (x :: xs).length := rfl
  unfold cutV
  rw [e1, e2]
  simp
theorem ok_law_fresh (T : Txt K mg)  : FnOk P w K mg base CX0 (1) T.a_law_fresh T.d_law_fresh ["birth"] (spFresh) := by
  refine T.F_law_fresh.ok sc_law_fresh (fun vs H Q E h => by obtain ⟨_, rfl, _⟩ := h; rfl) (fun cdv A outer s H vs Q E hr h => ?_)
  have hu := hu_of hr
  have hu64 := hr.units
  refine ⟨_, (pss_one (ps_ret (pe_disp (pps_cons pe_str (pv 0) (pps_cons pe_str (pe_lst pa_nil) (pps_cons pe_str (pe_lst pa_nil) (pps_cons pe_str (pe_lst pa_nil) pps_nil)))) (by rfl) (by rfl) (fun z => by cases z) (by decide)))), ?_⟩
  obtain ⟨b, rfl, k⟩ := h
  walk_at "start"
  walk_at "go"
  intro d e0
  walk_at "go"
  intro a e1
  walk_at "go"
  intro b' e2
  walk_at "go"
  intro c e3
  walk_at "go"
  refine kr_disp (kvs := dk_Row (.int b) (.ref a) (.ref b') (.ref c)) (by walk_at "hp") rfl (Nat.le_of_ble_eq_true rfl) dm_Row ?_
  have n1 : d ≠ a := by walk_at "ne"
  have n2 : d ≠ b' := by walk_at "ne"
  have n3 : d ≠ c := by walk_at "ne"
  exact k _ _ e0 (fun S hS => ⟨a, b', c, [], upd_same, ⟨by walk_at "hp", ninc n1.symm (hS.out (by walk_at "fr")), .nil⟩, ⟨by walk_at "hp", ninc n2.symm (hS.out (by walk_at "fr"))⟩, ⟨by walk_at "hp", ninc n3.symm (hS.out (by walk_at "fr"))⟩⟩) (by walk_at "kp") .same
theorem ok_law_got (T : Txt K mg)  : FnOk P w K mg base CX0 (1) T.a_law_got T.d_law_got ["row"] (spGotR) := by
  refine T.F_law_got.ok sc_law_got (fun vs H Q E h => by obtain ⟨_, _, _, rfl, _⟩ := h; rfl) (fun cdv A outer s H vs Q E hr h => ?_)
  have hu := hu_of hr
  have hu64 := hr.units
  refine ⟨_, (pss_cons (ps_if (PW.pt (pw_and (pt_cmpR op_gt (pe_callB call_lenA (by rfl) T.z_len (by decide +kernel) (pa_cons (pe_ix (ix_any hu) (pv 0) pe_str (fun _ _ => rfl)) pa_nil)) pe_int (nomark _)) (pw_and1 (pt_cmpR op_gt (pe_ix (ix_any hu) (pe_ix (ix_any hu) (pe_ix (ix_any hu) (pv 0) pe_str (fun _ _ => rfl)) (pe_un un_neg pe_int) (fun _ _ => rfl)) pe_int (fun _ _ => rfl)) (pe_ix (ix_any hu) (pv 0) pe_str (fun _ _ => rfl)) (nomark _))))) (pss_one (ps_ret (pe_ix (ix_any hu) (pe_ix (ix_any hu) (pe_ix (ix_any hu) (pv 0) pe_str (fun _ _ => rfl)) (pe_un un_neg pe_int) (fun _ _ => rfl)) pe_int (fun _ _ => rfl)))) pss_nil)
      (pss_one (ps_ret (pe_ix (ix_any hu) (pv 0) pe_str (fun _ _ => rfl))))), ?_⟩
  obtain ⟨S, d, s, rfl, R, k⟩ := h
  obtain ⟨a, b, c, xs, hd, ⟨hi, na, ti⟩, ⟨hj, nb⟩, ⟨hc, nc⟩⟩ := R.ex
  walk_at "start"
  walk_at "go"
  rcases List.eq_nil_or_concat s.inb with h0 | ⟨ini, t, h0⟩
  · rw [h0] at ti
    cases ti.nil_inv
    walk_at "go"
    have e : s.got = s.own := by simp [Rs.got, h0]
    rw [e] at k
    exact k
  · rw [h0, List.concat_eq_append, List.map_append] at ti
    obtain ⟨ys, y, rfl, t1, t2⟩ := IsL.snoc_inv ti
    obtain ⟨a', c', rfl, ha', na', hc'⟩ := item_inv t2
    refine k_iteT (by simp) ?_
    walk_at "go"
    have e : s.got = if t.place > s.own then t.place else s.own := by simp [Rs.got, h0]
    rw [e] at k
    refine k_ite (fun c1 => ?_) (fun c1 => ?_)
    · rw [if_pos (of_decide_eq_true c1)] at k
      walk_at "go"
      exact k
    · rw [if_neg (of_decide_eq_false c1)] at k
      walk_at "go"
      exact k
theorem ok_law_received (T : Txt K mg)  : FnOk P w K mg base CX0 (1) T.a_law_received T.d_law_received ["row", "item"] (spRecvR) := by
  refine T.F_law_received.ok sc_law_received (fun vs H Q E h => by obtain ⟨_, _, _, _, _, rfl, _⟩ := h; rfl) (fun cdv A outer s H vs Q E hr h => ?_)
  have hu := hu_of hr
  have hu64 := hr.units
  refine ⟨_, (pss_cons (ps_if (PW.pt (pw_and (pt_cmpR (op_neq hu64) (pe_ix (ix_any hu) (pv 1) pe_int (fun _ _ => rfl)) pe_int (nomark _)) (pw_and1 (pt_cmpR (op_inn hu) (pe_ix (ix_any hu) (pv 1) pe_int (fun _ _ => rfl)) (pe_ix (ix_any hu) (pv 0) pe_str (fun _ _ => rfl)) (by rfl))))) (pss_one (ps_asg (pe_op op_plus (pe_ix (ix_any hu) (pv 0) pe_str (fun _ _ => rfl)) (pe_lst (pa_cons (pe_ix (ix_any hu) (pv 1) pe_int (fun _ _ => rfl)) pa_nil))) (pg_sub (pv 0) pe_str (set_any hu)))) pss_nil)
      (pss_one (ps_asg (pe_op op_plus (pe_ix (ix_any hu) (pv 0) pe_str (fun _ _ => rfl)) (pe_lst (pa_cons (pv 1) pa_nil))) (pg_sub (pv 0) pe_str (set_any hu))))), ?_⟩
  obtain ⟨S, d, s, v, t, rfl, R, hv, hs, hS, tr, k⟩ := h
  obtain ⟨a, b, c, xs, hd, ⟨hi, na, ti⟩, ⟨hj, nb⟩, ⟨hc, nc⟩⟩ := R.ex
  obtain ⟨i, ch, rfl, hi1, ni, hch⟩ := item_inv hv
  have hxl : xs.length + [V.ref i].length ≤ sizeLine := by have := ti.len; rw [List.length_map] at this; exact size_ok (by have := hs.1; rw [List.length_singleton]; omega)
  have hrl : (s.rep.map V.int).length + [V.int t.name].length ≤ sizeLine := by rw [List.length_map, List.length_singleton]; exact size_ok (by have := hs.2.2; omega)
  have dad : a ≠ d := ne_of hi hd (by intro z; cases z)
  have dbd : b ≠ d := ne_of hj hd (by intro z; cases z)
  have dcd : c ≠ d := ne_of hc hd (by intro z; cases z)
  have did : i ≠ d := ne_of hi1 hd (by intro z; cases z)
  walk_at "start"
  refine k_seq ?_
  refine k_cutI (R := fun c H' => H' = H ∧ c = decide (t.name ≠ 0 ∧ t.name ∈ s.jou)) (fun B hB => ?_) ?_
  · walk_at "go"
    refine k_ite (fun c1 => ?_) (fun c1 => ?_)
    · walk_at "go"
      exact hB _ _ ⟨rfl, by simp at c1; simp [c1]⟩
    · exact hB _ _ ⟨rfl, by simp at c1; simp [c1]⟩
  · rintro b0 H ⟨rfl, hb⟩
    refine k_ite (fun c1 => ?_) (fun c1 => ?_)
    · have e : t.name ≠ 0 ∧ t.name ∈ s.jou := by rw [c1] at hb; exact of_decide_eq_true hb.symm
      walk_at "go"
      intro p1 f1
      have g1 : H c = some (.lst (s.rep.map V.int)) := hc
      refine kr_plusL (by walk_at "hp") upd_same hrl ?_
      intro p2 f2
      walk_at "go"
      intro p3 f3
      have d1 : d ≠ p1 := by walk_at "ne"
      have d2 : d ≠ p2 := by walk_at "ne"
      have i1 : i ≠ p1 := by walk_at "ne"
      refine kr_plusL (by walk_at "hp") upd_same hxl ?_
      intro p4 f4
      walk_at "go"
      have kk : Keep [d] H (upd (upd (upd (upd (upd (upd H p1 (.lst [.int t.name])) p2 (.lst (s.rep.map V.int ++ [.int t.name]))) d (.dK (dk_Row (.int s.own) (.ref a) (.ref b) (.ref p2)))) p3 (.lst [.ref i])) p4 (.lst (xs ++ [.ref i]))) d (.dK (dk_Row (.int s.own) (.ref p4) (.ref b) (.ref p2)))) := by walk_at "kp"
      refine k _ ⟨p4, b, p2, xs ++ [.ref i], upd_same, ⟨by walk_at "hp", tr.out (by walk_at "fr"), ?_⟩, ⟨by walk_at "hp", nb⟩, ⟨?_, tr.out (by walk_at "fr")⟩⟩ kk
      · simp only [Rs.recv, List.map_append, List.map_cons, List.map_nil]
        exact (ti.put hv).keep kk (by intro b hb; simp at hb; subst hb; exact hS)
      · simp only [Rs.recv, if_pos e, List.map_append, List.map_cons, List.map_nil]
        walk_at "hp"
    · have e : ¬ (t.name ≠ 0 ∧ t.name ∈ s.jou) := by rw [c1] at hb; exact of_decide_eq_false hb.symm
      walk_at "go"
      intro p3 f3
      have d1 : d ≠ p3 := by walk_at "ne"
      refine kr_plusL (by walk_at "hp") upd_same hxl ?_
      intro p4 f4
      walk_at "go"
      have kk : Keep [d] H (upd (upd (upd H p3 (.lst [.ref i])) p4 (.lst (xs ++ [.ref i]))) d (.dK (dk_Row (.int s.own) (.ref p4) (.ref b) (.ref c)))) := by walk_at "kp"
      refine k _ ⟨p4, b, c, xs ++ [.ref i], upd_same, ⟨by walk_at "hp", tr.out (by walk_at "fr"), ?_⟩, ⟨by walk_at "hp", nb⟩, ⟨?_, nc⟩⟩ kk
      · simp only [Rs.recv, List.map_append, List.map_cons, List.map_nil]
        exact (ti.put hv).keep kk (by intro b hb; simp at hb; subst hb; exact hS)
      · simp only [Rs.recv, if_neg e]
        walk_at "hp"
theorem ok_law_applied (T : Txt K mg)  : FnOk P w K mg base CX0 (1) T.a_law_applied T.d_law_applied ["row"] (spApplR) := by
  refine T.F_law_applied.ok sc_law_applied (fun vs H Q E h => by obtain ⟨_, _, _, rfl, _⟩ := h; rfl) (fun cdv A outer s H vs Q E hr h => ?_)
  have hu := hu_of hr
  have hu64 := hr.units
  refine ⟨_, (pss_cons (ps_if (pt_cmpR (op_eqq hu64) (pe_callB call_lenA (by rfl) T.z_len (by decide +kernel) (pa_cons (pe_ix (ix_any hu) (pv 0) pe_str (fun _ _ => rfl)) pa_nil)) pe_int (nomark _)) (pss_one (ps_ret pe_non)) pss_nil)
      (pss_cons (ps_set (i := 1) sc_law_applied.nd rfl (by first | exact Or.inl rfl | exact Or.inr rfl) (pe_ix (ix_any hu) (pe_ix (ix_any hu) (pv 0) pe_str (fun _ _ => rfl)) pe_int (fun _ _ => rfl)))
      (pss_cons (ps_asg (pe_slice sl_list (pe_ix (ix_any hu) (pv 0) pe_str (fun _ _ => rfl)) (po_some pe_int) po_none) (pg_sub (pv 0) pe_str (set_any hu)))
      (pss_cons (ps_if (pt_cmpR (op_neq hu64) (pe_ix (ix_any hu) (pv 1) pe_int (fun _ _ => rfl)) pe_int (nomark _)) (pss_one (ps_asg (pe_op op_plus (pe_ix (ix_any hu) (pv 0) pe_str (fun _ _ => rfl)) (pe_lst (pa_cons (pe_ix (ix_any hu) (pv 1) pe_int (fun _ _ => rfl)) pa_nil))) (pg_sub (pv 0) pe_str (set_any hu)))) pss_nil)
      (pss_cons (ps_if (pt_cmpR op_gt (pe_ix (ix_any hu) (pv 1) pe_int (fun _ _ => rfl)) (pe_ix (ix_any hu) (pv 0) pe_str (fun _ _ => rfl)) (nomark _)) (pss_one (ps_asg (pe_ix (ix_any hu) (pv 1) pe_int (fun _ _ => rfl)) (pg_sub (pv 0) pe_str (set_any hu)))) pss_nil)
      (pss_one (ps_ret (pv 1)))))))), ?_⟩
  obtain ⟨S, d, s, rfl, R, hs, hS, tr, k0, k⟩ := h
  obtain ⟨a, b, c, xs, hd, ⟨hi, na, ti⟩, ⟨hj, nb⟩, ⟨hc, nc⟩⟩ := R.ex
  have hjl : (s.jou.map V.int).length + 1 ≤ sizeLine := by rw [List.length_map]; exact size_ok (by have := hs.2.1; omega)
  have dad : a ≠ d := ne_of hi hd (by intro z; cases z)
  have dbd : b ≠ d := ne_of hj hd (by intro z; cases z)
  have dcd : c ≠ d := ne_of hc hd (by intro z; cases z)
  walk_at "start"
  walk_at "go"
  rcases h0 : s.inb with _ | ⟨t, z⟩
  · rw [h0] at ti
    cases ti.nil_inv
    walk_at "go"
    exact k0 h0
  rw [h0] at ti
  obtain ⟨y, ys, rfl, t1, t2⟩ := IsL.cons_inv ti
  obtain ⟨i, c', rfl, hi1, ni, hc'⟩ := item_inv t1
  have did : i ≠ d := ne_of hi1 hd (by intro z; cases z)
  refine k_iteF (by simp; omega) ?_
  walk_at "gx"
  walk_at "g1"
  walk_at "gx"
  walk_at "g1"
  intro p1 f1
  have d1 : d ≠ p1 := by walk_at "ne"
  have i1 : i ≠ p1 := by walk_at "ne"
  rw [cut_tail]
  walk_at "gx"
  refine k_cut (R := fun σ' H' => σ' = [some (.ref d), some (.ref i)] ∧ ∃ b' , H' d = some (.dK (dk_Row (.int s.own) (.ref p1) (.ref b') (.ref c))) ∧ Keep [d] (upd H p1 (.lst ys)) H' ∧ H' b' = some (.lst ((if t.name ≠ 0 then s.jou ++ [t.name] else s.jou).map V.int)) ∧ b' ∉ S) (fun B hB => ?_) ?_
  · walk_at "go"
    refine k_ite (fun c1 => ?_) (fun c1 => ?_)
    · walk_at "go"
      intro p2 f2
      have d2 : d ≠ p2 := by walk_at "ne"
      refine kr_plusL (by walk_at "hp") upd_same hjl ?_
      intro p3 f3
      walk_at "go"
      have e : t.name ≠ 0 := by simpa using c1
      exact hB _ _ ⟨rfl, p3, upd_same, by walk_at "kp", by rw [if_pos e, List.map_append]; walk_at "hp", tr.out (by walk_at "fr")⟩
    · walk_at "go"
      have e : ¬ t.name ≠ 0 := by simpa using c1
      exact hB _ _ ⟨rfl, b, upd_same, by walk_at "kp", by rw [if_neg e]; walk_at "hp", nb⟩
  rintro σ' H1 ⟨rfl, b', e1, kk, e2, nb'⟩
  have f0 : H p1 = none := f1
  have ha1 : H1 i = some (.tup [.int t.name, c', .int t.place]) := kk.at (nin1 did) (get_ne i1 hi1)
  have e3 : H1 c = some (.lst (s.rep.map V.int)) := kk.at (nin1 dcd) (get_new f1 hc)
  have e4 : H1 p1 = some (.lst ys) := kk.at (nin1 d1.symm) upd_same
  have kk0 : Keep [d] H H1 := fun x o n e => kk x o n (get_new f1 e)
  have sub : ∀ b, b ∈ [d] → b ∈ S := by intro b hb; simp at hb; subst hb; exact hS
  walk_at "go"
  refine k_ite (fun c1 => ?_) (fun c1 => ?_)
  · walk_at "go"
    have e : t.place > s.own := of_decide_eq_true c1
    have kk2 : Keep [d] H (upd H1 d (.dK (dk_Row (.int t.place) (.ref p1) (.ref b') (.ref c)))) := by walk_at "kp"
    refine k _ _ t z h0 (t1.keep kk2 sub) ⟨p1, b', c, ys, ?_, ⟨get_ne d1.symm e4, tr.out f1, t2.keep kk2 sub⟩, ⟨get_ne (ne_of e2 e1 (by intro z; cases z)) e2, nb'⟩, ⟨get_ne dcd e3, nc⟩⟩ kk2
    simp only [Rs.appl, if_pos e]
    exact upd_same
  · walk_at "go"
    have e : ¬ t.place > s.own := of_decide_eq_false c1
    refine k _ _ t z h0 (t1.keep kk0 sub) ⟨p1, b', c, ys, ?_, ⟨e4, tr.out f1, t2.keep kk0 sub⟩, ⟨e2, nb'⟩, ⟨e3, nc⟩⟩ kk0
    simp only [Rs.appl, if_neg e]
    exact e1
/-- the items' data are flat enough for the law's equality -/
def Rs.flat (s : Rs) : Prop := ∀ t, t ∈ s.inb → t.ch.depth ≤ 2
theorem depths_le {n : Nat} : ∀ {ds : List D}, (∀ d, d ∈ ds → d.depth ≤ n) → D.depths ds ≤ n
  | [], _ => Nat.zero_le _
  | d :: ds, h => by
    have h1 := h d (by simp)
    have h2 := depths_le (ds := ds) fun e he => h e (by simp [he])
    simp only [D.depths]
    omega
theorem ints_depth (ns : List Int) : D.depths (ns.map D.int) ≤ 0 := depths_le fun d hd => by
  obtain ⟨n, _, rfl⟩ := List.mem_map.mp hd
  exact Nat.le_refl _
theorem inb_depth {s : Rs} (h : s.flat) : D.depths (s.inb.map Itm.d) ≤ 3 := depths_le fun d hd => by
  obtain ⟨t, ht, rfl⟩ := List.mem_map.mp hd
  have := h t ht
  simp only [Itm.d, D.depth, D.depths]
  omega
def spTells (C : Addr) : Sp := fun vs H Q _ => ∃ (S : List Addr) (r l1 l2 l3 d : Addr) (s : Rs), vs = [.ref r, .ref d] ∧ ReaderAt C S H r l1 l2 l3 s ∧ RowAt S H d s ∧ s.small 900 ∧ s.flat ∧ ∀ H', Keep [] H H' → Q (.bl true) H'
def dueD (s : Rs) : D := .lst [.lst (s.inb.map Itm.d), .lst (s.jou.map D.int), .lst (s.rep.map D.int)]
theorem due_depth {s : Rs} (h : s.flat) : (dueD s).depth < 8 := by
  have h1 := inb_depth h
  have h2 := ints_depth s.jou
  have h3 := ints_depth s.rep
  simp only [dueD, D.depth, D.depths]
  omega
theorem mkDue {H : Hp} {p x y z : Addr} {xs : List V} {s : Rs} (hs : s.small 900) (h : H p = some (.lst [.ref x, .ref y, .ref z])) (hx : H x = some (.lst xs)) (tx : IsL [] H xs (s.inb.map Itm.d)) (hy : H y = some (.lst (s.jou.map V.int))) (hz : H z = some (.lst (s.rep.map V.int))) : Is [] H (.ref p) (dueD s) := by
  have e := tx.len
  rw [List.length_map] at e
  refine .lst h nin0 (by show 3 < 1000000; decide) (.cons (.lst hx nin0 (by have := hs.1; omega) tx) (.cons (.lst hy nin0 (by rw [List.length_map]; have := hs.2.1; omega) .ints) (.cons (.lst hz nin0 (by rw [List.length_map]; have := hs.2.2; omega) .ints) .nil)))
theorem use_list {C : Addr} {f : V → V → V → V} {r dx l : Addr} {o a b c : V} {xs : List V} {H : Hp} {Q : VK} {E : XK} (h : H r = some (.ins C dx (fl_Reader o a b c))) (e : f a b c = .ref l) (hl : H l = some (.lst xs)) (k : ∀ p, Fresh H p → Q (.ref p) (upd H p (.lst xs))) :
    spList C f (.ref r :: ([] ++ [])) H Q E := ⟨r, dx, o, a, b, c, l, xs, rfl, h, e, hl, k⟩
theorem two_ints {H : Hp} {p : Addr} {i j : Int} (h : H p = some (.lst [.int i, .int j])) : Is [] H (.ref p) (.lst [.int i, .int j]) := .lst h nin0 (by show 2 < 1000000; decide) (.cons (.int _) (.cons (.int _) .nil))
theorem ReaderAt.go {C : Addr} {S S' F : List Addr} {H H' : Hp} {r l1 l2 l3 : Addr} {s : Rs} (h : ReaderAt C S H r l1 l2 l3 s) (k : Keep F H H') (hf : ∀ x, x ∈ F → x ∈ S) (g : Grow H S S') (n : ∀ x, x ∈ [r, l1, l2, l3] → x ∉ F) : ReaderAt C S' H' r l1 l2 l3 s := by
  obtain ⟨⟨dx, ob⟩, ⟨xs, hi, ti⟩, hj, hr', d12, d13, d23⟩ := h
  exact ⟨⟨dx, k.at (n _ (by simp)) ob⟩, ⟨xs, k.at (n _ (by simp)) hi, ti.go k hf g⟩, k.at (n _ (by simp)) hj, k.at (n _ (by simp)) hr', d12, d13, d23⟩
theorem RowAt.go {S S' F : List Addr} {H H' : Hp} {d : Addr} {s : Rs} (h : RowAt S H d s) (k : Keep F H H') (hf : ∀ x, x ∈ F → x ∈ S) (g : Grow H S S') (n : d ∉ F) : RowAt S' H' d s := by
  obtain ⟨a, b, c, ys, hd, ⟨hi', na, ti'⟩, ⟨hj', nb⟩, ⟨hc, nc⟩⟩ := h.ex
  have out : ∀ x o, H x = some o → x ∉ S → x ∉ S' := fun x o e m z => (g x z).elim m fun q => by have q : H x = none := q; rw [q] at e; cases e
  exact ⟨a, b, c, ys, k.at n hd, ⟨k.at (fun z => na (hf _ z)) hi', out _ _ hi' na, ti'.go k hf g⟩, ⟨k.at (fun z => nb (hf _ z)) hj', out _ _ hj' nb⟩, ⟨k.at (fun z => nc (hf _ z)) hc, out _ _ hc nc⟩⟩
theorem ReaderAt.keep0 {C : Addr} {S : List Addr} {H H' : Hp} {r l1 l2 l3 : Addr} {s : Rs} (h : ReaderAt C S H r l1 l2 l3 s) (k : Keep [] H H') : ReaderAt C S H' r l1 l2 l3 s := h.go k (by simp) .refl (by simp)
theorem RowAt.keep0 {S : List Addr} {H H' : Hp} {d : Addr} {s : Rs} (h : RowAt S H d s) (k : Keep [] H H') : RowAt S H' d s := h.go k (by simp) .refl (by simp)
theorem ok_law_tells (T : Txt K mg)  : FnOk P w K mg base CX0 (9) T.a_law_tells T.d_law_tells ["reader", "row"] (spTells T.c_Reader) := by
  refine T.F_law_tells.ok sc_law_tells (fun vs H Q E h => by obtain ⟨_, _, _, _, _, _, _, rfl, _⟩ := h; rfl) (fun cdv A outer s H vs Q E hr h => ?_)
  have hu := hu_of hr
  have hu64 := hr.units
  refine ⟨_, (pss_cons (ps_set (i := 2) sc_law_tells.nd rfl (by first | exact Or.inl rfl | exact Or.inr rfl) (pe_lst (pa_cons (pe_meth0 (pv 0) T.cl_Reader T.me_Reader_inbox (ok_Reader_inbox T) (hr.mono (by first | decide | omega)) T.b_Reader_inbox .nil pass0) (pa_cons (pe_meth0 (pv 0) T.cl_Reader T.me_Reader_journal (ok_Reader_journal T) (hr.mono (by first | decide | omega)) T.b_Reader_journal .nil pass0) (pa_cons (pe_meth0 (pv 0) T.cl_Reader T.me_Reader_repeats (ok_Reader_repeats T) (hr.mono (by first | decide | omega)) T.b_Reader_repeats .nil pass0) pa_nil)))))
      (pss_cons (ps_set (i := 3) sc_law_tells.nd rfl (by first | exact Or.inl rfl | exact Or.inr rfl) (pe_lst (pa_cons (pe_ix (ix_any hu) (pv 1) pe_str (fun _ _ => rfl)) (pa_cons (pe_ix (ix_any hu) (pv 1) pe_str (fun _ _ => rfl)) (pa_cons (pe_ix (ix_any hu) (pv 1) pe_str (fun _ _ => rfl)) pa_nil)))))
      (pss_cons (ps_if (PW.pt (pw_or (pt_not (pt_val (pe_call (ok_law_same T 8) (hr.mono (by first | decide | omega)) (by rfl) T.m_law_same T.F_law_same.kp T.b_law_same .nil pass0 (pa_cons (pe_lst (pa_cons (pe_fld (pv 0) rfl) (pa_cons (pe_prop (pv 0) T.cl_Reader T.pr_Reader_got (ok_Reader_got T) (hr.mono (by first | decide | omega)) T.b_Reader_got .nil pass0 rfl) pa_nil))) (pa_cons (pe_lst (pa_cons (pe_ix (ix_any hu) (pv 1) pe_str (fun _ _ => rfl)) (pa_cons (pe_call (ok_law_got T) (hr.mono (by first | decide | omega)) (by rfl) T.m_law_got T.F_law_got.kp T.b_law_got .nil pass0 (pa_cons (pv 1) pa_nil)) pa_nil))) pa_nil))))) (pw_or1 (pt_not (pt_val (pe_call (ok_law_same T 8) (hr.mono (by first | decide | omega)) (by rfl) T.m_law_same T.F_law_same.kp T.b_law_same .nil pass0 (pa_cons (pv 2) (pa_cons (pv 3) pa_nil)))))))) (pss_one (ps_ret pe_bl)) pss_nil)
      (pss_cons (ps_expr (pe_bm PySem.F.plainAttrs_list PySem.F.slot_list_append PySem.F.type_list_append mt_append (pe_ix (ix_any hu) (pv 2) pe_int (fun _ _ => rfl)) (pa_cons (pe_tup (pa_cons pe_int (pa_cons (pe_tup pa_nil) (pa_cons (pe_op op_pow pe_int pe_int) pa_nil)))) pa_nil)))
      (pss_cons (ps_expr (pe_bm PySem.F.plainAttrs_list PySem.F.slot_list_append PySem.F.type_list_append mt_append (pe_ix (ix_any hu) (pv 2) pe_int (fun _ _ => rfl)) (pa_cons pe_int pa_nil)))
      (pss_cons (ps_expr (pe_bm PySem.F.plainAttrs_list PySem.F.slot_list_append PySem.F.type_list_append mt_append (pe_ix (ix_any hu) (pv 2) pe_int (fun _ _ => rfl)) (pa_cons pe_int pa_nil)))
      (pss_cons (ps_if (pt_not (pt_val (pe_call (ok_law_same T 8) (hr.mono (by first | decide | omega)) (by rfl) T.m_law_same T.F_law_same.kp T.b_law_same .nil pass0 (pa_cons (pe_lst (pa_cons (pe_meth0 (pv 0) T.cl_Reader T.me_Reader_inbox (ok_Reader_inbox T) (hr.mono (by first | decide | omega)) T.b_Reader_inbox .nil pass0) (pa_cons (pe_meth0 (pv 0) T.cl_Reader T.me_Reader_journal (ok_Reader_journal T) (hr.mono (by first | decide | omega)) T.b_Reader_journal .nil pass0) (pa_cons (pe_meth0 (pv 0) T.cl_Reader T.me_Reader_repeats (ok_Reader_repeats T) (hr.mono (by first | decide | omega)) T.b_Reader_repeats .nil pass0) pa_nil)))) (pa_cons (pv 3) pa_nil))))) (pss_one (ps_ret pe_bl)) pss_nil)
      (pss_one (ps_ret (pe_call (ok_law_same T 8) (hr.mono (by first | decide | omega)) (by rfl) T.m_law_same T.F_law_same.kp T.b_law_same .nil pass0 (pa_cons (pe_lst (pa_cons (pe_fld (pv 0) rfl) (pa_cons (pe_prop (pv 0) T.cl_Reader T.pr_Reader_got (ok_Reader_got T) (hr.mono (by first | decide | omega)) T.b_Reader_got .nil pass0 rfl) pa_nil))) (pa_cons (pe_lst (pa_cons (pe_ix (ix_any hu) (pv 1) pe_str (fun _ _ => rfl)) (pa_cons (pe_call (ok_law_got T) (hr.mono (by first | decide | omega)) (by rfl) T.m_law_got T.F_law_got.kp T.b_law_got .nil pass0 (pa_cons (pv 1) pa_nil)) pa_nil))) pa_nil)))))))))))), ?_⟩
  obtain ⟨S, r, l1, l2, l3, d, s, rfl, R, W, hs, hf, k⟩ := h
  obtain ⟨⟨dx, ob⟩, ⟨xs, hi, ti⟩, hj, hr', d12, d13, d23⟩ := id R
  obtain ⟨a, b, c, ys, hd, ⟨hi', na, ti'⟩, ⟨hj', nb⟩, ⟨hc, nc⟩⟩ := W.ex
  have cl := T.cl_Reader; have n1 := T.n_Reader_own
  have hxs : xs.length < sizeLine := by have := ti.len; rw [List.length_map] at this; exact small1000 (by have := hs.1; omega)
  walk_at "start"
  walk_at "g1"
  refine use_list ob rfl hi ?_
  intro p1 f1
  walk_at "gx"
  refine use_list (by walk_at "hp") rfl (by walk_at "hp") ?_
  intro p2 f2
  walk_at "gx"
  refine use_list (by walk_at "hp") rfl (by walk_at "hp") ?_
  intro p3 f3
  walk_at "gx"
  intro p4 f4
  walk_at "gx"
  walk_at "g1"
  intro p5 f5
  walk_at "gx"
  have n12 : p1 ≠ p2 := by walk_at "ne"
  have n13 : p1 ≠ p3 := by walk_at "ne"
  have n23 : p2 ≠ p3 := by walk_at "ne"
  have n14 : p1 ≠ p4 := by walk_at "ne"
  have n24 : p2 ≠ p4 := by walk_at "ne"
  have n34 : p3 ≠ p4 := by walk_at "ne"
  have n15 : p1 ≠ p5 := by walk_at "ne"
  have n25 : p2 ≠ p5 := by walk_at "ne"
  have n35 : p3 ≠ p5 := by walk_at "ne"
  have g1 : Fresh H p1 := f1
  have g2 : Fresh H p2 := by walk_at "fr"
  have g3 : Fresh H p3 := by walk_at "fr"
  refine k_gen (R := fun σ' H' => σ' = [some (.ref r), some (.ref d), some (.ref p4), some (.ref p5)] ∧ Keep [] H H' ∧ H' p1 = some (.lst xs) ∧ H' p2 = some (.lst (s.jou.map V.int)) ∧ H' p3 = some (.lst (s.rep.map V.int)) ∧ H' p4 = some (.lst [.ref p1, .ref p2, .ref p3]) ∧ H' p5 = some (.lst [.ref a, .ref b, .ref c]))
    ⟨rfl, by walk_at "kp", by walk_at "hp", by walk_at "hp", by walk_at "hp", by walk_at "hp", by walk_at "hp"⟩ ?_
  rintro _ H5 ⟨rfl, k5, e1, e2, e3, e4, e5⟩
  clear f1 f2 f3 f4 f5
  refine k_seq ?_
  refine k_cutI (R := fun c H' => c = false ∧ Keep [] H5 H') (fun B hB => ?_) ?_
  · walk_at "go"
    refine ⟨S, r, l1, l2, l3, s, rfl, R.keep0 (by walk_at "kp"), ?_⟩
    walk_at "go"
    intro p6 f6
    walk_at "go"
    refine ⟨S, d, s, rfl, W.keep0 (by walk_at "kp"), ?_⟩
    walk_at "go"
    intro p7 f7
    walk_at "go"
    refine use_same (two_ints (by walk_at "hp")) (two_ints (by walk_at "hp")) (by show 1 < 8; decide) fun b6 H6 hb k6 => ?_
    obtain rfl : b6 = true := hb.mpr rfl
    walk_at "go"
    have k56 : Keep [] H5 H6 := by walk_at "kp"
    have kk := k5.trans k56
    refine use_same (mkDue hs (k56.at nin0 e4) (k56.at nin0 e1) (ti.free.keep kk (by simp)) (k56.at nin0 e2) (k56.at nin0 e3)) (mkDue hs (k56.at nin0 e5) (kk.at nin0 hi') (ti'.free.keep kk (by simp)) (kk.at nin0 hj') (kk.at nin0 hc)) (due_depth hf) fun b7 H7 hb7 k7 => ?_
    obtain rfl : b7 = true := hb7.mpr rfl
    walk_at "go"
    exact hB _ _ ⟨rfl, k56.trans k7⟩
  · rintro c0 H6 ⟨rfl, k6⟩
    walk_at "gx"
    walk_at "g1"
    intro p8 f8
    walk_at "gx"
    intro p9 f9
    walk_at "gx"
    have m1 : p4 ≠ p8 := by walk_at "ne"
    have m2 : p4 ≠ p9 := by walk_at "ne"
    walk_at "g1"
    refine kr_append (by walk_at "hp") (by rw [List.length_map]; exact small1000 (by have := hs.2.1; omega)) ?_
    walk_at "g1"
    refine kr_append (by walk_at "hp") (by rw [List.length_map]; exact small1000 (by have := hs.2.2; omega)) ?_
    walk_at "gx"
    refine k_gen (R := fun σ' H' => σ' = [some (.ref r), some (.ref d), some (.ref p4), some (.ref p5)] ∧ Keep [] H H' ∧ H' p5 = some (.lst [.ref a, .ref b, .ref c]))
      ⟨rfl, by walk_at "kp", by walk_at "hp"⟩ ?_
    rintro _ H7 ⟨rfl, k7, e5'⟩
    clear f8 f9
    refine k_seq ?_
    refine k_cutI (R := fun c H' => c = false ∧ Keep [] H H') (fun B hB => ?_) ?_
    · walk_at "go"
      refine use_list (k7.at nin0 ob) rfl (k7.at nin0 hi) ?_
      intro p1' f1
      walk_at "gx"
      refine use_list (by walk_at "hp") rfl (by walk_at "hp") ?_
      intro p2' f2
      walk_at "gx"
      refine use_list (by walk_at "hp") rfl (by walk_at "hp") ?_
      intro p3' f3
      walk_at "gx"
      intro p4' f4
      walk_at "gx"
      have k8 : Keep [] H7 (upd (upd (upd (upd H7 p1' (.lst xs)) p2' (.lst (s.jou.map V.int))) p3' (.lst (s.rep.map V.int))) p4' (.lst [.ref p1', .ref p2', .ref p3'])) := by walk_at "kp"
      have kk := k7.trans k8
      refine use_same (mkDue hs (by walk_at "hp") (by walk_at "hp") (ti.free.keep kk (by simp)) (by walk_at "hp") (by walk_at "hp")) (mkDue hs (k8.at nin0 e5') (kk.at nin0 hi') (ti'.free.keep kk (by simp)) (kk.at nin0 hj') (kk.at nin0 hc)) (due_depth hf) fun b7 H8 hb7 k9 => ?_
      obtain rfl : b7 = true := hb7.mpr rfl
      walk_at "go"
      exact hB _ _ ⟨rfl, kk.trans k9⟩
    · rintro c1 H8 ⟨rfl, k8⟩
      walk_at "go"
      refine ⟨S, r, l1, l2, l3, s, rfl, R.keep0 (by walk_at "kp"), ?_⟩
      walk_at "go"
      intro p6 f6
      walk_at "go"
      refine ⟨S, d, s, rfl, W.keep0 (by walk_at "kp"), ?_⟩
      walk_at "go"
      intro p7 f7
      walk_at "go"
      refine use_same (two_ints (by walk_at "hp")) (two_ints (by walk_at "hp")) (by show 1 < 8; decide) fun b6 H9 hb k9 => ?_
      obtain rfl : b6 = true := hb.mpr rfl
      exact k _ (by walk_at "kp")
/-! ## items -/
def spItem : Sp := fun vs H Q _ => ∃ (S : List Addr) (p q : Addr) (b l : Int), vs = [.ref p, .int b, .int l] ∧ StAt H p q ∧ p ∈ S ∧ TrS S H ∧
  ∀ v (t : Itm) H', Is S H' v t.d → t.ch.depth ≤ 2 → StAt H' p q → Keep [p] H H' → Q v H'
theorem TrS.draw {S : List Addr} {H H' : Hp} {p q : Addr} (h : TrS S H) (k : Keep [p] H H') (s : StAt H' p q) : TrS S H' := h.keep k fun x hx => by
  have e : x = p := by simpa using hx
  rw [e]
  exact s.tp
theorem ok_law_item (T : Txt K mg)  : FnOk P w K mg base CX0 (4) T.a_law_item T.d_law_item ["state", "birth", "last"] (spItem) := by
  refine T.F_law_item.ok sc_law_item (fun vs H Q E h => by obtain ⟨_, _, _, _, _, rfl, _⟩ := h; rfl) (fun cdv A outer s H vs Q E hr h => ?_)
  have hu := hu_of hr
  have hu64 := hr.units
  refine ⟨_, (pss_cons (ps_set (i := 3) sc_law_item.nd rfl (by first | exact Or.inl rfl | exact Or.inr rfl) (pe_call (ok_law_draw T) (hr.mono (by first | decide | omega)) (by rfl) T.m_law_draw T.F_law_draw.kp T.b_law_draw .nil pass0 (pa_cons (pv 0) (pa_cons pe_int pa_nil))))
      (pss_cons (ps_set (i := 4) sc_law_item.nd rfl (by first | exact Or.inl rfl | exact Or.inr rfl) (pe_call (ok_law_draw T) (hr.mono (by first | decide | omega)) (by rfl) T.m_law_draw T.F_law_draw.kp T.b_law_draw .nil pass0 (pa_cons (pv 0) (pa_cons pe_int pa_nil))))
      (pss_cons (ps_set (i := 5) sc_law_item.nd rfl (by first | exact Or.inl rfl | exact Or.inr rfl) (pv 2))
      (pss_cons (ps_if (pt_cmpR (op_eqq hu64) (pv 4) pe_int (nomark _)) (pss_one (ps_set (i := 5) sc_law_item.nd rfl (by first | exact Or.inl rfl | exact Or.inr rfl) (pe_op op_plus (pv 1) (pe_call (ok_law_draw T) (hr.mono (by first | decide | omega)) (by rfl) T.m_law_draw T.F_law_draw.kp T.b_law_draw .nil pass0 (pa_cons (pv 0) (pa_cons pe_int pa_nil)))))) (pss_one (ps_if (pt_cmpR (op_eqq hu64) (pv 4) pe_int (nomark _)) (pss_one (ps_set (i := 5) sc_law_item.nd rfl (by first | exact Or.inl rfl | exact Or.inr rfl) (pe_call (ok_law_draw T) (hr.mono (by first | decide | omega)) (by rfl) T.m_law_draw T.F_law_draw.kp T.b_law_draw .nil pass0 (pa_cons (pv 0) (pa_cons pe_int pa_nil))))) (pss_one (ps_if (pt_cmpR (op_eqq hu64) (pv 4) pe_int (nomark _)) (pss_one (ps_set (i := 5) sc_law_item.nd rfl (by first | exact Or.inl rfl | exact Or.inr rfl) (pe_op op_plus (pe_op op_plus (pv 2) pe_int) (pe_call (ok_law_draw T) (hr.mono (by first | decide | omega)) (by rfl) T.m_law_draw T.F_law_draw.kp T.b_law_draw .nil pass0 (pa_cons (pv 0) (pa_cons pe_int pa_nil)))))) pss_nil)))))
      (pss_cons (ps_if (pt_cmpR (op_eqq hu64) (pv 3) pe_int (nomark _)) (pss_one (ps_ret (pe_tup (pa_cons pe_int (pa_cons (pe_tup pa_nil) (pa_cons (pv 5) pa_nil)))))) pss_nil)
      (pss_cons (ps_if (pt_cmpR (op_eqq hu64) (pv 3) pe_int (nomark _)) (pss_one (ps_set (i := 3) sc_law_item.nd rfl (by first | exact Or.inl rfl | exact Or.inr rfl) (pe_op op_plus pe_int (pe_call (ok_law_draw T) (hr.mono (by first | decide | omega)) (by rfl) T.m_law_draw T.F_law_draw.kp T.b_law_draw .nil pass0 (pa_cons (pv 0) (pa_cons pe_int pa_nil)))))) pss_nil)
      (pss_cons (ps_setLc (i := 6) (own := [("k", 7)]) (g := gName 7)  (by rfl) sc_law_item.nd rfl rfl (sw_true rfl rfl rfl (by decide +kernel)) (pi_range1 (by rfl) T.z_range (pa_cons (pe_call (ok_law_draw T) (hr.mono (by first | decide | omega)) (by rfl) T.m_law_draw T.F_law_draw.kp T.b_law_draw .nil pass0 (pa_cons (pv 0) (pa_cons pe_int pa_nil))) pa_nil)) (blkOk_by (own := [("k", 7)]) (N := ["state", "birth", "last", "name", "way", "place", "changes", "k"]) (sc := defScope s_law_item) (by decide +kernel)) (fun _ _ _ _ _ => pg_name (i := 7) sc_law_item.nd rfl (Or.inl rfl)) (fun _ _ _ _ _ => pts_nil) (fun _ _ _ _ _ => (pe_tup (pa_cons (pe_call (ok_law_word T) (hr.mono (by first | decide | omega)) (by rfl) T.m_law_word T.F_law_word.kp T.b_law_word .nil pass0 (pa_cons (pv 0) pa_nil)) (pa_cons (pe_call (ok_law_value T) (hr.mono (by first | decide | omega)) (by rfl) T.m_law_value T.F_law_value.kp T.b_law_value .nil pass0 (pa_cons (pv 0) pa_nil)) pa_nil)))))
      (pss_one (ps_ret (pe_tup (pa_cons (pv 3) (pa_cons (pe_callTy call_tupleA (by rfl) T.z_tuple (by decide +kernel) (pa_cons (pv 6) pa_nil)) (pa_cons (pv 5) pa_nil))))))))))))), ?_⟩
  obtain ⟨S, p, q, b, l, rfl, st, hp, tr, k⟩ := h
  walk_at "start"
  walk_at "g1"
  refine use_draw st (by decide) (by decide) fun d1 H1 l1 u1 S1 k1 => ?_
  walk_at "gx"
  walk_at "g1"
  refine use_draw S1 (by decide) (by decide) fun d2 H2 l2 u2 S2 k2 => ?_
  walk_at "gx"
  walk_at "g1"
  refine k_cut (R := fun σ' H' => ∃ pl, σ' = [some (.ref p), some (.int b), some (.int l), some (.int d1), some (.int d2), some (.int pl), none, none] ∧ StAt H' p q ∧ Keep [p] H H') (fun B hB => ?_) ?_
  · walk_at "go"
    refine k_ite (fun c1 => ?_) (fun c1 => ?_)
    · walk_at "go"
      refine use_draw S2 (by decide) (by decide) fun d3 H3 l3 u3 S3 k3 => ?_
      walk_at "go"
      exact hB _ _ ⟨_, rfl, S3, by walk_at "kp"⟩
    walk_at "go"
    refine k_ite (fun c2 => ?_) (fun c2 => ?_)
    · walk_at "go"
      refine use_draw S2 (by decide) (by decide) fun d3 H3 l3 u3 S3 k3 => ?_
      walk_at "go"
      exact hB _ _ ⟨_, rfl, S3, by walk_at "kp"⟩
    walk_at "go"
    refine k_ite (fun c3 => ?_) (fun c3 => ?_)
    · walk_at "go"
      refine use_draw S2 (by decide) (by decide) fun d3 H3 l3 u3 S3 k3 => ?_
      walk_at "go"
      exact hB _ _ ⟨_, rfl, S3, by walk_at "kp"⟩
    · walk_at "go"
      exact hB _ _ ⟨_, rfl, S2, by walk_at "kp"⟩
  rintro _ H3 ⟨pl, rfl, S3, k3⟩
  have tr3 := tr.draw k3 S3
  walk_at "g1"
  refine k_ite (fun c1 => ?_) (fun c1 => ?_)
  · walk_at "go"
    intro p1 f1
    walk_at "go"
    intro p2 f2
    refine k _ ⟨0, .tup [], pl⟩ _ (.tup upd_same ((tr3.up).out f2) (by show 3 < 1000000; decide) (.cons (.int _) (.cons (.tup (by walk_at "hp") (tr3.out f1) (by show 0 < 1000000; decide) .nil) (.cons (.int _) .nil)))) (Nat.le_of_ble_eq_true rfl) ((S3.new f1).new f2) (by walk_at "kp")
  walk_at "gx"
  refine k_cut (R := fun σ' H' => ∃ nm, σ' = [some (.ref p), some (.int b), some (.int l), some (.int nm), some (.int d2), some (.int pl), none, none] ∧ StAt H' p q ∧ Keep [p] H H') (fun B hB => ?_) ?_
  · walk_at "go"
    refine k_ite (fun c2 => ?_) (fun c2 => ?_)
    · walk_at "go"
      refine use_draw S3 (by decide) (by decide) fun d4 H4 l4 u4 S4 k4 => ?_
      walk_at "go"
      exact hB _ _ ⟨_, rfl, S4, by walk_at "kp"⟩
    · walk_at "go"
      exact hB _ _ ⟨_, rfl, S3, by walk_at "kp"⟩
  rintro _ H4 ⟨nm, rfl, S4, k4⟩
  walk_at "g1"
  refine use_draw S4 (by decide) (by decide) fun d5 H5 l5 u5 S5 k5 => ?_
  walk_at "gx"
  intro L fL
  have k05 : Keep [p] H H5 := by walk_at "kp"
  have tr5 := tr.draw k05 S5
  have fL0 : Fresh H L := k05.none fL (nin1 (S5.p_ne fL).symm)
  refine lc_r (fun i H' => ∃ xs ds, H' L = some (.lst xs) ∧ IsL (L :: S) H' xs ds ∧ xs.length = i ∧ D.depths ds ≤ 1 ∧ StAt H' p q ∧ Keep [p] H H') ⟨[], [], upd_same, .nil, rfl, Nat.zero_le _, S5.new fL, by walk_at "kp"⟩ ?_ ?_
  · rintro i H6 hi ⟨xs, ds, e1, t1, hl, hd, S6, k6⟩
    walk_at "go"
    refine use_word S6 fun w H7 hw S7 k7 => ?_
    walk_at "go"
    refine use_value S7 fun z H8 S8 k8 => ?_
    walk_at "go"
    intro p1 f1
    walk_at "go"
    have nLp : L ≠ p := (S5.p_ne fL).symm
    have k68 : Keep [p] H6 H8 := k7.trans k8
    have k08 : Keep [p] H H8 := k6.trans k68
    have e8 : H8 L = some (.lst xs) := k68.at (nin1 nLp) e1
    have t8 : IsL (L :: S) H8 xs ds := t1.keep k68 (by intro x hx; simp at hx; subst hx; simp [hp])
    have tr8 : TrS (L :: S) H8 := by
      intro x hx
      rcases List.mem_cons.mp hx with h | h
      · rw [h]; exact .of e8
      · exact tr.draw k08 S8 x h
    have hi3 : i < 3 := by omega
    refine ⟨xs, by walk_at "hp", small1000 (by omega), ?_⟩
    have i1 : Is (L :: S) (upd H8 p1 (.tup [.str w, .int z])) (.ref p1) (.tup [.str w, .int z]) := .tup upd_same (tr8.out f1) (by show 2 < 1000000; decide) (.cons (.str _) (.cons (.int _) .nil))
    have tt : IsL (L :: S) (upd H8 p1 (.tup [.str w, .int z])) (xs ++ [.ref p1]) (ds ++ [.tup [.str w, .int z]]) := (t8.new f1).put i1
    have kL : Keep [L] (upd H8 p1 (.tup [.str w, .int z])) (upd (upd H8 p1 (.tup [.str w, .int z])) L (.lst (xs ++ [.ref p1]))) := by walk_at "kp"
    refine ⟨_, _, upd_same, tt.keep kL (by intro x hx; simp at hx; subst hx; simp), by simp [hl], ?_, (S8.new f1).mut nLp (S5.q_ne fL).symm, by walk_at "kp"⟩
    refine depths_le fun e he => ?_
    rcases List.mem_append.mp he with h | h
    · exact Nat.le_trans (depth_mem h) hd
    · have e' : e = .tup [.str w, .int z] := by simpa using h
      subst e'
      exact Nat.le_of_ble_eq_true rfl
  · rintro H6 ⟨xs, ds, e1, t1, hl, hd, S6, k6⟩
    walk_at "go"
    intro p2 f2
    walk_at "go"
    intro p3 f3
    have tr6 := tr.draw k6 S6
    have t1' : IsL S H6 xs ds := t1.less (by intro x hx; simp [hx])
    refine k _ ⟨nm, .tup ds, pl⟩ _ (.tup upd_same (tr6.up.out f3) (by show 3 < 1000000; decide) (.cons (.int _) (.cons (.tup (by walk_at "hp") (tr6.out f2) (by omega) ((t1'.new f2).new f3)) (.cons (.int _) .nil)))) ?_ ((S6.new f2).new f3) (by walk_at "kp")
    simp only [D.depth]
    omega
/-! ## the whole state -/
structure RA where
  r : Addr
  a : Addr
  b : Addr
  c : Addr
def RA.f (x : RA) : List Addr := [x.r, x.a, x.b, x.c]
def up {α : Type} (f : Nat → α) (j : Nat) (x : α) : Nat → α := fun k => if k = j then x else f k
theorem up_same {α : Type} {f : Nat → α} {j : Nat} {x : α} : up f j x j = x := if_pos rfl
theorem up_ne {α : Type} {f : Nat → α} {j k : Nat} {x : α} (h : k ≠ j) : up f j x k = f k := if_neg h
theorem up_id {α : Type} {f : Nat → α} {j : Nat} : up f j (f j) = f := by
  funext k
  by_cases h : k = j
  · subst h; exact up_same
  · exact up_ne h
abbrev Lw (p q la : Addr) (R : Nat → RA) (d : Nat → Addr) : List (List Addr) := [[p, q], (R 0).f, (R 1).f, [d 0], [d 1], [la]]
theorem two {P : Nat → Prop} (h0 : P 0) (h1 : P 1) : ∀ j, j < 2 → P j
  | 0, _ => h0
  | 1, _ => h1
structure Wo (C : Addr) (H : Hp) (p q la B RL WL : Addr) (R : Nat → RA) (d : Nat → Addr) (sr sw : Nat → Rs) : Prop where
  st : StAt H p q
  wd : Wd H (Lw p q la R d)
  hB : ∃ x y, H B = some (.lst [.int x, .int y])
  hla : ∃ x y, H la = some (.lst [.int x, .int y])
  hR : H RL = some (.lst [.ref (R 0).r, .ref (R 1).r])
  hW : H WL = some (.lst [.ref (d 0), .ref (d 1)])
  nB : B ∉ (Lw p q la R d).flatten
  nR : RL ∉ (Lw p q la R d).flatten
  nW : WL ∉ (Lw p q la R d).flatten
  rd : ∀ j, j < 2 → ReaderAt C (Lw p q la R d).flatten H (R j).r (R j).a (R j).b (R j).c (sr j)
  rw : ∀ j, j < 2 → RowAt (Lw p q la R d).flatten H (d j) (sw j)
section
variable {C : Addr} {H H' : Hp} {p q la B RL WL : Addr} {R : Nat → RA} {d : Nat → Addr} {sr sw : Nat → Rs}
theorem Wo.tr (W : Wo C H p q la B RL WL R d sr sw) : TrS (Lw p q la R d).flatten H := fun x hx => by
  obtain ⟨f, hf, hxf⟩ := List.mem_flatten.mp hx
  exact W.wd.tr f hf x hxf
/-- a part changes: all the others stand -/
theorem Wo.part (W : Wo C H p q la B RL WL R d sr sw) {R' : Nat → RA} {F F' : List Addr} (i : Nat) (hi : (Lw p q la R d)[i]? = some F) (hr : ∀ j, (R' j).r = (R j).r) (hL : (Lw p q la R d).set i F' = Lw p q la R' d) (k : Keep F H H') (g : Grow H F F') (t : ∀ x, x ∈ F' → ∃ o, H' x = some o)
    (st : StAt H' p q) (hla : ∃ x y, H' la = some (.lst [.int x, .int y])) {sr' sw' : Nat → Rs}
    (rd : ∀ j, j < 2 → ((1 + j ≠ i ∧ R' j = R j ∧ sr' j = sr j) ∨ ReaderAt C (Lw p q la R' d).flatten H' (R' j).r (R' j).a (R' j).b (R' j).c (sr' j)))
    (rw : ∀ j, j < 2 → ((3 + j ≠ i ∧ sw' j = sw j) ∨ RowAt (Lw p q la R' d).flatten H' (d j) (sw' j))) : Wo C H' p q la B RL WL R' d sr' sw' := by
  have gg : Grow H (Lw p q la R d).flatten (Lw p q la R' d).flatten := by rw [← hL]; exact grow_set hi g
  have sub : ∀ x, x ∈ F → x ∈ (Lw p q la R d).flatten := fun x hx => mem_flat hi hx
  have out : ∀ x, x ∉ (Lw p q la R d).flatten → x ∉ F := fun x n z => n (sub x z)
  have nn : ∀ x o, H x = some o → x ∉ (Lw p q la R d).flatten → x ∉ (Lw p q la R' d).flatten := fun x o e m z => (gg x z).elim m fun q => by have q : H x = none := q; rw [q] at e; cases e
  have wd' : Wd H' (Lw p q la R' d) := by rw [← hL]; exact W.wd.set i hi k g t
  obtain ⟨x, y, eB⟩ := W.hB
  refine ⟨st, wd', ⟨x, y, k.at (out _ W.nB) eB⟩, hla, by rw [hr 0, hr 1]; exact k.at (out _ W.nR) W.hR, k.at (out _ W.nW) W.hW, nn _ _ eB W.nB, nn _ _ W.hR W.nR, nn _ _ W.hW W.nW, ?_, ?_⟩
  · intro j hj
    rcases rd j hj with ⟨h1, h2, h3⟩ | h
    · have hf : (Lw p q la R d)[1 + j]? = some (R j).f := by
        match j, hj with
        | 0, _ => rfl
        | 1, _ => rfl
      rw [h2, h3]
      exact (W.rd j hj).go k sub gg fun x hx z => (W.wd.dj (1 + j) i hf hi h1) x hx z
    · exact h
  · intro j hj
    rcases rw j hj with ⟨h1, h3⟩ | h
    · have hf : (Lw p q la R d)[3 + j]? = some [d j] := by
        match j, hj with
        | 0, _ => rfl
        | 1, _ => rfl
      rw [h3]
      exact (W.rw j hj).go k sub gg fun z => (W.wd.dj (3 + j) i hf hi h1) (d j) (by simp) z
    · exact h
theorem Wo.notp (W : Wo C H p q la B RL WL R d sr sw) {i : Nat} {F : List Addr} (hi : (Lw p q la R d)[i]? = some F) (h : i ≠ 0) : p ∉ F ∧ q ∉ F := ⟨W.wd.dj 0 i rfl hi (Ne.symm h) p (by simp), W.wd.dj 0 i rfl hi (Ne.symm h) q (by simp)⟩
theorem Wo.notla (W : Wo C H p q la B RL WL R d sr sw) {i : Nat} {F : List Addr} (hi : (Lw p q la R d)[i]? = some F) (h : i ≠ 5) : la ∉ F := W.wd.dj 5 i rfl hi (Ne.symm h) la (by simp)
theorem tr_keep {F : List Addr} (k : Keep F H H') {x : Addr} (t : ∃ o, H x = some o) (n : x ∉ F) : ∃ o, H' x = some o := let ⟨o, e⟩ := t; ⟨o, k.at n e⟩
/-- draws -/
theorem Wo.draw (W : Wo C H p q la B RL WL R d sr sw) (k : Keep [p] H H') (st : StAt H' p q) : Wo C H' p q la B RL WL R d sr sw := by
  obtain ⟨x, y, e⟩ := W.hla
  refine W.part (F' := [p, q]) 0 rfl (fun _ => rfl) rfl (k.mono (by simp)) .refl (fun x hx => ?_) st ⟨x, y, k.at (fun z => ?_) e⟩ (fun j hj => .inl ⟨by omega, rfl, rfl⟩) (fun j hj => .inl ⟨by omega, rfl⟩)
  · simp at hx
    rcases hx with h | h
    · rw [h]; exact st.p_some
    · rw [h]; exact st.q_some
  · have z' : la = p := by simpa using z
    exact W.wd.dj 5 0 (f := [la]) (g := [p, q]) rfl rfl (by decide) la (by simp) (by simp [z'])
theorem Wo.same (W : Wo C H p q la B RL WL R d sr sw) (k : Keep [] H H') : Wo C H' p q la B RL WL R d sr sw := W.draw (k.mono (by simp)) (W.st.keep k nin0 nin0)
theorem Wo.last (W : Wo C H p q la B RL WL R d sr sw) {x y : Int} : Wo C (upd H la (.lst [.int x, .int y])) p q la B RL WL R d sr sw := by
  have k : Keep [la] H (upd H la (.lst [.int x, .int y])) := (Keep.refl H).mut (by simp)
  have n := W.notp (i := 5) (F := [la]) rfl (by decide)
  exact W.part (F' := [la]) 5 rfl (fun _ => rfl) rfl k .refl (fun z hz => by have e : z = la := by simpa using hz
                                                                             rw [e]; exact ⟨_, upd_same⟩) (W.st.keep k n.1 n.2) ⟨x, y, upd_same⟩ (fun j hj => .inl ⟨by omega, rfl, rfl⟩) (fun j hj => .inl ⟨by omega, rfl⟩)
theorem lw_at {j : Nat} (hj : j < 2) : (Lw p q la R d)[1 + j]? = some (R j).f := match j, hj with
  | 0, _ => rfl
  | 1, _ => rfl
theorem lw_at4 {j : Nat} (hj : j < 2) : (Lw p q la R d)[3 + j]? = some [d j] := match j, hj with
  | 0, _ => rfl
  | 1, _ => rfl
theorem lw_set {j : Nat} (hj : j < 2) (x : RA) : (Lw p q la R d).set (1 + j) x.f = Lw p q la (up R j x) d := match j, hj with
  | 0, _ => rfl
  | 1, _ => rfl
theorem Wo.row (W : Wo C H p q la B RL WL R d sr sw) {j : Nat} (hj : j < 2) (k : Keep [d j] H H') {s' : Rs} (r : RowAt (Lw p q la R d).flatten H' (d j) s') : Wo C H' p q la B RL WL R d sr (up sw j s') := by
  have n := W.notp (lw_at4 hj) (by omega)
  have n2 := W.notla (lw_at4 hj) (by omega)
  obtain ⟨x, y, e⟩ := W.hla
  have hs : (Lw p q la R d).set (3 + j) [d j] = Lw p q la R d := match j, hj with
    | 0, _ => rfl
    | 1, _ => rfl
  refine W.part (F' := [d j]) (3 + j) (lw_at4 hj) (fun _ => rfl) hs k .refl (fun z hz => ?_) (W.st.keep k n.1 n.2) ⟨x, y, k.at n2 e⟩ (fun i hi => .inl ⟨by omega, rfl, rfl⟩) (fun i hi => ?_)
  · have e : z = d j := by simpa using hz
    obtain ⟨_, _, _, _, h, _⟩ := r.ex
    rw [e]; exact ⟨_, h⟩
  · by_cases h : i = j
    · subst h
      rw [up_same]
      exact .inr r
    · exact .inl ⟨by omega, up_ne h⟩
theorem Wo.reader (W : Wo C H p q la B RL WL R d sr sw) {j : Nat} (hj : j < 2) {F : List Addr} {x : RA} {s' : Rs} (hx : x.r = (R j).r) (k : Keep F H H') (h0 : ∀ a, a ∈ F → a ∈ (R j).f) (g : Grow H (R j).f x.f)
    (r : ReaderAt C (Lw p q la (up R j x) d).flatten H' x.r x.a x.b x.c s') : Wo C H' p q la B RL WL (up R j x) d (up sr j s') sw := by
  have k' := k.mono h0
  have n := W.notp (lw_at hj) (by omega)
  have n2 := W.notla (lw_at hj) (by omega)
  obtain ⟨xl, yl, e⟩ := W.hla
  refine W.part (F' := x.f) (1 + j) (lw_at hj) (fun i => ?_) (lw_set hj x) k' g (fun z hz => ?_) (W.st.keep k' n.1 n.2) ⟨xl, yl, k'.at n2 e⟩ (fun i hi => ?_) (fun i hi => .inl ⟨by omega, rfl⟩)
  · by_cases h : i = j
    · subst h; rw [up_same]; exact hx
    · rw [up_ne h]
  · obtain ⟨⟨dx, ob⟩, ⟨xs, hi, ti⟩, hj, hr', d12, d13, d23⟩ := r
    simp [RA.f] at hz
    rcases hz with h | h | h | h <;> subst h
    · exact ⟨_, ob⟩
    · exact ⟨_, hi⟩
    · exact ⟨_, hj⟩
    · exact ⟨_, hr'⟩
  · by_cases h : i = j
    · subst h
      rw [up_same, up_same]
      exact .inr r
    · exact .inl ⟨by omega, up_ne h, up_ne h⟩
theorem mem_r {j : Nat} (hj : j < 2) {x : Addr} (h : x ∈ (R j).f) : x ∈ (Lw p q la R d).flatten := mem_flat (lw_at hj) h
theorem mem_d {j : Nat} (hj : j < 2) : d j ∈ (Lw p q la R d).flatten := mem_flat (lw_at4 hj) (by simp)
theorem mem_p : p ∈ (Lw p q la R d).flatten := mem_flat (i := 0) (f := [p, q]) rfl (by simp)
end
theorem at2 {i : Int} (h0 : 0 ≤ i) (h : i < 2) : ∃ j : Nat, j < 2 ∧ i = (j : Int) := ⟨i.toNat, by omega, by omega⟩
theorem at2_get {f : Nat → V} : ∀ {j : Nat}, j < 2 → atI [f 0, f 1] (j : Int) = some (f j)
  | 0, _ => rfl
  | 1, _ => rfl
theorem at2_int {x y : Int} {j : Nat} (h : j < 2) : ∃ z, atI [V.int x, V.int y] (j : Int) = some (.int z) := match j, h with
  | 0, _ => ⟨x, rfl⟩
  | 1, _ => ⟨y, rfl⟩
theorem at2_set {x y z : Int} {j : Nat} (h : j < 2) : ∃ x' y', ixN 2 (j : Int) = some j ∧ [V.int x, V.int y].set j (.int z) = [.int x', .int y'] := match j, h with
  | 0, _ => ⟨z, y, rfl, rfl⟩
  | 1, _ => ⟨x, z, rfl, rfl⟩
theorem ReaderAt.trs {C : Addr} {S : List Addr} {H : Hp} {r a b c : Addr} {s : Rs} (h : ReaderAt C S H r a b c s) : ∀ y, y ∈ [r, a, b, c] → Tr H y := by
  obtain ⟨⟨dx, ob⟩, ⟨xs, hi, ti⟩, hj, hr', d12, d13, d23⟩ := h
  intro y hy
  simp at hy
  rcases hy with h | h | h | h <;> subst h
  · exact .of ob
  · exact .of hi
  · exact .of hj
  · exact .of hr'
theorem ReaderAt.nil {C : Addr} {S S' : List Addr} {H : Hp} {r a b c : Addr} {s : Rs} (h : ReaderAt C S H r a b c { s with inb := [] }) : ReaderAt C S' H r a b c { s with inb := [] } := by
  obtain ⟨ob, ⟨xs, hi, ti⟩, hj, hr', d12, d13, d23⟩ := h
  have e : xs = [] := IsL.nil_inv ti
  subst e
  exact ⟨ob, ⟨[], hi, .nil⟩, hj, hr', d12, d13, d23⟩
theorem bd_trs {H : Hp} {L : List (List Addr)} {N : List Addr} (b : Bd H L N) : TrS L.flatten H := fun x hx => by
  obtain ⟨f, hf, hxf⟩ := List.mem_flatten.mp hx
  exact b.wd.tr f hf x hxf
theorem Keep.made {H H' : Hp} {x dx C : Addr} (fx : Fresh H x) (fd : Fresh H dx) (k : Keep [x] (upd (upd H dx (.own x)) x (.ins C dx [])) H') : Keep [] H H' := by
  refine k.stepN (fun b hb => .inr ?_) ((((Keep.refl H).new fd)).mutN fx)
  have e : b = x := by simpa using hb
  rw [e]
  exact fx
theorem small_recv {s : Rs} {t : Itm} {n : Nat} (h : s.small n) : (s.recv t).small (n + 1) := by
  obtain ⟨h1, h2, h3⟩ := h
  refine ⟨by simp [Rs.recv]; omega, by simp [Rs.recv]; omega, ?_⟩
  simp only [Rs.recv]
  split
  · simp; omega
  · omega
theorem flat_recv {s : Rs} {t : Itm} (h : s.flat) (ht : t.ch.depth ≤ 2) : (s.recv t).flat := by
  intro u hu
  simp only [Rs.recv] at hu
  rcases List.mem_append.mp hu with q | q
  · exact h u q
  · have e : u = t := by simpa using q
    rw [e]; exact ht
theorem small_appl {s : Rs} {t : Itm} {z : List Itm} {n : Nat} (h : s.small n) (e : s.inb = t :: z) : (s.appl t z).small (n + 1) := by
  obtain ⟨h1, h2, h3⟩ := h
  rw [e] at h1
  simp at h1
  refine ⟨by simp [Rs.appl]; omega, ?_, by simp [Rs.appl]; omega⟩
  simp only [Rs.appl]
  split
  · simp; omega
  · omega
theorem flat_appl {s : Rs} {t : Itm} {z : List Itm} (h : s.flat) (e : s.inb = t :: z) : (s.appl t z).flat := fun u hu => h u (by rw [e]; exact List.mem_cons_of_mem _ hu)
theorem small_up {s : Rs} {n m : Nat} (h : s.small n) (l : n ≤ m) : s.small m := ⟨by have := h.1; omega, by have := h.2.1; omega, by have := h.2.2; omega⟩
theorem ok_up {s : Nat → Rs} {j n : Nat} {s' : Rs} (h : ∀ i, i < 2 → (s i).small n ∧ (s i).flat) (h' : s'.small (n + 1) ∧ s'.flat) : ∀ i, i < 2 → (up s j s' i).small (n + 1) ∧ (up s j s' i).flat := by
  intro i hi
  by_cases e : i = j
  · subst e; rw [up_same]; exact h'
  · rw [up_ne e]; exact ⟨small_up (h i hi).1 (by omega), (h i hi).2⟩
def spLaw (K : PySem.W.Frag) : Sp := fun vs H Q _ => ∃ (a : Addr) (ns : List Int), vs = [.ref a] ∧ SqL K H a (ns.map V.int) ∧ ns.length ≤ 63 ∧ ∀ H', Q (.bl true) H'
theorem ok_law (T : Txt K mg)  : FnOk P w K mg base CX0 (10) T.a_law T.d_law ["script"] (spLaw K) := by
  refine T.F_law.ok sc_law (fun vs H Q E h => by obtain ⟨_, _, rfl, _⟩ := h; rfl) (fun cdv A outer s H vs Q E hr h => ?_)
  have hu := hu_of hr
  have hu64 := hr.units
  refine ⟨_, (pss_cons (ps_set (i := 1) sc_law.nd rfl (by first | exact Or.inl rfl | exact Or.inr rfl) (pe_call (ok_law_start T) (hr.mono (by first | decide | omega)) (by rfl) T.m_law_start T.F_law_start.kp T.b_law_start .nil pass0 (pa_cons (pv 0) pa_nil)))
      (pss_cons (ps_setLc (i := 2) (own := [("k", 3)]) (g := gName 3)  (by rfl) sc_law.nd rfl rfl (sw_true rfl rfl rfl (by decide +kernel)) (pi_range1 (by rfl) T.z_range (pa_cons pe_int pa_nil)) (blkOk_by (own := [("k", 3)]) (N := ["script", "state", "births", "k", "readers", "rows", "last", "turn", "at", "reader", "way", "item"]) (sc := defScope s_law) (by decide +kernel)) (fun _ _ _ _ _ => pg_name (i := 3) sc_law.nd rfl (Or.inl rfl)) (fun _ _ _ _ _ => pts_nil) (fun _ _ _ _ _ => (pe_op op_plus (pe_ix (ix_anyK (K := K) rfl hu) (pe_lst (pa_cons pe_int (pa_cons pe_int (pa_cons (pe_op op_pow pe_int pe_int) pa_nil)))) (pe_call (ok_law_draw T) (hr.mono (by first | decide | omega)) (by rfl) T.m_law_draw T.F_law_draw.kp T.b_law_draw .nil pass0 (pa_cons (pv 1) (pa_cons pe_int pa_nil))) (fun _ _ => rfl)) (pe_call (ok_law_draw T) (hr.mono (by first | decide | omega)) (by rfl) T.m_law_draw T.F_law_draw.kp T.b_law_draw .nil pass0 (pa_cons (pv 1) (pa_cons pe_int pa_nil))))))
      (pss_cons (ps_set (i := 4) sc_law.nd rfl (by first | exact Or.inl rfl | exact Or.inr rfl) (pe_lst (pa_cons (pe_make T.mk_Reader (ok_Reader_init T) (hr.mono (by first | decide | omega)) (by rfl) T.mc_Reader T.b_Reader_init .nil pass0 (pa_cons (pe_ix (ix_any hu) (pv 2) pe_int (fun _ _ => rfl)) pa_nil)) (pa_cons (pe_make T.mk_Reader (ok_Reader_init T) (hr.mono (by first | decide | omega)) (by rfl) T.mc_Reader T.b_Reader_init .nil pass0 (pa_cons (pe_ix (ix_any hu) (pv 2) pe_int (fun _ _ => rfl)) pa_nil)) pa_nil))))
      (pss_cons (ps_set (i := 5) sc_law.nd rfl (by first | exact Or.inl rfl | exact Or.inr rfl) (pe_lst (pa_cons (pe_call (ok_law_fresh T) (hr.mono (by first | decide | omega)) (by rfl) T.m_law_fresh T.F_law_fresh.kp T.b_law_fresh .nil pass0 (pa_cons (pe_ix (ix_any hu) (pv 2) pe_int (fun _ _ => rfl)) pa_nil)) (pa_cons (pe_call (ok_law_fresh T) (hr.mono (by first | decide | omega)) (by rfl) T.m_law_fresh T.F_law_fresh.kp T.b_law_fresh .nil pass0 (pa_cons (pe_ix (ix_any hu) (pv 2) pe_int (fun _ _ => rfl)) pa_nil)) pa_nil))))
      (pss_cons (ps_set (i := 6) sc_law.nd rfl (by first | exact Or.inl rfl | exact Or.inr rfl) (pe_callTy call_listA (by rfl) T.z_list (by decide +kernel) (pa_cons (pv 2) pa_nil)))
      (pss_cons (ps_if (PW.pt (pw_or (pt_not (pt_val (pe_call (ok_law_tells T) (hr.mono (by first | decide | omega)) (by rfl) T.m_law_tells T.F_law_tells.kp T.b_law_tells .nil pass0 (pa_cons (pe_ix (ix_any hu) (pv 4) pe_int (fun _ _ => rfl)) (pa_cons (pe_ix (ix_any hu) (pv 5) pe_int (fun _ _ => rfl)) pa_nil))))) (pw_or1 (pt_not (pt_val (pe_call (ok_law_tells T) (hr.mono (by first | decide | omega)) (by rfl) T.m_law_tells T.F_law_tells.kp T.b_law_tells .nil pass0 (pa_cons (pe_ix (ix_any hu) (pv 4) pe_int (fun _ _ => rfl)) (pa_cons (pe_ix (ix_any hu) (pv 5) pe_int (fun _ _ => rfl)) pa_nil)))))))) (pss_one (ps_ret pe_bl)) pss_nil)
      (pss_cons (ps_for PassesOwn.never rfl (pi_range1 (by rfl) T.z_range (pa_cons (pe_call (ok_law_draw T) (hr.mono (by first | decide | omega)) (by rfl) T.m_law_draw T.F_law_draw.kp T.b_law_draw .nil pass0 (pa_cons (pv 1) (pa_cons pe_int pa_nil))) pa_nil)) (pg_name (i := 7) sc_law.nd rfl (by first | exact Or.inl rfl | exact Or.inr rfl))
      (pss_cons (ps_set (i := 8) sc_law.nd rfl (by first | exact Or.inl rfl | exact Or.inr rfl) (pe_call (ok_law_draw T) (hr.mono (by first | decide | omega)) (by rfl) T.m_law_draw T.F_law_draw.kp T.b_law_draw .nil pass0 (pa_cons (pv 1) (pa_cons pe_int pa_nil))))
      (pss_cons (ps_set (i := 9) sc_law.nd rfl (by first | exact Or.inl rfl | exact Or.inr rfl) (pe_ix (ix_any hu) (pv 4) (pv 8) (fun _ _ => rfl)))
      (pss_cons (ps_set (i := 10) sc_law.nd rfl (by first | exact Or.inl rfl | exact Or.inr rfl) (pe_call (ok_law_draw T) (hr.mono (by first | decide | omega)) (by rfl) T.m_law_draw T.F_law_draw.kp T.b_law_draw .nil pass0 (pa_cons (pv 1) (pa_cons pe_int pa_nil))))
      (pss_cons (ps_if (pt_cmpR op_lt (pv 10) pe_int (nomark _)) (pss_cons (ps_set (i := 11) sc_law.nd rfl (by first | exact Or.inl rfl | exact Or.inr rfl) (pe_call (ok_law_item T) (hr.mono (by first | decide | omega)) (by rfl) T.m_law_item T.F_law_item.kp T.b_law_item .nil pass0 (pa_cons (pv 1) (pa_cons (pe_ix (ix_any hu) (pv 2) (pv 8) (fun _ _ => rfl)) (pa_cons (pe_ix (ix_any hu) (pv 6) (pv 8) (fun _ _ => rfl)) pa_nil)))))
      (pss_cons (ps_asg (pe_ix (ix_any hu) (pv 11) pe_int (fun _ _ => rfl)) (pg_sub (pv 6) (pv 8) (set_any hu)))
      (pss_cons (ps_expr (pe_meth (pv 9) T.cl_Reader T.me_Reader_receive (ok_Reader_receive T) (hr.mono (by first | decide | omega)) T.b_Reader_receive .nil pass0 (pa_cons (pv 11) pa_nil)))
      (pss_one (ps_expr (pe_call (ok_law_received T) (hr.mono (by first | decide | omega)) (by rfl) T.m_law_received T.F_law_received.kp T.b_law_received .nil pass0 (pa_cons (pe_ix (ix_any hu) (pv 5) (pv 8) (fun _ _ => rfl)) (pa_cons (pv 11) pa_nil)))))))) (pss_one (ps_if (pt_cmpR op_lt (pv 10) pe_int (nomark _)) (pss_one (ps_if (pt_not (pt_val (pe_call (ok_law_same T 8) (hr.mono (by first | decide | omega)) (by rfl) T.m_law_same T.F_law_same.kp T.b_law_same .nil pass0 (pa_cons (pe_meth0 (pv 9) T.cl_Reader T.me_Reader_apply (ok_Reader_apply T) (hr.mono (by first | decide | omega)) T.b_Reader_apply .nil pass0) (pa_cons (pe_call (ok_law_applied T) (hr.mono (by first | decide | omega)) (by rfl) T.m_law_applied T.F_law_applied.kp T.b_law_applied .nil pass0 (pa_cons (pe_ix (ix_any hu) (pv 5) (pv 8) (fun _ _ => rfl)) pa_nil)) pa_nil))))) (pss_one (ps_ret pe_bl)) pss_nil)) (pss_cons (ps_expr (pe_meth0 (pv 9) T.cl_Reader T.me_Reader_drop (ok_Reader_drop T) (hr.mono (by first | decide | omega)) T.b_Reader_drop .nil pass0))
      (pss_one (ps_asg (pe_lst pa_nil) (pg_sub (pe_ix (ix_any hu) (pv 5) (pv 8) (fun _ _ => rfl)) pe_str (set_any hu))))))))
      (pss_one (ps_if (PW.pt (pw_or (pt_not (pt_val (pe_call (ok_law_tells T) (hr.mono (by first | decide | omega)) (by rfl) T.m_law_tells T.F_law_tells.kp T.b_law_tells .nil pass0 (pa_cons (pe_ix (ix_any hu) (pv 4) pe_int (fun _ _ => rfl)) (pa_cons (pe_ix (ix_any hu) (pv 5) pe_int (fun _ _ => rfl)) pa_nil))))) (pw_or1 (pt_not (pt_val (pe_call (ok_law_tells T) (hr.mono (by first | decide | omega)) (by rfl) T.m_law_tells T.F_law_tells.kp T.b_law_tells .nil pass0 (pa_cons (pe_ix (ix_any hu) (pv 4) pe_int (fun _ _ => rfl)) (pa_cons (pe_ix (ix_any hu) (pv 5) pe_int (fun _ _ => rfl)) pa_nil)))))))) (pss_one (ps_ret pe_bl)) pss_nil)))))))
      (pss_one (ps_ret pe_bl))))))))), ?_⟩
  obtain ⟨a, ns, rfl, hS, hlen, k⟩ := h
  walk_at "start"
  walk_at "g1"
  refine use_start hS fun p q H1 fp fq S1 k1 => ?_
  walk_at "gx"
  walk_at "g1"
  intro B fB
  have nBp : B ≠ p := (S1.p_ne fB).symm
  refine lc_r (fun i H' => ∃ xs : List Int, H' B = some (.lst (xs.map V.int)) ∧ xs.length = i ∧ StAt H' p q ∧ Keep [p] H1 H') ⟨[], upd_same, rfl, S1.new fB, by walk_at "kp"⟩ ?_ ?_
  · rintro i H2 hi ⟨xs, e1, hl, S2, k2⟩
    walk_at "go"
    intro p1 f1
    walk_at "go"
    refine use_draw (S2.new f1) (by decide) (by decide) fun d1 H3 l1 u1 S3 k3 => ?_
    walk_at "go"
    have n1 : p1 ≠ p := by walk_at "ne"
    obtain ⟨z, hz⟩ : ∃ z, atI [V.int 0, V.int 7, V.int (10 ^ Int.toNat 30)] d1 = some (.int z) := by
      obtain ⟨v, hv, e⟩ := atI_lt (xs := [V.int 0, V.int 7, V.int (10 ^ Int.toNat 30)]) l1 (by simpa using u1)
      simp at hv
      rcases hv with h | h | h <;> (subst h; exact ⟨_, e⟩)
    refine kr_ixL (k3.at (nin1 n1) upd_same) hz ?_
    walk_at "go"
    refine use_draw S3 (by decide) (by decide) fun d2 H4 l2 u2 S4 k4 => ?_
    walk_at "go"
    have hi2 : i < 2 := hi
    refine ⟨xs.map V.int, by walk_at "hp", by rw [List.length_map]; exact small1000 (by omega), ?_⟩
    exact ⟨xs ++ [z + d2], by rw [List.map_append]; exact upd_same, by simp [hl], S4.mut nBp (S1.q_ne fB).symm, by walk_at "kp"⟩
  rintro H2 ⟨xs, eB, hl, S2, k2⟩
  obtain ⟨x, y, rfl⟩ : ∃ x y, xs = [x, y] := match xs, hl with
    | [x, y], _ => ⟨x, y, rfl⟩
  have eB : H2 B = some (.lst [.int x, .int y]) := eB
  have b0 : Bd H2 [[p, q]] [B] := ⟨(Bd.one S2).wd, fun z hz => by
    have e : z = B := by simpa using hz
    rw [e]
    exact ⟨by simp [nBp, (S1.q_ne fB).symm], .of eB⟩⟩
  walk_at "gx"
  walk_at "g1"
  intro r0 dx0 fr0 fd0 ne0
  refine ⟨r0, dx0, x, rfl, upd_same, fun H3 a0 b0' c0 ga gb gc ra0 kk => ⟨rfl, ?_⟩⟩
  have k3 : Keep [] H2 H3 := Keep.made fr0 fd0 kk
  have b1 := b0.part (g := [r0, a0, b0', c0]) k3 fun y hy => ⟨by
    simp at hy
    rcases hy with h | h | h | h <;> subst h <;> walk_at "fr", (ra0 []).trs y hy⟩
  clear ga gb gc kk fr0 fd0
  walk_at "gx"
  intro r1 dx1 fr1 fd1 ne1
  refine ⟨r1, dx1, y, rfl, upd_same, fun H4 a1 b1' c1 ga gb gc ra1 kk => ⟨rfl, ?_⟩⟩
  have k4 : Keep [] H3 H4 := Keep.made fr1 fd1 kk
  have b2 := b1.part (g := [r1, a1, b1', c1]) k4 fun y hy => ⟨by
    simp at hy
    rcases hy with h | h | h | h <;> subst h <;> walk_at "fr", (ra1 []).trs y hy⟩
  clear ga gb gc kk fr1 fd1
  walk_at "gx"
  intro RL fRL
  have b3 := b2.obj (H' := upd H4 RL (.lst [.ref r0, .ref r1])) fRL (by walk_at "kp") .same
  walk_at "gx"
  walk_at "g1"
  refine ⟨x, rfl, fun d0 H5 fd0 rw0 k5 t0 => ?_⟩
  have b4 := b3.part (g := [d0]) k5 fun y hy => by
    have e : y = d0 := by simpa using hy
    rw [e]; exact ⟨fd0, t0⟩
  walk_at "gx"
  refine ⟨y, rfl, fun d1 H6 fd1 rw1 k6 t1 => ?_⟩
  have b5 := b4.part (g := [d1]) k6 fun y hy => by
    have e : y = d1 := by simpa using hy
    rw [e]; exact ⟨fd1, t1⟩
  walk_at "gx"
  intro WL fWL
  have b6 := b5.obj (H' := upd H6 WL (.lst [.ref d0, .ref d1])) fWL (by walk_at "kp") .same
  walk_at "gx"
  walk_at "g1"
  intro la fla
  have b7 := b6.part (H' := upd (upd H6 WL (.lst [.ref d0, .ref d1])) la (.lst [.int x, .int y])) (g := [la]) (by walk_at "kp") fun y hy => by
    have e : y = la := by simpa using hy
    rw [e]; exact ⟨fla, .same⟩
  let R : Nat → RA := fun j => match j with
    | 0 => ⟨r0, a0, b0', c0⟩
    | _ => ⟨r1, a1, b1', c1⟩
  let d : Nat → Addr := fun j => match j with
    | 0 => d0
    | _ => d1
  let s : Nat → Rs := fun j => match j with
    | 0 => ⟨x, [], [], []⟩
    | _ => ⟨y, [], [], []⟩
  have W : Wo T.c_Reader (upd (upd H6 WL (.lst [.ref d0, .ref d1])) la (.lst [.int x, .int y])) p q la B RL WL R d s s := by
    have k46 : Keep [] H4 (upd (upd H6 WL (.lst [.ref d0, .ref d1])) la (.lst [.int x, .int y])) := by walk_at "kp"
    have k56 : Keep [] H5 (upd (upd H6 WL (.lst [.ref d0, .ref d1])) la (.lst [.int x, .int y])) := by walk_at "kp"
    have k66 : Keep [] H6 (upd (upd H6 WL (.lst [.ref d0, .ref d1])) la (.lst [.int x, .int y])) := by walk_at "kp"
    have k24 := (k3.trans k4).trans k46
    refine ⟨S2.keep k24 nin0 nin0, b7.wd, ⟨x, y, k24.at nin0 eB⟩, ⟨x, y, upd_same⟩, ?_, get_new fla upd_same, (b7.out B (by simp)).1, (b7.out RL (by simp)).1, (b7.out WL (by simp)).1, two ?_ ?_, two ?_ ?_⟩
    · exact (k5.trans k56).at nin0 upd_same
    · exact (ra0 _).keep0 (k4.trans k46)
    · exact (ra1 _).keep0 k46
    · have fla5 : Fresh H5 la := (by walk_at "kp" : Keep [] H5 (upd H6 WL (.lst [.ref d0, .ref d1]))).none fla nin0
      refine (rw0 _ (bd_trs b3)).go k56 (by simp) (fun z hz => ?_) nin0
      have hz' : z ∈ d0 :: ([[p, q]] ++ [[r0, a0, b0', c0]] ++ [[r1, a1, b1', c1]]).flatten ∨ z = d1 ∨ z = la := by
        simp [RA.f, R, d] at hz
        rcases hz with h | h | h | h | h | h | h | h | h | h | h | h | h <;> simp [h]
      rcases hz' with h | h | h
      · exact .inl h
      · rw [h]; exact .inr fd1
      · rw [h]; exact .inr fla5
    · have fla6 : Fresh H6 la := (by walk_at "kp" : Keep [] H6 (upd H6 WL (.lst [.ref d0, .ref d1]))).none fla nin0
      refine (rw1 _ (bd_trs b4)).go k66 (by simp) (fun z hz => ?_) nin0
      have hz' : z ∈ d1 :: ([[p, q]] ++ [[r0, a0, b0', c0]] ++ [[r1, a1, b1', c1]] ++ [[d0]]).flatten ∨ z = la := by
        simp [RA.f, R, d] at hz
        rcases hz with h | h | h | h | h | h | h | h | h | h | h | h | h <;> simp [h]
      rcases hz' with h | h
      · exact .inl h
      · rw [h]; exact .inr fla6
  have ok0 : ∀ j, j < 2 → (s j).small 0 ∧ (s j).flat := two ⟨⟨Nat.le_refl _, Nat.le_refl _, Nat.le_refl _⟩, by intro t ht; cases ht⟩ ⟨⟨Nat.le_refl _, Nat.le_refl _, Nat.le_refl _⟩, by intro t ht; cases ht⟩
  clear_value R d s
  clear b0 b1 b2 b3 b4 b5 b6 b7 rw0 rw1 ra0 ra1
  walk_at "gx"
  refine k_gen (R := fun σ' H' => σ' = [some (.ref a), some (.ref p), some (.ref B), none, some (.ref RL), some (.ref WL), some (.ref la), none, none, none, none, none] ∧ Wo T.c_Reader H' p q la B RL WL R d s s) ⟨rfl, W⟩ ?_
  clear W
  rintro _ H7 ⟨rfl, W⟩
  have tells : ∀ {H : Hp} {R : Nat → RA} {d : Nat → Addr} {s : Nat → Rs} (W : Wo T.c_Reader H p q la B RL WL R d s s) (ok : ∀ j, j < 2 → (s j).small 900 ∧ (s j).flat) (j : Nat) (hj : j < 2) (Q : VK) (E : XK) (k : ∀ H', Keep [] H H' → Q (.bl true) H'),
      spTells T.c_Reader ([.ref (R j).r, .ref (d j)] ++ []) H Q E := fun {H R d s} W ok j hj Q E k => ⟨_, _, _, _, _, _, s j, rfl, W.rd j hj, W.rw j hj, (ok j hj).1, (ok j hj).2, k⟩
  refine k_seq ?_
  refine k_cutI (R := fun c H' => c = false ∧ Keep [] H7 H') (fun Bk hB => ?_) ?_
  · walk_at "go"
    refine kr_ixL W.hR rfl ?_
    walk_at "go"
    refine kr_ixL W.hW rfl ?_
    walk_at "go"
    refine tells W (fun j hj => ⟨small_up (ok0 j hj).1 (by omega), (ok0 j hj).2⟩) 0 (by decide) _ _ fun H8 k8 => ?_
    have W8 := W.same k8
    walk_at "go"
    refine kr_ixL W8.hR rfl ?_
    walk_at "go"
    refine kr_ixL W8.hW rfl ?_
    walk_at "go"
    refine tells W8 (fun j hj => ⟨small_up (ok0 j hj).1 (by omega), (ok0 j hj).2⟩) 1 (by decide) _ _ fun H9 k9 => ?_
    walk_at "go"
    exact hB _ _ ⟨rfl, k8.trans k9⟩
  rintro _ H8 ⟨rfl, k8⟩
  have W8 := W.same k8
  walk_at "gx"
  walk_at "g1"
  refine use_draw W8.st (by decide) (by decide) fun dn H9 l9 u9 S9 k9 => ?_
  have W9 := W8.draw k9 S9
  walk_at "gx"
  refine for_r (fun i σ H' => ∃ (R : Nat → RA) (d : Nat → Addr) (s : Nat → Rs) (u1 u2 u3 u4 u5 : Option V), σ = [some (.ref a), some (.ref p), some (.ref B), none, some (.ref RL), some (.ref WL), some (.ref la), u1, u2, u3, u4, u5] ∧
    Wo T.c_Reader H' p q la B RL WL R d s s ∧ ∀ j, j < 2 → (s j).small i ∧ (s j).flat) ⟨R, d, s, none, none, none, none, none, rfl, W9, ok0⟩ ?_ ?_
  · rintro i σ H1 hi ⟨R, d, s, u1, u2, u3, u4, u5, rfl, W, ok⟩
    have hi' : i < 31 := by omega
    walk_at "gx"
    walk_at "g1"
    refine use_draw W.st (by decide) (by decide) fun dj H2 l2 u2' S2 k2 => ?_
    obtain ⟨j, hj, rfl⟩ := at2 l2 u2'
    have W2 := W.draw k2 S2
    walk_at "gx"
    walk_at "g1"
    refine kr_ixL W2.hR (at2_get (f := fun j => .ref (R j).r) hj) ?_
    walk_at "gx"
    walk_at "g1"
    refine use_draw W2.st (by decide) (by decide) fun dw H3 l3 u3' S3 k3 => ?_
    have W3 := W2.draw k3 S3
    walk_at "gx"
    refine k_cut (R := fun σ' H' => ∃ (R : Nat → RA) (d : Nat → Addr) (s : Nat → Rs) (u1 u2 u3 u4 u5 : Option V), σ' = [some (.ref a), some (.ref p), some (.ref B), none, some (.ref RL), some (.ref WL), some (.ref la), u1, u2, u3, u4, u5] ∧
      Wo T.c_Reader H' p q la B RL WL R d s s ∧ ∀ j, j < 2 → (s j).small (i + 1) ∧ (s j).flat) (fun Bk hB => ?_) ?_
    · clear W W2 S2 S3 k2 k3
      have sm : (s j).small 900 := small_up (ok j hj).1 (by omega)
      obtain ⟨⟨dx, ob⟩, _⟩ := id (W3.rd j hj)
      walk_at "gx"
      refine k_ite (fun c1 => ?_) (fun c1 => ?_)
      · walk_at "g1"
        obtain ⟨bx, by', eB⟩ := W3.hB
        obtain ⟨z1, hz1⟩ := at2_int (x := bx) (y := by') hj
        refine kr_ixL eB hz1 ?_
        walk_at "gx"
        obtain ⟨lx, ly, eL⟩ := W3.hla
        obtain ⟨z2, hz2⟩ := at2_int (x := lx) (y := ly) hj
        refine kr_ixL eL hz2 ?_
        walk_at "gx"
        refine ⟨_, p, q, _, _, rfl, W3.st, mem_p, W3.tr, fun v t H4 iv hd S4 k4 => ?_⟩
        have W4 := W3.draw k4 S4
        obtain ⟨ti, tc, rfl, ht, nt, _⟩ := item_inv iv
        walk_at "gx"
        walk_at "g1"
        obtain ⟨lx', ly', eL'⟩ := W4.hla
        obtain ⟨x', y', e1, e2⟩ := at2_set (x := lx') (y := ly') (z := t.place) hj
        refine kr_setL eL' e1 e2 ?_
        have W5 := W4.last (x := x') (y := y')
        have kla : Keep [la] H4 (upd H4 la (.lst [.int x', .int y'])) := by walk_at "kp"
        have iv5 := iv.keep kla (by intro b hb; have e : b = la := by simpa using hb
                                    rw [e]; exact mem_flat (i := 5) (f := [la]) rfl (by simp))
        obtain ⟨⟨dx5, ob5⟩, _⟩ := id (W5.rd j hj)
        walk_at "gx"
        walk_at "g1"
        refine ⟨_, _, _, _, _, s j, _, t, rfl, W5.rd j hj, iv5, sm, ⟨mem_r hj (by simp [RA.f]), mem_r hj (by simp [RA.f])⟩, fun H6 r6 k6 => ?_⟩
        have s6 : ∀ b, b ∈ [(R j).a, (R j).c] → b ∈ (R j).f := by intro b hb; simp at hb; rcases hb with h | h <;> simp [RA.f, h]
        have W6 := W5.reader hj (x := R j) rfl k6 s6 .refl (by rw [up_id]; exact r6)
        rw [up_id] at W6
        have iv6 := iv5.keep k6 (fun b hb => mem_r hj (s6 b hb))
        walk_at "gx"
        refine kr_ixL W6.hW (at2_get (f := fun j => .ref (d j)) hj) ?_
        walk_at "gx"
        refine ⟨_, d j, s j, _, t, rfl, W6.rw j hj, iv6, sm, mem_d hj, W6.tr, fun H7 r7 k7 => ?_⟩
        have W7 := W6.row hj k7 r7
        walk_at "gx"
        exact hB _ _ ⟨R, d, _, _, _, _, _, _, rfl, W7, ok_up ok ⟨small_recv (ok j hj).1, flat_recv (ok j hj).2 hd⟩⟩
      walk_at "gx"
      refine k_ite (fun c2 => ?_) (fun c2 => ?_)
      · walk_at "gx"
        have mm : (R j).r ∈ (Lw p q la R d).flatten ∧ (R j).a ∈ (Lw p q la R d).flatten ∧ (R j).b ∈ (Lw p q la R d).flatten := ⟨mem_r hj (by simp [RA.f]), mem_r hj (by simp [RA.f]), mem_r hj (by simp [RA.f])⟩
        refine ⟨_, _, _, _, _, s j, rfl, W3.rd j hj, sm, mm, fun h0 => ?_, fun H4 v t z h0 iv r4 k4 => ?_⟩
        · walk_at "gx"
          refine kr_ixL W3.hW (at2_get (f := fun j => .ref (d j)) hj) ?_
          walk_at "gx"
          refine ⟨_, d j, s j, rfl, W3.rw j hj, sm, mem_d hj, W3.tr, fun _ => ?_, fun H5 v' t' z' h0' iv' r5 k5 => by rw [h0] at h0'; cases h0'⟩
          walk_at "gx"
          refine use_same .non .non (by show 0 < 8; decide) fun b H5 hb k5 => ?_
          obtain rfl : b = true := hb.mpr rfl
          walk_at "gx"
          exact hB _ _ ⟨R, d, s, _, _, _, _, _, rfl, W3.same k5, fun j hj => ⟨small_up (ok j hj).1 (by omega), (ok j hj).2⟩⟩
        · have s4 : ∀ b, b ∈ [(R j).r, (R j).a, (R j).b] → b ∈ (R j).f := by intro b hb; simp at hb; rcases hb with h | h | h <;> simp [RA.f, h]
          have W4 := W3.reader hj (x := R j) rfl k4 s4 .refl (by rw [up_id]; exact r4)
          rw [up_id] at W4
          walk_at "gx"
          refine kr_ixL W4.hW (at2_get (f := fun j => .ref (d j)) hj) ?_
          walk_at "gx"
          refine ⟨_, d j, s j, rfl, W4.rw j hj, sm, mem_d hj, W4.tr, fun h => (by rw [h0] at h; cases h), fun H5 v' t' z' h0' iv' r5 k5 => ?_⟩
          rw [h0] at h0'
          cases h0'
          have W5 := W4.row hj k5 r5
          have iv5 := iv.keep k5 (by intro b hb; have e : b = d j := by simpa using hb
                                     rw [e]; exact mem_d hj)
          walk_at "gx"
          have hd : t.ch.depth ≤ 2 := (ok j hj).2 t (by rw [h0]; simp)
          refine use_same iv5.free iv'.free (by simp only [Itm.d, D.depth, D.depths]; omega) fun b H6 hb k6 => ?_
          obtain rfl : b = true := hb.mpr rfl
          walk_at "gx"
          exact hB _ _ ⟨R, d, _, _, _, _, _, _, rfl, W5.same k6, ok_up ok ⟨small_appl (ok j hj).1 h0, flat_appl (ok j hj).2 h0⟩⟩
      · walk_at "g1"
        refine ⟨_, _, _, _, _, s j, rfl, W3.rd j hj, mem_r hj (by simp [RA.f]), fun H4 l fl r4 k4 => ?_⟩
        have W4 := W3.reader hj (x := ⟨(R j).r, l, (R j).b, (R j).c⟩) rfl k4 (by intro b hb; have e : b = (R j).r := by simpa using hb
                                                                                 rw [e]; simp [RA.f]) (by
          intro b hb
          simp [RA.f] at hb
          rcases hb with h | h | h | h
          · exact .inl (by simp [RA.f, h])
          · rw [h]; exact .inr fl
          · exact .inl (by simp [RA.f, h])
          · exact .inl (by simp [RA.f, h])) r4.nil
        walk_at "gx"
        intro p1 f1
        walk_at "gx"
        have W5 := W4.same (H' := upd H4 p1 (.lst [])) (by walk_at "kp")
        refine kr_ixL W5.hW (at2_get (f := fun j => .ref (d j)) hj) ?_
        walk_at "gx"
        obtain ⟨ra, rb, rc, ys, hd, ⟨hi', na, ti'⟩, ⟨hj', nb⟩, ⟨hc, nc⟩⟩ := (W5.rw j hj).ex
        have nd1 : d j ≠ p1 := by
          obtain ⟨_, _, _, _, hd0, _⟩ := (W4.rw j hj).ex
          exact ne_new f1 (.of hd0)
        walk_at "gx"
        have kd : Keep [d j] (upd H4 p1 (.lst [])) (upd (upd H4 p1 (.lst [])) (d j) (.dK (dk_Row (.int (s j).own) (.ref p1) (.ref rb) (.ref rc)))) := by walk_at "kp"
        have r6 : RowAt (Lw p q la (up R j ⟨(R j).r, l, (R j).b, (R j).c⟩) d).flatten (upd (upd H4 p1 (.lst [])) (d j) (.dK (dk_Row (.int (s j).own) (.ref p1) (.ref rb) (.ref rc)))) (d j) { s j with inb := [] } :=
          ⟨p1, rb, rc, [], upd_same, ⟨get_ne nd1.symm upd_same, W4.wd.fresh f1, .nil⟩, ⟨get_ne (ne_of hj' hd (by intro z; cases z)) hj', nb⟩, ⟨get_ne (ne_of hc hd (by intro z; cases z)) hc, nc⟩⟩
        have W6 := W5.row hj kd r6
        exact hB _ _ ⟨_, d, _, _, _, _, _, _, rfl, W6, ok_up ok ⟨⟨Nat.zero_le _, by have := (ok j hj).1.2.1; show (s j).jou.length ≤ _; omega, by have := (ok j hj).1.2.2; show (s j).rep.length ≤ _; omega⟩, by intro t ht; cases ht⟩⟩
    · rintro _ H4 ⟨R, d, s, u1, u2, u3, u4, u5, rfl, W, ok⟩
      refine k_cutI (R := fun c H' => c = false ∧ Keep [] H4 H') (fun Bk hB => ?_) ?_
      · walk_at "go"
        refine kr_ixL W.hR rfl ?_
        walk_at "go"
        refine kr_ixL W.hW rfl ?_
        walk_at "go"
        refine tells W (fun j hj => ⟨small_up (ok j hj).1 (by omega), (ok j hj).2⟩) 0 (by decide) _ _ fun H8 k8 => ?_
        have W8 := W.same k8
        walk_at "go"
        refine kr_ixL W8.hR rfl ?_
        walk_at "go"
        refine kr_ixL W8.hW rfl ?_
        walk_at "go"
        refine tells W8 (fun j hj => ⟨small_up (ok j hj).1 (by omega), (ok j hj).2⟩) 1 (by decide) _ _ fun H9 k9 => ?_
        walk_at "go"
        exact hB _ _ ⟨rfl, k8.trans k9⟩
      rintro _ H8 ⟨rfl, k8⟩
      walk_at "go"
      exact ⟨R, d, s, _, _, _, _, _, rfl, W.same k8, ok⟩
  · rintro σ H1 ⟨R, d, s, u1, u2, u3, u4, u5, rfl, W, ok⟩
    walk_at "go"
    exact k _
end
theorem all_mk {l : PySem.W.OpenLaw} {w : World} {K : PySem.W.Frag} {h : Heap} {mg : Str → Option Value} {fa c_Reader a_law_mixed a_law_draw a_law_start a_law_word a_law_same a_law_value a_Reader_init a_Reader_got p_Reader_got a_Reader_receive a_Reader_apply a_Reader_drop a_Reader_inbox a_Reader_journal a_Reader_repeats a_law_fresh a_law_got a_law_received a_law_applied a_law_tells a_law_item a_law : Addr} (X : K.In h) (G : h.Ns mainGlobals mg) (hfa : mg "law" = some (.ref fa))
    {od_law_mixed an_law_mixed od_law_draw an_law_draw od_law_start an_law_start od_law_word an_law_word od_law_same an_law_same od_law_value an_law_value od_Reader_init an_Reader_init od_Reader_got an_Reader_got od_Reader_receive an_Reader_receive od_Reader_apply an_Reader_apply od_Reader_drop an_Reader_drop od_Reader_inbox an_Reader_inbox od_Reader_journal an_Reader_journal od_Reader_repeats an_Reader_repeats od_law_fresh an_law_fresh od_law_got an_law_got od_law_received an_law_received od_law_applied an_law_applied od_law_tells an_law_tells od_law_item an_law_item od_law an_law : Option Addr} {sl_law_mixed sl_law_draw sl_law_start sl_law_word sl_law_same sl_law_value sl_Reader_init sl_Reader_got sl_Reader_receive sl_Reader_apply sl_Reader_drop sl_Reader_inbox sl_Reader_journal sl_Reader_repeats sl_law_fresh sl_law_got sl_law_received sl_law_applied sl_law_tells sl_law_item sl_law : Array (Option Value)} {oc_law_mixed kV_law_mixed dc_law_mixed pm_law_mixed cd_law_mixed ct_law_mixed oc_law_draw kV_law_draw dc_law_draw pm_law_draw cd_law_draw ct_law_draw oc_law_start kV_law_start dc_law_start pm_law_start cd_law_start ct_law_start oc_law_word kV_law_word dc_law_word pm_law_word cd_law_word ct_law_word oc_law_same kV_law_same dc_law_same pm_law_same cd_law_same ct_law_same oc_law_value kV_law_value dc_law_value pm_law_value cd_law_value ct_law_value oc_Reader_init kV_Reader_init dc_Reader_init pm_Reader_init cd_Reader_init ct_Reader_init oc_Reader_got kV_Reader_got dc_Reader_got pm_Reader_got cd_Reader_got ct_Reader_got oc_Reader_receive kV_Reader_receive dc_Reader_receive pm_Reader_receive cd_Reader_receive ct_Reader_receive oc_Reader_apply kV_Reader_apply dc_Reader_apply pm_Reader_apply cd_Reader_apply ct_Reader_apply oc_Reader_drop kV_Reader_drop dc_Reader_drop pm_Reader_drop cd_Reader_drop ct_Reader_drop oc_Reader_inbox kV_Reader_inbox dc_Reader_inbox pm_Reader_inbox cd_Reader_inbox ct_Reader_inbox oc_Reader_journal kV_Reader_journal dc_Reader_journal pm_Reader_journal cd_Reader_journal ct_Reader_journal oc_Reader_repeats kV_Reader_repeats dc_Reader_repeats pm_Reader_repeats cd_Reader_repeats ct_Reader_repeats oc_law_fresh kV_law_fresh dc_law_fresh pm_law_fresh cd_law_fresh ct_law_fresh oc_law_got kV_law_got dc_law_got pm_law_got cd_law_got ct_law_got oc_law_received kV_law_received dc_law_received pm_law_received cd_law_received ct_law_received oc_law_applied kV_law_applied dc_law_applied pm_law_applied cd_law_applied ct_law_applied oc_law_tells kV_law_tells dc_law_tells pm_law_tells cd_law_tells ct_law_tells oc_law_item kV_law_item dc_law_item pm_law_item cd_law_item ct_law_item oc_law kV_law dc_law pm_law cd_law ct_law : Value} {rest_Reader_got : List Value}
    (z_bool : PySem.W.nsIn K mainGlobals "bool" = some none)
    (z_dict : PySem.W.nsIn K mainGlobals "dict" = some none)
    (z_int : PySem.W.nsIn K mainGlobals "int" = some none)
    (z_isinstance : PySem.W.nsIn K mainGlobals "isinstance" = some none)
    (z_len : PySem.W.nsIn K mainGlobals "len" = some none)
    (z_list : PySem.W.nsIn K mainGlobals "list" = some none)
    (z_range : PySem.W.nsIn K mainGlobals "range" = some none)
    (z_str : PySem.W.nsIn K mainGlobals "str" = some none)
    (z_tuple : PySem.W.nsIn K mainGlobals "tuple" = some none)
    (aC_Reader : PySem.W.nsIn K mainGlobals "Reader" = some (some (.ref c_Reader)))
    (pg_Reader : PySem.W.plainGet K c_Reader Str.empty = true)
    (hd_Reader : PySem.W.hasDictIn K c_Reader = true)
    (po_Reader : PySem.W.plainOver K c_Reader = true)
    (sa_Reader : PySem.W.findIn K (.ref c_Reader) "__setattr__" = some (some (.builtin "object.__setattr__")))
    (mi_Reader : PySem.W.makesIn K c_Reader = true)
    (kc_Reader : PySem.W.keepIn K (.ref c_Reader) = true)
    (n_Reader_own : PySem.W.findIn K (.ref c_Reader) "own" = some none)
    (n_Reader_inbox : PySem.W.findIn K (.ref c_Reader) "_inbox" = some none)
    (n_Reader_journal : PySem.W.findIn K (.ref c_Reader) "_journal" = some none)
    (n_Reader_repeats : PySem.W.findIn K (.ref c_Reader) "_repeats" = some none)
    (n1_law_mixed : PySem.W.nsIn K mainGlobals "_law_mixed" = some (some (.ref a_law_mixed)))
    (l_law_mixed : K.lookup a_law_mixed = some ⟨oc_law_mixed, od_law_mixed, .func (PySem.W.fnOf "_law_mixed" "_law_mixed" (defArgs s_law_mixed) (defBody s_law_mixed) (defScope s_law_mixed) .none kV_law_mixed dc_law_mixed pm_law_mixed an_law_mixed cd_law_mixed ct_law_mixed), sl_law_mixed⟩)
    (cc_law_mixed : PySem.W.codeIn K cd_law_mixed "_law_mixed" = true)
    (k_law_mixed : PySem.W.keepIn K (.ref a_law_mixed) = true)
    (n1_law_draw : PySem.W.nsIn K mainGlobals "_law_draw" = some (some (.ref a_law_draw)))
    (l_law_draw : K.lookup a_law_draw = some ⟨oc_law_draw, od_law_draw, .func (PySem.W.fnOf "_law_draw" "_law_draw" (defArgs s_law_draw) (defBody s_law_draw) (defScope s_law_draw) .none kV_law_draw dc_law_draw pm_law_draw an_law_draw cd_law_draw ct_law_draw), sl_law_draw⟩)
    (cc_law_draw : PySem.W.codeIn K cd_law_draw "_law_draw" = true)
    (k_law_draw : PySem.W.keepIn K (.ref a_law_draw) = true)
    (n1_law_start : PySem.W.nsIn K mainGlobals "_law_start" = some (some (.ref a_law_start)))
    (l_law_start : K.lookup a_law_start = some ⟨oc_law_start, od_law_start, .func (PySem.W.fnOf "_law_start" "_law_start" (defArgs s_law_start) (defBody s_law_start) (defScope s_law_start) .none kV_law_start dc_law_start pm_law_start an_law_start cd_law_start ct_law_start), sl_law_start⟩)
    (cc_law_start : PySem.W.codeIn K cd_law_start "_law_start" = true)
    (k_law_start : PySem.W.keepIn K (.ref a_law_start) = true)
    (n1_law_word : PySem.W.nsIn K mainGlobals "_law_word" = some (some (.ref a_law_word)))
    (l_law_word : K.lookup a_law_word = some ⟨oc_law_word, od_law_word, .func (PySem.W.fnOf "_law_word" "_law_word" (defArgs s_law_word) (defBody s_law_word) (defScope s_law_word) .none kV_law_word dc_law_word pm_law_word an_law_word cd_law_word ct_law_word), sl_law_word⟩)
    (cc_law_word : PySem.W.codeIn K cd_law_word "_law_word" = true)
    (k_law_word : PySem.W.keepIn K (.ref a_law_word) = true)
    (n1_law_same : PySem.W.nsIn K mainGlobals "_law_same" = some (some (.ref a_law_same)))
    (l_law_same : K.lookup a_law_same = some ⟨oc_law_same, od_law_same, .func (PySem.W.fnOf "_law_same" "_law_same" (defArgs s_law_same) (defBody s_law_same) (defScope s_law_same) .none kV_law_same dc_law_same pm_law_same an_law_same cd_law_same ct_law_same), sl_law_same⟩)
    (cc_law_same : PySem.W.codeIn K cd_law_same "_law_same" = true)
    (k_law_same : PySem.W.keepIn K (.ref a_law_same) = true)
    (n1_law_value : PySem.W.nsIn K mainGlobals "_law_value" = some (some (.ref a_law_value)))
    (l_law_value : K.lookup a_law_value = some ⟨oc_law_value, od_law_value, .func (PySem.W.fnOf "_law_value" "_law_value" (defArgs s_law_value) (defBody s_law_value) (defScope s_law_value) .none kV_law_value dc_law_value pm_law_value an_law_value cd_law_value ct_law_value), sl_law_value⟩)
    (cc_law_value : PySem.W.codeIn K cd_law_value "_law_value" = true)
    (k_law_value : PySem.W.keepIn K (.ref a_law_value) = true)
    (n1_Reader_init : PySem.W.findIn K (.ref c_Reader) "__init__" = some (some (.ref a_Reader_init)))
    (i_Reader_init : PySem.W.isFn K (.ref a_Reader_init) = true)
    (l_Reader_init : K.lookup a_Reader_init = some ⟨oc_Reader_init, od_Reader_init, .func (PySem.W.fnOf "__init__" "Reader.__init__" (defArgs s_Reader_init) (defBody s_Reader_init) (defScope s_Reader_init) .none kV_Reader_init dc_Reader_init pm_Reader_init an_Reader_init cd_Reader_init ct_Reader_init), sl_Reader_init⟩)
    (cc_Reader_init : PySem.W.codeIn K cd_Reader_init "Reader.__init__" = true)
    (k_Reader_init : PySem.W.keepIn K (.ref a_Reader_init) = true)
    (pa_Reader_got : PySem.W.findIn K (.ref c_Reader) "got" = some (some (.ref p_Reader_got)))
    (pb_Reader_got : PySem.W.specialIn K (.ref p_Reader_got) "__get__" = some (some (.builtin "property.__get__")))
    (pc_Reader_got : PySem.W.takesIn K (.ref p_Reader_got) = some true)
    (pd_Reader_got : PySem.W.recIn K p_Reader_got "property" = some (.ref a_Reader_got :: rest_Reader_got))
    (l_Reader_got : K.lookup a_Reader_got = some ⟨oc_Reader_got, od_Reader_got, .func (PySem.W.fnOf "got" "Reader.got" (defArgs s_Reader_got) (defBody s_Reader_got) (defScope s_Reader_got) .none kV_Reader_got dc_Reader_got pm_Reader_got an_Reader_got cd_Reader_got ct_Reader_got), sl_Reader_got⟩)
    (cc_Reader_got : PySem.W.codeIn K cd_Reader_got "Reader.got" = true)
    (k_Reader_got : PySem.W.keepIn K (.ref a_Reader_got) = true)
    (n1_Reader_receive : PySem.W.findIn K (.ref c_Reader) "receive" = some (some (.ref a_Reader_receive)))
    (i_Reader_receive : PySem.W.isFn K (.ref a_Reader_receive) = true)
    (l_Reader_receive : K.lookup a_Reader_receive = some ⟨oc_Reader_receive, od_Reader_receive, .func (PySem.W.fnOf "receive" "Reader.receive" (defArgs s_Reader_receive) (defBody s_Reader_receive) (defScope s_Reader_receive) .none kV_Reader_receive dc_Reader_receive pm_Reader_receive an_Reader_receive cd_Reader_receive ct_Reader_receive), sl_Reader_receive⟩)
    (cc_Reader_receive : PySem.W.codeIn K cd_Reader_receive "Reader.receive" = true)
    (k_Reader_receive : PySem.W.keepIn K (.ref a_Reader_receive) = true)
    (n1_Reader_apply : PySem.W.findIn K (.ref c_Reader) "apply" = some (some (.ref a_Reader_apply)))
    (i_Reader_apply : PySem.W.isFn K (.ref a_Reader_apply) = true)
    (l_Reader_apply : K.lookup a_Reader_apply = some ⟨oc_Reader_apply, od_Reader_apply, .func (PySem.W.fnOf "apply" "Reader.apply" (defArgs s_Reader_apply) (defBody s_Reader_apply) (defScope s_Reader_apply) .none kV_Reader_apply dc_Reader_apply pm_Reader_apply an_Reader_apply cd_Reader_apply ct_Reader_apply), sl_Reader_apply⟩)
    (cc_Reader_apply : PySem.W.codeIn K cd_Reader_apply "Reader.apply" = true)
    (k_Reader_apply : PySem.W.keepIn K (.ref a_Reader_apply) = true)
    (n1_Reader_drop : PySem.W.findIn K (.ref c_Reader) "drop" = some (some (.ref a_Reader_drop)))
    (i_Reader_drop : PySem.W.isFn K (.ref a_Reader_drop) = true)
    (l_Reader_drop : K.lookup a_Reader_drop = some ⟨oc_Reader_drop, od_Reader_drop, .func (PySem.W.fnOf "drop" "Reader.drop" (defArgs s_Reader_drop) (defBody s_Reader_drop) (defScope s_Reader_drop) .none kV_Reader_drop dc_Reader_drop pm_Reader_drop an_Reader_drop cd_Reader_drop ct_Reader_drop), sl_Reader_drop⟩)
    (cc_Reader_drop : PySem.W.codeIn K cd_Reader_drop "Reader.drop" = true)
    (k_Reader_drop : PySem.W.keepIn K (.ref a_Reader_drop) = true)
    (n1_Reader_inbox : PySem.W.findIn K (.ref c_Reader) "inbox" = some (some (.ref a_Reader_inbox)))
    (i_Reader_inbox : PySem.W.isFn K (.ref a_Reader_inbox) = true)
    (l_Reader_inbox : K.lookup a_Reader_inbox = some ⟨oc_Reader_inbox, od_Reader_inbox, .func (PySem.W.fnOf "inbox" "Reader.inbox" (defArgs s_Reader_inbox) (defBody s_Reader_inbox) (defScope s_Reader_inbox) .none kV_Reader_inbox dc_Reader_inbox pm_Reader_inbox an_Reader_inbox cd_Reader_inbox ct_Reader_inbox), sl_Reader_inbox⟩)
    (cc_Reader_inbox : PySem.W.codeIn K cd_Reader_inbox "Reader.inbox" = true)
    (k_Reader_inbox : PySem.W.keepIn K (.ref a_Reader_inbox) = true)
    (n1_Reader_journal : PySem.W.findIn K (.ref c_Reader) "journal" = some (some (.ref a_Reader_journal)))
    (i_Reader_journal : PySem.W.isFn K (.ref a_Reader_journal) = true)
    (l_Reader_journal : K.lookup a_Reader_journal = some ⟨oc_Reader_journal, od_Reader_journal, .func (PySem.W.fnOf "journal" "Reader.journal" (defArgs s_Reader_journal) (defBody s_Reader_journal) (defScope s_Reader_journal) .none kV_Reader_journal dc_Reader_journal pm_Reader_journal an_Reader_journal cd_Reader_journal ct_Reader_journal), sl_Reader_journal⟩)
    (cc_Reader_journal : PySem.W.codeIn K cd_Reader_journal "Reader.journal" = true)
    (k_Reader_journal : PySem.W.keepIn K (.ref a_Reader_journal) = true)
    (n1_Reader_repeats : PySem.W.findIn K (.ref c_Reader) "repeats" = some (some (.ref a_Reader_repeats)))
    (i_Reader_repeats : PySem.W.isFn K (.ref a_Reader_repeats) = true)
    (l_Reader_repeats : K.lookup a_Reader_repeats = some ⟨oc_Reader_repeats, od_Reader_repeats, .func (PySem.W.fnOf "repeats" "Reader.repeats" (defArgs s_Reader_repeats) (defBody s_Reader_repeats) (defScope s_Reader_repeats) .none kV_Reader_repeats dc_Reader_repeats pm_Reader_repeats an_Reader_repeats cd_Reader_repeats ct_Reader_repeats), sl_Reader_repeats⟩)
    (cc_Reader_repeats : PySem.W.codeIn K cd_Reader_repeats "Reader.repeats" = true)
    (k_Reader_repeats : PySem.W.keepIn K (.ref a_Reader_repeats) = true)
    (n1_law_fresh : PySem.W.nsIn K mainGlobals "_law_fresh" = some (some (.ref a_law_fresh)))
    (l_law_fresh : K.lookup a_law_fresh = some ⟨oc_law_fresh, od_law_fresh, .func (PySem.W.fnOf "_law_fresh" "_law_fresh" (defArgs s_law_fresh) (defBody s_law_fresh) (defScope s_law_fresh) .none kV_law_fresh dc_law_fresh pm_law_fresh an_law_fresh cd_law_fresh ct_law_fresh), sl_law_fresh⟩)
    (cc_law_fresh : PySem.W.codeIn K cd_law_fresh "_law_fresh" = true)
    (k_law_fresh : PySem.W.keepIn K (.ref a_law_fresh) = true)
    (n1_law_got : PySem.W.nsIn K mainGlobals "_law_got" = some (some (.ref a_law_got)))
    (l_law_got : K.lookup a_law_got = some ⟨oc_law_got, od_law_got, .func (PySem.W.fnOf "_law_got" "_law_got" (defArgs s_law_got) (defBody s_law_got) (defScope s_law_got) .none kV_law_got dc_law_got pm_law_got an_law_got cd_law_got ct_law_got), sl_law_got⟩)
    (cc_law_got : PySem.W.codeIn K cd_law_got "_law_got" = true)
    (k_law_got : PySem.W.keepIn K (.ref a_law_got) = true)
    (n1_law_received : PySem.W.nsIn K mainGlobals "_law_received" = some (some (.ref a_law_received)))
    (l_law_received : K.lookup a_law_received = some ⟨oc_law_received, od_law_received, .func (PySem.W.fnOf "_law_received" "_law_received" (defArgs s_law_received) (defBody s_law_received) (defScope s_law_received) .none kV_law_received dc_law_received pm_law_received an_law_received cd_law_received ct_law_received), sl_law_received⟩)
    (cc_law_received : PySem.W.codeIn K cd_law_received "_law_received" = true)
    (k_law_received : PySem.W.keepIn K (.ref a_law_received) = true)
    (n1_law_applied : PySem.W.nsIn K mainGlobals "_law_applied" = some (some (.ref a_law_applied)))
    (l_law_applied : K.lookup a_law_applied = some ⟨oc_law_applied, od_law_applied, .func (PySem.W.fnOf "_law_applied" "_law_applied" (defArgs s_law_applied) (defBody s_law_applied) (defScope s_law_applied) .none kV_law_applied dc_law_applied pm_law_applied an_law_applied cd_law_applied ct_law_applied), sl_law_applied⟩)
    (cc_law_applied : PySem.W.codeIn K cd_law_applied "_law_applied" = true)
    (k_law_applied : PySem.W.keepIn K (.ref a_law_applied) = true)
    (n1_law_tells : PySem.W.nsIn K mainGlobals "_law_tells" = some (some (.ref a_law_tells)))
    (l_law_tells : K.lookup a_law_tells = some ⟨oc_law_tells, od_law_tells, .func (PySem.W.fnOf "_law_tells" "_law_tells" (defArgs s_law_tells) (defBody s_law_tells) (defScope s_law_tells) .none kV_law_tells dc_law_tells pm_law_tells an_law_tells cd_law_tells ct_law_tells), sl_law_tells⟩)
    (cc_law_tells : PySem.W.codeIn K cd_law_tells "_law_tells" = true)
    (k_law_tells : PySem.W.keepIn K (.ref a_law_tells) = true)
    (n1_law_item : PySem.W.nsIn K mainGlobals "_law_item" = some (some (.ref a_law_item)))
    (l_law_item : K.lookup a_law_item = some ⟨oc_law_item, od_law_item, .func (PySem.W.fnOf "_law_item" "_law_item" (defArgs s_law_item) (defBody s_law_item) (defScope s_law_item) .none kV_law_item dc_law_item pm_law_item an_law_item cd_law_item ct_law_item), sl_law_item⟩)
    (cc_law_item : PySem.W.codeIn K cd_law_item "_law_item" = true)
    (k_law_item : PySem.W.keepIn K (.ref a_law_item) = true)
    (n1_law : PySem.W.nsIn K mainGlobals "law" = some (some (.ref a_law)))
    (l_law : K.lookup a_law = some ⟨oc_law, od_law, .func (PySem.W.fnOf "law" "law" (defArgs s_law) (defBody s_law) (defScope s_law) .none kV_law dc_law pm_law an_law cd_law ct_law), sl_law⟩)
    (cc_law : PySem.W.codeIn K cd_law "law" = true)
    (k_law : PySem.W.keepIn K (.ref a_law) = true)
    : ∃ fd : FuncData, (∀ (s : Shared) (v : Value), BindsTo s fd ⟨[v], []⟩ [("script", v)]) ∧ ∀ base : Heap, K.In base → base.Ns mainGlobals mg → FnOk l.prog w K mg base CX0 10 fa fd ["script"] (spLaw K) := by
  have e := hfa.symm.trans (PySem.W.mg_of X G n1_law)
  cases e
  have F_law_mixed := fun_mk (st := s_law_mixed) l_law_mixed cc_law_mixed k_law_mixed
  have b_law_mixed := F_law_mixed.binds (ps := ["cell", "turn", "limit"]) fun _ _ _ _ _ _ us hl => match us, hl with | [_, _, _], _ => rfl
  have F_law_draw := fun_mk (st := s_law_draw) l_law_draw cc_law_draw k_law_draw
  have b_law_draw := F_law_draw.binds (ps := ["state", "limit"]) fun _ _ _ _ _ _ us hl => match us, hl with | [_, _], _ => rfl
  have F_law_start := fun_mk (st := s_law_start) l_law_start cc_law_start k_law_start
  have b_law_start := F_law_start.binds (ps := ["script"]) fun _ _ _ _ _ _ us hl => match us, hl with | [_], _ => rfl
  have F_law_word := fun_mk (st := s_law_word) l_law_word cc_law_word k_law_word
  have b_law_word := F_law_word.binds (ps := ["state"]) fun _ _ _ _ _ _ us hl => match us, hl with | [_], _ => rfl
  have F_law_same := fun_mk (st := s_law_same) l_law_same cc_law_same k_law_same
  have b_law_same := F_law_same.binds (ps := ["here", "there"]) fun _ _ _ _ _ _ us hl => match us, hl with | [_, _], _ => rfl
  have F_law_value := fun_mk (st := s_law_value) l_law_value cc_law_value k_law_value
  have b_law_value := F_law_value.binds (ps := ["state"]) fun _ _ _ _ _ _ us hl => match us, hl with | [_], _ => rfl
  have F_Reader_init := fun_mk (st := s_Reader_init) l_Reader_init cc_Reader_init k_Reader_init
  have b_Reader_init := F_Reader_init.binds (ps := ["self", "birth"]) fun _ _ _ _ _ _ us hl => match us, hl with | [_, _], _ => rfl
  have F_Reader_got := fun_mk (st := s_Reader_got) l_Reader_got cc_Reader_got k_Reader_got
  have b_Reader_got := F_Reader_got.binds (ps := ["self"]) fun _ _ _ _ _ _ us hl => match us, hl with | [_], _ => rfl
  have F_Reader_receive := fun_mk (st := s_Reader_receive) l_Reader_receive cc_Reader_receive k_Reader_receive
  have b_Reader_receive := F_Reader_receive.binds (ps := ["self", "item"]) fun _ _ _ _ _ _ us hl => match us, hl with | [_, _], _ => rfl
  have F_Reader_apply := fun_mk (st := s_Reader_apply) l_Reader_apply cc_Reader_apply k_Reader_apply
  have b_Reader_apply := F_Reader_apply.binds (ps := ["self"]) fun _ _ _ _ _ _ us hl => match us, hl with | [_], _ => rfl
  have F_Reader_drop := fun_mk (st := s_Reader_drop) l_Reader_drop cc_Reader_drop k_Reader_drop
  have b_Reader_drop := F_Reader_drop.binds (ps := ["self"]) fun _ _ _ _ _ _ us hl => match us, hl with | [_], _ => rfl
  have F_Reader_inbox := fun_mk (st := s_Reader_inbox) l_Reader_inbox cc_Reader_inbox k_Reader_inbox
  have b_Reader_inbox := F_Reader_inbox.binds (ps := ["self"]) fun _ _ _ _ _ _ us hl => match us, hl with | [_], _ => rfl
  have F_Reader_journal := fun_mk (st := s_Reader_journal) l_Reader_journal cc_Reader_journal k_Reader_journal
  have b_Reader_journal := F_Reader_journal.binds (ps := ["self"]) fun _ _ _ _ _ _ us hl => match us, hl with | [_], _ => rfl
  have F_Reader_repeats := fun_mk (st := s_Reader_repeats) l_Reader_repeats cc_Reader_repeats k_Reader_repeats
  have b_Reader_repeats := F_Reader_repeats.binds (ps := ["self"]) fun _ _ _ _ _ _ us hl => match us, hl with | [_], _ => rfl
  have F_law_fresh := fun_mk (st := s_law_fresh) l_law_fresh cc_law_fresh k_law_fresh
  have b_law_fresh := F_law_fresh.binds (ps := ["birth"]) fun _ _ _ _ _ _ us hl => match us, hl with | [_], _ => rfl
  have F_law_got := fun_mk (st := s_law_got) l_law_got cc_law_got k_law_got
  have b_law_got := F_law_got.binds (ps := ["row"]) fun _ _ _ _ _ _ us hl => match us, hl with | [_], _ => rfl
  have F_law_received := fun_mk (st := s_law_received) l_law_received cc_law_received k_law_received
  have b_law_received := F_law_received.binds (ps := ["row", "item"]) fun _ _ _ _ _ _ us hl => match us, hl with | [_, _], _ => rfl
  have F_law_applied := fun_mk (st := s_law_applied) l_law_applied cc_law_applied k_law_applied
  have b_law_applied := F_law_applied.binds (ps := ["row"]) fun _ _ _ _ _ _ us hl => match us, hl with | [_], _ => rfl
  have F_law_tells := fun_mk (st := s_law_tells) l_law_tells cc_law_tells k_law_tells
  have b_law_tells := F_law_tells.binds (ps := ["reader", "row"]) fun _ _ _ _ _ _ us hl => match us, hl with | [_, _], _ => rfl
  have F_law_item := fun_mk (st := s_law_item) l_law_item cc_law_item k_law_item
  have b_law_item := F_law_item.binds (ps := ["state", "birth", "last"]) fun _ _ _ _ _ _ us hl => match us, hl with | [_, _, _], _ => rfl
  have F_law := fun_mk (st := s_law) l_law cc_law k_law
  have b_law := F_law.binds (ps := ["script"]) fun _ _ _ _ _ _ us hl => match us, hl with | [_], _ => rfl
  let T : Txt K mg := { z_bool := PySem.W.mg_none_of X G z_bool, z_dict := PySem.W.mg_none_of X G z_dict, z_int := PySem.W.mg_none_of X G z_int, z_isinstance := PySem.W.mg_none_of X G z_isinstance, z_len := PySem.W.mg_none_of X G z_len, z_list := PySem.W.mg_none_of X G z_list, z_range := PySem.W.mg_none_of X G z_range, z_str := PySem.W.mg_none_of X G z_str, z_tuple := PySem.W.mg_none_of X G z_tuple, c_Reader := c_Reader, cl_Reader := ⟨pg_Reader, hd_Reader, po_Reader, sa_Reader⟩, mc_Reader := PySem.W.mg_of X G aC_Reader, n_Reader_own := n_Reader_own, n_Reader_inbox := n_Reader_inbox, n_Reader_journal := n_Reader_journal, n_Reader_repeats := n_Reader_repeats, a_law_mixed := a_law_mixed, d_law_mixed := _, F_law_mixed := F_law_mixed, b_law_mixed := b_law_mixed, m_law_mixed := PySem.W.mg_of X G n1_law_mixed, a_law_draw := a_law_draw, d_law_draw := _, F_law_draw := F_law_draw, b_law_draw := b_law_draw, m_law_draw := PySem.W.mg_of X G n1_law_draw, a_law_start := a_law_start, d_law_start := _, F_law_start := F_law_start, b_law_start := b_law_start, m_law_start := PySem.W.mg_of X G n1_law_start, a_law_word := a_law_word, d_law_word := _, F_law_word := F_law_word, b_law_word := b_law_word, m_law_word := PySem.W.mg_of X G n1_law_word, a_law_same := a_law_same, d_law_same := _, F_law_same := F_law_same, b_law_same := b_law_same, m_law_same := PySem.W.mg_of X G n1_law_same, a_law_value := a_law_value, d_law_value := _, F_law_value := F_law_value, b_law_value := b_law_value, m_law_value := PySem.W.mg_of X G n1_law_value, a_Reader_init := a_Reader_init, d_Reader_init := _, F_Reader_init := F_Reader_init, b_Reader_init := b_Reader_init, mk_Reader := ⟨mi_Reader, n1_Reader_init, i_Reader_init, kc_Reader⟩, a_Reader_got := a_Reader_got, d_Reader_got := _, F_Reader_got := F_Reader_got, b_Reader_got := b_Reader_got, p_Reader_got := p_Reader_got, pr_Reader_got := ⟨pa_Reader_got, pb_Reader_got, pc_Reader_got, _, pd_Reader_got⟩, a_Reader_receive := a_Reader_receive, d_Reader_receive := _, F_Reader_receive := F_Reader_receive, b_Reader_receive := b_Reader_receive, me_Reader_receive := ⟨n1_Reader_receive, i_Reader_receive, k_Reader_receive⟩, a_Reader_apply := a_Reader_apply, d_Reader_apply := _, F_Reader_apply := F_Reader_apply, b_Reader_apply := b_Reader_apply, me_Reader_apply := ⟨n1_Reader_apply, i_Reader_apply, k_Reader_apply⟩, a_Reader_drop := a_Reader_drop, d_Reader_drop := _, F_Reader_drop := F_Reader_drop, b_Reader_drop := b_Reader_drop, me_Reader_drop := ⟨n1_Reader_drop, i_Reader_drop, k_Reader_drop⟩, a_Reader_inbox := a_Reader_inbox, d_Reader_inbox := _, F_Reader_inbox := F_Reader_inbox, b_Reader_inbox := b_Reader_inbox, me_Reader_inbox := ⟨n1_Reader_inbox, i_Reader_inbox, k_Reader_inbox⟩, a_Reader_journal := a_Reader_journal, d_Reader_journal := _, F_Reader_journal := F_Reader_journal, b_Reader_journal := b_Reader_journal, me_Reader_journal := ⟨n1_Reader_journal, i_Reader_journal, k_Reader_journal⟩, a_Reader_repeats := a_Reader_repeats, d_Reader_repeats := _, F_Reader_repeats := F_Reader_repeats, b_Reader_repeats := b_Reader_repeats, me_Reader_repeats := ⟨n1_Reader_repeats, i_Reader_repeats, k_Reader_repeats⟩, a_law_fresh := a_law_fresh, d_law_fresh := _, F_law_fresh := F_law_fresh, b_law_fresh := b_law_fresh, m_law_fresh := PySem.W.mg_of X G n1_law_fresh, a_law_got := a_law_got, d_law_got := _, F_law_got := F_law_got, b_law_got := b_law_got, m_law_got := PySem.W.mg_of X G n1_law_got, a_law_received := a_law_received, d_law_received := _, F_law_received := F_law_received, b_law_received := b_law_received, m_law_received := PySem.W.mg_of X G n1_law_received, a_law_applied := a_law_applied, d_law_applied := _, F_law_applied := F_law_applied, b_law_applied := b_law_applied, m_law_applied := PySem.W.mg_of X G n1_law_applied, a_law_tells := a_law_tells, d_law_tells := _, F_law_tells := F_law_tells, b_law_tells := b_law_tells, m_law_tells := PySem.W.mg_of X G n1_law_tells, a_law_item := a_law_item, d_law_item := _, F_law_item := F_law_item, b_law_item := b_law_item, m_law_item := PySem.W.mg_of X G n1_law_item, a_law := fa, d_law := _, F_law := F_law, b_law := b_law, m_law := PySem.W.mg_of X G n1_law }
  exact ⟨PySem.W.fnOf "law" "law" (defArgs s_law) (defBody s_law) (defScope s_law) .none kV_law dc_law pm_law an_law cd_law ct_law, fun s v => .of_eq rfl, fun base _ _ => ok_law T⟩
theorem walk {l : PySem.W.OpenLaw} {q : Program} {loose : List Str} {XP : (Str → Option Value) → Heap → Prop} {YP : World → Heap → Prop} {d : DefRec} {K : Params → PySem.W.Frag} (hn : l.most = some 63) (hdf : d.params.defaults = [])
    (hY : ∀ (w : World) (h : Heap), YP w h → (K w.params).In h)
    (F : ∀ (w : World) (mg : Str → Option Value) (fa : Addr) (h : Heap), (K w.params).In h → h.Ns mainGlobals mg → mg d.name = some (.ref fa) →
      ∃ fd : FuncData, (∀ (s : Shared) (u : Value), BindsTo s fd ⟨[u], []⟩ [("script", u)]) ∧ ∀ base : Heap, (K w.params).In base → base.Ns mainGlobals mg → FnOk l.prog w (K w.params) mg base CX0 10 fa fd ["script"] (spLaw (K w.params))) :
    PySem.W.WalkO q loose XP YP l.row.toRowW d [] (fun f vs => PySem.call f vs) :=
  L2.walk_of (n := 63) (k := 10) (x := "script") (CX := fun _ => CX0) (sp := fun w => spLaw (K w.params)) hn (by decide) hdf ⟨rfl, by decide, by decide⟩ hY F (fun _ _ a ns hl _ hS => ⟨a, ns, rfl, hS, hl, fun _ => rfl⟩) fun _ _ _ _ _ z => z
end K
open PySem PySem.W PyProof.Rows
set_option maxRecDepth 100000 in
set_option maxHeartbeats 0 in
theorem PySem.Challenge.cw_copiesfollow_k52_reader_items_holds : PySem.Challenge.rw_copiesfollow_k52_reader_items.Holds := by
  w_on; o_law; k_head; (case hw => w_witness2)
  k_fill
  refine K.walk (l := PySem.Challenge.rw_copiesfollow_k52_reader_items) rfl rfl (fun w h Y => PySem.W.kIn_of Y) ?F
  case F =>
    intro w mg fa h KX G hmg
    refine' K.all_mk KX G hmg ?z_bool ?z_dict ?z_int ?z_isinstance ?z_len ?z_list ?z_range ?z_str ?z_tuple ?aC_Reader ?pg_Reader ?hd_Reader ?po_Reader ?sa_Reader ?mi_Reader ?kc_Reader ?n_Reader_own ?n_Reader_inbox ?n_Reader_journal ?n_Reader_repeats ?n1_law_mixed ?l_law_mixed ?cc_law_mixed ?k_law_mixed ?n1_law_draw ?l_law_draw ?cc_law_draw ?k_law_draw ?n1_law_start ?l_law_start ?cc_law_start ?k_law_start ?n1_law_word ?l_law_word ?cc_law_word ?k_law_word ?n1_law_same ?l_law_same ?cc_law_same ?k_law_same ?n1_law_value ?l_law_value ?cc_law_value ?k_law_value ?n1_Reader_init ?i_Reader_init ?l_Reader_init ?cc_Reader_init ?k_Reader_init ?pa_Reader_got ?pb_Reader_got ?pc_Reader_got ?pd_Reader_got ?l_Reader_got ?cc_Reader_got ?k_Reader_got ?n1_Reader_receive ?i_Reader_receive ?l_Reader_receive ?cc_Reader_receive ?k_Reader_receive ?n1_Reader_apply ?i_Reader_apply ?l_Reader_apply ?cc_Reader_apply ?k_Reader_apply ?n1_Reader_drop ?i_Reader_drop ?l_Reader_drop ?cc_Reader_drop ?k_Reader_drop ?n1_Reader_inbox ?i_Reader_inbox ?l_Reader_inbox ?cc_Reader_inbox ?k_Reader_inbox ?n1_Reader_journal ?i_Reader_journal ?l_Reader_journal ?cc_Reader_journal ?k_Reader_journal ?n1_Reader_repeats ?i_Reader_repeats ?l_Reader_repeats ?cc_Reader_repeats ?k_Reader_repeats ?n1_law_fresh ?l_law_fresh ?cc_law_fresh ?k_law_fresh ?n1_law_got ?l_law_got ?cc_law_got ?k_law_got ?n1_law_received ?l_law_received ?cc_law_received ?k_law_received ?n1_law_applied ?l_law_applied ?cc_law_applied ?k_law_applied ?n1_law_tells ?l_law_tells ?cc_law_tells ?k_law_tells ?n1_law_item ?l_law_item ?cc_law_item ?k_law_item ?n1_law ?l_law ?cc_law ?k_law
    (case z_bool => k_is)
    (case z_dict => k_is)
    (case z_int => k_is)
    (case z_isinstance => k_is)
    (case z_len => k_is)
    (case z_list => k_is)
    (case z_range => k_is)
    (case z_str => k_is)
    (case z_tuple => k_is)
    (case aC_Reader => k_is)
    (case pg_Reader => k_is)
    (case hd_Reader => k_is)
    (case po_Reader => k_is)
    (case sa_Reader => k_is)
    (case mi_Reader => k_is)
    (case kc_Reader => k_is)
    (case n_Reader_own => k_is)
    (case n_Reader_inbox => k_is)
    (case n_Reader_journal => k_is)
    (case n_Reader_repeats => k_is)
    (case n1_law_mixed => k_is)
    (case l_law_mixed => k_is)
    (case cc_law_mixed => k_is)
    (case k_law_mixed => k_is)
    (case n1_law_draw => k_is)
    (case l_law_draw => k_is)
    (case cc_law_draw => k_is)
    (case k_law_draw => k_is)
    (case n1_law_start => k_is)
    (case l_law_start => k_is)
    (case cc_law_start => k_is)
    (case k_law_start => k_is)
    (case n1_law_word => k_is)
    (case l_law_word => k_is)
    (case cc_law_word => k_is)
    (case k_law_word => k_is)
    (case n1_law_same => k_is)
    (case l_law_same => k_is)
    (case cc_law_same => k_is)
    (case k_law_same => k_is)
    (case n1_law_value => k_is)
    (case l_law_value => k_is)
    (case cc_law_value => k_is)
    (case k_law_value => k_is)
    (case n1_Reader_init => k_is)
    (case i_Reader_init => k_is)
    (case l_Reader_init => k_is)
    (case cc_Reader_init => k_is)
    (case k_Reader_init => k_is)
    (case pa_Reader_got => k_is)
    (case pb_Reader_got => k_is)
    (case pc_Reader_got => k_is)
    (case pd_Reader_got => k_is)
    (case l_Reader_got => k_is)
    (case cc_Reader_got => k_is)
    (case k_Reader_got => k_is)
    (case n1_Reader_receive => k_is)
    (case i_Reader_receive => k_is)
    (case l_Reader_receive => k_is)
    (case cc_Reader_receive => k_is)
    (case k_Reader_receive => k_is)
    (case n1_Reader_apply => k_is)
    (case i_Reader_apply => k_is)
    (case l_Reader_apply => k_is)
    (case cc_Reader_apply => k_is)
    (case k_Reader_apply => k_is)
    (case n1_Reader_drop => k_is)
    (case i_Reader_drop => k_is)
    (case l_Reader_drop => k_is)
    (case cc_Reader_drop => k_is)
    (case k_Reader_drop => k_is)
    (case n1_Reader_inbox => k_is)
    (case i_Reader_inbox => k_is)
    (case l_Reader_inbox => k_is)
    (case cc_Reader_inbox => k_is)
    (case k_Reader_inbox => k_is)
    (case n1_Reader_journal => k_is)
    (case i_Reader_journal => k_is)
    (case l_Reader_journal => k_is)
    (case cc_Reader_journal => k_is)
    (case k_Reader_journal => k_is)
    (case n1_Reader_repeats => k_is)
    (case i_Reader_repeats => k_is)
    (case l_Reader_repeats => k_is)
    (case cc_Reader_repeats => k_is)
    (case k_Reader_repeats => k_is)
    (case n1_law_fresh => k_is)
    (case l_law_fresh => k_is)
    (case cc_law_fresh => k_is)
    (case k_law_fresh => k_is)
    (case n1_law_got => k_is)
    (case l_law_got => k_is)
    (case cc_law_got => k_is)
    (case k_law_got => k_is)
    (case n1_law_received => k_is)
    (case l_law_received => k_is)
    (case cc_law_received => k_is)
    (case k_law_received => k_is)
    (case n1_law_applied => k_is)
    (case l_law_applied => k_is)
    (case cc_law_applied => k_is)
    (case k_law_applied => k_is)
    (case n1_law_tells => k_is)
    (case l_law_tells => k_is)
    (case cc_law_tells => k_is)
    (case k_law_tells => k_is)
    (case n1_law_item => k_is)
    (case l_law_item => k_is)
    (case cc_law_item => k_is)
    (case k_law_item => k_is)
    (case n1_law => k_is)
    (case l_law => k_is)
    (case cc_law => k_is)
    (case k_law => k_is)
#print axioms PySem.Challenge.cw_copiesfollow_k52_reader_items_holds
