import PyProof.Rows.All
import Wide.All
import OpenK.AllK
import Wide.FinOn
import HandS.ForMost
import HandS.Wide
import HandS.Small
import HandS.IsInst
import HandS.Property
import HandS.ForExc
import HandS.ExcSuper
import HandS.ExcIs
import HandS.TryMany
import KE.KExcSuper
import KE.KExcIs
import HandS.WrittenGet
import HandS.Text
import KE.RegKSuper
import PySem.Challenge.RW_copiesfollow_k24_ladder_below
set_option Elab.async false
set_option linter.all false
set_option maxRecDepth 100000
set_option maxHeartbeats 4000000
namespace Cf
open PySem L2 PySem.Spec PyProof.Rows
/-! ## operators that fit every kind of value -/
section
variable {X : Cx}
/-- nothing is tracked there -/
def Fresh (H : Hp) (p : Addr) : Prop := H p = none
def rPlus : R2 := fun x y H Q => rI0 (fun i j => .int (i + j)) x y H Q ∨ ((∃ i j, x = .str i ∧ y = .str j ∧ i.length + j.length ≤ sizeLine ∧ Q (.str (i ++ j)) H) ∨ rCat x y H Q)
theorem op_plus : OpR X (binaryOp .Add) rPlus := op_add.or (op_add_str.or op_cat)
def rTimes : R2 := fun x y H Q => rI CMul (fun i j => .int (i * j)) x y H Q ∨ rRep x y H Q
theorem op_times : OpR X (binaryOp .Mult) rTimes := op_mul.or op_rep
def rEqq (K : PySem.W.Frag) : R2 := fun x y H Q => rEq x y H Q ∨ rEqD K x y H Q
theorem op_eqq (hu : X.A.units + 64 < cLine) : OpR X (compareOp .Eq) (rEqq X.K) := op_eq.or (op_eqD hu)
def rNeq (K : PySem.W.Frag) : R2 := fun x y H Q => rNe x y H Q ∨ rNeD K x y H Q
theorem op_neq (hu : X.A.units + 64 < cLine) : OpR X (compareOp .NotEq) (rNeq X.K) := op_ne.or (op_neD hu)
def rDIn : R2 := fun y x H Q => ∃ a o, x = .ref a ∧ DGet H a y o ∧ Q (.bl o.isSome) H
theorem op_din (hu : X.A.units + 1 < cLine) : OpR X (compareOp .In) rDIn := by
  intro pins s σ H y x u v Q I ry rx h
  obtain ⟨a, o, rfl, g, q⟩ := h
  obtain rfl : v = Value.ref a := rx
  exact d_in hu I g ry fun s3 I3 => ⟨.bl o.isSome, H, I3, rfl, q⟩
def rDNotIn : R2 := fun y x H Q => ∃ a o, x = .ref a ∧ DGet H a y o ∧ Q (.bl (!o.isSome)) H
theorem op_dnotin (hu : X.A.units + 1 < cLine) : OpR X (compareOp .NotIn) rDNotIn := by
  intro pins s σ H y x u v Q I ry rx h
  obtain ⟨a, o, rfl, g, q⟩ := h
  obtain rfl : v = Value.ref a := rx
  exact d_notIn hu I g ry fun s3 I3 => ⟨.bl (!o.isSome), H, I3, rfl, q⟩
def rInn (K : PySem.W.Frag) : R2 := fun x y H Q => rIn K false x y H Q ∨ rDIn x y H Q
theorem op_inn (hu : X.A.units + 1 < cLine) : OpR X (compareOp .In) (rInn X.K) := op_in_seq.or (op_din hu)
def rNotInn (K : PySem.W.Frag) : R2 := fun x y H Q => rIn K true x y H Q ∨ rDNotIn x y H Q
theorem op_notInn (hu : X.A.units + 1 < cLine) : OpR X (compareOp .NotIn) (rNotInn X.K) := op_notIn_seq.or (op_dnotin hu)
def rIxD : R2 := fun x y H Q => ∃ a v, x = .ref a ∧ DGet H a y (some v) ∧ Q v H
theorem ix_dict (hu : X.A.units + 1 < cLine) : IxR X rIxD := by
  intro value slice pins s σ H x y v u Q I rx ry h hs
  obtain ⟨a, z, rfl, g, q⟩ := h
  obtain rfl : v = Value.ref a := rx
  exact tail_any (dict_typeIs I g) PySem.F.slot_dict_getitem.lookup (d_getItem hu I g ry fun w' s3 I3 rw' => ⟨z, H, I3, rw', q⟩) hs
def rIxx (K : PySem.W.Frag) : R2 := fun x y H Q => rIx K x y H Q ∨ rIxD x y H Q
theorem ix_any (hu : X.A.units + 1 < cLine) : IxR X (rIxx X.K) := ix_seq.or (ix_dict hu)
theorem PSet.or {r r' : TSet} (h : PSet X r) (h' : PSet X r') : PSet X (fun o i v H Q => r o i v H Q ∨ r' o i v H Q) := by
  intro pins s σ H o i v ov iv u Q I ro ri rv q
  rcases q with q | q
  · exact h pins s σ H o i v ov iv u Q I ro ri rv q
  · exact h' pins s σ H o i v ov iv u Q I ro ri rv q
def rSett : TSet := fun o i v H Q => rSetL o i v H Q ∨ rSetD o i v H Q
theorem set_any (hu : X.A.units + 1 < cLine) : PSet X rSett := PSet.or set_list (set_dict hu)
def rLen (K : PySem.W.Frag) : List V → Hp → VK → Prop := fun xs H Q => (∃ p ys, xs = [.ref p] ∧ (SqL K H p ys ∨ SqT K H p ys) ∧ Q (.int ys.length) H) ∨ (∃ z, xs = [.str z] ∧ z.length ≤ sizeLine ∧ Q (.int z.length) H)
def rIsN : R2 := fun x y H Q => y = .non ∧ Q (.bl (decide (x = .non))) H
theorem op_isNA : OpR X (compareOp .Is) rIsN := op_isN
def rNotN : R2 := fun x y H Q => y = .non ∧ Q (.bl (!decide (x = .non))) H
theorem op_notNA : OpR X (compareOp .IsNot) rNotN := op_notN
def rInt : List V → Hp → VK → Prop := fun xs H Q => ∃ i, xs = [.int i] ∧ Q (.int i) H
theorem call_intA : CallR X (.type "int") rInt := fun pins s σ H xs us Q I r h => call_int1 pins s σ H xs us Q I r (.inl h)
def rListOf (K : PySem.W.Frag) : List V → Hp → VK → Prop := fun xs H Q => ∃ p ys, xs = [.ref p] ∧ (SqL K H p ys ∨ SqT K H p ys) ∧ ∀ l, H l = none → Q (.ref l) (upd H l (.lst ys))
theorem call_listA : CallR X (.type "list") (rListOf X.K) := call_list_of
def rTupOf (K : PySem.W.Frag) : List V → Hp → VK → Prop := fun xs H Q => ∃ p ys, xs = [.ref p] ∧ ((SqL K H p ys ∧ ∀ l, H l = none → Q (.ref l) (upd H l (.tup ys))) ∨ (SqT K H p ys ∧ Q (.ref p) H))
theorem call_tupleA : CallR X (.type "tuple") (rTupOf X.K) := call_tuple_of
theorem call_lenA : CallR X (.builtin "len") (rLen X.K) := CallR.or call_len_seq call_len_str
end
/-! the same in a block whose context is not X itself -/
section
variable {X : Cx} {K : PySem.W.Frag}
theorem ix_anyK (h : X.K = K) (hu : X.A.units + 1 < cLine) : IxR X (rIxx K) := h ▸ ix_any hu
theorem op_eqqK (h : X.K = K) (hu : X.A.units + 64 < cLine) : OpR X (compareOp .Eq) (rEqq K) := h ▸ op_eqq hu
theorem op_neqK (h : X.K = K) (hu : X.A.units + 64 < cLine) : OpR X (compareOp .NotEq) (rNeq K) := h ▸ op_neq hu
theorem op_innK (h : X.K = K) (hu : X.A.units + 1 < cLine) : OpR X (compareOp .In) (rInn K) := h ▸ op_inn hu
theorem op_notInnK (h : X.K = K) (hu : X.A.units + 1 < cLine) : OpR X (compareOp .NotIn) (rNotInn K) := h ▸ op_notInn hu
theorem call_lenAK (h : X.K = K) : CallR X (.builtin "len") (rLen K) := h ▸ call_lenA
theorem call_listAK (h : X.K = K) : CallR X (.type "list") (rListOf K) := h ▸ call_listA
theorem call_tupleAK (h : X.K = K) : CallR X (.type "tuple") (rTupOf K) := h ▸ call_tupleA
theorem call_isiK' (h : X.K = K) : CallR X (.builtin "isinstance") (rIsi K) := h ▸ call_isi
theorem sl_listK (h : X.K = K) : SlR X (rSlL K) := h ▸ sl_list
theorem pe_fldK {e : Expr} {f : Str} {pos : Pos} {ta : TE} (h : X.K = K) (he : PE X e ta) (hb : attributeBase e f X.env (eval e X.env) = eval e X.env) : PE X (.Attribute e f pos) (tFld K ta f) := h ▸ pe_fld he hb
theorem pi_listK {tg l : Expr} {tl : TE} (h : X.K = K) (hl : PE X l tl) : PI X tg l (iList K tl) := h ▸ pi_list hl
end
end Cf
namespace Cf
open PySem L2 PySem.Spec PyProof.Rows
/-! ## steps of a reading, by its head -/
def TFld (K : PySem.W.Frag) (f : Str) (x : V) (H1 : Hp) (Q : VK) : Prop := ∃ a C dx fs v, x = .ref a ∧ H1 a = some (.ins C dx fs) ∧ Cls K C ∧ NoAttr K C f ∧ fs.lookup f = some v ∧ Q v H1
def TProp (C : Addr) (sp : Sp) (dvs : List V) (E : XK) (x : V) (H1 : Hp) (Q : VK) : Prop := ∃ a dx fs, x = .ref a ∧ H1 a = some (.ins C dx fs) ∧ sp (.ref a :: dvs) H1 Q E
def SFld (K : PySem.W.Frag) (f : Str) (y x : V) (H2 : Hp) (R : Hp → Prop) : Prop := ∃ a C dx fs, x = .ref a ∧ H2 a = some (.ins C dx fs) ∧ Cls K C ∧ NoAttr K C f ∧ fs.length < 1000 ∧ R (upd H2 a (.ins C dx (putF f y fs)))
def TMeth (C : Addr) (m : Str) (x : V) (H1 : Hp) (R : Prop) : Prop := ∃ a dx fs, x = .ref a ∧ H1 a = some (.ins C dx fs) ∧ fs.lookup m = none ∧ R
def tTru (K : PySem.W.Frag) (ta : TE) : TT := fun σ H Q => ta σ H fun x H' => ∃ k, TruV K x H' k ∧ Q k H'
theorem pt_tru {X : Cx} {a : Expr} {ta : TE} (ha : PE X a ta) (he : ∀ whole, isTrue a X.env whole = (do let v ← whole; standAt a.pos; holding [v] (truthy v))) : PT X a (tTru X.K ta) := pt_truth ha he
section
variable {K : PySem.W.Frag} {σ : L2.St} {H : Hp} {D : Ends} {ta tb te : TE} {t u : TT} {tA tr : TA} {a b : TS} {r : R2} {C : Addr} {sp : Sp} {dvs : List V} {E : XK}
theorem k_var {i : Nat} {v : V} {Q : VK} (e : σ[i]? = some (some v)) (h : Q v H) : tVar i σ H Q := ⟨v, e, h⟩
theorem k_c {v : V} {Q : VK} (h : Q v H) : tC v σ H Q := h
theorem k_op {Q : VK} (h : ta σ H fun x H1 => tb σ H1 fun y H2 => r x y H2 Q) : tOp r ta tb σ H Q := h
theorem k_un {r : V → Hp → VK → Prop} {Q : VK} (h : ta σ H fun x H1 => r x H1 Q) : tUn r ta σ H Q := h
theorem k_test {Q : Bool → Hp → Prop} (h : ta σ H fun x H' => ∃ k, x = .bl k ∧ Q k H') : tTest ta σ H Q := h
theorem k_tB {Q : Bool → Hp → Prop} (h : ta σ H fun x H' => ∃ k, x = .bl k ∧ Q k H') : tB ta σ H Q := h
theorem k_tru {Q : Bool → Hp → Prop} (h : ta σ H fun x H' => ∃ k, TruV K x H' k ∧ Q k H') : tTru K ta σ H Q := h
theorem k_ex {b : Bool} {P : Bool → Prop} (h : P b) : ∃ k, V.bl b = .bl k ∧ P k := ⟨b, rfl, h⟩
theorem k_exT {b : Bool} {P : Bool → Prop} (h : P b) : ∃ k, TruV K (V.bl b) H k ∧ P k := ⟨b, rfl, h⟩
theorem k_exI {i : Int} {P : Bool → Prop} (h : P (i != 0)) : ∃ k, TruV K (V.int i) H k ∧ P k := ⟨_, rfl, h⟩
theorem k_and {Q : Bool → Hp → Prop} (h : t σ H fun c H1 => if c = true then u σ H1 Q else Q false H1) : tAnd t u σ H Q := h
theorem k_or {Q : Bool → Hp → Prop} (h : t σ H fun c H1 => if c = true then Q true H1 else u σ H1 Q) : tOr t u σ H Q := h
theorem k_not {Q : Bool → Hp → Prop} (h : t σ H fun c H1 => Q (!c) H1) : tNot t σ H Q := h
theorem k_andV {Q : VK} (h : ta σ H fun x H1 => ∃ c, x = .bl c ∧ if c = true then tb σ H1 Q else Q (.bl false) H1) : tAndV ta tb σ H Q := h
theorem k_orV {Q : VK} (h : ta σ H fun x H1 => ∃ c, x = .bl c ∧ if c = true then Q (.bl true) H1 else tb σ H1 Q) : tOrV ta tb σ H Q := h
theorem k_notV {Q : VK} (h : ta σ H fun x H1 => ∃ c, x = .bl c ∧ Q (.bl (!c)) H1) : tNotV ta σ H Q := h
theorem k_ifE {Q : VK} (h : t σ H fun c H1 => if c = true then ta σ H1 Q else tb σ H1 Q) : tIf t ta tb σ H Q := h
theorem k_cons {Q : List V → Hp → Prop} (h : ta σ H fun x H1 => tr σ H1 fun xs H2 => Q (x :: xs) H2) : tCons ta tr σ H Q := h
theorem k_nil {Q : List V → Hp → Prop} (h : Q [] H) : tNil σ H Q := h
theorem k_tup {Q : VK} (h : tA σ H fun xs H1 => xs.length ≤ sizeLine ∧ ∀ p, Fresh H1 p → Q (.ref p) (upd H1 p (.tup xs))) : tTup tA σ H Q := h
theorem k_lst {Q : VK} (h : tA σ H fun xs H1 => xs.length ≤ sizeLine ∧ ∀ p, Fresh H1 p → Q (.ref p) (upd H1 p (.lst xs))) : tLst tA σ H Q := h
theorem k_call {Q : VK} (h : tA σ H fun vs H1 => sp (vs ++ dvs) H1 Q E) : tCall sp dvs E tA σ H Q := h
theorem k_cb {r : List V → Hp → VK → Prop} {Q : VK} (h : tA σ H fun vs H1 => r vs H1 Q) : tCB r tA σ H Q := h
theorem k_bm0 {T : String} {r : V → List V → Hp → VK → Prop} {Q : VK} (h : te σ H fun x H1 => tyV K T x H1 ∧ r x [] H1 Q) : tBM0 K T r te σ H Q := h
theorem k_bm {T : String} {r : V → List V → Hp → VK → Prop} {Q : VK} (h : te σ H fun x H1 => tyV K T x H1 ∧ tA σ H1 fun xs H2 => r x xs H2 Q) : tBM K T r te tA σ H Q := h
theorem k_fld {f : Str} {Q : VK} (h : ta σ H fun x H1 => TFld K f x H1 Q) : tFld K ta f σ H Q := h
theorem k_prop {Q : VK} (h : ta σ H fun x H1 => TProp C sp dvs E x H1 Q) : tProp C sp dvs E ta σ H Q := h
theorem k_sl {r : V → Option Int → Option Int → Hp → VK → Prop} {tl th : TO} {Q : VK} (h : te σ H fun x H1 => tl σ H1 fun l H2 => th σ H2 fun u H3 => r x l u H3 Q) : tSl r te tl th σ H Q := h
theorem k_nopart {Q : Option Int → Hp → Prop} (h : Q none H) : tNoPart σ H Q := h
theorem k_part {Q : Option Int → Hp → Prop} (h : te σ H fun x H1 => ∃ i, x = .int i ∧ Q (some i) H1) : tPart te σ H Q := h
theorem k_exint {i : Int} {P : Int → Prop} (h : P i) : ∃ k, V.int i = .int k ∧ P k := ⟨i, rfl, h⟩
-- statements
variable {nx : L2.St → Hp → Prop} {rt : VK} {bk ct : L2.St → Hp → Prop}
theorem k_next (h : nx σ H) : tNext ⟨nx, rt, bk, ct⟩ σ H := h
theorem k_brk (h : bk σ H) : tBreak ⟨nx, rt, bk, ct⟩ σ H := h
theorem k_cont (h : ct σ H) : tCont ⟨nx, rt, bk, ct⟩ σ H := h
theorem k_seq (h : a ⟨b ⟨nx, rt, bk, ct⟩, rt, bk, ct⟩ σ H) : tSeq a b ⟨nx, rt, bk, ct⟩ σ H := h
theorem k_drop (h : te σ H fun _ H1 => nx σ H1) : tDrop te ⟨nx, rt, bk, ct⟩ σ H := h
theorem k_ret (h : te σ H rt) : tRet te ⟨nx, rt, bk, ct⟩ σ H := h
theorem k_retN (h : rt .non H) : tRetN ⟨nx, rt, bk, ct⟩ σ H := h
theorem k_ifs (h : t σ H fun b' H1 => if b' = true then a D σ H1 else b D σ H1) : tIfS t a b D σ H := h
theorem k_asg {g : TG} (h : te σ H fun x H1 => g x σ H1 nx) : tAsg te g ⟨nx, rt, bk, ct⟩ σ H := h
theorem k_gname {i : Nat} {v : V} {σ' : L2.St} {Q : L2.St → Hp → Prop} (e : σ.set i (some v) = σ') (h : Q σ' H) : gName i v σ H Q := by subst e; exact h
theorem k_gsub {to ti : TE} {st : TSet} {v : V} {Q : L2.St → Hp → Prop} (h : to σ H fun o H1 => ti σ H1 fun i H2 => st o i v H2 fun H3 => Q σ H3) : gSub to ti st v σ H Q := h
theorem k_sfld {tv : TE} {f : Str} (h : tv σ H fun y H1 => ta σ H1 fun x H2 => SFld K f y x H2 (nx σ)) : sFld K ta tv f ⟨nx, rt, bk, ct⟩ σ H := h
/-- a loop over J, from H1 -/
def ForE (g : TG) (tb : TS) (D : Ends) (J : It) (σ : L2.St) (H1 : Hp) : Prop := ∃ W : Nat → Nat → L2.St → Hp → Prop, (∃ m, W 0 m σ H1) ∧ ∀ i m σ H, W i m σ H →
  (J.stop i H ∧ D.nx σ H) ∨ (J.go i H ∧ ∃ N : L2.St → Hp → Prop, (∀ σ' H', N σ' H' → ∃ m', m' < m ∧ W (i + 1) m' σ' H') ∧ ∀ x H', J.yld i H x H' → g x σ H' fun σ2 H2 => tb { D with nx := N, ct := N, bk := D.nx } σ2 H2)
theorem k_for {wi : TI} {g : TG} {tb : TS} (h : wi σ H fun J H1 => ForE g tb ⟨nx, rt, bk, ct⟩ J σ H1) : tFor wi g tb ⟨nx, rt, bk, ct⟩ σ H := h
theorem k_rng1 {R : It → Hp → Prop} (h : tA σ H fun vs H1 => ∃ j : Int, vs = [.int j] ∧ -(2 ^ 62) ≤ j ∧ j < 2 ^ 62 ∧ R (Itr 0 j.toNat) H1) : iRng1 tA σ H R := h
theorem k_rng2 {R : It → Hp → Prop} (h : tA σ H fun vs H1 => ∃ i j : Int, vs = [.int i, .int j] ∧ (-(2 ^ 62) ≤ i ∧ i < 2 ^ 62 ∧ -(2 ^ 62) ≤ j ∧ j < 2 ^ 62) ∧ R (Itr i (j - i).toNat) H1) : iRng2 tA σ H R := h
theorem k_ilist {tl : TE} {R : It → Hp → Prop} (h : tl σ H fun x H1 => ∃ a, x = .ref a ∧ (∃ xs, SqL K H1 a xs) ∧ R (Itl K a) H1) : iList K tl σ H R := h
theorem k_itup {tl : TE} {R : It → Hp → Prop} (h : tl σ H fun x H1 => ∃ a, x = .ref a ∧ (∃ xs, SqT K H1 a xs) ∧ R (Itt K a) H1) : iTup K tl σ H R := h
theorem k_exrng {n : Int} {R : Int → Prop} (h : -(2 ^ 62) ≤ n ∧ n < 2 ^ 62) (q : R n) : ∃ j : Int, [V.int n] = [.int j] ∧ -(2 ^ 62) ≤ j ∧ j < 2 ^ 62 ∧ R j := ⟨n, rfl, h.1, h.2, q⟩
theorem k_exrng2 {m n : Int} {R : Int → Int → Prop} (h : -(2 ^ 62) ≤ m ∧ m < 2 ^ 62 ∧ -(2 ^ 62) ≤ n ∧ n < 2 ^ 62) (q : R m n) : ∃ i j : Int, [V.int m, V.int n] = [.int i, .int j] ∧ (-(2 ^ 62) ≤ i ∧ i < 2 ^ 62 ∧ -(2 ^ 62) ≤ j ∧ j < 2 ^ 62) ∧ R i j := ⟨m, n, rfl, h, q⟩
theorem k_exlst {a : Addr} {xs : List V} {R : Addr → Prop} (h : H a = some (.lst xs)) (q : R a) : ∃ b, V.ref a = .ref b ∧ (∃ xs, SqL K H b xs) ∧ R b := ⟨a, rfl, ⟨xs, SqL.of h⟩, q⟩
theorem k_extup {a : Addr} {xs : List V} {R : Addr → Prop} (h : H a = some (.tup xs)) (q : R a) : ∃ b, V.ref a = .ref b ∧ (∃ xs, SqT K H b xs) ∧ R b := ⟨a, rfl, ⟨xs, SqT.of h⟩, q⟩
theorem for_r {g : TG} {tb : TS} {n : Nat} (Pv : Nat → L2.St → Hp → Prop) (h0 : Pv 0 σ H)
    (hs : ∀ (i : Nat) σ H, i < n → Pv i σ H → g (.int i) σ H fun σ2 H2 => tb ⟨Pv (i + 1), rt, nx, Pv (i + 1)⟩ σ2 H2) (hd : ∀ σ H, Pv n σ H → nx σ H) : ForE g tb ⟨nx, rt, bk, ct⟩ (Itr 0 n) σ H :=
  for_range (D := ⟨nx, rt, bk, ct⟩) Pv h0 (fun i σ H hi p => by
    have e := hs i σ H hi p
    have z : (0 : Int) + (i : Int) = (i : Int) := Int.zero_add _
    rw [z]
    exact e) hd
theorem for_rl {g : TG} {tb : TS} {n : Nat} {lo : Int} (Pv : Nat → L2.St → Hp → Prop) (h0 : Pv 0 σ H)
    (hs : ∀ (i : Nat) σ H, i < n → Pv i σ H → g (.int (lo + i)) σ H fun σ2 H2 => tb ⟨Pv (i + 1), rt, nx, Pv (i + 1)⟩ σ2 H2) (hd : ∀ σ H, Pv n σ H → nx σ H) : ForE g tb ⟨nx, rt, bk, ct⟩ (Itr lo n) σ H :=
  for_range (D := ⟨nx, rt, bk, ct⟩) Pv h0 hs hd
theorem for_l {g : TG} {tb : TS} {p : Addr} (xs : List V) (Pv : Nat → L2.St → Hp → Prop) (h0 : Pv 0 σ H) (hl : ∀ i σ H, i ≤ xs.length → Pv i σ H → SqL K H p xs)
    (hs : ∀ (i : Nat) x σ H, xs[i]? = some x → Pv i σ H → g x σ H fun σ2 H2 => tb ⟨Pv (i + 1), rt, nx, Pv (i + 1)⟩ σ2 H2) (hd : ∀ σ H, Pv xs.length σ H → nx σ H) : ForE g tb ⟨nx, rt, bk, ct⟩ (Itl K p) σ H :=
  for_list (D := ⟨nx, rt, bk, ct⟩) Pv h0 hl hs hd
theorem for_t {g : TG} {tb : TS} {p : Addr} (xs : List V) (Pv : Nat → L2.St → Hp → Prop) (h0 : Pv 0 σ H) (hl : ∀ i σ H, i ≤ xs.length → Pv i σ H → SqT K H p xs)
    (hs : ∀ (i : Nat) x σ H, xs[i]? = some x → Pv i σ H → g x σ H fun σ2 H2 => tb ⟨Pv (i + 1), rt, nx, Pv (i + 1)⟩ σ2 H2) (hd : ∀ σ H, Pv xs.length σ H → nx σ H) : ForE g tb ⟨nx, rt, bk, ct⟩ (Itt K p) σ H :=
  for_tup (D := ⟨nx, rt, bk, ct⟩) Pv h0 hl hs hd
/-- a comprehension over J, its list at L -/
def LcE (g : TG) (tt : TT) (te : TE) (vs : List Nat) (J : It) (σ : L2.St) (L : Addr) (H1 : Hp) (Qd : Hp → Prop) : Prop := ∃ W : Nat → Nat → Hp → Prop, (∃ m, W 0 m (upd H1 L (.lst []))) ∧ ∀ i m H, W i m H →
  (J.stop i H ∧ Qd H) ∨ (J.go i H ∧ ∃ Nx : Hp → Prop, (∀ H', Nx H' → ∃ m', m' < m ∧ W (i + 1) m' H') ∧ ∀ x H', J.yld i H x H' → g x (wipe σ vs) H' fun σ2 H2 => wipe σ2 vs = wipe σ vs ∧ tt σ2 H2 fun b H3 =>
    if b = true then te σ2 H3 fun y H4 => ∃ acc, H4 L = some (.lst acc) ∧ acc.length < sizeLine ∧ Nx (upd H4 L (.lst (acc ++ [y]))) else Nx H3)
theorem k_lc {wi : TI} {g : TG} {tt : TT} {te : TE} {vs : List Nat} {Q : VK} (h : wi σ H fun J H1 => ∀ L, Fresh H1 L → LcE g tt te vs J σ L H1 (Q (.ref L))) : tLc wi g tt te vs σ H Q := h
theorem k_yes {Q : Bool → Hp → Prop} (h : Q true H) : tYes σ H Q := h
theorem lc_r {g : TG} {tt : TT} {vs : List Nat} {n : Nat} {L : Addr} {Qd : Hp → Prop} (Pv : Nat → Hp → Prop) (h0 : Pv 0 (upd H L (.lst [])))
    (hs : ∀ (i : Nat) H, i < n → Pv i H → g (.int i) (wipe σ vs) H fun σ2 H2 => wipe σ2 vs = wipe σ vs ∧ tt σ2 H2 fun b H3 =>
      if b = true then te σ2 H3 fun y H4 => ∃ acc, H4 L = some (.lst acc) ∧ acc.length < sizeLine ∧ Pv (i + 1) (upd H4 L (.lst (acc ++ [y]))) else Pv (i + 1) H3) (hd : ∀ H, Pv n H → Qd H) : LcE g tt te vs (Itr 0 n) σ L H Qd :=
  lc_range Pv h0 (fun i H hi p => by
    have e := hs i H hi p
    have z : (0 : Int) + (i : Int) = (i : Int) := Int.zero_add _
    rw [z]
    exact e) hd
theorem lc_l {g : TG} {tt : TT} {vs : List Nat} {p : Addr} {L : Addr} {Qd : Hp → Prop} (xs : List V) (Pv : Nat → Hp → Prop) (h0 : Pv 0 (upd H L (.lst []))) (hl : ∀ i H, i ≤ xs.length → Pv i H → SqL K H p xs)
    (hs : ∀ (i : Nat) x H, xs[i]? = some x → Pv i H → g x (wipe σ vs) H fun σ2 H2 => wipe σ2 vs = wipe σ vs ∧ tt σ2 H2 fun b H3 =>
      if b = true then te σ2 H3 fun y H4 => ∃ acc, H4 L = some (.lst acc) ∧ acc.length < sizeLine ∧ Pv (i + 1) (upd H4 L (.lst (acc ++ [y]))) else Pv (i + 1) H3) (hd : ∀ H, Pv xs.length H → Qd H) : LcE g tt te vs (Itl K p) σ L H Qd :=
  lc_list (K := K) Pv h0 hl hs hd
/-- the end of a comprehension's turn -/
theorem lc_put {L : Addr} {acc : List V} {y : V} {N : Hp → Prop} (h : H L = some (.lst acc)) (hl : acc.length < 1000) (q : N (upd H L (.lst (acc ++ [y])))) : ∃ acc, H L = some (.lst acc) ∧ acc.length < sizeLine ∧ N (upd H L (.lst (acc ++ [y]))) := ⟨acc, h, small1000 (Nat.le_of_lt hl), q⟩
theorem k_meth {m : Str} {Q : VK} (h : ta σ H fun x H1 => TMeth C m x H1 (tA σ H1 fun vs H2 => sp (x :: (vs ++ dvs)) H2 Q E)) : tMeth C m sp dvs E ta tA σ H Q := h
theorem k_make {Q : VK} (h : tA σ H fun vs H1 => ∀ x dx, Fresh H1 x → Fresh H1 dx → dx ≠ x → sp (.ref x :: (vs ++ dvs)) (upd (upd H1 dx (.own x)) x (.ins C dx [])) (fun v H2 => v = .non ∧ Q (.ref x) H2) E) : tMake C sp dvs E tA σ H Q := h
theorem k_disp {trs : List (TE × TE)} {Q : VK} (h : ∀ p, Fresh H p → tPairs trs σ (upd H p (.dK [])) fun ps H2 => H2 p = some (.dK []) ∧ ∃ kvs : List (Key × V), ps = kvs.map (fun kv => (kV kv.1, kv.2)) ∧ kvs.length ≤ 15 ∧ Q (.ref p) (upd H2 p (.dK (mergeK [] kvs)))) : tDisp trs σ H Q := h
theorem kr_meth {r dx : Addr} {fs : List (Str × V)} {m : Str} {R : Prop} (h : H r = some (.ins C dx fs)) (l : fs.lookup m = none) (q : R) : TMeth C m (.ref r) H R := ⟨r, dx, fs, rfl, h, l, q⟩
theorem kr_fld {r C dx : Addr} {fs : List (Str × V)} {f : Str} {v : V} {Q : VK} (h : H r = some (.ins C dx fs)) (c : Cls K C) (n : NoAttr K C f) (l : fs.lookup f = some v) (q : Q v H) : TFld K f (.ref r) H Q := ⟨r, C, dx, fs, v, rfl, h, c, n, l, q⟩
theorem kr_sfld {r C dx : Addr} {fs fs' : List (Str × V)} {f : Str} {y : V} {R : Hp → Prop} (h : H r = some (.ins C dx fs)) (c : Cls K C) (n : NoAttr K C f) (l : fs.length < 1000) (e : putF f y fs = fs') (q : R (upd H r (.ins C dx fs'))) : SFld K f y (.ref r) H R := by
  subst e; exact ⟨r, C, dx, fs, rfl, h, c, n, l, q⟩
theorem kr_prop {r dx : Addr} {fs : List (Str × V)} {Q : VK} (h : H r = some (.ins C dx fs)) (q : sp (.ref r :: dvs) H Q E) : TProp C sp dvs E (.ref r) H Q := ⟨r, dx, fs, rfl, h, q⟩
theorem k_tyL {l : Addr} {xs : List V} {R : Prop} (h : H l = some (.lst xs)) (q : R) : tyV K "list" (.ref l) H ∧ R := ⟨.inl ⟨rfl, xs, SqL.of h⟩, q⟩
theorem kr_inI {p : Addr} {xs : List V} {x : V} {b : Bool} {Q : VK} (h : H p = some (.lst xs)) (f : flatV x = true) (g : xs.all flatV = true) (e : inV x xs = b) (q : Q (.bl b) H) : rInn K x (.ref p) H Q := by
  subst e; exact .inl ⟨p, xs, rfl, .inl (SqL.of h), f, g, q⟩
theorem kr_inT {p : Addr} {xs : List V} {x : V} {b : Bool} {Q : VK} (h : H p = some (.tup xs)) (f : flatV x = true) (g : xs.all flatV = true) (e : inV x xs = b) (q : Q (.bl b) H) : rInn K x (.ref p) H Q := by
  subst e; exact .inl ⟨p, xs, rfl, .inr (SqT.of h), f, g, q⟩
theorem kr_inD {d : Addr} {kvs : List (Key × V)} {s : Str} {b : Bool} {Q : VK} (h : H d = some (.dK kvs)) (e : (valV kvs (Sum.inr s)).isSome = b) (q : Q (.bl b) H) : rInn K (.str s) (.ref d) H Q := by
  subst e; exact .inr ⟨d, _, rfl, DGet.k (k := Sum.inr s) h, q⟩
theorem kr_notInI {p : Addr} {xs : List V} {x : V} {b : Bool} {Q : VK} (h : H p = some (.lst xs)) (f : flatV x = true) (g : xs.all flatV = true) (e : inV x xs = b) (q : Q (.bl (!b)) H) : rNotInn K x (.ref p) H Q := by
  subst e; exact .inl ⟨p, xs, rfl, .inl (SqL.of h), f, g, q⟩
theorem kr_notInT {p : Addr} {xs : List V} {x : V} {b : Bool} {Q : VK} (h : H p = some (.tup xs)) (f : flatV x = true) (g : xs.all flatV = true) (e : inV x xs = b) (q : Q (.bl (!b)) H) : rNotInn K x (.ref p) H Q := by
  subst e; exact .inl ⟨p, xs, rfl, .inr (SqT.of h), f, g, q⟩
theorem kr_notInD {d : Addr} {kvs : List (Key × V)} {s : Str} {b : Bool} {Q : VK} (h : H d = some (.dK kvs)) (e : (valV kvs (Sum.inr s)).isSome = b) (q : Q (.bl (!b)) H) : rNotInn K (.str s) (.ref d) H Q := by
  subst e; exact .inr ⟨d, _, rfl, DGet.k (k := Sum.inr s) h, q⟩
theorem kr_slL {p : Addr} {xs : List V} {lo hi : Option Int} {Q : VK} (h : H p = some (.lst xs)) (q : ∀ l, Fresh H l → Q (.ref l) (upd H l (.lst (cutV xs lo hi)))) : rSlL K (.ref p) lo hi H Q := ⟨p, xs, rfl, SqL.of h, q⟩
theorem kr_append {l : Addr} {xs : List V} {y : V} {Q : VK} (h : H l = some (.lst xs)) (hl : xs.length < sizeLine) (q : Q .non (upd H l (.lst (xs ++ [y])))) : rAppend (.ref l) [y] H Q := ⟨l, xs, y, rfl, rfl, h, hl, q⟩
theorem kr_pop0 {l : Addr} {xs : List V} {x : V} {Q : VK} (h : H l = some (.lst (x :: xs))) (q : Q x (upd H l (.lst xs))) : rPopAt (.ref l) [.int 0] H Q :=
  ⟨l, x :: xs, 0, 0, x, rfl, rfl, h, by decide, by decide, by simp [seqIndex?], rfl, q⟩
theorem k_pairs_nil {Q : List (V × V) → Hp → Prop} (h : Q [] H) : tPairs [] σ H Q := h
theorem k_pairs {tk tv : TE} {r : List (TE × TE)} {Q : List (V × V) → Hp → Prop} (h : tk σ H fun x H1 => tv σ H1 fun y H2 => tPairs r σ H2 fun ps H3 => Q ((x, y) :: ps) H3) : tPairs ((tk, tv) :: r) σ H Q := h
-- operators
theorem kr_I0 {g : Int → Int → V} {i j : Int} {Q : VK} (h : Q (g i j) H) : rI0 g (.int i) (.int j) H Q := ⟨i, j, rfl, rfl, h⟩
theorem kr_I {Co : Int → Int → Prop} {g : Int → Int → V} {i j : Int} {Q : VK} (hc : Co i j) (h : Q (g i j) H) : rI Co g (.int i) (.int j) H Q := ⟨i, j, rfl, rfl, hc, h⟩
theorem kr_U {g : Int → V} {i : Int} {Q : VK} (h : Q (g i) H) : rU g (.int i) H Q := ⟨i, rfl, h⟩
theorem kr_plus {i j : Int} {Q : VK} (h : Q (.int (i + j)) H) : rPlus (.int i) (.int j) H Q := .inl ⟨i, j, rfl, rfl, h⟩
theorem kr_plusS {i j : Str} {Q : VK} (hl : i.length + j.length ≤ sizeLine) (h : Q (.str (i ++ j)) H) : rPlus (.str i) (.str j) H Q := .inr (.inl ⟨i, j, rfl, rfl, hl, h⟩)
theorem kr_plusL {l q : Addr} {xs zs : List V} {Q : VK} (h1 : H l = some (.lst xs)) (h2 : H q = some (.lst zs)) (hl : xs.length + zs.length ≤ sizeLine) (h : ∀ p, Fresh H p → Q (.ref p) (upd H p (.lst (xs ++ zs)))) : rPlus (.ref l) (.ref q) H Q :=
  .inr (.inr ⟨l, q, xs, zs, rfl, rfl, h1, h2, hl, h⟩)
theorem kr_times {i j : Int} {Q : VK} (hc : CMul i j) (h : Q (.int (i * j)) H) : rTimes (.int i) (.int j) H Q := .inl ⟨i, j, rfl, rfl, hc, h⟩
theorem kr_eq {x y : V} {Q : VK} (hc : scal x y = true) (h : Q (.bl (decide (x = y))) H) : rEqq K x y H Q := .inl ⟨hc, h⟩
theorem kr_ne {x y : V} {Q : VK} (hc : scal x y = true) (h : Q (.bl (!decide (x = y))) H) : rNeq K x y H Q := .inl ⟨hc, h⟩
theorem kr_ixL {p : Addr} {xs : List V} {i : Int} {v : V} {Q : VK} (h : H p = some (.lst xs)) (ha : atI xs i = some v) (q : Q v H) : rIxx K (.ref p) (.int i) H Q := .inl (.inl ⟨p, xs, i, v, rfl, rfl, SqL.of h, ha, q⟩)
theorem kr_ixT {p : Addr} {xs : List V} {i : Int} {v : V} {Q : VK} (h : H p = some (.tup xs)) (ha : atI xs i = some v) (q : Q v H) : rIxx K (.ref p) (.int i) H Q := .inl (.inr (.inl ⟨p, xs, i, v, rfl, rfl, SqT.of h, ha, q⟩))
theorem kr_ixS {z : Str} {i : Int} {c : Nat} {Q : VK} (hz : z.length ≤ sizeLine) (ha : atI z.cps.toList i = some c) (q : Q (.str ⟨#[c]⟩) H) : rIxx K (.str z) (.int i) H Q := .inl (.inr (.inr ⟨z, i, c, rfl, rfl, hz, ha, q⟩))
theorem kr_ixD {d : Addr} {kvs : List (Key × V)} {s : Str} {v : V} {Q : VK} (h : H d = some (.dK kvs)) (ha : valV kvs (Sum.inr s) = some v) (q : Q v H) : rIxx K (.ref d) (.str s) H Q :=
  .inr ⟨d, v, rfl, ha ▸ DGet.k (k := Sum.inr s) h, q⟩
theorem kr_ixDi {d : Addr} {kvs : List (Key × V)} {s : Int} {v : V} {Q : VK} (h : H d = some (.dK kvs)) (ha : valV kvs (Sum.inl s) = some v) (q : Q v H) : rIxx K (.ref d) (.int s) H Q :=
  .inr ⟨d, v, rfl, ha ▸ DGet.k (k := Sum.inl s) h, q⟩
theorem kr_setL {p : Addr} {xs xs' : List V} {i : Int} {j : Nat} {v : V} {Q : Hp → Prop} (h : H p = some (.lst xs)) (ha : ixN xs.length i = some j) (e : xs.set j v = xs') (q : Q (upd H p (.lst xs'))) : rSett (.ref p) (.int i) v H Q := by subst e; exact .inl ⟨p, xs, i, j, rfl, rfl, h, ha, q⟩
theorem kr_setD {d : Addr} {kvs kvs' : List (Key × V)} {s : Str} {v : V} {Q : Hp → Prop} (h : H d = some (.dK kvs)) (hl : kvs.length < sizeLine) (e : putK kvs (Sum.inr s) v = kvs') (q : Q (upd H d (.dK kvs'))) : rSett (.ref d) (.str s) v H Q := by
  subst e; exact .inr ⟨d, _, rfl, DPut.k (k := Sum.inr s) h hl, q⟩
theorem kr_int {i : Int} {Q : VK} (q : Q (.int i) H) : rInt [.int i] H Q := ⟨i, rfl, q⟩
theorem kr_listL {p : Addr} {xs : List V} {Q : VK} (h : H p = some (.lst xs)) (q : ∀ l, Fresh H l → Q (.ref l) (upd H l (.lst xs))) : rListOf K [.ref p] H Q := ⟨p, xs, rfl, .inl (SqL.of h), q⟩
theorem kr_listT {p : Addr} {xs : List V} {Q : VK} (h : H p = some (.tup xs)) (q : ∀ l, Fresh H l → Q (.ref l) (upd H l (.lst xs))) : rListOf K [.ref p] H Q := ⟨p, xs, rfl, .inr (SqT.of h), q⟩
theorem kr_tupL {p : Addr} {xs : List V} {Q : VK} (h : H p = some (.lst xs)) (q : ∀ l, Fresh H l → Q (.ref l) (upd H l (.tup xs))) : rTupOf K [.ref p] H Q := ⟨p, xs, rfl, .inl ⟨SqL.of h, q⟩⟩
theorem kr_tupT {p : Addr} {xs : List V} {Q : VK} (h : H p = some (.tup xs)) (q : Q (.ref p) H) : rTupOf K [.ref p] H Q := ⟨p, xs, rfl, .inr ⟨SqT.of h, q⟩⟩
theorem kr_lenL {p : Addr} {xs : List V} {Q : VK} (h : H p = some (.lst xs)) (q : Q (.int xs.length) H) : rLen K [.ref p] H Q := .inl ⟨p, xs, rfl, .inl (SqL.of h), q⟩
theorem kr_lenT {p : Addr} {xs : List V} {Q : VK} (h : H p = some (.tup xs)) (q : Q (.int xs.length) H) : rLen K [.ref p] H Q := .inl ⟨p, xs, rfl, .inr (SqT.of h), q⟩
theorem kr_lenS {z : Str} {Q : VK} (h : z.length ≤ sizeLine) (q : Q (.int z.length) H) : rLen K [.str z] H Q := .inr ⟨z, rfl, h, q⟩
theorem kr_disp {p : Addr} {ps : List (V × V)} {kvs kvs' : List (Key × V)} {Q : VK} (h : H p = some (.dK [])) (e : ps = kvs.map (fun kv => (kV kv.1, kv.2))) (hl : kvs.length ≤ 15) (m : mergeK [] kvs = kvs') (q : Q (.ref p) (upd H p (.dK kvs'))) :
    H p = some (.dK []) ∧ ∃ kvs : List (Key × V), ps = kvs.map (fun kv => (kV kv.1, kv.2)) ∧ kvs.length ≤ 15 ∧ Q (.ref p) (upd H p (.dK (mergeK [] kvs))) := by subst m; exact ⟨h, kvs, e, hl, q⟩
/-- what holds behind a statement, once for all its ways -/
theorem k_cut {R : L2.St → Hp → Prop} (h1 : ∀ B : L2.St → Hp → Prop, (∀ σ' H', R σ' H' → B σ' H') → a ⟨B, rt, bk, ct⟩ σ H) (h2 : ∀ σ' H', R σ' H' → b ⟨nx, rt, bk, ct⟩ σ' H') : tSeq a b ⟨nx, rt, bk, ct⟩ σ H := h1 _ h2
/-- .. behind a test -/
theorem k_cutI {R : Bool → Hp → Prop} (h1 : ∀ B : Bool → Hp → Prop, (∀ c H', R c H' → B c H') → t σ H B) (h2 : ∀ c H', R c H' → if c = true then a D σ H' else b D σ H') : tIfS t a b D σ H := h1 _ h2
/-- .. behind an expression -/
theorem k_cutE {Q : VK} (R : VK) (h1 : ∀ B : VK, (∀ v H', R v H' → B v H') → te σ H B) (h2 : ∀ v H', R v H' → Q v H') : te σ H Q := h1 _ h2
theorem k_size {xs : List V} {R : Prop} (h : Nat.ble xs.length 1000 = true) (q : R) : xs.length ≤ sizeLine ∧ R := ⟨Nat.le_of_lt (small1000 (Nat.le_of_ble_eq_true h)), q⟩
/-- forgetting what the state is made of -/
theorem k_gen {t : TS} {R : L2.St → Hp → Prop} (h : R σ H) (k : ∀ σ' H', R σ' H' → t D σ' H') : t D σ H := k σ H h
theorem k_wipe {a b : L2.St} {vs : List Nat} {R : Prop} (e : wipe a vs = wipe b vs) (q : R) : wipe a vs = wipe b vs ∧ R := ⟨e, q⟩
theorem k_ite {c : Bool} {A B : Prop} (h1 : c = true → A) (h2 : c = false → B) : if c = true then A else B := by
  cases c with
  | true => rw [if_pos rfl]; exact h1 rfl
  | false => rw [if_neg (by decide)]; exact h2 rfl
theorem k_iteT {c : Bool} {A B : Prop} (h : c = true) (k : A) : if c = true then A else B := by rw [if_pos h]; exact k
theorem k_iteF {c : Bool} {A B : Prop} (h : c = false) (k : B) : if c = true then A else B := by rw [h, if_neg (by decide)]; exact k
end
theorem start_cons {n : Str} {N : List Str} {v : V} {vs : List V} : L2.start (n :: N) (v :: vs) = some v :: L2.start N vs := by simp [L2.start]
theorem start_none {n : Str} {N : List Str} : L2.start (n :: N) [] = none :: L2.start N [] := by simp [L2.start, List.replicate_succ]
theorem start_nil : L2.start [] [] = [] := rfl
/-! ## heaps -/
/-- what is tracked is kept, but for the objects at S -/
def Keep (S : List Addr) (H H' : Hp) : Prop := ∀ b o, b ∉ S → H b = some o → H' b = some o
theorem Keep.refl {S : List Addr} (H : Hp) : Keep S H H := fun _ _ _ h => h
theorem Keep.trans {S : List Addr} {H H1 H2 : Hp} (a : Keep S H H1) (b : Keep S H1 H2) : Keep S H H2 := fun c o n h => b c o n (a c o n h)
theorem Keep.mono {S S' : List Addr} {H H' : Hp} (a : Keep S H H') (h : ∀ b, b ∈ S → b ∈ S') : Keep S' H H' := fun c o n e => a c o (fun z => n (h c z)) e
theorem Keep.same {S : List Addr} {H H' : Hp} (a : Keep [] H H') : Keep S H H' := fun c o _ e => a c o (by simp) e
theorem Keep.at {S : List Addr} {H H' : Hp} {b : Addr} {o : HO} (k : Keep S H H') (n : b ∉ S) (h : H b = some o) : H' b = some o := k b o n h
theorem get_new {H : Hp} {r p : Addr} {o u : HO} (hp : Fresh H p) (h : H r = some o) : upd H p u r = some o := by rw [upd_ne (ne_of_none h hp)]; exact h
theorem get_ne {H : Hp} {r p : Addr} {o u : HO} (hn : r ≠ p) (h : H r = some o) : upd H p u r = some o := by rw [upd_ne hn]; exact h
theorem Keep.new {S : List Addr} {H H1 : Hp} {p : Addr} {o : HO} (k : Keep S H H1) (hp : Fresh H1 p) : Keep S H (upd H1 p o) := fun c u n e => get_new hp (k c u n e)
theorem Keep.mut {S : List Addr} {H H1 : Hp} {p : Addr} {o : HO} (k : Keep S H H1) (hp : p ∈ S) : Keep S H (upd H1 p o) := fun c u n e => get_ne (fun z => n (z ▸ hp)) (k c u n e)
/-- an object that was not tracked at H may change -/
theorem Keep.mutN {S : List Addr} {H H1 : Hp} {p : Addr} {o : HO} (k : Keep S H H1) (hp : Fresh H p) : Keep S H (upd H1 p o) := fun c u n e => get_ne (ne_of_none e hp) (k c u n e)
theorem Keep.free' {H H' : Hp} (e : Keep [] H H') {l : Addr} (h : Fresh H' l) : Fresh H l := by
  show H l = Option.none
  have h : H' l = Option.none := h
  cases q : H l with
  | none => rfl
  | some o => rw [e l o (by simp) q] at h; cases h
theorem Keep.free {S : List Addr} {H H' : Hp} (e : Keep S H H') {l : Addr} (h : H' l = Option.none) (hs : ∀ b ∈ S, ∃ o, H' b = some o) : H l = Option.none := by
  cases q : H l with
  | none => rfl
  | some o =>
    by_cases m : l ∈ S
    · obtain ⟨o', e'⟩ := hs l m
      rw [h] at e'; cases e'
    · rw [e l o m q] at h; cases h
theorem upd_none {H : Hp} {p l : Addr} {o : HO} (h : Fresh (upd H p o) l) : l ≠ p ∧ Fresh H l := by
  unfold Fresh upd at h
  by_cases e : l = p
  · rw [if_pos e] at h; cases h
  · rw [if_neg e] at h; exact ⟨e, h⟩
theorem Keep.step {S S' : List Addr} {H H1 H2 : Hp} (k : Keep S' H1 H2) (h : ∀ b, b ∈ S' → b ∈ S) (k0 : Keep S H H1) : Keep S H H2 := k0.trans (k.mono h)
/-- behind a change of objects that are new -/
theorem Keep.stepN {S S' : List Addr} {H H1 H2 : Hp} (k : Keep S' H1 H2) (h : ∀ b, b ∈ S' → b ∈ S ∨ Fresh H b) (k0 : Keep S H H1) : Keep S H H2 := fun c o n e => k.at (fun z => (h c z).elim n fun q => by have q : H c = Option.none := q; rw [q] at e; cases e) (k0 c o n e)
theorem Keep.none {S : List Addr} {H H1 : Hp} {l : Addr} (k : Keep S H H1) (h : Fresh H1 l) (n : l ∉ S) : Fresh H l := by
  show H l = Option.none
  have h : H1 l = Option.none := h
  cases q : H l with
  | none => rfl
  | some o => rw [k l o n q] at h; cases h
theorem nin0 {b : Addr} : b ∉ ([] : List Addr) := by simp
theorem nin1 {b p : Addr} (h : b ≠ p) : b ∉ [p] := by simpa using h
theorem ninc {b p : Addr} {S : List Addr} (h : b ≠ p) (h2 : b ∉ S) : b ∉ p :: S := by simp [h, h2]
/-- something is tracked there -/
def Tr (H : Hp) (p : Addr) : Prop := ∃ o, H p = some o
theorem Tr.of {H : Hp} {p : Addr} {o : HO} (h : H p = some o) : Tr H p := ⟨o, h⟩
theorem Tr.same {H : Hp} {p : Addr} {o : HO} : Tr (upd H p o) p := ⟨o, upd_same⟩
theorem Tr.up {H : Hp} {p r : Addr} {o : HO} (h : Tr H r) : Tr (upd H p o) r := by
  obtain ⟨u, h⟩ := h
  by_cases e : r = p
  · subst e; exact Tr.same
  · exact ⟨u, get_ne e h⟩
theorem Tr.keep {S : List Addr} {H H' : Hp} {r : Addr} (k : Keep S H H') (n : r ∉ S) (h : Tr H r) : Tr H' r := let ⟨o, e⟩ := h; ⟨o, k.at n e⟩
theorem ne_new {H : Hp} {r p : Addr} (hp : Fresh H p) (h : Tr H r) : r ≠ p := let ⟨_, e⟩ := h; ne_of_none e hp
theorem ne_new' {H : Hp} {r p : Addr} (hp : Fresh H p) (h : Tr H r) : p ≠ r := (ne_new hp h).symm
end Cf

namespace Cf
open PySem L2 PySem.Spec PyProof.Rows
/-! ## draws -/
def spMixed : Sp := fun vs H Q _ => ∃ (c t n : Int), vs = [.int c, .int t, .int n] ∧ 0 < n ∧ ∀ d, 0 ≤ d → d < n → Q (.int d) H
/-- the state of a law's draws: the list at p, the script's copy at q -/
structure StAt (H : Hp) (p q : Addr) : Prop where
  ne : q ≠ p
  at_ : ∃ (ns : List Int) (i b c m t : Int), H p = some (.lst [.ref q, .int i, .int b, .int c, .int m, .int t]) ∧ H q = some (.lst (ns.map V.int)) ∧ 0 ≤ i
def spDraw : Sp := fun vs H Q _ => ∃ (p q : Addr) (n : Int), vs = [.ref p, .int n] ∧ StAt H p q ∧ 0 < n ∧ n.natAbs.log2 < 9000 ∧
  ∀ d H', 0 ≤ d → d < n → StAt H' p q → Keep [p] H H' → Q (.int d) H'
section
variable {H H' : Hp} {p q : Addr} {S : List Addr} {Q : VK} {E : XK} {n c t : Int}
theorem StAt.keep (h : StAt H p q) (k : Keep S H H') (hp : p ∉ S) (hq : q ∉ S) : StAt H' p q := by
  obtain ⟨ne, ns, i, b, c, m, t, h1, h2, h3⟩ := h
  exact ⟨ne, ns, i, b, c, m, t, k.at hp h1, k.at hq h2, h3⟩
theorem StAt.new {r : Addr} {o : HO} (h : StAt H p q) (hr : Fresh H r) : StAt (upd H r o) p q := h.keep (S := []) ((Keep.refl H).new hr) nin0 nin0
theorem StAt.mut {r : Addr} {o : HO} (h : StAt H p q) (h1 : r ≠ p) (h2 : r ≠ q) : StAt (upd H r o) p q := h.keep (S := [r]) ((Keep.refl H).mut (by simp)) (nin1 h1.symm) (nin1 h2.symm)
theorem StAt.p_some (h : StAt H p q) : ∃ o, H p = some o := let ⟨_, _, _, _, _, _, h, _, _⟩ := h.at_; ⟨_, h⟩
theorem StAt.q_some (h : StAt H p q) : ∃ o, H q = some o := let ⟨_, _, _, _, _, _, _, h, _⟩ := h.at_; ⟨_, h⟩
theorem StAt.tp (h : StAt H p q) : Tr H p := h.p_some
theorem StAt.tq (h : StAt H p q) : Tr H q := h.q_some
theorem StAt.p_ne {r : Addr} (h : StAt H p q) (hr : Fresh H r) : p ≠ r := let ⟨_, e⟩ := h.p_some; ne_of_none e hr
theorem StAt.q_ne {r : Addr} (h : StAt H p q) (hr : Fresh H r) : q ≠ r := let ⟨_, e⟩ := h.q_some; ne_of_none e hr
theorem use_mixed (h0 : 0 < n) (k : ∀ d, 0 ≤ d → d < n → Q (.int d) H) : spMixed ([.int c, .int t, .int n] ++ []) H Q E := ⟨c, t, n, rfl, h0, k⟩
theorem use_draw (h : StAt H p q) (h0 : 0 < n) (h1 : n.natAbs.log2 < 9000) (k : ∀ d H', 0 ≤ d → d < n → StAt H' p q → Keep [p] H H' → Q (.int d) H') : spDraw ([.ref p, .int n] ++ []) H Q E := ⟨p, q, n, rfl, h, h0, h1, k⟩
end
theorem atI_zero {α : Type} {x : α} {xs : List α} : atI (x :: xs) 0 = some x := atI_nat (j := 0) (xs := x :: xs) rfl
theorem atI_lt {α : Type} {xs : List α} {i : Int} (h0 : 0 ≤ i) (h : i < xs.length) : ∃ x, x ∈ xs ∧ atI xs i = some x := by
  have hk : i.toNat < xs.length := by omega
  have ek : i = ((i.toNat : Nat) : Int) := by omega
  refine ⟨xs[i.toNat], List.getElem_mem hk, ?_⟩
  have e := atI_nat (List.getElem?_eq_getElem hk)
  rw [← ek] at e
  exact e
theorem atI_ints {ns : List Int} {i : Int} (h0 : 0 ≤ i) (h : i < ns.length) : ∃ x, x ∈ ns ∧ atI (ns.map V.int) i = some (.int x) := by
  obtain ⟨v, hv, e⟩ := atI_lt (xs := ns.map V.int) h0 (by simpa using h)
  obtain ⟨x, hx, rfl⟩ := List.mem_map.mp hv
  exact ⟨x, hx, e⟩
def spStart (K : PySem.W.Frag) : Sp := fun vs H Q _ => ∃ (a : Addr) (ns : List Int), vs = [.ref a] ∧ SqL K H a (ns.map V.int) ∧ ∀ p q H', Fresh H p → Fresh H q → StAt H' p q → Keep [] H H' → Q (.ref p) H'
def Small (s : Str) : Prop := s.length ≤ 8 ∧ 1 ≤ s.length ∧ ∀ c ∈ s.cps.toList, 97 ≤ c ∧ c ≤ 122
def spWord : Sp := fun vs H Q _ => ∃ (p q : Addr), vs = [.ref p] ∧ StAt H p q ∧ ∀ s H', Small s → StAt H' p q → Keep [p] H H' → Q (.str s) H'
abbrev abc : Str := Str.ofString "abcdefghijklmnopqrstuvwxyz"
theorem abc_list : abc.cps.toList = (List.range 26).map (97 + ·) := by decide +kernel
theorem abc_len : abc.length ≤ sizeLine := by decide +kernel
theorem abc_at {d : Int} (h0 : 0 ≤ d) (h : d < 26) : ∃ c, (97 ≤ c ∧ c ≤ 122) ∧ atI abc.cps.toList d = some c := by
  obtain ⟨c, hc, e⟩ := atI_lt (xs := abc.cps.toList) h0 (by rw [abc_list]; simpa using h)
  refine ⟨c, ?_, e⟩
  rw [abc_list] at hc
  obtain ⟨k, hk, rfl⟩ := List.mem_map.mp hc
  have := List.mem_range.mp hk
  omega
theorem str_app (x y : Str) : (x ++ y).cps.toList = x.cps.toList ++ y.cps.toList := by
  show (x.cps ++ y.cps).toList = _
  simp
theorem str_len (x : Str) : x.length = x.cps.toList.length := by simp [Str.length]
theorem app_len (x y : Str) : (x ++ y).length = x.length + y.length := by rw [str_len, str_app, List.length_append, ← str_len, ← str_len]
theorem one_len (c : Nat) : (⟨#[c]⟩ : Str).length = 1 := rfl
theorem size_ok {n : Nat} (h : n ≤ 1000) : n ≤ sizeLine := Nat.le_of_lt (small1000 h)
theorem log_ok {n : Int} (h : n.natAbs < 2 ^ 64) : n.natAbs.log2 < 9000 := Nat.lt_of_lt_of_le (PySem.Flt.log2_lt_of (by decide) h) (by decide)
theorem small_ext {z : Str} {c : Nat} (ha : ∀ x ∈ z.cps.toList, 97 ≤ x ∧ x ≤ 122) (hc : 97 ≤ c ∧ c ≤ 122) : ∀ x ∈ (z ++ (⟨#[c]⟩ : Str)).cps.toList, 97 ≤ x ∧ x ≤ 122 := by
  intro x hx
  rw [str_app] at hx
  rcases List.mem_append.mp hx with h | h
  · exact ha x h
  · have e : x = c := by simpa using h
    rw [e]
    exact hc
def spValue : Sp := fun vs H Q _ => ∃ (p q : Addr), vs = [.ref p] ∧ StAt H p q ∧ ∀ i H', StAt H' p q → Keep [p] H H' → Q (.int i) H'
theorem use_value {H : Hp} {p q : Addr} {Q : VK} {E : XK} (h : StAt H p q) (k : ∀ i H', StAt H' p q → Keep [p] H H' → Q (.int i) H') : spValue ([.ref p] ++ []) H Q E := ⟨p, q, rfl, h, k⟩
theorem use_word {H : Hp} {p q : Addr} {Q : VK} {E : XK} (h : StAt H p q) (k : ∀ s H', Small s → StAt H' p q → Keep [p] H H' → Q (.str s) H') : spWord ([.ref p] ++ []) H Q E := ⟨p, q, rfl, h, k⟩
theorem use_start {K : PySem.W.Frag} {H : Hp} {a : Addr} {ns : List Int} {Q : VK} {E : XK} (h : SqL K H a (ns.map V.int)) (k : ∀ p q H', Fresh H p → Fresh H q → StAt H' p q → Keep [] H H' → Q (.ref p) H') : spStart K ([.ref a] ++ []) H Q E := ⟨a, ns, rfl, h, k⟩
theorem cmulR {i j : Int} (h : -(2 ^ 64) < j ∧ j < 2 ^ 64) : CMul i j := .inr h
end Cf

namespace Cf
open PySem L2 PySem.Spec PyProof.Rows
/-! ## plain data -/
inductive D where
  | non
  | bl (b : Bool)
  | int (i : Int)
  | str (s : Str)
  | lst (ds : List D)
  | tup (ds : List D)
mutual
def D.depth : D → Nat
  | .lst ds => D.depths ds + 1
  | .tup ds => D.depths ds + 1
  | _ => 0
def D.depths : List D → Nat
  | [] => 0
  | d :: ds => max d.depth (D.depths ds)
end
theorem depth_mem : ∀ {ds : List D} {d : D}, d ∈ ds → d.depth ≤ D.depths ds
  | e :: r, d, h => by
    unfold D.depths
    rcases List.mem_cons.mp h with h | h
    · subst h; omega
    · have := depth_mem h; omega
mutual
/-- at v stands the datum, none of its objects at S -/
inductive Is (S : List Addr) (H : Hp) : V → D → Prop
  | non : Is S H .non .non
  | bl (b : Bool) : Is S H (.bl b) (.bl b)
  | int (i : Int) : Is S H (.int i) (.int i)
  | str (x : Str) : Is S H (.str x) (.str x)
  | lst {a : Addr} {xs : List V} {ds : List D} (h : H a = some (.lst xs)) (n : a ∉ S) (l : xs.length < 1000000) (t : IsL S H xs ds) : Is S H (.ref a) (.lst ds)
  | tup {a : Addr} {xs : List V} {ds : List D} (h : H a = some (.tup xs)) (n : a ∉ S) (l : xs.length < 1000000) (t : IsL S H xs ds) : Is S H (.ref a) (.tup ds)
inductive IsL (S : List Addr) (H : Hp) : List V → List D → Prop
  | nil : IsL S H [] []
  | cons {v : V} {vs : List V} {d : D} {ds : List D} (h : Is S H v d) (t : IsL S H vs ds) : IsL S H (v :: vs) (d :: ds)
end
mutual
theorem Is.keep {S S' : List Addr} {H H' : Hp} (k : Keep S' H H') (hs : ∀ b ∈ S', b ∈ S) : ∀ {v : V} {d : D}, Is S H v d → Is S H' v d
  | _, _, .non => .non
  | _, _, .bl b => .bl b
  | _, _, .int b => .int b
  | _, _, .str b => .str b
  | _, _, .lst h n l t => .lst (k.at (fun z => n (hs _ z)) h) n l (IsL.keep k hs t)
  | _, _, .tup h n l t => .tup (k.at (fun z => n (hs _ z)) h) n l (IsL.keep k hs t)
theorem IsL.keep {S S' : List Addr} {H H' : Hp} (k : Keep S' H H') (hs : ∀ b ∈ S', b ∈ S) : ∀ {vs : List V} {ds : List D}, IsL S H vs ds → IsL S H' vs ds
  | _, _, .nil => .nil
  | _, _, .cons h t => .cons (Is.keep k hs h) (IsL.keep k hs t)
end
mutual
theorem Is.less {S S' : List Addr} {H : Hp} (hs : ∀ b ∈ S', b ∈ S) : ∀ {v : V} {d : D}, Is S H v d → Is S' H v d
  | _, _, .non => .non
  | _, _, .bl b => .bl b
  | _, _, .int b => .int b
  | _, _, .str b => .str b
  | _, _, .lst h n l t => .lst h (fun z => n (hs _ z)) l (IsL.less hs t)
  | _, _, .tup h n l t => .tup h (fun z => n (hs _ z)) l (IsL.less hs t)
theorem IsL.less {S S' : List Addr} {H : Hp} (hs : ∀ b ∈ S', b ∈ S) : ∀ {vs : List V} {ds : List D}, IsL S H vs ds → IsL S' H vs ds
  | _, _, .nil => .nil
  | _, _, .cons h t => .cons (Is.less hs h) (IsL.less hs t)
end
theorem Is.free {S : List Addr} {H : Hp} {v : V} {d : D} (h : Is S H v d) : Is [] H v d := h.less (by simp)
theorem IsL.free {S : List Addr} {H : Hp} {v : List V} {d : List D} (h : IsL S H v d) : IsL [] H v d := h.less (by simp)
theorem Is.new {S : List Addr} {H : Hp} {v : V} {d : D} {r : Addr} {o : HO} (h : Is S H v d) (hr : Fresh H r) : Is S (upd H r o) v d := h.keep (S' := []) ((Keep.refl H).new hr) (by simp)
theorem IsL.new {S : List Addr} {H : Hp} {v : List V} {d : List D} {r : Addr} {o : HO} (h : IsL S H v d) (hr : Fresh H r) : IsL S (upd H r o) v d := h.keep (S' := []) ((Keep.refl H).new hr) (by simp)
theorem IsL.len {S : List Addr} {H : Hp} : ∀ {vs : List V} {ds : List D}, IsL S H vs ds → vs.length = ds.length
  | _, _, .nil => rfl
  | _, _, .cons _ t => by rw [List.length_cons, List.length_cons, IsL.len t]
theorem IsL.get {S : List Addr} {H : Hp} : ∀ {vs : List V} {ds : List D} {i : Nat} {v : V}, IsL S H vs ds → vs[i]? = some v → ∃ d, ds[i]? = some d ∧ Is S H v d := by
  intro vs
  induction vs with
  | nil => intro ds i v h e; simp at e
  | cons w vs ih =>
    intro ds i v h e
    cases h with
    | cons h t =>
      cases i with
      | zero => cases e; exact ⟨_, rfl, h⟩
      | succ i =>
        have z := ih t (show vs[i]? = some v from e)
        obtain ⟨d, e1, e2⟩ := z
        exact ⟨d, e1, e2⟩
theorem IsL.app {S : List Addr} {H : Hp} : ∀ {vs : List V} {ds : List D} {ws : List V} {es : List D}, IsL S H vs ds → IsL S H ws es → IsL S H (vs ++ ws) (ds ++ es)
  | _, _, _, _, .nil, h => h
  | _, _, _, _, .cons h t, k => .cons h (IsL.app t k)
theorem IsL.app_inv {S : List Addr} {H : Hp} : ∀ {ds es : List D} {vs : List V}, IsL S H vs (ds ++ es) → ∃ ys zs, vs = ys ++ zs ∧ IsL S H ys ds ∧ IsL S H zs es
  | [], _, vs, h => ⟨[], vs, rfl, .nil, h⟩
  | d :: ds, es, vs, h => by
    have h' : IsL S H vs (d :: (ds ++ es)) := h
    cases h' with
    | cons h t =>
      obtain ⟨ys, zs, e, h1, h2⟩ := IsL.app_inv t
      subst e
      rename_i hh
      exact ⟨_ :: ys, zs, rfl, .cons (by assumption) h1, h2⟩
theorem IsL.snoc_inv {S : List Addr} {H : Hp} {ds : List D} {d : D} {vs : List V} (h : IsL S H vs (ds ++ [d])) : ∃ ys y, vs = ys ++ [y] ∧ IsL S H ys ds ∧ Is S H y d := by
  obtain ⟨ys, zs, e, h1, h2⟩ := h.app_inv
  cases h2 with
  | cons h2 h3 =>
    cases h3
    exact ⟨ys, _, e, h1, h2⟩
theorem IsL.put {S : List Addr} {H : Hp} {vs : List V} {ds : List D} {v : V} {d : D} (t : IsL S H vs ds) (h : Is S H v d) : IsL S H (vs ++ [v]) (ds ++ [d]) := t.app (.cons h .nil)
/-! ## the kinds of data -/
inductive Kd where
  | non | bl | int | str | lst | tup | dic
@[reducible] def Kd.name : Kd → String
  | .non => "NoneType" | .bl => "bool" | .int => "int" | .str => "str" | .lst => "list" | .tup => "tuple" | .dic => "dict"
@[reducible] def isk : Kd → Kd → Bool
  | .non, .non => true | .bl, .bl => true | .bl, .int => true | .int, .int => true | .str, .str => true | .lst, .lst => true | .tup, .tup => true | .dic, .dic => true
  | _, _ => false
theorem kit_isk (a b : Kd) : kitB a.name b.name = some (isk a b) := by
  cases a <;> cases b <;> decide +kernel
inductive KdOf (H : Hp) : V → Kd → Prop
  | non : KdOf H .non .non
  | bl (b : Bool) : KdOf H (.bl b) .bl
  | int (b : Int) : KdOf H (.int b) .int
  | str (b : Str) : KdOf H (.str b) .str
  | lst {a : Addr} {xs : List V} (h : H a = some (.lst xs)) : KdOf H (.ref a) .lst
  | tup {a : Addr} {xs : List V} (h : H a = some (.tup xs)) : KdOf H (.ref a) .tup
  | dic {a : Addr} {xs : List (Key × V)} (h : H a = some (.dK xs)) : KdOf H (.ref a) .dic
theorem KdOf.ty {K : PySem.W.Frag} {H : Hp} {x : V} {a : Kd} (h : KdOf H x a) : TyX K H x (.type a.name) := by
  cases h with
  | non => exact .base .non
  | bl b => exact .base (.bl b)
  | int b => exact .base (.int b)
  | str b => exact .base (.str b)
  | lst h => exact .base (.lst h)
  | tup h => exact .base (.tup h)
  | dic h => exact .base (.dK h)
section
variable {K : PySem.W.Frag} {H : Hp} {x : V} {a : Kd} {Q : VK}
theorem kr_isi (b : Kd) (ty : KdOf H x a) (q : Q (.bl (isk a b)) H) : rIsi K [x, .ty b.name] H Q := ⟨x, .ty b.name, _, _, _, rfl, .ty _, ty.ty, kit_ty (kit_isk a b), q⟩
theorem kr_isi_bool (ty : KdOf H x a) (q : Q (.bl (isk a .bl)) H) : rIsi K [x, .ty "bool"] H Q := kr_isi .bl ty q
theorem kr_isi_int (ty : KdOf H x a) (q : Q (.bl (isk a .int)) H) : rIsi K [x, .ty "int"] H Q := kr_isi .int ty q
theorem kr_isi_str (ty : KdOf H x a) (q : Q (.bl (isk a .str)) H) : rIsi K [x, .ty "str"] H Q := kr_isi .str ty q
theorem kr_isi_list (ty : KdOf H x a) (q : Q (.bl (isk a .lst)) H) : rIsi K [x, .ty "list"] H Q := kr_isi .lst ty q
theorem kr_isi_tuple (ty : KdOf H x a) (q : Q (.bl (isk a .tup)) H) : rIsi K [x, .ty "tuple"] H Q := kr_isi .tup ty q
theorem kr_isi_dict (ty : KdOf H x a) (q : Q (.bl (isk a .dic)) H) : rIsi K [x, .ty "dict"] H Q := kr_isi .dic ty q
theorem kr_isN {x : V} (q : Q (.bl (decide (x = .non))) H) : rIsN x .non H Q := ⟨rfl, q⟩
theorem kr_notN {x : V} (q : Q (.bl (!decide (x = .non))) H) : rNotN x .non H Q := ⟨rfl, q⟩
end
/-! ## the law's own equality -/
def spSame (n : Nat) : Sp := fun vs H Q _ => ∃ (x y : V) (d e : D), vs = [x, y] ∧ Is [] H x d ∧ Is [] H y e ∧ d.depth < n ∧ ∀ (b : Bool) H', (b = true ↔ d = e) → Keep [] H H' → Q (.bl b) H'
theorem use_same {n : Nat} {H : Hp} {x y : V} {d e : D} {Q : VK} {E : XK} (h1 : Is [] H x d) (h2 : Is [] H y e) (h3 : d.depth < n) (k : ∀ (b : Bool) H', (b = true ↔ d = e) → Keep [] H H' → Q (.bl b) H') : spSame n ([x, y] ++ []) H Q E :=
  ⟨x, y, d, e, rfl, h1, h2, h3, k⟩
theorem same_none {P : Program} {w : World} {K : PySem.W.Frag} {mg : Str → Option Value} {base : Heap} {f : Addr} {fd : FuncData} : FnOk P w K mg base CX0 0 f fd ["here", "there"] (spSame 0) := by
  have no : ∀ vs H Q E, ¬ spSame 0 vs H Q E := fun vs H Q E h => by
    obtain ⟨_, _, _, _, _, _, _, h, _⟩ := h
    omega
  exact ⟨fun vs H Q E h => absurd h (no vs H Q E), fun A outer s H args us vs Q E _ _ _ _ h => absurd h (no vs H Q E)⟩
theorem take_eq {α : Type} {ds es : List α} {i : Nat} {d : α} (h : ds.take i = es.take i) (h1 : ds[i]? = some d) (h2 : es[i]? = some d) : ds.take (i + 1) = es.take (i + 1) := by
  rw [List.take_add_one, List.take_add_one, h, h1, h2]
theorem some_of {α : Type} {xs : List α} {i : Nat} (h : i < xs.length) : ∃ x, xs[i]? = some x := ⟨xs[i], List.getElem?_eq_getElem h⟩
theorem take_all {α : Type} {ds es : List α} (hl : ds.length = es.length) (h : ds.take ds.length = es.take ds.length) : ds = es := by
  rw [List.take_length] at h
  rw [hl, List.take_length] at h
  exact h
end Cf

namespace Cf
open PySem L2 PySem.Spec PyProof.Rows
/-! ## footprints: what may change, part by part -/
def Dj (f g : List Addr) : Prop := ∀ x, x ∈ f → x ∉ g
theorem Dj.symm {f g : List Addr} (h : Dj f g) : Dj g f := fun x h1 h2 => h x h2 h1
/-- the parts stand apart, all their objects are tracked -/
structure Wd (H : Hp) (L : List (List Addr)) : Prop where
  pw : L.Pairwise Dj
  tr : ∀ f, f ∈ L → ∀ x, x ∈ f → ∃ o, H x = some o
theorem pw_get {L : List (List Addr)} {i j : Nat} {f g : List Addr} (h : L.Pairwise Dj) (hi : L[i]? = some f) (hj : L[j]? = some g) (n : i ≠ j) : Dj f g := by
  rcases Nat.lt_or_gt_of_ne n with n | n
  · obtain ⟨a, rfl⟩ := List.getElem?_eq_some_iff.mp hi
    obtain ⟨b, rfl⟩ := List.getElem?_eq_some_iff.mp hj
    exact List.pairwise_iff_getElem.mp h i j a b n
  · obtain ⟨a, rfl⟩ := List.getElem?_eq_some_iff.mp hi
    obtain ⟨b, rfl⟩ := List.getElem?_eq_some_iff.mp hj
    exact (List.pairwise_iff_getElem.mp h j i b a n).symm
theorem Wd.dj {H : Hp} {L : List (List Addr)} (w : Wd H L) (i j : Nat) {f g : List Addr} (hi : L[i]? = some f) (hj : L[j]? = some g) (n : i ≠ j := by decide) : Dj f g := pw_get w.pw hi hj n
theorem mem_flat {L : List (List Addr)} {i : Nat} {f : List Addr} {x : Addr} (hi : L[i]? = some f) (h : x ∈ f) : x ∈ L.flatten := List.mem_flatten.mpr ⟨f, List.mem_of_getElem? hi, h⟩
/-- what is new: all that is there is known or new -/
def Grow (H : Hp) (S S' : List Addr) : Prop := ∀ x, x ∈ S' → x ∈ S ∨ Fresh H x
theorem Grow.refl {H : Hp} {S : List Addr} : Grow H S S := fun _ h => .inl h
theorem Wd.same {H H' : Hp} {L : List (List Addr)} (w : Wd H L) (k : Keep [] H H') : Wd H' L := ⟨w.pw, fun f hf x hx => let ⟨o, e⟩ := w.tr f hf x hx; ⟨o, k.at nin0 e⟩⟩
theorem Wd.set {H H' : Hp} {L : List (List Addr)} {f f' : List Addr} (w : Wd H L) (i : Nat) (hi : L[i]? = some f) (k : Keep f H H') (g : Grow H f f') (t : ∀ x, x ∈ f' → ∃ o, H' x = some o) : Wd H' (L.set i f') := by
  have hl : i < L.length := (List.getElem?_eq_some_iff.mp hi).1
  have at_ : ∀ j y, (L.set i f')[j]? = some y → (j = i ∧ y = f') ∨ (j ≠ i ∧ L[j]? = some y) := by
    intro j y h
    by_cases e : j = i
    · subst e
      rw [List.getElem?_set_self hl] at h
      exact .inl ⟨rfl, (Option.some.inj h).symm⟩
    · rw [List.getElem?_set_ne (fun z => e z.symm)] at h
      exact .inr ⟨e, h⟩
  have dj : ∀ j y, j ≠ i → L[j]? = some y → Dj f' y := by
    intro j y n h x h1 h2
    rcases g x h1 with h3 | h3
    · exact pw_get w.pw hi h (fun z => n z.symm) x h3 h2
    · obtain ⟨o, e⟩ := w.tr y (List.mem_of_getElem? h) x h2
      have h3 : H x = none := h3
      rw [h3] at e
      cases e
  refine ⟨?_, ?_⟩
  · refine List.pairwise_iff_getElem.mpr fun a b ha hb n => ?_
    have ea := at_ a _ (List.getElem?_eq_getElem ha)
    have eb := at_ b _ (List.getElem?_eq_getElem hb)
    rcases ea with ⟨e1, e2⟩ | ⟨e1, e2⟩
    · rcases eb with ⟨e3, e4⟩ | ⟨e3, e4⟩
      · omega
      · rw [e2]
        exact dj b _ e3 e4
    · rcases eb with ⟨e3, e4⟩ | ⟨e3, e4⟩
      · rw [e4]
        exact (dj a _ e1 e2).symm
      · exact pw_get w.pw e2 e4 (Nat.ne_of_lt n)
  · intro y hy x hx
    obtain ⟨j, hj⟩ := List.mem_iff_getElem?.mp hy
    rcases at_ j y hj with ⟨e1, e2⟩ | ⟨e1, e2⟩
    · subst e2
      exact t x hx
    · obtain ⟨o, e⟩ := w.tr y (List.mem_of_getElem? e2) x hx
      exact ⟨o, k.at (fun z => pw_get w.pw e2 hi e1 x hx z) e⟩
theorem grow_set {H : Hp} {L : List (List Addr)} {f f' : List Addr} {i : Nat} (hi : L[i]? = some f) (g : Grow H f f') : Grow H L.flatten (L.set i f').flatten := by
  intro x hx
  obtain ⟨y, hy, hxy⟩ := List.mem_flatten.mp hx
  obtain ⟨j, hj⟩ := List.mem_iff_getElem?.mp hy
  have hl : i < L.length := (List.getElem?_eq_some_iff.mp hi).1
  by_cases e : j = i
  · subst e
    rw [List.getElem?_set_self hl] at hj
    cases hj
    rcases g x hxy with h | h
    · exact .inl (mem_flat hi h)
    · exact .inr h
  · rw [List.getElem?_set_ne (fun z => e z.symm)] at hj
    exact .inl (mem_flat hj hxy)
mutual
/-- data stands when a part changes, and beside new parts -/
theorem Is.go {S S' F : List Addr} {H H' : Hp} (k : Keep F H H') (hf : ∀ x, x ∈ F → x ∈ S) (g : Grow H S S') : ∀ {v : V} {d : D}, Is S H v d → Is S' H' v d
  | _, _, .non => .non
  | _, _, .bl b => .bl b
  | _, _, .int b => .int b
  | _, _, .str b => .str b
  | _, _, .lst h n l t => .lst (k.at (fun z => n (hf _ z)) h) (fun z => (g _ z).elim n fun e => by have e : H _ = none := e; rw [e] at h; cases h) l (IsL.go k hf g t)
  | _, _, .tup h n l t => .tup (k.at (fun z => n (hf _ z)) h) (fun z => (g _ z).elim n fun e => by have e : H _ = none := e; rw [e] at h; cases h) l (IsL.go k hf g t)
theorem IsL.go {S S' F : List Addr} {H H' : Hp} (k : Keep F H H') (hf : ∀ x, x ∈ F → x ∈ S) (g : Grow H S S') : ∀ {vs : List V} {ds : List D}, IsL S H vs ds → IsL S' H' vs ds
  | _, _, .nil => .nil
  | _, _, .cons h t => .cons (Is.go k hf g h) (IsL.go k hf g t)
end
/-- while the state is built: the parts L, and other objects N that are no part -/
structure Bd (H : Hp) (L : List (List Addr)) (N : List Addr) : Prop where
  wd : Wd H L
  out : ∀ x, x ∈ N → x ∉ L.flatten ∧ Tr H x
theorem Bd.same {H H' : Hp} {L : List (List Addr)} {N : List Addr} (b : Bd H L N) (k : Keep [] H H') : Bd H' L N := ⟨b.wd.same k, fun x hx => ⟨(b.out x hx).1, (b.out x hx).2.keep k nin0⟩⟩
theorem Wd.fresh {H : Hp} {L : List (List Addr)} (w : Wd H L) {x : Addr} (h : Fresh H x) : x ∉ L.flatten := fun z => by
  obtain ⟨f, hf, hx⟩ := List.mem_flatten.mp z
  obtain ⟨o, e⟩ := w.tr f hf x hx
  have h : H x = none := h
  rw [h] at e
  cases e
theorem Bd.obj {H H' : Hp} {L : List (List Addr)} {N : List Addr} {x : Addr} (b : Bd H L N) (h : Fresh H x) (k : Keep [] H H') (t : Tr H' x) : Bd H' L (x :: N) := by
  have b' := b.same k
  refine ⟨b'.wd, fun y hy => ?_⟩
  rcases List.mem_cons.mp hy with e | e
  · subst e
    exact ⟨b.wd.fresh h, t⟩
  · exact b'.out y e
theorem Bd.part {H H' : Hp} {L : List (List Addr)} {N g : List Addr} (b : Bd H L N) (k : Keep [] H H') (hg : ∀ y, y ∈ g → Fresh H y ∧ Tr H' y) : Bd H' (L ++ [g]) N := by
  have b' := b.same k
  refine ⟨⟨?_, ?_⟩, ?_⟩
  · refine List.pairwise_append.mpr ⟨b.wd.pw, by simp, fun f hf g' hg' => ?_⟩
    have e : g' = g := by simpa using hg'
    subst e
    intro x hx hx'
    exact b.wd.fresh (hg x hx').1 (List.mem_flatten.mpr ⟨f, hf, hx⟩)
  · intro f hf x hx
    rcases List.mem_append.mp hf with h | h
    · exact b'.wd.tr f h x hx
    · have e : f = g := by simpa using h
      subst e
      exact (hg x hx).2
  · intro x hx
    refine ⟨fun z => ?_, (b'.out x hx).2⟩
    rw [List.flatten_append] at z
    rcases List.mem_append.mp z with h | h
    · exact (b.out x hx).1 h
    · have h' : x ∈ g := by simpa using h
      obtain ⟨o, e⟩ := (b.out x hx).2
      have q : H x = none := (hg x h').1
      rw [q] at e
      cases e
theorem Bd.one {H : Hp} {p q : Addr} (s : StAt H p q) : Bd H [[p, q]] [] := by
  refine ⟨⟨by simp, ?_⟩, by simp⟩
  intro f hf x hx
  have e : f = [p, q] := by simpa using hf
  subst e
  simp at hx
  rcases hx with h | h
  · rw [h]; exact s.tp
  · rw [h]; exact s.tq
/-! ## data by its form -/
section
variable {S : List Addr} {H : Hp} {v : V} {vs : List V} {d : D} {ds : List D}
theorem Is.int_inv {i : Int} (h : Is S H v (.int i)) : v = .int i := by cases h; rfl
theorem Is.str_inv {i : Str} (h : Is S H v (.str i)) : v = .str i := by cases h; rfl
theorem Is.bl_inv {i : Bool} (h : Is S H v (.bl i)) : v = .bl i := by cases h; rfl
theorem Is.non_inv (h : Is S H v .non) : v = .non := by cases h; rfl
theorem Is.tup_inv (h : Is S H v (.tup ds)) : ∃ a xs, v = .ref a ∧ H a = some (.tup xs) ∧ a ∉ S ∧ xs.length < 1000000 ∧ IsL S H xs ds := by
  cases h with
  | tup h n l t => exact ⟨_, _, rfl, h, n, l, t⟩
theorem Is.lst_inv (h : Is S H v (.lst ds)) : ∃ a xs, v = .ref a ∧ H a = some (.lst xs) ∧ a ∉ S ∧ xs.length < 1000000 ∧ IsL S H xs ds := by
  cases h with
  | lst h n l t => exact ⟨_, _, rfl, h, n, l, t⟩
theorem IsL.nil_inv (h : IsL S H vs []) : vs = [] := by cases h; rfl
theorem IsL.cons_inv (h : IsL S H vs (d :: ds)) : ∃ x xs, vs = x :: xs ∧ Is S H x d ∧ IsL S H xs ds := by
  cases h with
  | cons h t => exact ⟨_, _, rfl, h, t⟩
theorem IsL.ints : ∀ {ns : List Int}, IsL S H (ns.map V.int) (ns.map D.int)
  | [] => .nil
  | _ :: _ => .cons (.int _) IsL.ints
theorem IsL.ints_inv : ∀ {ns : List Int} {vs : List V}, IsL S H vs (ns.map D.int) → vs = ns.map V.int
  | [], _, h => h.nil_inv
  | n :: ns, _, h => by
    obtain ⟨x, xs, rfl, h1, h2⟩ := IsL.cons_inv (d := .int n) (ds := ns.map D.int) h
    rw [h1.int_inv, IsL.ints_inv h2]
    rfl
theorem inV_ints {n : Int} : ∀ {ns : List Int}, inV (.int n) (ns.map V.int) = decide (n ∈ ns)
  | [] => rfl
  | m :: ns => by
    have ih := inV_ints (n := n) (ns := ns)
    unfold inV at ih ⊢
    rw [List.map_cons, List.any_cons, ih]
    show ((m == n) || decide (n ∈ ns)) = _
    by_cases e : m = n
    · subst e; simp
    · have e' : ¬ n = m := fun z => e z.symm
      simp [e, e']
theorem ints_flat : ∀ {ns : List Int}, (ns.map V.int).all flatV = true
  | [] => rfl
  | m :: ns => by rw [List.map_cons, List.all_cons, ints_flat]; rfl
end
end Cf

/-! own errors whose __init__ says super().__init__('..') and keeps one field -/
namespace PySem
namespace SupX
open PySem.W PySem.Calls PyProof.Rows PySem.HandSPX
section
variable {prog : Program} {w : World} {A : Around} {E : Value → Shared → Prop} {h : Heap} {g : Array GenState} {d : Drawn} {t : Nat} {os : OsState}
variable {nm q : Str} {C N : Addr} {bs bm : List Value} {hdct : Bool} {sn : List Str} {sub : List Value} {ab : Bool} {col : Option Bool} {dd : Option Addr} {k0 k1 k2 k3 k5 : Option Value}
/-- the bound ValueError.__init__ is called: the exception's args are laid anew -/
theorem sup_wrap {u x t0 : Addr} {us : List Value} {Q : Value → Shared → Prop}
    (cC : h.get? C = some (excClassObj nm q C N bs bm hdct sn sub ab col dd k0 k1 k2 k3 k5 "ValueError.__new__")) (cx : h.get? x = some (excO C t0)) (cu : h.get? u = some (kxs_mw "ValueError.__init__" x)) (lus : us.length ≤ sizeLine)
    (hq : ∀ h' t1, (∀ b o, b ≠ x → h.get? b = some o → h'.get? b = some o) → h'.get? x = some (excO C t1) → Q .none ⟨h', g, d, t, os⟩) :
    wpAny (model prog w) A (call (.ref u) us) Q E ⟨h, g, d, t, os⟩ := by
  refine wpAny_call (codeAny_of_tree ?tree)
  show wpAny _ A.in1 (callAny (.ref u) ⟨us, []⟩) _ _ _
  simp only [callAny]
  refine wpAny_bind (wpAny_load cu ?_)
  have mw : (Value.type "method-wrapper" == Value.type "method" || Value.type "method-wrapper" == Value.type "builtin_function_or_method" || Value.type "method-wrapper" == Value.type "method-wrapper") = true := by decide
  simp only [kxs_mw, mw, if_true]
  refine KFB.if_so (by decide) (wpAny_bind (check_bound_init F.excBase_ValueError.toExcCallFacts cC cx rfl ?_))
  refine wpAny_bind (wpAny_pure (wpAny_pure ⟨plainId_quiet F.excBase_ValueError.init.plain _, codeAny_builtin F.excBase_ValueError.initEntry ?_⟩))
  rw [Around.under_plainId F.excBase_ValueError.init.plain _]
  wp_walk
  exact hq _ h.objs.size (fun b o hb ho => by rw [Heap.get?_update_other _ _ (Ne.symm hb)]; exact Heap.get?_push_of_some _ ho)
    (by rw [Heap.get?_update_self _ (Heap.get?_push_of_some _ cx) rfl]; rfl)
end
end SupX
end PySem
namespace PySem
namespace SupX
open PySem.W PySem.Calls PyProof.Rows PySem.HandSPX
/-- def __init__(self, f): super().__init__('..'); self.f = f -/
def sB (fld txt : Str) (kk : Nat) (p0 p1 p2 p3 p4 p5 p6 p7 p8 p9 : Pos) : List Stmt :=
  [.Expr (.Call (.Attribute (.Call (.Name "super" p0) [] [] p1) "__init__" p2) [.Constant (.str txt) kk p3] [] p4) p5, .Assign [.Attribute (.Name "self" p6) fld p7] (.Name fld p8) p9]
def sS (fld : Str) : Scope := { kind := .function, names := [(PySem.Str.ofString "self", .local), (fld, .local), (PySem.Str.ofString "__class__", .free), (PySem.Str.ofString "super", .globalImplicit)], isGenerator := false, isCoroutine := false, more := [] }
structure FldOk (fld : Str) : Prop where
  ks : (sS fld).names.lookup ("super" : Str) = some .globalImplicit
  kc : (sS fld).names.lookup ("__class__" : Str) = some .free
  ka : (sS fld).names.lookup ("self" : Str) = some .local
  kf : (sS fld).names.lookup fld = some .local
  db : (fld == ("__debug__" : Str)) = false
  nes : fld ≠ ("self" : Str)
/-- what the written part says of the class at C and of the __init__ at fI, written in the class at D -/
structure SupTxt (P : Program) (K : Frag) (mg : Str → Option Value) (nm : Str) (C D fI : Addr) (fld : Str) : Prop where
  gC : mg nm = some (.ref C)
  gS : mg "super" = none
  cls : ∃ nm q N bs bm sn sub ab col dd k0 k1 k2 k3 k5, K.lookup C = some (excClassObj nm q C N bs bm true sn sub ab col dd k0 k1 k2 k3 k5 "ValueError.__new__") ∧ refsVE bm = true
  sa : findIn K (.ref C) "__setattr__" = some (some (.builtin "object.__setattr__"))
  ga : findIn K (.ref C) "__getattribute__" = some (some (.builtin "BaseException.__getattribute__"))
  gg : findIn K (.ref C) "__getattr__" = some none
  noN : findIn K (.ref C) fld = some none
  iC : findIn K (.ref C) "__init__" = some (some (.ref fI))
  tC : typeIn K (.ref fI) = some (.type "function")
  kC : keepIn K (.ref C) = true
  exC : subIn K (.ref C) (.type "BaseException") = some true
  tyC : typeIn K (.ref C) = some (.type "type")
  hdC : hasDictIn K C = true
  te : exmOne K (.ref C) (.ref C) = some true
  sup : ks_superIn K C D "__init__" = some (some (.builtin "ValueError.__init__"))
  opq : nsIn K cStatics "thirdparty.any" = some none
  vE : subIn K (.ref C) (.type "ValueError") = some true
  mroD : mroIn K C (.ref D) = some true
  clD : (clsIn K D).isSome = true
  fo : FldOk fld
  top : (P.main.scope.names.lookup ("super" : Str)).isSome = false
  fn : ∃ (qual txt : Str) (params : Arguments) (oc kV doc pm ct ccl cl : Value) (od an cdd cld : Option Addr) (osl ccs csl : Array (Option Value)) (cda cc : Addr) (vs : Array Value) (file : Str) (tf : Tok) (ar : Arg) (kk : Nat) (p0 p1 p2 p3 p4 p5 p6 p7 p8 p9 : Pos),
    K.lookup fI = some ⟨oc, od, .func (ksFn "__init__" qual params (sB fld txt kk p0 p1 p2 p3 p4 p5 p6 p7 p8 p9) (sS fld) .none kV doc pm an (.ref cda) ct cc), osl⟩ ∧ codeIn K (.ref cda) qual = true ∧
    K.lookup cda = some ⟨ccl, cdd, .fields vs, ccs⟩ ∧ vs[2]? = some (.str file tf) ∧ ((P.main.file : Str) == file) = true ∧ K.lookup cc = some ⟨cl, cld, .cell (some (.ref D)), csl⟩ ∧
    (params.posonlyargs ++ params.args).head? = some ar ∧ ar.arg = "self" ∧ (p2.endLine == p4.line) = true ∧
    (∀ (s : Shared) (x v : Value), BindsTo s (ksFn "__init__" qual params (sB fld txt kk p0 p1 p2 p3 p4 p5 p6 p7 p8 p9) (sS fld) .none kV doc pm an (.ref cda) ct cc) ⟨[x, v], []⟩ [("self", x), (fld, v)])
/-- what __init__ leaves of a fresh exception at x -/
structure SupEnd (fld : Str) (h h' : Heap) (x C dx t1 : Addr) (v : Value) : Prop where
  keep : ∀ b o, b ≠ x → h.get? b = some o → h'.get? b = some o
  obj : h'.get? x = some { cls := .ref C, dict := some dx, data := .fields #[.ref t1, .none, .none, .none, .bool false, .none] }
  dbig : h.objs.size ≤ dx
  dne : dx ≠ x
  ns : h'.Ns1 dx (fun y => if y = fld then some v else none)
structure SupMade (fld : Str) (h h' : Heap) (e C d : Addr) (v : Value) : Prop where
  keep : ∀ b o, h.get? b = some o → h'.get? b = some o
  new : h.objs.size ≤ e
  obj : ∃ oe vs, h'.get? e = some oe ∧ oe.cls = .ref C ∧ oe.dict = some d ∧ oe.data = .fields vs ∧ vs[1]? = some .none
  dbig : h.objs.size ≤ d
  dne : d ≠ e
  ns : h'.Ns1 d (fun y => if y = fld then some v else none)
section
variable {prog : Program} {w : World} {A : Around} {E : Value → Shared → Prop} {R : Result → Shared → Prop} {s : Shared} {K : Frag} {mg mb : Str → Option Value} {C D fI : Addr} {nm fld : Str}
theorem sup_init (T : SupTxt prog K mg nm C D fI fld) {x t0 : Addr} {v : Value} (X : K.In s.heap) (hg : s.heap.Ns mainGlobals mg) (hb : s.heap.Ns builtinsNs mb) (hbs : mb "super" = some (.type "super")) (hlim : s.heap.NoLimit)
    (hx : s.heap.get? x = some (excO C t0)) (hnx : K.lookup x = none) (hroom : A.depth < recursionLimit)
    (hq : ∀ h' tk dx t1, SupEnd fld s.heap h' x C dx t1 v → R (.ok (.ret .none)) { s with heap := h', toks := tk }) :
    codeAny (model prog w) A (.call (.ref fI) ⟨[.ref x, v], []⟩) R s := by
  obtain ⟨qual, txt, params, oc, kV, doc, pm, ct, ccl, cl, od, an, cdd, cld, osl, ccs, csl, cda, cc, vs, file, tf, ar, kk, p0, p1, p2, p3, p4, p5, p6, p7, p8, p9, ho, hcd, hcode, hvs, hfile, hcell, hp, har, hline, hbind⟩ := T.fn
  obtain ⟨nmC, q, N, bs, bm, sn, sub, ab, col, dd, k0, k1, k2, k3, k5, hC, hbm⟩ := T.cls
  have hcl : clsIn K C = some { name := nmC, bases := bs, mro := .ref C :: bm, ns := N, qualname := q, hasDict := true, slotNames := sn, subclasses := sub, abstract := ab, collection := col, hasDel := false } := by unfold clsIn; rw [hC] <;> rfl
  obtain ⟨cdD, hclD⟩ := Option.isSome_iff_exists.mp T.clD
  refine ks_codeAny_call_defAt (body := sB fld txt kk p0 p1 p2 p3 p4 p5 p6 p7 p8 p9) hroom (X _ _ ho) rfl hlim (codeRec_of X hcd) rfl (hbind s (.ref x) v) (by intro y hy; simp [ksFn, fnX, sS] at hy; rcases hy with h | h | h | h <;> (rw [h]; simp)) (fun y hy => ?_) (fun h₁ hns hk => ?_) rfl rfl rfl
  · simp at hy
    rcases hy with h | h
    · rw [h]; exact T.fo.ka
    · rw [h]; exact T.fo.kf
  obtain ⟨hh, g, dr, tk, os⟩ := s
  have k : ∀ b o, hh.get? b = some o → h₁.get? b = some o := hk
  have X₁ : K.In h₁ := X.keeps k
  have hx₁ := k _ _ hx
  have lx := Heap.lt_size hx
  have hself : (fun y => List.lookup y ([(PySem.Str.ofString "self", Value.ref x), (fld, v)] : List (Str × Value)).reverse) ("self" : Str) = some (.ref x) := by
    have : (("self" : Str) == fld) = false := by simpa using (Ne.symm T.fo.nes)
    simp [List.lookup, this]
  have hfv : (fun y => List.lookup y ([(PySem.Str.ofString "self", Value.ref x), (fld, v)] : List (Str × Value)).reverse) fld = some v := by
    simp [List.lookup]
  obtain ⟨oD, hD1, hD2⟩ : ∃ oD, h₁.get? D = some oD ∧ oD.data = .cls cdD := by
    unfold clsIn at hclD
    split at hclD
    · rename_i c d cd' sl ho
      cases hclD
      exact ⟨_, X₁ _ _ ho, rfl⟩
    · cases hclD
  have I₁ : InstAt h₁ x (excO C t0) C none := ⟨hx₁, rfl, rfl, trivial⟩
  have hpos : ∀ few o env, methodCallPos few o env p2 p4 = pure p4 := by intro few o env; unfold methodCallPos; simp [hline]
  have he : eval (.Call (.Attribute (.Call (.Name "super" p0) [] [] p1) "__init__" p2) [.Constant (.str txt) kk p3] [] p4) (ksEnv qual (sS fld) hh.objs.size fI (.ref cda) cc) = (do
      let ov ← attributeBase (.Call (.Name "super" p0) [] [] p1) "__init__" (ksEnv qual (sS fld) hh.objs.size fI (.ref cda) cc) (eval (.Call (.Name "super" p0) [] [] p1) (ksEnv qual (sS fld) hh.objs.size fI (.ref cda) cc))
      standAt p2.atName
      let (f, first) ← holding [ov] (getMethod ov "__init__" (do return (← importBound (.Call (.Name "super" p0) [] [] p1) (ksEnv qual (sS fld) hh.objs.size fI (.ref cda) cc)).getD true))
      let cp ← methodCallPos true (.Call (.Name "super" p0) [] [] p1) (ksEnv qual (sS fld) hh.objs.size fI (.ref cda) cc) p2 p4
      callWith cp f first (backTo p4 (starEach [.Constant (.str txt) kk p3] (ksEnv qual (sS fld) hh.objs.size fI (.ref cda) cc))) []) := by rfl
  simp only [hpos, pure_bind] at he
  refine ks_wpAt_execs_cons (ks_wpAt_Expr_any (ks_wpAt_MethodCall (pl := do return (← importBound (.Call (.Name "super" p0) [] [] p1) (ksEnv qual (sS fld) hh.objs.size fI (.ref cda) cc)).getD true) ?_ he))
  refine ks_wpAt_super_base (env := ksEnv qual (sS fld) hh.objs.size fI (.ref cda) cc) T.fo.ks T.fo.kc (by decide) rfl (X₁ _ _ ho) rfl hp rfl (X₁ _ _ hcode) rfl hvs hfile T.top ?_
  refine ks_loadName_global (env := ksEnv qual (sS fld) hh.objs.size fI (.ref cda) cc) rfl T.fo.ks (loadGlobal_builtin (env := ksEnv qual (sS fld) hh.objs.size fI (.ref cda) cc) (hg.keeps k) T.gS (hb.keeps k) hbs ⟨rfl, ?_⟩)
  refine wpAny_loadName_free rfl T.fo.kc rfl ⟨_, X₁ _ _ hcell, rfl⟩ ?_
  rw [har]
  refine wpAny_loadName_local rfl T.fo.ka hns hself ?_
  refine ks_wpAny_isType_cls hD1 hD2 ⟨rfl, ?_⟩
  refine ks_wpAny_call_super hD1 hD2 hx₁ rfl (fun c e => by cases e) (looks_mroIn X₁ T.mroD) (fun h₂ hso k₂ => ?_)
  have X₂ : K.In h₂ := X₁.keeps k₂
  have hx₂ := k₂ _ _ hx₁
  have I₂ : InstAt h₂ x (excO C t0) C none := ⟨hx₂, rfl, rfl, trivial⟩
  have hI : Looks (model prog w) h₂ (isInstance (.ref x) (.type "ValueError")) true := I₂.type.andThen (looks_subIn X₂ T.vE)
  refine kxs_getMethod kxs_ValueError hso (looks_opaque X₂ T.opq) (l₀ := .ref C :: bm) ?_ rfl X₂ (by have := T.sup; unfold ks_superIn at this; rw [hcl] at this; exact this) hI (ks_ne X₂ I₂ hcl) (by decide) ?_
  · exact fun A Q E s k q => wpAny_bind ((looks_clsIn X₂ hcl) A _ E s k (wpAny_pure q))
  have lus : ([Value.str txt (tk + [(PySem.Str.ofString "self", Value.ref x), (fld, v)].length + 1)] : List Value).length ≤ sizeLine := by
    rw [sizeLine_eq]
    exact (by decide : 1 ≤ 16777216)
  have kmw : ∀ b o, h₂.get? b = some o → (h₂.push (kxs_mw "ValueError.__init__" x)).get? b = some o := fun b o e => Heap.get?_push_of_some _ e
  have hmw : (h₂.push (kxs_mw "ValueError.__init__" x)).get? h₂.objs.size = some (kxs_mw "ValueError.__init__" x) := Heap.get?_push_at rfl rfl
  refine kxs_callWith (i := "ValueError.__init__") (x := x) rfl (evalArgs_plain ?_)
  show wpAny _ _ (spliced [(false, eval (.Constant (.str txt) kk p3) _)]) _ _ _
  refine spliced_cons ?_
  refine wpAny_Constant_str ?_
  refine spliced_nil ⟨hmw, ?_⟩
  refine sup_wrap (kmw _ _ (X₂ _ _ hC)) (kmw _ _ hx₂) hmw lus (fun h₃ t1 k₃ hx₃ => ?_)
  refine wpAt_of_wpAny ?_
  have z : ∀ b o, b ≠ x → h₁.get? b = some o → h₃.get? b = some o := fun b o hb e => k₃ b o hb (kmw _ _ (k₂ _ _ e))
  have X₃ : K.In h₃ := fun a o e => z a o (fun q => by rw [q, hnx] at e; cases e) (X₁ a o e)
  have hns₃ : h₃.Ns hh.objs.size (fun y => List.lookup y ([(PySem.Str.ofString "self", Value.ref x), (fld, v)] : List (Str × Value)).reverse) := by
    obtain ⟨o, es, ep, e, r⟩ := hns
    exact ⟨o, es, ep, z _ _ (Nat.ne_of_gt lx) e, r⟩
  refine wpAny_execs_cons (plainObj_wpAny_Assign_Attribute ?_)
  refine wpAny_Name (wpAny_loadName_local rfl T.fo.kf hns₃ hfv ?_) T.fo.db
  refine wpAny_Name (wpAny_loadName_local rfl T.fo.ka hns₃ hself ?_) (by decide)
  refine set_plain X₃ (ox := excO C t1) (od := none) ⟨hx₃, rfl, rfl, trivial⟩ T.sa ?_
  refine exc_osa X₃ hx₃ hcl (show refsVE (.ref C :: bm) = true from hbm) rfl T.noN (fun h₄ tk₄ dx k₄ dn dne hx₄ hn₄ => ?_)
  refine wpAny_execs_nil (hq h₄ tk₄ dx t1 ⟨fun b o hb e => k₄ b o hb (z b o hb (k b o e)), hx₄, Nat.le_of_lt (Nat.lt_of_lt_of_le hns₃.lt dn), dne, hn₄⟩)
theorem one_size (v : Value) : [v].length ≤ sizeLine := by
  rw [sizeLine_eq]
  exact (by decide : 1 ≤ 16777216)
theorem sup_made (T : SupTxt prog K mg nm C D fI fld) {v : Value} (X : K.In s.heap) (hg : s.heap.Ns mainGlobals mg) (hb : s.heap.Ns builtinsNs mb) (hbs : mb "super" = some (.type "super")) (hlim : s.heap.NoLimit) (hroom : A.depth + 1 < recursionLimit)
    (hq : ∀ h' tk e d, SupMade fld s.heap h' e C d v → R (.ok (.ret (.ref e))) { s with heap := h', toks := tk }) :
    codeAny (model prog w) A (.call (.ref C) ⟨[v], []⟩) R s := by
  obtain ⟨nmC, q, N, bs, bm, sn, sub, ab, col, dd, k0, k1, k2, k3, k5, hC, hbm⟩ := T.cls
  obtain ⟨hp, g, dr, tk, os⟩ := s
  have k : ∀ b o, hp.get? b = some o → ((hp.push (kdv_tup [v])).push (excO C hp.objs.size)).get? b = some o := fun b o e => Heap.get?_push_of_some _ (Heap.get?_push_of_some _ e)
  have hget : ((hp.push (kdv_tup [v])).push (excO C hp.objs.size)).get? (hp.objs.size + 1) = some (excO C hp.objs.size) := by heap_get
  have hnx : K.lookup (hp.objs.size + 1) = none := by
    cases e : K.lookup (hp.objs.size + 1) with
    | none => rfl
    | some o =>
      have z : hp.get? (hp.objs.size + 1) = some o := X _ _ e
      exact absurd (Nat.lt_of_succ_lt (Heap.lt_size z)) (Nat.lt_irrefl _)
  refine call_own F.excBase_ValueError (fun X => refsVE_contains X bm hbm) (X _ _ hC) (looks_findIn X T.iC) (fun self => bind_fn X self T.tC) (one_size v) ?_
  refine sup_init (s := ⟨(hp.push (kdv_tup [v])).push (excO C hp.objs.size), g, dr, tk, os⟩) T (X.keeps k) (hg.keeps k) (hb.keeps k) hbs (hlim.keeps k) hget hnx ?_ fun h' tk' dx t1 ⟨k', hx, dn, dne, hns⟩ => ?_
  · show A.depth + 1 < recursionLimit
    exact hroom
  · have old : ∀ b o, hp.get? b = some o → h'.get? b = some o := fun b o e => k' b o (Nat.ne_of_lt (Nat.lt_succ_of_lt (Heap.lt_size e))) (k b o e)
    have z : hp.objs.size + 1 + 1 ≤ dx := by
      first
        | (simpa only [Heap.size_push] using dn)
        | exact dn
        | (have q := dn; rw [Heap.size_push, Heap.size_push] at q; exact q)
    exact ⟨rfl, hq h' tk' (hp.objs.size + 1) dx ⟨old, Nat.le_succ _, ⟨_, _, hx, rfl, rfl, rfl, rfl⟩, Nat.le_trans (Nat.le_trans (Nat.le_succ _) (Nat.le_succ _)) z, dne, hns⟩⟩
end
end SupX
end PySem

namespace L2
open PySem PySem.Spec PyProof.Rows PySem.SupX
theorem relO_fld {fld : Str} {v : V} {v' : Value} (r : RelV v v') (f : Str) : RelO (List.lookup f [((fld : Str), v)]) (if f = fld then some v' else none) := by
  by_cases hw : f = fld
  · subst hw
    rw [if_pos rfl]
    have q : List.lookup f [((f : Str), v)] = some v := by simp [List.lookup]
    rw [q]
    exact r
  · rw [if_neg hw]
    have qw : (f == fld) = false := by simpa using hw
    have q2 : List.lookup f [((fld : Str), v)] = none := by simp [List.lookup, qw]
    rw [q2]
    trivial
section
variable {X : Cx} {C D fI : Addr} {nm fld : Str}
/-- X(e): an own error with one field -/
def tMk1 (C : Addr) (fld : Str) (ta : TA) : St → Hp → XK → Prop := fun σ H Q => ta σ H fun vs H1 => ∃ v, vs = [v] ∧ ∀ d, H1 d = none → Q (.ref C) (some d) (upd H1 d (.xd [((fld : Str), v)]))
theorem pmk_sup {a : Expr} {ta : TA} {p pos : Pos} {k : Nat} (T : SupTxt X.prog X.K X.mg nm C D fI fld) (hr : Room k X.A) (ha : PA X [a] ta) (hdb : (nm == ("__debug__" : Str)) = false := by decide) (hg : Gl X nm := by rfl)
    (he : starEach (a :: []) X.env = (false, eval a X.env) :: starEach [] X.env := by rfl) (hpl : (backTo pos (starEach [] X.env)).any (·.1) = false := by rfl) :
    PMk X (.Call (.Name nm p) [a] [] pos) (tMk1 C fld ta) := by
  intro pins s σ H Q I h
  refine wpAny_Call_Name_kw (ld_glob I hg T.gC ?_ (hd := hdb))
  refine PySem.W.callWith_K (h₀ := X.base) I.ok.mod.kin T.kC (thn (ha.run pos pins s σ H _ I h) fun us s1 hh => ?_) he hpl
  obtain ⟨vs, H1, I1, r1, v, ev, q1⟩ := hh
  subst ev
  refine ⟨I1.kIn, ?_⟩
  cases r1 with
  | cons rv rn =>
    rename_i v' us'
    cases rn
    show wpAny _ _ (call (.ref C) [v']) _ _ _
    have hlim := I1.nolimit
    have hgl := I1.mod.glob.keeps I1.bk
    obtain ⟨mb, hbl, hbe⟩ := I1.mod.blt
    have hbl := hbl.keeps I1.bk
    have hbs : mb "super" = some (.type "super") := (hbe _ (by decide)).trans (by kernel_rfl)
    obtain ⟨hp, g, dr, tk, os⟩ := s1
    refine wpAny_call (sup_made T I1.kIn hgl hbl hbs hlim (by have := hr.dp; omega) fun h' tk' e d M => ?_)
    show MkP X pins σ Q (.ref e) ⟨h', g, dr, tk', os⟩
    obtain ⟨oe, fv, hoe, hc, hd, hdat, h1⟩ := M.obj
    have hns := M.ns
    obtain ⟨G', g1, g2⟩ := restrict h' fun b => decide (b ≠ e)
    have gk : ∀ b, b ≠ e → G'.get? b = h'.get? b := fun b hb => g1 b (decide_eq_true hb)
    have ge : G'.get? e = none := g2 e (by simp)
    have old : ∀ b o, hp.get? b = some o → G'.get? b = some o := fun b o q => (gk b (Nat.ne_of_lt (Nat.lt_of_lt_of_le (Heap.lt_size q) M.new))).trans (M.keep b o q)
    have ob : ObjOk X.prog X.w (upd H1 d (.xd [((fld : Str), v)])) G' d (.xd [((fld : Str), v)]) :=
      ⟨_, hns.at (fun o q => (gk d M.dne).trans q), fun f => relO_fld rv f⟩
    have J : Inv X pins σ (upd H1 d (.xd [((fld : Str), v)])) ⟨G', g, dr, tk', os⟩ := I1.laid (t' := tk') old M.dbig ob
    refine ⟨e, oe, fv, ⟨G', g, dr, tk', os⟩, _, .ref C, some d, rfl, J, fun b o q => ?_, ge, hoe, ⟨hc, hd⟩, hdat, h1, ?_, rfl, I1.bare, raises_own T.exC T.tyC, q1 d (I1.hok.fresh M.dbig)⟩
    · by_cases hb : b = e
      · have q' : G'.get? b = some o := q
        rw [hb, ge] at q'; cases q'
      · exact (gk b hb).symm.trans q
    · rw [upd_ne (Ne.symm M.dne)]
      exact I1.hok.fresh M.new
/-- raise X(e) -/
def tRaise1 (C : Addr) (fld : Str) (W : WX) (ta : TA) : TS := fun _ σ H => tMk1 C fld ta σ H fun cls d H' => W cls d σ H'
theorem ps_raise1 {a : Expr} {ta : TA} {W : WX} {p pos pos2 : Pos} {k : Nat} (hc : X.calm = true) (T : SupTxt X.prog X.K X.mg nm C D fI fld) (hr : Room k X.A) (tk : Takes X W) (ha : PA X [a] ta) (hdb : (nm == ("__debug__" : Str)) = false := by decide) (hg : Gl X nm := by rfl)
    (he : starEach (a :: []) X.env = (false, eval a X.env) :: starEach [] X.env := by rfl) (hpl : (backTo pos (starEach [] X.env)).any (·.1) = false := by rfl) :
    PS X (.Raise (some (.Call (.Name nm p) [a] [] pos)) none pos2) (tRaise1 C fld W ta) := ps_raise hc tk (pmk_sup T hr ha hdb hg he hpl)
/-- what the class at D of a held error says, so that its field is read -/
structure ExcF (K : PySem.W.Frag) (D : Addr) (fld : Str) : Prop where
  ga : PySem.W.findIn K (.ref D) "__getattribute__" = some (some (.builtin "BaseException.__getattribute__"))
  gg : PySem.W.findIn K (.ref D) "__getattr__" = some none
  ex : PySem.W.subIn K (.ref D) (.type "BaseException") = some true
  hd : PySem.W.hasDictIn K D = true
  no : PySem.W.findIn K (.ref D) fld = some none
/-- e.fld, e the exception that the suite holds (at a; its class cls, its dict d) -/
def tFldE (K : PySem.W.Frag) (fld : Str) (a : Addr) (cls : Value) (d : Option Addr) (te : TE) : TE := fun σ H Q => te σ H fun x H1 => x = .ref a ∧ ∃ (C dd : Addr) (fs : List (Str × V)) (v : V), cls = .ref C ∧ ExcF K C fld ∧ d = some dd ∧ H1 dd = some (.xd fs) ∧ fs.lookup fld = some v ∧ Q v H1
theorem pe_fldE {a : Addr} {oe : Obj} {cls : Value} {d : Option Addr} {pn : List (Addr × Obj)} {e : Expr} {te : TE} {pos : Pos} (hz : Zc cls d oe) (hf : ∃ vs, oe.data = .fields vs) (he : PE (X.suite a ((a, oe) :: pn)) e te)
    (hb : attributeBase e fld X.env (eval e X.env) = eval e X.env := by rfl) :
    PE (X.suite a ((a, oe) :: pn)) (.Attribute e fld pos) (tFldE X.K fld a cls d te) := by
  refine ⟨fun pins s σ H Q I h => ?_⟩
  refine attr_of hb (thn (he.run pins s σ H _ I h) fun u s1 hh => ?_)
  obtain ⟨x, H1, I1, rx, ex, C, dd, fs, v, ec, T, ed, ea, ef, q⟩ := hh
  subst ex
  obtain rfl : u = Value.ref a := rx
  subst ec
  subst ed
  obtain ⟨ha, _⟩ := I1.pin (a, oe) (List.mem_append_left _ List.mem_cons_self)
  obtain ⟨vs, hd⟩ := hf
  have hx : ObjOk X.prog X.w H1 s1.heap dd (.xd fs) := I1.hok dd _ ea
  obtain ⟨mA, hns, hr⟩ := hx
  obtain ⟨od, ho, hl⟩ := lookIn_ns hns
  obtain ⟨u, hu, ru⟩ := RelO.some_of (v := v) (o := mA fld) (by rw [← ef]; exact hr fld)
  have J : PySem.W.InstAt s1.heap a oe C (some od) := ⟨ha, hz.1, by unfold PySem.W.notCls; rw [hd] <;> rfl, by rw [hz.2]; exact ho⟩
  exact HandSPX.exc_get I1.kIn J T.ga T.gg T.ex (PySem.W.findObj_own T.hd T.no rfl (by rw [hl, hu])) (handed_of ru) ⟨v, H1, I1.tok _, ru, q⟩
/-- isinstance(e, c), e the exception that the suite holds, with a dict of its own -/
def rIsD (K : PySem.W.Frag) (a : Addr) (cls : Value) (d : Option Addr) : List V → Hp → VK → Prop := fun xs H Q =>
  ∃ (c : V) (cv : Value) (b : Bool) (C dd : Addr) (fs : List (Str × V)), xs = [.ref a, c] ∧ (∀ u, RelV c u → u = cv) ∧ cls = .ref C ∧ ExcC K C ∧ d = some dd ∧ H dd = some (.xd fs) ∧ PySem.W.kitOne K (.ref C) cv = some b ∧ Q (.bl b) H
theorem call_isD {a : Addr} {cls : Value} {d : Option Addr} {oe : Obj} {pn : List (Addr × Obj)} (hz : Zc cls d oe) (hf : ∃ vs, oe.data = .fields vs) : CallR (X.suite a ((a, oe) :: pn)) (.builtin "isinstance") (rIsD X.K a cls d) := by
  intro pins s σ H xs us Q I r h
  obtain ⟨c, cv, b, D, dd, fs, rfl, hcv, ec, T, ed, ea, e, q⟩ := h
  subst ec
  subst ed
  cases r with
  | cons rx rr =>
    cases rr with
    | cons rt rr =>
      cases rr
      cases rx
      have ec := hcv _ rt
      subst ec
      obtain ⟨ha, _⟩ := I.pin (a, oe) (List.mem_append_left _ List.mem_cons_self)
      obtain ⟨vs, hd⟩ := hf
      have hx : ObjOk X.prog X.w H s.heap dd (.xd fs) := I.hok dd _ ea
      obtain ⟨mA, hns, hr⟩ := hx
      obtain ⟨od, ho, hl⟩ := lookIn_ns hns
      have J : PySem.W.InstAt s.heap a oe D (some od) := ⟨ha, hz.1, by unfold PySem.W.notCls; rw [hd] <;> rfl, by rw [hz.2]; exact ho⟩
      have cl : (PySem.W.clsIn X.K D).isSome = true := by obtain ⟨cd, hc, _⟩ := PySem.W.any_some T.hd; rw [hc]; rfl
      exact PySem.W.kia_one (PySem.W.kitx_exc (gt := none) cl T.hg T.hk T.hs T.ha T.hn T.ht T.hm) I.kIn J e (fun z => nomatch z) fun tk => ⟨.bl b, H, I.kept (t' := tk) fun _ _ z => z, rfl, q⟩
end
end L2

namespace L2
open PySem PySem.Spec PyProof.Rows PySem.SupX
section
variable {X : Cx} {x n : Str} {c : Value} {i : Nat} {body suite : List Stmt} {b₀ : Stmt} {np pos pos' : Pos} {Wout : WX}
theorem ps_try_as1 (hs : X.stack = X.env :: X.outer) (hf : X.env.frame = some X.env.locals) (hN : X.N.Nodup) (hi : X.N[i]? = some n) (hln : X.env.kindOf n = some .local) (hc : Names X x c) (tk : Takes X Wout)
    (kb : ∀ W : WX, {t : TS // ∀ (pn : List (Addr × Obj)) (xe : Value → Shared → Prop), Takes (X.tr pn xe) W → PassesOwn (model X.prog X.w) X.A X.env xe → PSs (X.tr pn xe) body t})
    (ks : ∀ (a : Addr) (cls : Value) (d : Option Addr), {t : TS // ∀ (oe : Obj) (pn : List (Addr × Obj)), Zc cls d oe → (∃ vs, oe.data = .fields vs) → PSs (X.suite a ((a, oe) :: pn)) (b₀ :: suite) t}) {t : TS} (ht : (fun D σ H => (kb (wAs X.K c i (fun a cls d => (ks a cls d).1) Wout D)).1 D σ H) = t) :
    PS X (.Try body [.ExceptHandler (some (.Name x np)) (some n) (b₀ :: suite) pos'] [] [] pos) t := by
  rw [← ht]
  exact ps_try_as (tb := fun W => (kb W).1) (ts := fun a cls d => (ks a cls d).1) hs hf hN hi hln hc tk (fun W pn xe a b => (kb W).2 pn xe a b) (fun a oe cls d pn h1 h2 => (ks a cls d).2 oe pn h1 h2)
theorem ps_try_only1 (hs : X.stack = X.env :: X.outer) (hf : X.env.frame = some X.env.locals) (hc : Names X x c) (tk : Takes X Wout)
    (kb : ∀ W : WX, {t : TS // ∀ (pn : List (Addr × Obj)) (xe : Value → Shared → Prop), Takes (X.tr pn xe) W → PassesOwn (model X.prog X.w) X.A X.env xe → PSs (X.tr pn xe) body t})
    (ks : ∀ (a : Addr) (cls : Value) (d : Option Addr), {t : TS // ∀ (oe : Obj) (pn : List (Addr × Obj)), Zc cls d oe → (∃ vs, oe.data = .fields vs) → PSs (X.suite a ((a, oe) :: pn)) (b₀ :: suite) t}) {t : TS} (ht : (fun D σ H => (kb (wOnly X.K c (fun a cls d => (ks a cls d).1) Wout D)).1 D σ H) = t) :
    PS X (.Try body [.ExceptHandler (some (.Name x np)) none (b₀ :: suite) pos'] [] [] pos) t := by
  rw [← ht]
  exact ps_try_only (tb := fun W => (kb W).1) (ts := fun a cls d => (ks a cls d).1) hs hf hc tk (fun W pn xe a b => (kb W).2 pn xe a b) (fun a oe cls d pn h1 h2 => (ks a cls d).2 oe pn h1 h2)
end
theorem excF_of {P : Program} {K : PySem.W.Frag} {mg : Str → Option Value} {nm fld : Str} {C D fI : Addr} (T : SupTxt P K mg nm C D fI fld) : ExcF K C fld := ⟨T.ga, T.gg, T.exC, T.hdC, T.noN⟩
end L2

namespace L2
open PySem PySem.Spec PyProof.Rows
/-- an own def that may raise, called where it does not -/
theorem passN {X : Cx} : Passes (L2.CX X.prog X.w) X (fun _ _ _ => False) := fun _ _ _ _ _ _ _ h => by
  obtain ⟨_, _, _, _, _, _, _, _, _, _, _, _, z⟩ := h
  exact z.elim
theorem FnOk.or {P : Program} {w : World} {K : PySem.W.Frag} {mg : Str → Option Value} {base : Heap} {CX : CXT} {k : Nat} {f : Addr} {fd : FuncData} {ps : List Str} {sp sp' : Sp} (F : FnOk P w K mg base CX k f fd ps sp) (G : FnOk P w K mg base CX k f fd ps sp') :
    FnOk P w K mg base CX k f fd ps (fun vs H Q E => sp vs H Q E ∨ sp' vs H Q E) :=
  ⟨fun vs H Q E h => h.elim (F.len vs H Q E) (G.len vs H Q E), fun A outer s H args us vs Q E hr he hb hv h => h.elim (F.run A outer s H args us vs Q E hr he hb hv) (G.run A outer s H args us vs Q E hr he hb hv)⟩
section
variable {K : PySem.W.Frag} {C S : Addr} {b : Bool}
theorem cls_of (h : PySem.W.hasDictIn K C = true) : (PySem.W.clsIn K C).isSome = true := by
  obtain ⟨cd, hc, _⟩ := PySem.W.any_some h
  rw [hc]
  rfl
theorem kit_ref (hd : PySem.W.hasDictIn K S = true) (ht : PySem.W.typeIn K (.ref S) = some (.type "type")) (hC : PySem.W.subIn K (.ref C) (.ref C) = some true) (h : PySem.W.subIn K (.ref C) (.ref S) = some b) : PySem.W.kitOne K (.ref C) (.ref S) = some b := by
  have e2 : ((PySem.W.clsIn K S).isSome && PySem.W.typeIn K (.ref S) == some (.type "type")) = true := by rw [cls_of hd, ht]; rfl
  have e3 : PySem.W.kitCls K (.ref C) (.ref S) = some b := by
    show (if ((PySem.W.clsIn K S).isSome && PySem.W.typeIn K (.ref S) == some (.type "type")) = true then PySem.W.subIn K (.ref C) (.ref S) else none) = some b
    rw [if_pos e2]
    exact h
  unfold PySem.W.kitOne
  by_cases e : C = S
  · subst e
    rw [hC] at h
    cases h
    rw [if_pos (by simp)]
  · rw [if_neg (by simpa using e)]
    exact e3
theorem kit_type {T : String} (hm : PySem.W.kitMeta T = true) (h : PySem.W.subIn K (.ref C) (.type T) = some b) : PySem.W.kitOne K (.ref C) (.type T) = some b := by
  unfold PySem.W.kitOne PySem.W.kitCls
  rw [if_neg (by simp)]
  dsimp only
  rw [if_pos hm]
  exact h
end
end L2
namespace Cf
open PySem L2 PySem.Spec PyProof.Rows
section
variable {K : PySem.W.Frag} {w : World} {H : Hp} {σ : L2.St} {Q : VK}
/-! ## sequences that the top has written, or that stand in the heap -/
theorem kr_inS {p : Addr} {xs : List V} {x : V} {b : Bool} (h : SqT K H p xs) (f : flatV x = true) (g : xs.all flatV = true) (e : inV x xs = b) (q : Q (.bl b) H) : rInn K x (.ref p) H Q := by
  subst e; exact .inl ⟨p, xs, rfl, .inr h, f, g, q⟩
theorem kr_notInS {p : Addr} {xs : List V} {x : V} {b : Bool} (h : SqT K H p xs) (f : flatV x = true) (g : xs.all flatV = true) (e : inV x xs = b) (q : Q (.bl (!b)) H) : rNotInn K x (.ref p) H Q := by
  subst e; exact .inl ⟨p, xs, rfl, .inr h, f, g, q⟩
theorem kr_ixQ {p : Addr} {xs : List V} {i : Int} {v : V} (h : SqT K H p xs) (ha : atI xs i = some v) (q : Q v H) : rIxx K (.ref p) (.int i) H Q := .inl (.inr (.inl ⟨p, xs, i, v, rfl, rfl, h, ha, q⟩))
theorem kr_lenQ {p : Addr} {xs : List V} (h : SqT K H p xs) (q : Q (.int xs.length) H) : rLen K [.ref p] H Q := .inl ⟨p, xs, rfl, .inr h, q⟩
theorem sqT_ty {p : Addr} {xs : List V} (h : SqT K H p xs) : TyX K H (.ref p) (.type Kd.tup.name) := by
  rcases h with h | ⟨o, its, n, e, c, _⟩
  · rcases h with h | ⟨o, h⟩
    · exact .base (.tup h)
    · exact .fTuple h
  · exact .kTuple e c
theorem kr_isiQ {p : Addr} {xs : List V} (b : Kd) (h : SqT K H p xs) (q : Q (.bl (isk .tup b)) H) : rIsi K [.ref p, .ty b.name] H Q := ⟨.ref p, .ty b.name, _, _, _, rfl, .ty _, sqT_ty h, kit_ty (kit_isk .tup b), q⟩
theorem kr_ixKd {d : Addr} {z : Str} {v : V} (h : KDct K w d z v) (q : Q v H) : L2.rIxD K w (.ref d) (.str z) H Q := ⟨d, z, v, rfl, rfl, h, q⟩
theorem inV_strs {n : Str} : ∀ {ns : List Str}, inV (.str n) (ns.map V.str) = decide (n ∈ ns)
  | [] => rfl
  | m :: ns => by
    have ih := inV_strs (n := n) (ns := ns)
    unfold inV at ih ⊢
    rw [List.map_cons, List.any_cons, ih]
    show ((m == n) || decide (n ∈ ns)) = _
    by_cases e : m = n
    · subst e; simp
    · have e' : ¬ n = m := fun z => e z.symm
      simp [e, e']
theorem strs_flat : ∀ {ns : List Str}, (ns.map V.str).all flatV = true
  | [] => rfl
  | _ :: ns => by
    have ih := strs_flat (ns := ns)
    simp only [List.map_cons, List.all_cons, ih]
    rfl
/-! ## errors -/
theorem k_raise {C : Addr} {fld : Str} {W : WX} {ta : TA} {D : Ends} (h : ta σ H fun vs H1 => ∃ v, vs = [v] ∧ ∀ d, Fresh H1 d → W (.ref C) (some d) σ (upd H1 d (.xd [((fld : Str), v)]))) : tRaise1 C fld W ta D σ H := h
theorem k_ex1 {v : V} {R : V → Prop} (h : R v) : ∃ y, [v] = [y] ∧ R y := ⟨v, rfl, h⟩
theorem k_callS {sp : Sp} {E : L2.St → XK} {t : TA} (h : t σ H fun vs H1 => sp vs H1 Q (E σ)) : tCallS sp E t σ H Q := h
theorem k_as {c cls : Value} {i : Nat} {ts : Addr → Value → Option Addr → TS} {W : WX} {D : Ends} {d : Option Addr} (e : PySem.W.exmOne K cls c = some true)
    (h : ∀ a, Fresh H a → ts a cls d { nx := fun σ' H' => D.nx (σ'.set i none) H', rt := D.rt, bk := fun σ' H' => D.bk (σ'.set i none) H', ct := fun σ' H' => D.ct (σ'.set i none) H' } (σ.set i (some (.ref a))) H) : WE (wAs K c i ts W D) σ cls d H :=
  ⟨true, e, fun _ => h, fun z => by cases z⟩
theorem kr_isD {a C dd : Addr} {fs : List (Str × V)} {c : V} {cv : Value} {b : Bool} (t : ExcC K C) (h : H dd = some (.xd fs)) (hc : ∀ u, RelV c u → u = cv) (e : PySem.W.kitOne K (.ref C) cv = some b) (q : Q (.bl b) H) : rIsD K a (.ref C) (some dd) [.ref a, c] H Q :=
  ⟨c, cv, b, C, dd, fs, rfl, hc, rfl, t, rfl, h, e, q⟩
theorem k_fldE {fld : Str} {a C dd : Addr} {fs : List (Str × V)} {v : V} {te : TE} (t : ExcF K C fld) (l : fs.lookup fld = some v) (h : te σ H fun x H1 => x = .ref a ∧ H1 dd = some (.xd fs) ∧ Q v H1) (hm : ∀ (Q Q' : VK), (∀ x H1, Q x H1 → Q' x H1) → te σ H Q → te σ H Q') : tFldE K fld a (.ref C) (some dd) te σ H Q :=
  hm _ _ (fun x H1 ⟨h1, h2, h3⟩ => ⟨h1, C, dd, fs, v, rfl, t, rfl, h2, l, h3⟩) h
theorem k_fldV {fld : Str} {a C dd : Addr} {fs : List (Str × V)} {v : V} {i : Nat} (t : ExcF K C fld) (hv : σ[i]? = some (some (.ref a))) (l : fs.lookup fld = some v) (h : H dd = some (.xd fs)) (q : Q v H) : tFldE K fld a (.ref C) (some dd) (tVar i) σ H Q :=
  ⟨.ref a, hv, rfl, C, dd, fs, v, rfl, t, rfl, h, l, q⟩
/-! ## the place of a text in a list -/
def idxV (y : Str) : List V → Option Nat
  | [] => none
  | .str x :: r => if x = y then some 0 else (idxV y r).map (· + 1)
  | _ :: _ => none
theorem idxV_at {y : Str} : ∀ {xs : List V} {j : Nat}, idxV y xs = some j → xs[j]? = some (.str y) ∧ ∀ (m : Nat) (z : V), m < j → xs[m]? = some z → eqV z (.str y) = false
  | [], _, h => by cases h
  | .str x :: r, j, h => by
    unfold idxV at h
    by_cases e : x = y
    · rw [if_pos e] at h
      cases h
      subst e
      exact ⟨rfl, fun m z hm => absurd hm (Nat.not_lt_zero _)⟩
    · rw [if_neg e] at h
      cases q : idxV y r with
      | none => rw [q] at h; cases h
      | some k =>
        rw [q] at h
        cases h
        obtain ⟨h1, h2⟩ := idxV_at q
        refine ⟨by simpa using h1, fun m z hm hz => ?_⟩
        cases m with
        | zero =>
          cases (show some (V.str x) = some z from hz)
          show (x == y) = false
          simpa using e
        | succ m => exact h2 m z (Nat.lt_of_succ_lt_succ hm) (by simpa using hz)
  | .non :: _, _, h => by cases h
  | .bl _ :: _, _, h => by cases h
  | .int _ :: _, _, h => by cases h
  | .flt _ :: _, _, h => by cases h
  | .ref _ :: _, _, h => by cases h
  | .byt _ :: _, _, h => by cases h
  | .ty _ :: _, _, h => by cases h
theorem kr_index {p : Addr} {xs : List V} {y : Str} {j : Nat} (h : H p = some (.lst xs)) (g : xs.all flatV = true) (e : idxV y xs = some j) (q : Q (.int (j : Nat)) H) : rIndex K (.ref p) [.str y] H Q :=
  ⟨p, xs, .str y, j, .str y, rfl, rfl, SqL.of h, rfl, g, (idxV_at e).1, (by show (y == y) = true; simp), (idxV_at e).2, q⟩
theorem kr_index2 {p : Addr} {xs : List V} {y : Str} (h : H p = some (.lst xs)) (g : xs.all flatV = true) (e : (idxV y xs).isSome = true) (q : Q (.int (((idxV y xs).getD 0 : Nat))) H) : rIndex K (.ref p) [.str y] H Q := by
  obtain ⟨j, hj⟩ := Option.isSome_iff_exists.mp e
  rw [hj] at q
  exact kr_index h g hj q
theorem q_bl {b c : Bool} (e : c = b) (h : Q (.bl b) H) : Q (.bl c) H := e ▸ h
theorem kr_isiQ_bool {p : Addr} {xs : List V} (h : SqT K H p xs) (q : Q (.bl false) H) : rIsi K [.ref p, .ty "bool"] H Q := kr_isiQ .bl h q
theorem kr_isiQ_int {p : Addr} {xs : List V} (h : SqT K H p xs) (q : Q (.bl false) H) : rIsi K [.ref p, .ty "int"] H Q := kr_isiQ .int h q
theorem kr_isiQ_str {p : Addr} {xs : List V} (h : SqT K H p xs) (q : Q (.bl false) H) : rIsi K [.ref p, .ty "str"] H Q := kr_isiQ .str h q
theorem kr_isiQ_list {p : Addr} {xs : List V} (h : SqT K H p xs) (q : Q (.bl false) H) : rIsi K [.ref p, .ty "list"] H Q := kr_isiQ .lst h q
theorem kr_isiQ_tuple {p : Addr} {xs : List V} (h : SqT K H p xs) (q : Q (.bl true) H) : rIsi K [.ref p, .ty "tuple"] H Q := kr_isiQ .tup h q
theorem kr_isiQ_dict {p : Addr} {xs : List V} (h : SqT K H p xs) (q : Q (.bl false) H) : rIsi K [.ref p, .ty "dict"] H Q := kr_isiQ .dic h q
theorem sqT_keep {H' : Hp} {p : Addr} {xs : List V} (k : Keep [] H H') (h : SqT K H p xs) : SqT K H' p xs := by
  rcases h with h | h
  · rcases h with h | ⟨o, h⟩
    · exact .inl (.inl (k.at nin0 h))
    · exact .inl (.inr ⟨o, k.at nin0 h⟩)
  · exact .inr h
theorem at_strs {ns : List Str} {i : Int} (h0 : 0 ≤ i) (h : i < ns.length) : ∃ x, x ∈ ns ∧ atI (ns.map V.str) i = some (.str x) := by
  obtain ⟨v, hv, e⟩ := atI_lt (xs := ns.map V.str) h0 (by simpa using h)
  obtain ⟨x, hx, rfl⟩ := List.mem_map.mp hv
  exact ⟨x, hx, e⟩
theorem kr_slS {z : Str} {lo hi : Option Int} (h : z.length ≤ sizeLine) (q : Q (.str (cutS z lo hi)) H) : rSlS (.str z) lo hi H Q := ⟨z, rfl, h, q⟩
/-- a written tuple of texts, a tuple of the same texts -/
def spFlat (K : PySem.W.Frag) : Sp := fun vs H Q _ => ∃ (a b : Addr) (ns : List Str), vs = [.ref a, .ref b] ∧ SqT K H a (ns.map V.str) ∧ H b = some (.tup (ns.map V.str)) ∧ ns.length < 1000 ∧ ∀ H', Keep [] H H' → Q (.bl true) H'
def spSameF (K : PySem.W.Frag) (n : Nat) : Sp := fun vs H Q E => spSame n vs H Q E ∨ spFlat K vs H Q E
theorem Keep.trans' {H H1 : Hp} {p : Addr} {o : HO} (k : Keep [] (upd H p o) H1) (hp : Fresh H p) : Keep [] H H1 := fun b u n e => k b u n (get_new hp e)
end
end Cf

local macro_rules | `(tactic| walk_at "tr") => `(tactic| first
  | assumption
  | exact Cf.Tr.same
  | exact Cf.Tr.of (by assumption)
  | exact Cf.StAt.tp (by assumption)
  | exact Cf.StAt.tq (by assumption)
  | (refine Cf.Tr.up ?_; walk_at "tr")
  | (refine Cf.Tr.keep (by assumption) (by walk_at "nin") ?_; walk_at "tr"))
local macro_rules | `(tactic| walk_at "ne") => `(tactic| first
  | assumption
  | exact Ne.symm (by assumption)
  | exact Cf.ne_new (by assumption) (by walk_at "tr")
  | exact Cf.ne_new' (by assumption) (by walk_at "tr"))
local macro_rules | `(tactic| walk_at "nin") => `(tactic| first
  | exact Cf.nin0
  | (refine Cf.nin1 ?_; walk_at "ne")
  | (refine Cf.ninc ?a ?b; (case a => walk_at "ne"); (case b => walk_at "nin")))
local macro_rules | `(tactic| walk_at "hp") => `(tactic| first
  | assumption
  | exact L2.upd_same
  | (refine Cf.get_new (by assumption) ?_; walk_at "hp")
  | (refine Cf.get_ne (by walk_at "ne") ?_; walk_at "hp")
  | (refine Cf.Keep.at (by assumption) (by walk_at "nin") ?_; walk_at "hp"))
local macro_rules | `(tactic| walk_at "kd") => `(tactic| first
  | exact Cf.KdOf.non | exact Cf.KdOf.bl _ | exact Cf.KdOf.int _ | exact Cf.KdOf.str _
  | (exact Cf.KdOf.lst (by walk_at "hp")) | (exact Cf.KdOf.tup (by walk_at "hp")) | (exact Cf.KdOf.dic (by walk_at "hp")))
local macro_rules | `(tactic| walk_at "fr") => `(tactic| first
  | assumption
  | exact (Cf.upd_none (by assumption)).2
  | exact (Cf.upd_none (Cf.upd_none (by assumption)).2).2
  | exact (Cf.upd_none (Cf.upd_none (Cf.upd_none (by assumption)).2).2).2
  | exact (Cf.upd_none (Cf.upd_none (Cf.upd_none (Cf.upd_none (by assumption)).2).2).2).2
  | exact (Cf.upd_none (Cf.upd_none (Cf.upd_none (Cf.upd_none (Cf.upd_none (by assumption)).2).2).2).2).2
  | exact (Cf.upd_none (Cf.upd_none (Cf.upd_none (Cf.upd_none (Cf.upd_none (Cf.upd_none (by assumption)).2).2).2).2).2).2
  | exact (Cf.upd_none (Cf.upd_none (Cf.upd_none (Cf.upd_none (Cf.upd_none (Cf.upd_none (Cf.upd_none (by assumption)).2).2).2).2).2).2).2
  | exact (Cf.upd_none (Cf.upd_none (Cf.upd_none (Cf.upd_none (Cf.upd_none (Cf.upd_none (Cf.upd_none (Cf.upd_none (by assumption)).2).2).2).2).2).2).2).2
  | exact (Cf.upd_none (Cf.upd_none (Cf.upd_none (Cf.upd_none (Cf.upd_none (Cf.upd_none (Cf.upd_none (Cf.upd_none (Cf.upd_none (by assumption)).2).2).2).2).2).2).2).2).2)
local macro_rules | `(tactic| walk_at "sub") => `(tactic| first
  | (intro b hb; exact hb)
  | (simp; done)
  | (intro b hb; simp only [List.mem_cons, List.not_mem_nil, or_false] at hb ⊢; first | exact hb | (subst hb; simp) | (rcases hb with h | h <;> simp [h]) | (rcases hb with h | h | h <;> simp [h]) | (rcases hb with h | h | h | h <;> simp [h])))
local macro_rules | `(tactic| walk_at "kp") => `(tactic| first
  | exact Cf.Keep.refl _
  | assumption
  | (refine Cf.Keep.new ?_ (by assumption); walk_at "kp")
  | (refine Cf.Keep.mut ?_ (by first | (simp; done) | assumption); walk_at "kp")
  | (refine Cf.Keep.mutN ?_ (by walk_at "fr"); walk_at "kp")
  | (refine Cf.Keep.step (by assumption) (by walk_at "sub") ?_; walk_at "kp"))
local macro_rules | `(tactic| walk_at "side") => `(tactic| first
  | assumption
  | omega
  | (exact And.intro (by omega) (by omega))
  | rfl
  | decide
  | (exact Or.inr (by decide))
  | (exact Or.inl (by decide))
  | (exact Or.inl (by constructor <;> omega))
  | (exact Or.inr (by constructor <;> omega))
  | (exact And.intro (by first | assumption | decide | omega) (by first | assumption | decide | omega))
  | (exact And.intro (by omega) (by decide))
  | (exact And.intro (by decide) (And.intro (by decide) (by decide))))
local macro_rules | `(tactic| walk_at "gx1") => `(tactic| first
  | ((with_reducible refine' Cf.k_var ?e ?_); (case e => rfl))
  | (with_reducible refine' Cf.k_c ?_)
  | (with_reducible refine' Cf.k_op ?_)
  | (with_reducible refine' Cf.k_cons ?_)
  | (with_reducible refine' Cf.k_nil ?_)
  | (with_reducible refine' Cf.k_un ?_)
  | (with_reducible refine' Cf.k_call ?_)
  | (with_reducible refine' Cf.k_cb ?_)
  | (with_reducible refine' Cf.k_test ?_)
  | (with_reducible refine' Cf.k_tB ?_)
  | (with_reducible refine' Cf.k_tru ?_)
  | (with_reducible refine' Cf.k_ex ?_)
  | (with_reducible refine' Cf.k_exT ?_)
  | (with_reducible refine' Cf.k_exI ?_)
  | (with_reducible refine' Cf.k_exint ?_)
  | (with_reducible refine' Cf.k_and ?_)
  | (with_reducible refine' Cf.k_or ?_)
  | (with_reducible refine' Cf.k_not ?_)
  | (with_reducible refine' Cf.k_andV ?_)
  | (with_reducible refine' Cf.k_orV ?_)
  | (with_reducible refine' Cf.k_notV ?_)
  | (with_reducible refine' Cf.k_ifE ?_)
  | (with_reducible refine' Cf.k_tup ?_)
  | (with_reducible refine' Cf.k_lst ?_)
  | (with_reducible refine' Cf.k_asg ?_)
  | ((with_reducible refine' Cf.k_gname ?e ?_); (case e => ((try simp only [List.map_cons, List.map_nil, L2.wipe, List.set_cons_succ, List.set_cons_zero]); rfl)))
  | ((with_reducible refine' Cf.k_wipe ?e ?_); (case e => rfl))
  | (with_reducible refine' Cf.k_gsub ?_)
  | (with_reducible refine' Cf.k_ifs ?_)
  | (with_reducible refine' Cf.k_ret ?_)
  | (with_reducible refine' Cf.k_retN ?_)
  | (with_reducible refine' Cf.k_drop ?_)
  | (with_reducible refine' Cf.k_next ?_)
  | (with_reducible refine' Cf.k_for ?_)
  | (with_reducible refine' Cf.k_rng1 ?_)
  | (with_reducible refine' Cf.k_rng2 ?_)
  | (with_reducible refine' Cf.k_ilist ?_)
  | (with_reducible refine' Cf.k_itup ?_)
  | ((with_reducible refine' Cf.k_exrng ?c ?_); (case c => walk_at "side"))
  | ((with_reducible refine' Cf.k_exrng2 ?c ?_); (case c => walk_at "side"))
  | ((with_reducible refine' Cf.k_exlst ?c ?_); (case c => walk_at "hp"))
  | ((with_reducible refine' Cf.k_extup ?c ?_); (case c => walk_at "hp"))
  | (with_reducible refine' Cf.k_lc ?_)
  | (with_reducible refine' Cf.k_yes ?_)
  | (with_reducible refine' Cf.k_brk ?_)
  | (with_reducible refine' Cf.k_cont ?_)
  | (with_reducible refine' Cf.k_bm0 ?_)
  | (with_reducible refine' Cf.k_bm ?_)
  | (with_reducible refine' Cf.k_fld ?_)
  | (with_reducible refine' Cf.k_sfld ?_)
  | (with_reducible refine' Cf.k_prop ?_)
  | ((with_reducible refine' Cf.k_size ?h ?_); (case h => rfl))
  | (with_reducible refine' Cf.k_meth ?_)
  | (with_reducible refine' Cf.k_make ?_)
  | (with_reducible refine' Cf.k_disp ?_)
  | (with_reducible refine' Cf.k_pairs_nil ?_)
  | (with_reducible refine' Cf.k_pairs ?_)
  | ((with_reducible refine' Cf.kr_fld ?h ?c ?n ?l ?_); (case h => walk_at "hp"); (case c => assumption); (case n => assumption); (case l => walk_at "lk"))
  | ((with_reducible refine' Cf.kr_sfld ?h ?c ?n ?l ?e ?_); (case h => walk_at "hp"); (case c => assumption); (case n => assumption); (case l => walk_at "lk"); (case e => walk_at "lk"))
  | ((with_reducible refine' Cf.kr_meth ?h ?l ?_); (case h => walk_at "hp"); (case l => walk_at "lk"))
  | ((with_reducible refine' Cf.kr_prop ?h ?_); (case h => walk_at "hp"))
  | ((with_reducible refine' Cf.k_tyL ?h ?_); (case h => walk_at "hp"))
  | ((with_reducible refine' Cf.kr_append ?h ?l ?_); (case h => walk_at "hp"); (case l => walk_at "side"))
  | ((with_reducible refine' Cf.kr_pop0 ?h ?_); (case h => walk_at "hp"))
  | ((with_reducible refine' Cf.kr_inI ?h ?f ?g ?e ?_); (case h => walk_at "hp"); (case f => rfl); (case g => (first | exact Cf.ints_flat | rfl)); (case e => (first | exact Cf.inV_ints | rfl)))
  | ((with_reducible refine' Cf.kr_slL ?h ?_); (case h => walk_at "hp"))
  | (with_reducible refine' Cf.k_sl ?_)
  | (with_reducible refine' Cf.k_nopart ?_)
  | (with_reducible refine' Cf.k_part ?_)
  | (with_reducible refine' Cf.kr_I0 ?_)
  | ((with_reducible refine' Cf.kr_I ?c ?_); (case c => walk_at "side"))
  | (with_reducible refine' Cf.kr_U ?_)
  | (with_reducible refine' Cf.kr_plus ?_)
  | ((with_reducible refine' Cf.kr_times ?c ?_); (case c => walk_at "side"))
  | ((with_reducible refine' Cf.kr_eq ?c ?_); (case c => rfl))
  | ((with_reducible refine' Cf.kr_ne ?c ?_); (case c => rfl))
  | ((with_reducible refine' Cf.kr_ixL ?h ?a ?_); (case h => walk_at "hp"); (case a => (first | rfl | exact Cf.atI_zero | exact L2.atI_last _ _)))
  | ((with_reducible refine' Cf.kr_ixT ?h ?a ?_); (case h => walk_at "hp"); (case a => (first | rfl | exact Cf.atI_zero | exact L2.atI_last _ _)))
  | ((with_reducible refine' Cf.kr_ixD ?h ?a ?_); (case h => walk_at "hp"); (case a => walk_at "lk"))
  | ((with_reducible refine' Cf.kr_setD ?h ?l ?e ?_); (case h => walk_at "hp"); (case l => walk_at "lk"); (case e => walk_at "lk"))
  | ((with_reducible refine' Cf.kr_setL ?h ?a ?e ?_); (case h => walk_at "hp"); (case a => rfl); (case e => ((try simp only [Int.reduceToNat, List.set_cons_succ, List.set_cons_zero]); rfl)))
  | ((with_reducible refine' Cf.kr_lenL ?h ?_); (case h => walk_at "hp"))
  | ((with_reducible refine' Cf.kr_lenT ?h ?_); (case h => walk_at "hp"))
  | (with_reducible refine' Cf.kr_int ?_)
  | (with_reducible refine' Cf.kr_isN ?_)
  | (with_reducible refine' Cf.kr_notN ?_)
  | ((with_reducible refine' Cf.kr_isi_bool ?ty ?_); (case ty => walk_at "kd"))
  | ((with_reducible refine' Cf.kr_isi_int ?ty ?_); (case ty => walk_at "kd"))
  | ((with_reducible refine' Cf.kr_isi_str ?ty ?_); (case ty => walk_at "kd"))
  | ((with_reducible refine' Cf.kr_isi_list ?ty ?_); (case ty => walk_at "kd"))
  | ((with_reducible refine' Cf.kr_isi_tuple ?ty ?_); (case ty => walk_at "kd"))
  | ((with_reducible refine' Cf.kr_isi_dict ?ty ?_); (case ty => walk_at "kd"))
  | ((with_reducible refine' Cf.kr_listL ?h ?_); (case h => walk_at "hp"))
  | ((with_reducible refine' Cf.kr_tupL ?h ?_); (case h => walk_at "hp"))
  | ((with_reducible refine' Cf.k_iteT ?c ?_); (case c => first | assumption | rfl))
  | ((with_reducible refine' Cf.k_iteF ?c ?_); (case c => first | assumption | rfl)))
local macro_rules | `(tactic| walk_at "go1") => `(tactic| first
  | walk_at "gx1"
  | (with_reducible refine' Cf.k_seq ?_))
local macro_rules | `(tactic| walk_at "go") => `(tactic| repeat walk_at "go1")
local macro_rules | `(tactic| walk_at "gx") => `(tactic| repeat walk_at "gx1")
local macro_rules | `(tactic| walk_at "g1") => `(tactic| ((with_reducible refine' Cf.k_seq ?_); walk_at "gx"))
local macro_rules | `(tactic| walk_at "start") => `(tactic| simp only [Cf.start_cons, Cf.start_none, Cf.start_nil])

namespace K
open PySem L2 Cf
def top (i : Nat) : Stmt := PySem.Challenge.pw_copiesfollow_k24_ladder_below.main.body.getD i (.Pass ⟨0, 0, 0, 0⟩)
abbrev s_law_mixed : Stmt := top 17
theorem sc_law_mixed : FnScope ["cell", "turn", "limit", "once"] ["cell", "turn", "limit"] (defScope s_law_mixed) := ⟨rfl, rfl, rfl, by decide +kernel, rfl, by decide +kernel, by decide +kernel⟩
abbrev s_law_draw : Stmt := top 18
theorem sc_law_draw : FnScope ["state", "limit", "digit", "cell"] ["state", "limit"] (defScope s_law_draw) := ⟨rfl, rfl, rfl, by decide +kernel, rfl, by decide +kernel, by decide +kernel⟩
abbrev s_law_start : Stmt := top 16
theorem sc_law_start : FnScope ["script"] ["script"] (defScope s_law_start) := ⟨rfl, rfl, rfl, by decide +kernel, rfl, by decide +kernel, by decide +kernel⟩
abbrev s_law_word : Stmt := top 19
theorem sc_law_word : FnScope ["state", "letters", "many", "alike", "sign", "spot", "word", "k"] ["state"] (defScope s_law_word) := ⟨rfl, rfl, rfl, by decide +kernel, rfl, by decide +kernel, by decide +kernel⟩
abbrev s_law_same : Stmt := top 15
theorem sc_law_same : FnScope ["here", "there", "key", "k"] ["here", "there"] (defScope s_law_same) := ⟨rfl, rfl, rfl, by decide +kernel, rfl, by decide +kernel, by decide +kernel⟩
abbrev s_check_mark : Stmt := top 11
theorem sc_check_mark : FnScope ["mark"] ["mark"] (defScope s_check_mark) := ⟨rfl, rfl, rfl, by decide +kernel, rfl, by decide +kernel, by decide +kernel⟩
abbrev s_stands_below : Stmt := top 12
theorem sc_stands_below : FnScope ["lower", "upper"] ["lower", "upper"] (defScope s_stands_below) := ⟨rfl, rfl, rfl, by decide +kernel, rfl, by decide +kernel, by decide +kernel⟩
abbrev s_below : Stmt := top 13
theorem sc_below : FnScope ["lower", "upper"] ["lower", "upper"] (defScope s_below) := ⟨rfl, rfl, rfl, by decide +kernel, rfl, by decide +kernel, by decide +kernel⟩
abbrev s_law_under : Stmt := top 20
theorem sc_law_under : FnScope ["lower", "upper", "chain", "other"] ["lower", "upper"] (defScope s_law_under) := ⟨rfl, rfl, rfl, by decide +kernel, rfl, by decide +kernel, by decide +kernel⟩
abbrev s_law_seven : Stmt := top 21
theorem sc_law_seven : FnScope [] [] (defScope s_law_seven) := ⟨rfl, rfl, rfl, by decide +kernel, rfl, by decide +kernel, by decide +kernel⟩
abbrev s_law_stranger : Stmt := top 22
theorem sc_law_stranger : FnScope ["state", "spare", "pick", "mark", "word"] ["state"] (defScope s_law_stranger) := ⟨rfl, rfl, rfl, by decide +kernel, rfl, by decide +kernel, by decide +kernel⟩
abbrev s_law_refused : Stmt := top 23
theorem sc_law_refused : FnScope ["lower", "upper", "e"] ["lower", "upper"] (defScope s_law_refused) := ⟨rfl, rfl, rfl, by decide +kernel, rfl, by decide +kernel, by decide +kernel⟩
abbrev s_law : Stmt := top 24
theorem sc_law : FnScope ["script", "state", "marks", "lower", "upper", "told", "first", "second", "here", "there", "mark"] ["script"] (defScope s_law) := ⟨rfl, rfl, rfl, by decide +kernel, rfl, by decide +kernel, by decide +kernel⟩
abbrev s_UnknownMark_init : Stmt := inClass (top 2) 0
structure Txt (P : Program) (w : World) (K : PySem.W.Frag) (mg : Str → Option Value) : Type where
  z_ValueError : mg "ValueError" = none
  z_bool : mg "bool" = none
  z_dict : mg "dict" = none
  z_int : mg "int" = none
  z_isinstance : mg "isinstance" = none
  z_len : mg "len" = none
  z_list : mg "list" = none
  z_range : mg "range" = none
  z_str : mg "str" = none
  z_tuple : mg "tuple" = none
  a_law_mixed : Addr
  d_law_mixed : FuncData
  F_law_mixed : Fun K "_law_mixed" "_law_mixed" s_law_mixed a_law_mixed d_law_mixed
  b_law_mixed : Binds K d_law_mixed ["cell", "turn", "limit"] []
  m_law_mixed : mg "_law_mixed" = some (.ref a_law_mixed)
  a_law_draw : Addr
  d_law_draw : FuncData
  F_law_draw : Fun K "_law_draw" "_law_draw" s_law_draw a_law_draw d_law_draw
  b_law_draw : Binds K d_law_draw ["state", "limit"] []
  m_law_draw : mg "_law_draw" = some (.ref a_law_draw)
  a_law_start : Addr
  d_law_start : FuncData
  F_law_start : Fun K "_law_start" "_law_start" s_law_start a_law_start d_law_start
  b_law_start : Binds K d_law_start ["script"] []
  m_law_start : mg "_law_start" = some (.ref a_law_start)
  a_law_word : Addr
  d_law_word : FuncData
  F_law_word : Fun K "_law_word" "_law_word" s_law_word a_law_word d_law_word
  b_law_word : Binds K d_law_word ["state"] []
  m_law_word : mg "_law_word" = some (.ref a_law_word)
  a_law_same : Addr
  d_law_same : FuncData
  F_law_same : Fun K "_law_same" "_law_same" s_law_same a_law_same d_law_same
  b_law_same : Binds K d_law_same ["here", "there"] []
  m_law_same : mg "_law_same" = some (.ref a_law_same)
  a_check_mark : Addr
  d_check_mark : FuncData
  F_check_mark : Fun K "check_mark" "check_mark" s_check_mark a_check_mark d_check_mark
  b_check_mark : Binds K d_check_mark ["mark"] []
  m_check_mark : mg "check_mark" = some (.ref a_check_mark)
  a_stands_below : Addr
  d_stands_below : FuncData
  F_stands_below : Fun K "stands_below" "stands_below" s_stands_below a_stands_below d_stands_below
  b_stands_below : Binds K d_stands_below ["lower", "upper"] []
  m_stands_below : mg "stands_below" = some (.ref a_stands_below)
  a_below : Addr
  d_below : FuncData
  F_below : Fun K "below" "below" s_below a_below d_below
  b_below : Binds K d_below ["lower", "upper"] []
  m_below : mg "below" = some (.ref a_below)
  a_law_under : Addr
  d_law_under : FuncData
  F_law_under : Fun K "_law_under" "_law_under" s_law_under a_law_under d_law_under
  b_law_under : Binds K d_law_under ["lower", "upper"] []
  m_law_under : mg "_law_under" = some (.ref a_law_under)
  a_law_seven : Addr
  d_law_seven : FuncData
  F_law_seven : Fun K "_law_seven" "_law_seven" s_law_seven a_law_seven d_law_seven
  b_law_seven : Binds K d_law_seven [] []
  m_law_seven : mg "_law_seven" = some (.ref a_law_seven)
  a_law_stranger : Addr
  d_law_stranger : FuncData
  F_law_stranger : Fun K "_law_stranger" "_law_stranger" s_law_stranger a_law_stranger d_law_stranger
  b_law_stranger : Binds K d_law_stranger ["state"] []
  m_law_stranger : mg "_law_stranger" = some (.ref a_law_stranger)
  a_law_refused : Addr
  d_law_refused : FuncData
  F_law_refused : Fun K "_law_refused" "_law_refused" s_law_refused a_law_refused d_law_refused
  b_law_refused : Binds K d_law_refused ["lower", "upper"] []
  m_law_refused : mg "_law_refused" = some (.ref a_law_refused)
  a_law : Addr
  d_law : FuncData
  F_law : Fun K "law" "law" s_law a_law d_law
  b_law : Binds K d_law ["script"] []
  m_law : mg "law" = some (.ref a_law)
  c_UnknownMark : Addr
  mc_UnknownMark : mg "UnknownMark" = some (.ref c_UnknownMark)
  c_SlotError : Addr
  mc_SlotError : mg "SlotError" = some (.ref c_SlotError)
  c_WrongMark : Addr
  mc_WrongMark : mg "WrongMark" = some (.ref c_WrongMark)
  c_MissingMark : Addr
  mc_MissingMark : mg "MissingMark" = some (.ref c_MissingMark)
  i_UnknownMark : Addr
  sup_UnknownMark : PySem.SupX.SupTxt P K mg "UnknownMark" c_UnknownMark c_UnknownMark i_UnknownMark "mark"
  xc_UnknownMark : ExcC K c_UnknownMark
  kt_UnknownMark_SlotError : PySem.W.kitOne K (.ref c_UnknownMark) (.ref c_SlotError) = some true
  em_UnknownMark_SlotError : PySem.W.exmOne K (.ref c_UnknownMark) (.ref c_SlotError) = some true
  kt_UnknownMark_ValueError : PySem.W.kitOne K (.ref c_UnknownMark) (.type "ValueError") = some true
  kt_UnknownMark_WrongMark : PySem.W.kitOne K (.ref c_UnknownMark) (.ref c_WrongMark) = some false
  em_UnknownMark_WrongMark : PySem.W.exmOne K (.ref c_UnknownMark) (.ref c_WrongMark) = some false
  kt_UnknownMark_MissingMark : PySem.W.kitOne K (.ref c_UnknownMark) (.ref c_MissingMark) = some false
  em_UnknownMark_MissingMark : PySem.W.exmOne K (.ref c_UnknownMark) (.ref c_MissingMark) = some false
  k_MARKS : Addr
  mk_MARKS : mg "MARKS" = some (.ref k_MARKS)
  tk_MARKS : ∀ H, SqT K H k_MARKS [.str "zero", .str "calm", .str "owed", .str "done", .str "end", .str "own", .str "got"]
  k_KEEP_MARKS : Addr
  mk_KEEP_MARKS : mg "KEEP_MARKS" = some (.ref k_KEEP_MARKS)
  tk_KEEP_MARKS : ∀ H, SqT K H k_KEEP_MARKS [.str "zero", .str "calm", .str "owed", .str "done", .str "end"]
  k_CONFIRM_MARKS : Addr
  mk_CONFIRM_MARKS : mg "CONFIRM_MARKS" = some (.ref k_CONFIRM_MARKS)
  tk_CONFIRM_MARKS : ∀ H, SqT K H k_CONFIRM_MARKS [.str "zero", .str "own", .str "got"]
  k_BEGIN_MARKS : Addr
  mk_BEGIN_MARKS : mg "BEGIN_MARKS" = some (.ref k_BEGIN_MARKS)
  tk_BEGIN_MARKS : ∀ H, SqT K H k_BEGIN_MARKS [.str "zero", .str "done", .str "own"]
  k_ABOVE : Addr
  mk_ABOVE : mg "ABOVE" = some (.ref k_ABOVE)
  k_ABOVE_0 : Addr
  tk_ABOVE_0 : ∀ H, SqT K H k_ABOVE_0 [.str "zero", .str "calm", .str "owed", .str "done", .str "end", .str "own", .str "got"]
  dk_ABOVE_0 : KDct K w k_ABOVE "zero" (.ref k_ABOVE_0)
  k_ABOVE_1 : Addr
  tk_ABOVE_1 : ∀ H, SqT K H k_ABOVE_1 [.str "calm", .str "owed", .str "done", .str "end"]
  dk_ABOVE_1 : KDct K w k_ABOVE "calm" (.ref k_ABOVE_1)
  k_ABOVE_2 : Addr
  tk_ABOVE_2 : ∀ H, SqT K H k_ABOVE_2 [.str "owed", .str "done", .str "end"]
  dk_ABOVE_2 : KDct K w k_ABOVE "owed" (.ref k_ABOVE_2)
  k_ABOVE_3 : Addr
  tk_ABOVE_3 : ∀ H, SqT K H k_ABOVE_3 [.str "done", .str "end"]
  dk_ABOVE_3 : KDct K w k_ABOVE "done" (.ref k_ABOVE_3)
  k_ABOVE_4 : Addr
  tk_ABOVE_4 : ∀ H, SqT K H k_ABOVE_4 [.str "end"]
  dk_ABOVE_4 : KDct K w k_ABOVE "end" (.ref k_ABOVE_4)
  k_ABOVE_5 : Addr
  tk_ABOVE_5 : ∀ H, SqT K H k_ABOVE_5 [.str "own", .str "got", .str "end"]
  dk_ABOVE_5 : KDct K w k_ABOVE "own" (.ref k_ABOVE_5)
  k_ABOVE_6 : Addr
  tk_ABOVE_6 : ∀ H, SqT K H k_ABOVE_6 [.str "got", .str "end"]
  dk_ABOVE_6 : KDct K w k_ABOVE "got" (.ref k_ABOVE_6)
section
variable {P : Program} {w : World} {K : PySem.W.Frag} {mg : Str → Option Value} {base : Heap}
theorem ok_law_mixed (T : Txt P w K mg)  : FnOk P w K mg base CX0 (1) T.a_law_mixed T.d_law_mixed ["cell", "turn", "limit"] (spMixed) := by
  refine T.F_law_mixed.ok sc_law_mixed (fun vs H Q E h => by obtain ⟨_, _, _, rfl, _⟩ := h; rfl) (fun cdv A outer s H vs Q E hr h => ?_)
  have hu := hu_of hr
  have hu64 := hr.units
  refine ⟨_, (pss_cons (ps_set (i := 3) sc_law_mixed.nd rfl (by first | exact Or.inl rfl | exact Or.inr rfl) (pe_op op_mod (pe_callTy call_intA (by rfl) T.z_int (by decide +kernel) (pa_cons (pe_op op_plus (pe_op op_plus (pe_op op_times (pv 0) pe_int) (pe_op op_times (pv 1) pe_int)) pe_int) pa_nil)) pe_int))
      (pss_one (ps_ret (pe_op op_mod (pe_op op_mod (pe_callTy call_intA (by rfl) T.z_int (by decide +kernel) (pa_cons (pe_op op_plus (pe_op op_plus (pe_op op_times (pv 3) pe_int) (pe_op op_times (pv 1) pe_int)) pe_int) pa_nil)) pe_int) (pv 2))))), ?_⟩
  obtain ⟨c, t, n, rfl, h0, k⟩ := h
  walk_at "start"
  walk_at "go"
  exact k _ (Int.emod_nonneg _ (by omega)) (Int.emod_lt_of_pos _ h0)
theorem ok_law_draw (T : Txt P w K mg)  : FnOk P w K mg base CX0 (2) T.a_law_draw T.d_law_draw ["state", "limit"] (spDraw) := by
  refine T.F_law_draw.ok sc_law_draw (fun vs H Q E h => by obtain ⟨_, _, _, rfl, _⟩ := h; rfl) (fun cdv A outer s H vs Q E hr h => ?_)
  have hu := hu_of hr
  have hu64 := hr.units
  refine ⟨_, (pss_cons (ps_if (pt_cmpR op_gt (pe_ix (ix_any hu) (pv 0) pe_int (fun _ _ => rfl)) pe_int (nomark _)) (pss_cons (ps_set (i := 2) sc_law_draw.nd rfl (by first | exact Or.inl rfl | exact Or.inr rfl) (pe_op op_mod (pe_callTy call_intA (by rfl) T.z_int (by decide +kernel) (pa_cons (pe_ix (ix_any hu) (pv 0) pe_int (fun _ _ => rfl)) pa_nil)) (pv 1)))
      (pss_cons (ps_asg (pe_op op_fdivW (pe_ix (ix_any hu) (pv 0) pe_int (fun _ _ => rfl)) (pv 1)) (pg_sub (pv 0) pe_int (set_any hu)))
      (pss_one (ps_ret (pv 2))))) pss_nil)
      (pss_cons (ps_if (pt_cmpR op_gt (pe_ix (ix_any hu) (pv 0) pe_int (fun _ _ => rfl)) pe_int (nomark _)) (pss_cons (ps_asg (pe_op op_sub (pe_ix (ix_any hu) (pv 0) pe_int (fun _ _ => rfl)) pe_int) (pg_sub (pv 0) pe_int (set_any hu)))
      (pss_cons (ps_asg (pe_op op_plus (pe_ix (ix_any hu) (pv 0) pe_int (fun _ _ => rfl)) pe_int) (pg_sub (pv 0) pe_int (set_any hu)))
      (pss_one (ps_ret (pe_call (ok_law_mixed T) (hr.mono (by first | decide | omega)) (by rfl) T.m_law_mixed T.F_law_mixed.kp T.b_law_mixed .nil pass0 (pa_cons (pe_ix (ix_any hu) (pv 0) pe_int (fun _ _ => rfl)) (pa_cons (pe_ix (ix_any hu) (pv 0) pe_int (fun _ _ => rfl)) (pa_cons (pv 1) pa_nil)))))))) pss_nil)
      (pss_cons (ps_if (pt_cmpR op_ge (pe_ix (ix_any hu) (pv 0) pe_int (fun _ _ => rfl)) (pe_callB call_lenA (by rfl) T.z_len (by decide +kernel) (pa_cons (pe_ix (ix_any hu) (pv 0) pe_int (fun _ _ => rfl)) pa_nil)) (nomark _)) (pss_one (ps_ret pe_int)) pss_nil)
      (pss_cons (ps_set (i := 3) sc_law_draw.nd rfl (by first | exact Or.inl rfl | exact Or.inr rfl) (pe_ix (ix_any hu) (pe_ix (ix_any hu) (pv 0) pe_int (fun _ _ => rfl)) (pe_ix (ix_any hu) (pv 0) pe_int (fun _ _ => rfl)) (fun _ _ => rfl)))
      (pss_cons (ps_asg (pe_op op_plus (pe_ix (ix_any hu) (pv 0) pe_int (fun _ _ => rfl)) pe_int) (pg_sub (pv 0) pe_int (set_any hu)))
      (pss_cons (ps_if (pt_cmpR op_ge (pv 3) (pe_op op_pow pe_int pe_int) (nomark _)) (pss_cons (ps_asg (pe_op op_fdivW (pv 3) (pv 1)) (pg_sub (pv 0) pe_int (set_any hu)))
      (pss_one (ps_ret (pe_op op_mod (pe_callTy call_intA (by rfl) T.z_int (by decide +kernel) (pa_cons (pv 3) pa_nil)) (pv 1))))) pss_nil)
      (pss_cons (ps_asg (pv 3) (pg_sub (pv 0) pe_int (set_any hu)))
      (pss_cons (ps_asg pe_int (pg_sub (pv 0) pe_int (set_any hu)))
      (pss_cons (ps_asg (pe_op op_plus (pe_ix (ix_any hu) (pv 0) pe_int (fun _ _ => rfl)) pe_int) (pg_sub (pv 0) pe_int (set_any hu)))
      (pss_one (ps_ret (pe_call (ok_law_mixed T) (hr.mono (by first | decide | omega)) (by rfl) T.m_law_mixed T.F_law_mixed.kp T.b_law_mixed .nil pass0 (pa_cons (pv 3) (pa_cons (pe_ix (ix_any hu) (pv 0) pe_int (fun _ _ => rfl)) (pa_cons (pv 1) pa_nil))))))))))))))), ?_⟩
  obtain ⟨p, q, n, rfl, S, h0, h1, k⟩ := h
  obtain ⟨ne, ns, i, b, c, m, t, e1, e2, e3⟩ := id S
  walk_at "start"
  walk_at "go"
  refine k_ite (fun c1 => ?_) (fun c1 => ?_)
  · walk_at "go"
    exact k _ _ (Int.emod_nonneg _ (by omega)) (Int.emod_lt_of_pos _ h0) ⟨ne, ns, i, b / n, c, m, t, upd_same, get_ne ne e2, e3⟩ ((Keep.refl H).mut (by simp))
  walk_at "go"
  refine k_ite (fun c2 => ?_) (fun c2 => ?_)
  · walk_at "go"
    refine use_mixed h0 fun d d0 d1 => ?_
    exact k _ _ d0 d1 ⟨ne, ns, i, b, c, m - 1, t + 1, upd_same, get_ne ne (get_ne ne e2), e3⟩ (((Keep.refl H).mut (by simp)).mut (by simp))
  walk_at "go"
  refine k_ite (fun c3 => ?_) (fun c3 => ?_)
  · walk_at "go"
    exact k _ _ (Int.le_refl 0) h0 S (Keep.refl H)
  walk_at "go"
  obtain ⟨x, -, hx⟩ := atI_ints (ns := ns) e3 (by simpa using c3)
  refine kr_ixL e2 hx ?_
  walk_at "go"
  refine k_ite (fun c4 => ?_) (fun c4 => ?_)
  · walk_at "go"
    exact k _ _ (Int.emod_nonneg _ (by omega)) (Int.emod_lt_of_pos _ h0) ⟨ne, ns, i + 1, x / n, c, m, t, upd_same, get_ne ne (get_ne ne e2), by omega⟩ (((Keep.refl H).mut (by simp)).mut (by simp))
  · walk_at "go"
    refine use_mixed h0 fun d d0 d1 => ?_
    refine k _ _ d0 d1 ⟨ne, ns, i + 1, b, x, 3, t + 1, upd_same, get_ne ne (get_ne ne (get_ne ne (get_ne ne e2))), by omega⟩ (((((Keep.refl H).mut (by simp)).mut (by simp)).mut (by simp)).mut (by simp))
theorem ok_law_start (T : Txt P w K mg)  : FnOk P w K mg base CX0 (1) T.a_law_start T.d_law_start ["script"] (spStart K) := by
  refine T.F_law_start.ok sc_law_start (fun vs H Q E h => by obtain ⟨_, _, rfl, _⟩ := h; rfl) (fun cdv A outer s H vs Q E hr h => ?_)
  have hu := hu_of hr
  have hu64 := hr.units
  refine ⟨_, (pss_one (ps_ret (pe_lst (pa_cons (pe_callTy call_listA (by rfl) T.z_list (by decide +kernel) (pa_cons (pv 0) pa_nil)) (pa_cons pe_int (pa_cons pe_int (pa_cons pe_int (pa_cons pe_int (pa_cons pe_int pa_nil))))))))), ?_⟩
  obtain ⟨a, ns, rfl, hs, k⟩ := h
  walk_at "start"
  walk_at "go"
  refine ⟨a, _, rfl, .inl hs, fun l hl => ?_⟩
  walk_at "go"
  intro p hp
  have ne : l ≠ p := ne_new hp .same
  exact k p l _ (((Keep.refl H).new hl).free' hp) hl ⟨ne, ns, 0, 0, 0, 0, 0, upd_same, get_new hp upd_same, Int.le_refl _⟩ (((Keep.refl H).new hl).new hp)
theorem ok_law_word (T : Txt P w K mg)  : FnOk P w K mg base CX0 (3) T.a_law_word T.d_law_word ["state"] (spWord) := by
  refine T.F_law_word.ok sc_law_word (fun vs H Q E h => by obtain ⟨_, _, rfl, _⟩ := h; rfl) (fun cdv A outer s H vs Q E hr h => ?_)
  have hu := hu_of hr
  have hu64 := hr.units
  refine ⟨_, (pss_cons (ps_set (i := 1) sc_law_word.nd rfl (by first | exact Or.inl rfl | exact Or.inr rfl) pe_str)
      (pss_cons (ps_set (i := 2) sc_law_word.nd rfl (by first | exact Or.inl rfl | exact Or.inr rfl) (pe_op op_plus pe_int (pe_call (ok_law_draw T) (hr.mono (by first | decide | omega)) (by rfl) T.m_law_draw T.F_law_draw.kp T.b_law_draw .nil pass0 (pa_cons (pv 0) (pa_cons pe_int pa_nil)))))
      (pss_cons (ps_set (i := 3) sc_law_word.nd rfl (by first | exact Or.inl rfl | exact Or.inr rfl) (pe_call (ok_law_draw T) (hr.mono (by first | decide | omega)) (by rfl) T.m_law_draw T.F_law_draw.kp T.b_law_draw .nil pass0 (pa_cons (pv 0) (pa_cons pe_int pa_nil))))
      (pss_cons (ps_set (i := 4) sc_law_word.nd rfl (by first | exact Or.inl rfl | exact Or.inr rfl) (pe_ix (ix_any hu) (pv 1) (pe_call (ok_law_draw T) (hr.mono (by first | decide | omega)) (by rfl) T.m_law_draw T.F_law_draw.kp T.b_law_draw .nil pass0 (pa_cons (pv 0) (pa_cons pe_int pa_nil))) (fun _ _ => rfl)))
      (pss_cons (ps_set (i := 5) sc_law_word.nd rfl (by first | exact Or.inl rfl | exact Or.inr rfl) (pe_call (ok_law_draw T) (hr.mono (by first | decide | omega)) (by rfl) T.m_law_draw T.F_law_draw.kp T.b_law_draw .nil pass0 (pa_cons (pv 0) (pa_cons (pv 2) pa_nil))))
      (pss_cons (ps_set (i := 6) sc_law_word.nd rfl (by first | exact Or.inl rfl | exact Or.inr rfl) pe_str)
      (pss_cons (ps_for PassesOwn.never rfl (pi_range1 (by rfl) T.z_range (pa_cons (pv 2) pa_nil)) (pg_name (i := 7) sc_law_word.nd rfl (by first | exact Or.inl rfl | exact Or.inr rfl))
      (pss_one (ps_if (PW.pt (pw_or (pt_cmpR (op_eqq hu64) (pv 3) pe_int (nomark _)) (pw_or1 (pt_cmpR (op_eqq hu64) (pv 7) (pv 5) (nomark _))))) (pss_one (ps_set (i := 6) sc_law_word.nd rfl (by first | exact Or.inl rfl | exact Or.inr rfl) (pe_op op_plus (pv 6) (pe_ix (ix_any hu) (pv 1) (pe_call (ok_law_draw T) (hr.mono (by first | decide | omega)) (by rfl) T.m_law_draw T.F_law_draw.kp T.b_law_draw .nil pass0 (pa_cons (pv 0) (pa_cons pe_int pa_nil))) (fun _ _ => rfl))))) (pss_one (ps_set (i := 6) sc_law_word.nd rfl (by first | exact Or.inl rfl | exact Or.inr rfl) (pe_op op_plus (pv 6) (pv 4)))))))
      (pss_one (ps_ret (pv 6)))))))))), ?_⟩
  obtain ⟨p, q, rfl, S, k⟩ := h
  walk_at "start"
  walk_at "go"
  refine use_draw S (by decide) (by decide) fun d1 H1 l1 u1 S1 k1 => ?_
  walk_at "go"
  refine use_draw S1 (by decide) (by decide) fun d2 H2 l2 u2 S2 k2 => ?_
  walk_at "go"
  refine use_draw S2 (by decide) (by decide) fun d3 H3 l3 u3 S3 k3 => ?_
  walk_at "go"
  obtain ⟨c, hc, ec⟩ := abc_at l3 u3
  refine kr_ixS abc_len ec ?_
  walk_at "go"
  refine use_draw S3 (by omega) (log_ok (by omega)) fun d4 H4 l4 u4 S4 k4 => ?_
  walk_at "go"
  refine for_r (fun i σ H' => ∃ (z : Str) (x : Option V), σ = [some (.ref p), some (.str abc), some (.int (1 + d1)), some (.int d2), some (.str ⟨#[c]⟩), some (.int d4), some (.str z), x] ∧
    z.length = i ∧ (∀ c ∈ z.cps.toList, 97 ≤ c ∧ c ≤ 122) ∧ StAt H' p q ∧ Keep [p] H H') ⟨Str.ofString "", none, rfl, rfl, (by intro c h; cases h), S4, (((k1.trans k2).trans k3).trans k4)⟩ ?_ ?_
  · rintro i σ H5 hi ⟨z, x, rfl, hz, ha, S5, k5⟩
    walk_at "go"
    have hi' : i < 8 := by omega
    refine k_ite (fun c1 => ?_) (fun c1 => ?_)
    · walk_at "go"
      refine use_draw S5 (by decide) (by decide) fun d5 H6 l5 u5 S6 k6 => ?_
      walk_at "go"
      obtain ⟨c', hc', ec'⟩ := abc_at l5 u5
      refine kr_ixS abc_len ec' ?_
      refine kr_plusS (size_ok (by rw [hz, one_len]; omega)) ?_
      walk_at "go"
      exact ⟨_, _, rfl, by rw [app_len, hz, one_len], small_ext ha hc', S6, k5.trans k6⟩
    walk_at "go"
    refine k_ite (fun c2 => ?_) (fun c2 => ?_)
    · walk_at "go"
      refine use_draw S5 (by decide) (by decide) fun d5 H6 l5 u5 S6 k6 => ?_
      walk_at "go"
      obtain ⟨c', hc', ec'⟩ := abc_at l5 u5
      refine kr_ixS abc_len ec' ?_
      refine kr_plusS (size_ok (by rw [hz, one_len]; omega)) ?_
      walk_at "go"
      exact ⟨_, _, rfl, by rw [app_len, hz, one_len], small_ext ha hc', S6, k5.trans k6⟩
    · walk_at "go"
      refine kr_plusS (size_ok (by rw [hz, one_len]; omega)) ?_
      walk_at "go"
      exact ⟨_, _, rfl, by rw [app_len, hz, one_len], small_ext ha hc, S5, k5⟩
  · rintro σ H5 ⟨z, x, rfl, hz, ha, S5, k5⟩
    walk_at "go"
    exact k _ _ ⟨by omega, by omega, ha⟩ S5 k5
theorem same_step (T : Txt P w K mg) (n : Nat) (G : FnOk P w K mg base CX0 n T.a_law_same T.d_law_same ["here", "there"] (spSame n)) : FnOk P w K mg base CX0 (n + 1) T.a_law_same T.d_law_same ["here", "there"] (spSame (n + 1)) := by
  refine T.F_law_same.ok sc_law_same (fun vs H Q E h => by obtain ⟨_, _, _, _, rfl, _⟩ := h; rfl) (fun cdv A outer s H vs Q E hr h => ?_)
  have hu := hu_of hr
  have hu64 := hr.units
  refine ⟨_, (pss_cons (ps_if (PW.pt (pw_or (pt_cmpR op_isNA (pv 0) pe_non (nomark _)) (pw_or1 (pt_cmpR op_isNA (pv 1) pe_non (nomark _))))) (pss_one (ps_ret (pe_and (pe_cmpR op_isNA (pv 0) pe_non (nomark _)) (pe_one (pe_cmpR op_isNA (pv 1) pe_non (nomark _)))))) pss_nil)
      (pss_cons (ps_if (PW.pt (pw_or (pt_val (pe_callB call_isi (by rfl) T.z_isinstance (by decide +kernel) (pa_cons (pv 0) (pa_cons (pe_bltn (v := .ty "bool") (by rfl) T.z_bool (by decide +kernel) rfl) pa_nil)))) (pw_or1 (pt_val (pe_callB call_isi (by rfl) T.z_isinstance (by decide +kernel) (pa_cons (pv 1) (pa_cons (pe_bltn (v := .ty "bool") (by rfl) T.z_bool (by decide +kernel) rfl) pa_nil))))))) (pss_one (ps_ret (pe_and (pe_callB call_isi (by rfl) T.z_isinstance (by decide +kernel) (pa_cons (pv 0) (pa_cons (pe_bltn (v := .ty "bool") (by rfl) T.z_bool (by decide +kernel) rfl) pa_nil))) (pe_and (pe_callB call_isi (by rfl) T.z_isinstance (by decide +kernel) (pa_cons (pv 1) (pa_cons (pe_bltn (v := .ty "bool") (by rfl) T.z_bool (by decide +kernel) rfl) pa_nil))) (pe_one (pe_cmpR (op_eqq hu64) (pv 0) (pv 1) (nomark _))))))) pss_nil)
      (pss_cons (ps_if (PW.pt (pw_or (pt_val (pe_callB call_isi (by rfl) T.z_isinstance (by decide +kernel) (pa_cons (pv 0) (pa_cons (pe_bltn (v := .ty "int") (by rfl) T.z_int (by decide +kernel) rfl) pa_nil)))) (pw_or1 (pt_val (pe_callB call_isi (by rfl) T.z_isinstance (by decide +kernel) (pa_cons (pv 1) (pa_cons (pe_bltn (v := .ty "int") (by rfl) T.z_int (by decide +kernel) rfl) pa_nil))))))) (pss_one (ps_ret (pe_and (pe_callB call_isi (by rfl) T.z_isinstance (by decide +kernel) (pa_cons (pv 0) (pa_cons (pe_bltn (v := .ty "int") (by rfl) T.z_int (by decide +kernel) rfl) pa_nil))) (pe_and (pe_callB call_isi (by rfl) T.z_isinstance (by decide +kernel) (pa_cons (pv 1) (pa_cons (pe_bltn (v := .ty "int") (by rfl) T.z_int (by decide +kernel) rfl) pa_nil))) (pe_one (pe_cmpR (op_eqq hu64) (pv 0) (pv 1) (nomark _))))))) pss_nil)
      (pss_cons (ps_if (PW.pt (pw_or (pt_val (pe_callB call_isi (by rfl) T.z_isinstance (by decide +kernel) (pa_cons (pv 0) (pa_cons (pe_bltn (v := .ty "str") (by rfl) T.z_str (by decide +kernel) rfl) pa_nil)))) (pw_or1 (pt_val (pe_callB call_isi (by rfl) T.z_isinstance (by decide +kernel) (pa_cons (pv 1) (pa_cons (pe_bltn (v := .ty "str") (by rfl) T.z_str (by decide +kernel) rfl) pa_nil))))))) (pss_one (ps_ret (pe_and (pe_callB call_isi (by rfl) T.z_isinstance (by decide +kernel) (pa_cons (pv 0) (pa_cons (pe_bltn (v := .ty "str") (by rfl) T.z_str (by decide +kernel) rfl) pa_nil))) (pe_and (pe_callB call_isi (by rfl) T.z_isinstance (by decide +kernel) (pa_cons (pv 1) (pa_cons (pe_bltn (v := .ty "str") (by rfl) T.z_str (by decide +kernel) rfl) pa_nil))) (pe_one (pe_cmpR (op_eqq hu64) (pv 0) (pv 1) (nomark _))))))) pss_nil)
      (pss_cons (ps_if (PW.pt (pw_and (pt_val (pe_callB call_isi (by rfl) T.z_isinstance (by decide +kernel) (pa_cons (pv 0) (pa_cons (pe_bltn (v := .ty "dict") (by rfl) T.z_dict (by decide +kernel) rfl) pa_nil)))) (pw_and1 (pt_val (pe_callB call_isi (by rfl) T.z_isinstance (by decide +kernel) (pa_cons (pv 1) (pa_cons (pe_bltn (v := .ty "dict") (by rfl) T.z_dict (by decide +kernel) rfl) pa_nil))))))) pss_never pss_nil)
      (pss_cons (ps_if (PW.pt (pw_or (pt_cmpR (op_neq hu64) (pe_callB call_isi (by rfl) T.z_isinstance (by decide +kernel) (pa_cons (pv 0) (pa_cons (pe_bltn (v := .ty "tuple") (by rfl) T.z_tuple (by decide +kernel) rfl) pa_nil))) (pe_callB call_isi (by rfl) T.z_isinstance (by decide +kernel) (pa_cons (pv 1) (pa_cons (pe_bltn (v := .ty "tuple") (by rfl) T.z_tuple (by decide +kernel) rfl) pa_nil))) (nomark _)) (pw_or1 (pt_cmpR (op_neq hu64) (pe_callB call_isi (by rfl) T.z_isinstance (by decide +kernel) (pa_cons (pv 0) (pa_cons (pe_bltn (v := .ty "list") (by rfl) T.z_list (by decide +kernel) rfl) pa_nil))) (pe_callB call_isi (by rfl) T.z_isinstance (by decide +kernel) (pa_cons (pv 1) (pa_cons (pe_bltn (v := .ty "list") (by rfl) T.z_list (by decide +kernel) rfl) pa_nil))) (nomark _))))) (pss_one (ps_ret pe_bl)) pss_nil)
      (pss_cons (ps_if (PW.pt (pw_and (pt_not (pt_val (pe_callB call_isi (by rfl) T.z_isinstance (by decide +kernel) (pa_cons (pv 0) (pa_cons (pe_bltn (v := .ty "tuple") (by rfl) T.z_tuple (by decide +kernel) rfl) pa_nil))))) (pw_and1 (pt_not (pt_val (pe_callB call_isi (by rfl) T.z_isinstance (by decide +kernel) (pa_cons (pv 0) (pa_cons (pe_bltn (v := .ty "list") (by rfl) T.z_list (by decide +kernel) rfl) pa_nil)))))))) (pss_one (ps_ret pe_bl)) pss_nil)
      (pss_cons (ps_if (pt_cmpR (op_neq hu64) (pe_callB call_lenA (by rfl) T.z_len (by decide +kernel) (pa_cons (pv 0) pa_nil)) (pe_callB call_lenA (by rfl) T.z_len (by decide +kernel) (pa_cons (pv 1) pa_nil)) (nomark _)) (pss_one (ps_ret pe_bl)) pss_nil)
      (pss_cons (ps_for PassesOwn.never rfl (pi_range1 (by rfl) T.z_range (pa_cons (pe_callB call_lenA (by rfl) T.z_len (by decide +kernel) (pa_cons (pv 0) pa_nil)) pa_nil)) (pg_name (i := 3) sc_law_same.nd rfl (by first | exact Or.inl rfl | exact Or.inr rfl))
      (pss_one (ps_if (pt_not (pt_val (pe_call G (hr.mono (by first | decide | omega)) (by rfl) T.m_law_same T.F_law_same.kp T.b_law_same .nil pass0 (pa_cons (pe_ix (ix_any hu) (pv 0) (pv 3) (fun _ _ => rfl)) (pa_cons (pe_ix (ix_any hu) (pv 1) (pv 3) (fun _ _ => rfl)) pa_nil))))) (pss_one (ps_ret pe_bl)) pss_nil)))
      (pss_one (ps_ret pe_bl))))))))))), ?_⟩
  obtain ⟨x, y, d, e, rfl, hx, hy, hd, k⟩ := h
  walk_at "start"
  walk_at "go"
  cases hx <;> cases hy
  all_goals (walk_at "go")
  all_goals try (exact k _ _ (by simp) (Keep.refl H))
  all_goals
    rename_i a xs ds h1 n1 l1 t1 a' ys es h2 n2 l2 t2
    refine k_ite (fun c1 => ?_) (fun c1 => ?_)
    · walk_at "go"
      refine k _ _ ?_ (Keep.refl H)
      have e1 := t1.len
      have e2 := t2.len
      have e3 : ¬ xs.length = ys.length := by intro z; rw [z] at c1; simp at c1
      constructor
      · intro z; cases z
      · intro z; cases z; exact absurd (e1.trans e2.symm) e3
    have e1 := t1.len
    have e2 := t2.len
    have e4 : (xs.length : Int) = ys.length := by simpa using c1
    have e3 : xs.length = ys.length := by omega
    walk_at "go"
    refine for_r (fun i σ H' => (∃ v, σ = [some (.ref a), some (.ref a'), none, v]) ∧ Keep [] H H' ∧ ds.take i = es.take i) ⟨⟨none, rfl⟩, Keep.refl H, rfl⟩ ?_ ?_
    · rintro i σ H1 hi ⟨⟨v, rfl⟩, k1, eq⟩
      have hi' : i < xs.length := by omega
      obtain ⟨x, hx⟩ := some_of hi'
      obtain ⟨y, hy⟩ := some_of (xs := ys) (i := i) (by omega)
      obtain ⟨d, hd1, id⟩ := t1.get hx
      obtain ⟨e, he1, ie⟩ := t2.get hy
      walk_at "go"
      first | refine kr_ixL (k1.at nin0 h1) (atI_nat hx) ?_ | refine kr_ixT (k1.at nin0 h1) (atI_nat hx) ?_
      walk_at "go"
      first | refine kr_ixL (k1.at nin0 h2) (atI_nat hy) ?_ | refine kr_ixT (k1.at nin0 h2) (atI_nat hy) ?_
      walk_at "go"
      have dd : d.depth < n := by
        have := depth_mem (List.mem_of_getElem? hd1)
        simp only [D.depth] at hd
        omega
      refine use_same (id.keep k1 (by simp)) (ie.keep k1 (by simp)) dd fun b H2 hb k2 => ?_
      walk_at "go"
      cases b with
      | true =>
        walk_at "go"
        have q := hb.mp rfl
        exact ⟨⟨_, rfl⟩, k1.trans k2, take_eq eq hd1 (q ▸ he1)⟩
      | false =>
        walk_at "go"
        refine k _ _ ?_ (k1.trans k2)
        constructor
        · intro z; cases z
        · intro z
          cases z
          have q : d = e := Option.some.inj (hd1.symm.trans he1)
          have := hb.mpr q
          cases this
    · rintro σ H1 ⟨⟨v, rfl⟩, k1, eq⟩
      walk_at "go"
      have q : ds = es := take_all (by omega) (by rw [← e1]; simpa using eq)
      exact k _ _ (by simp [q]) k1
theorem ok_law_same (T : Txt P w K mg) : ∀ n : Nat, FnOk P w K mg base CX0 n T.a_law_same T.d_law_same ["here", "there"] (spSame n)
  | 0 => same_none
  | n + 1 => same_step T n (ok_law_same T n)
def seven : List Str := ["zero", "calm", "owed", "done", "end", "own", "got"]
def above (l : Str) : List Str := if l = "zero" then seven else if l = "calm" then ["calm", "owed", "done", "end"] else if l = "owed" then ["owed", "done", "end"] else if l = "done" then ["done", "end"] else if l = "end" then ["end"] else if l = "own" then ["own", "got", "end"] else ["got", "end"]
def below (l u : Str) : Bool := decide (u ∈ above l)
def spCheck (C : Addr) : Sp := fun vs H Q E => ∃ m : Str, vs = [.str m] ∧ (m ∈ seven → Q .non H) ∧ (m ∉ seven → ∀ d, Fresh H d → E (.ref C) (some d) (upd H d (.xd [("mark", .str m)])))
def spStands : Sp := fun vs H Q _ => ∃ l u : Str, vs = [.str l, .str u] ∧ l ∈ seven ∧ Q (.bl (below l u)) H
def spBelow (C : Addr) : Sp := fun vs H Q E => ∃ l u : Str, vs = [.str l, .str u] ∧ (l ∈ seven → u ∈ seven → Q (.bl (below l u)) H) ∧
  (l ∉ seven → ∀ d, Fresh H d → E (.ref C) (some d) (upd H d (.xd [("mark", .str l)]))) ∧ (l ∈ seven → u ∉ seven → ∀ d, Fresh H d → E (.ref C) (some d) (upd H d (.xd [("mark", .str u)])))
theorem ok_check_mark (T : Txt P w K mg)  : FnOk P w K mg base (L2.CX P w) (2) T.a_check_mark T.d_check_mark ["mark"] (spCheck T.c_UnknownMark) := by
  refine T.F_check_mark.okX sc_check_mark (fun vs H Q E h => by obtain ⟨_, rfl, _⟩ := h; rfl) (fun cdv A outer s H vs Q E hr h => ?_)
  have hu := hu_of hr
  have hu64 := hr.units
  refine ⟨_, (pss_one (ps_if (pt_cmpR (op_notInn hu) (pv 0) (pe_glob (v := .ref T.k_MARKS) (by rfl) T.mk_MARKS rfl) (by rfl)) (pss_one (ps_raise1 (k := 1) rfl T.sup_UnknownMark (hr.mono (by first | decide | omega)) (takes_of rfl rfl rfl rfl) (pa_cons (pv 0) pa_nil))) pss_nil)), ?_⟩
  obtain ⟨m, rfl, k1, k2⟩ := h
  walk_at "start"
  walk_at "go"
  refine kr_notInS (T.tk_MARKS H) rfl rfl (inV_strs (ns := seven)) ?_
  walk_at "go"
  refine k_ite (fun c => ?_) (fun c => ?_)
  · refine k_raise ?_
    walk_at "go"
    refine k_ex1 ?_
    exact k2 (by simpa using c)
  · walk_at "go"
    exact k1 (by simpa using c)
theorem ab0 : above "zero" = (["zero", "calm", "owed", "done", "end", "own", "got"] : List Str) := by decide +kernel
theorem ab1 : above "calm" = (["calm", "owed", "done", "end"] : List Str) := by decide +kernel
theorem ab2 : above "owed" = (["owed", "done", "end"] : List Str) := by decide +kernel
theorem ab3 : above "done" = (["done", "end"] : List Str) := by decide +kernel
theorem ab4 : above "end" = (["end"] : List Str) := by decide +kernel
theorem ab5 : above "own" = (["own", "got", "end"] : List Str) := by decide +kernel
theorem ab6 : above "got" = (["got", "end"] : List Str) := by decide +kernel
theorem below_of {l u : Str} {xs : List Str} (h : above l = xs) : decide (u ∈ xs) = below l u := by subst h; rfl
theorem seven_cases {l : Str} (h : l ∈ seven) : l = "zero" ∨ l = "calm" ∨ l = "owed" ∨ l = "done" ∨ l = "end" ∨ l = "own" ∨ l = "got" := by simpa [seven] using h
theorem ok_stands_below (T : Txt P w K mg)  : FnOk P w K mg base CX0 (1) T.a_stands_below T.d_stands_below ["lower", "upper"] (spStands) := by
  refine T.F_stands_below.ok sc_stands_below (fun vs H Q E h => by obtain ⟨_, _, rfl, _⟩ := h; rfl) (fun cdv A outer s H vs Q E hr h => ?_)
  have hu := hu_of hr
  have hu64 := hr.units
  refine ⟨_, (pss_one (ps_ret (pe_cmpR (op_inn hu) (pv 1) (pe_ix ix_kdict (pe_glob (v := .ref T.k_ABOVE) (by rfl) T.mk_ABOVE rfl) (pv 0) (fun _ _ => rfl)) (by rfl)))), ?_⟩
  obtain ⟨l, u, rfl, hl, k⟩ := h
  walk_at "start"
  walk_at "go"
  rcases seven_cases hl with rfl | rfl | rfl | rfl | rfl | rfl | rfl
  · refine kr_ixKd T.dk_ABOVE_0 ?_
    exact kr_inS (T.tk_ABOVE_0 H) rfl rfl ((inV_strs (ns := ["zero", "calm", "owed", "done", "end", "own", "got"])).trans (below_of ab0)) k
  · refine kr_ixKd T.dk_ABOVE_1 ?_
    exact kr_inS (T.tk_ABOVE_1 H) rfl rfl ((inV_strs (ns := ["calm", "owed", "done", "end"])).trans (below_of ab1)) k
  · refine kr_ixKd T.dk_ABOVE_2 ?_
    exact kr_inS (T.tk_ABOVE_2 H) rfl rfl ((inV_strs (ns := ["owed", "done", "end"])).trans (below_of ab2)) k
  · refine kr_ixKd T.dk_ABOVE_3 ?_
    exact kr_inS (T.tk_ABOVE_3 H) rfl rfl ((inV_strs (ns := ["done", "end"])).trans (below_of ab3)) k
  · refine kr_ixKd T.dk_ABOVE_4 ?_
    exact kr_inS (T.tk_ABOVE_4 H) rfl rfl ((inV_strs (ns := ["end"])).trans (below_of ab4)) k
  · refine kr_ixKd T.dk_ABOVE_5 ?_
    exact kr_inS (T.tk_ABOVE_5 H) rfl rfl ((inV_strs (ns := ["own", "got", "end"])).trans (below_of ab5)) k
  · refine kr_ixKd T.dk_ABOVE_6 ?_
    exact kr_inS (T.tk_ABOVE_6 H) rfl rfl ((inV_strs (ns := ["got", "end"])).trans (below_of ab6)) k
theorem ok_below (T : Txt P w K mg)  : FnOk P w K mg base (L2.CX P w) (3) T.a_below T.d_below ["lower", "upper"] (spBelow T.c_UnknownMark) := by
  refine T.F_below.okX sc_below (fun vs H Q E h => by obtain ⟨_, _, rfl, _⟩ := h; rfl) (fun cdv A outer s H vs Q E hr h => ?_)
  have hu := hu_of hr
  have hu64 := hr.units
  refine ⟨_, (pss_cons (ps_expr (pe_call (ok_check_mark T) (hr.mono (by first | decide | omega)) (by rfl) T.m_check_mark T.F_check_mark.kp T.b_check_mark .nil (passes_call (takes_of rfl rfl rfl rfl) (fun _ _ _ _ h => h)) (pa_cons (pv 0) pa_nil)))
      (pss_cons (ps_expr (pe_call (ok_check_mark T) (hr.mono (by first | decide | omega)) (by rfl) T.m_check_mark T.F_check_mark.kp T.b_check_mark .nil (passes_call (takes_of rfl rfl rfl rfl) (fun _ _ _ _ h => h)) (pa_cons (pv 1) pa_nil)))
      (pss_one (ps_ret (pe_call (ok_stands_below T) (hr.mono (by first | decide | omega)) (by rfl) T.m_stands_below T.F_stands_below.kp T.b_stands_below .nil pass0 (pa_cons (pv 0) (pa_cons (pv 1) pa_nil))))))), ?_⟩
  obtain ⟨l, u, rfl, k1, k2, k3⟩ := h
  walk_at "start"
  walk_at "go"
  refine ⟨l, rfl, fun h1 => ?_, fun h1 => k2 h1⟩
  walk_at "go"
  refine ⟨u, rfl, fun h2 => ?_, fun h2 => k3 h1 h2⟩
  walk_at "go"
  exact ⟨l, u, rfl, h1, k1 h1 h2⟩
def spUnder : Sp := fun vs H Q _ => ∃ l u : Str, vs = [.str l, .str u] ∧ l ∈ seven ∧ u ∈ seven ∧ ∀ H', Keep [] H H' → Q (.bl (below l u)) H'
def chainS : List Str := ["zero", "calm", "owed", "done", "end"]
def otherS : List Str := ["zero", "own", "got", "end"]
theorem un1 : ∀ l ∈ chainS, (idxV l (chainS.map V.str)).isSome = true := by decide +kernel
theorem un2 : ∀ l ∈ chainS, ∀ u ∈ chainS, decide ((((idxV l (chainS.map V.str)).getD 0 : Nat) : Int) ≤ (((idxV u (chainS.map V.str)).getD 0 : Nat) : Int)) = below l u := by decide +kernel
theorem un3 : ∀ l ∈ otherS, (idxV l (otherS.map V.str)).isSome = true := by decide +kernel
theorem un4 : ∀ l ∈ otherS, ∀ u ∈ otherS, decide ((((idxV l (otherS.map V.str)).getD 0 : Nat) : Int) ≤ (((idxV u (otherS.map V.str)).getD 0 : Nat) : Int)) = below l u := by decide +kernel
theorem un5 : ∀ l ∈ seven, ∀ u ∈ seven, ¬ (l ∈ chainS ∧ u ∈ chainS) → ¬ (l ∈ otherS ∧ u ∈ otherS) → below l u = false := by decide +kernel
theorem in_chain {l : Str} {b : Bool} (h : inV (.str l) (chainS.map V.str) = b) : decide (l ∈ chainS) = b := (inV_strs (ns := chainS)).symm.trans h
theorem in_other {l : Str} {b : Bool} (h : inV (.str l) (otherS.map V.str) = b) : decide (l ∈ otherS) = b := (inV_strs (ns := otherS)).symm.trans h
theorem ok_law_under (T : Txt P w K mg)  : FnOk P w K mg base CX0 (1) T.a_law_under T.d_law_under ["lower", "upper"] (spUnder) := by
  refine T.F_law_under.ok sc_law_under (fun vs H Q E h => by obtain ⟨_, _, rfl, _⟩ := h; rfl) (fun cdv A outer s H vs Q E hr h => ?_)
  have hu := hu_of hr
  have hu64 := hr.units
  refine ⟨_, (pss_cons (ps_set (i := 2) sc_law_under.nd rfl (by first | exact Or.inl rfl | exact Or.inr rfl) (pe_lst (pa_cons pe_str (pa_cons pe_str (pa_cons pe_str (pa_cons pe_str (pa_cons pe_str pa_nil)))))))
      (pss_cons (ps_set (i := 3) sc_law_under.nd rfl (by first | exact Or.inl rfl | exact Or.inr rfl) (pe_lst (pa_cons pe_str (pa_cons pe_str (pa_cons pe_str (pa_cons pe_str pa_nil))))))
      (pss_cons (ps_if (PW.pt (pw_and (pt_cmpR (op_inn hu) (pv 0) (pv 2) (by rfl)) (pw_and1 (pt_cmpR (op_inn hu) (pv 1) (pv 2) (by rfl))))) (pss_one (ps_ret (pe_cmpR op_le (pe_bm PySem.F.plainAttrs_list PySem.F.slot_list_index PySem.F.type_list_index mt_index (pv 2) (pa_cons (pv 0) pa_nil)) (pe_bm PySem.F.plainAttrs_list PySem.F.slot_list_index PySem.F.type_list_index mt_index (pv 2) (pa_cons (pv 1) pa_nil)) (nomark _)))) pss_nil)
      (pss_cons (ps_if (PW.pt (pw_and (pt_cmpR (op_inn hu) (pv 0) (pv 3) (by rfl)) (pw_and1 (pt_cmpR (op_inn hu) (pv 1) (pv 3) (by rfl))))) (pss_one (ps_ret (pe_cmpR op_le (pe_bm PySem.F.plainAttrs_list PySem.F.slot_list_index PySem.F.type_list_index mt_index (pv 3) (pa_cons (pv 0) pa_nil)) (pe_bm PySem.F.plainAttrs_list PySem.F.slot_list_index PySem.F.type_list_index mt_index (pv 3) (pa_cons (pv 1) pa_nil)) (nomark _)))) pss_nil)
      (pss_one (ps_ret pe_bl)))))), ?_⟩
  obtain ⟨l, u, rfl, hl, hu, k⟩ := h
  walk_at "start"
  walk_at "go"
  intro p fp
  walk_at "go"
  intro q fq
  have k0 := k _ (((Keep.refl H).new (o := .lst (chainS.map V.str)) fp).new (o := .lst (otherS.map V.str)) fq)
  have h1 : (upd (upd H p (.lst (chainS.map V.str))) q (.lst (otherS.map V.str))) p = some (.lst (chainS.map V.str)) := get_new fq upd_same
  have h2 : (upd (upd H p (.lst (chainS.map V.str))) q (.lst (otherS.map V.str))) q = some (.lst (otherS.map V.str)) := upd_same
  walk_at "gx"
  refine Cf.k_seq ?_
  refine k_cutI (R := fun c H' => H' = upd (upd H p (.lst (chainS.map V.str))) q (.lst (otherS.map V.str)) ∧ (c = true ↔ l ∈ chainS ∧ u ∈ chainS)) (fun B hB => ?_) ?_
  · walk_at "go"
    refine k_ite (fun c1 => ?_) (fun c1 => ?_)
    · have c1 := in_chain c1
      walk_at "go"
      refine hB _ _ ⟨rfl, ?_⟩
      have e := inV_strs (n := u) (ns := chainS)
      have e2 : inV (.str u) (chainS.map V.str) = true ↔ u ∈ chainS := by rw [e]; simp
      exact e2.trans ⟨fun z => ⟨by simpa using c1, z⟩, fun z => z.2⟩
    · have c1 := in_chain c1
      walk_at "go"
      refine hB _ _ ⟨rfl, ?_⟩
      have : l ∉ chainS := by simpa using c1
      simp [this]
  · rintro c _ ⟨rfl, hc⟩
    refine k_ite (fun c1 => ?_) (fun c1 => ?_)
    · obtain ⟨m1, m2⟩ := hc.mp c1
      walk_at "go"
      refine kr_index2 (xs := chainS.map V.str) h1 rfl (un1 l m1) ?_
      walk_at "go"
      refine kr_index2 (xs := chainS.map V.str) h1 rfl (un1 u m2) ?_
      walk_at "go"
      exact q_bl (un2 l m1 u m2) k0
    have n1 : ¬ (l ∈ chainS ∧ u ∈ chainS) := fun z => by rw [hc.mpr z] at c1; cases c1
    walk_at "gx"
    refine Cf.k_seq ?_
    refine k_cutI (R := fun c H' => H' = upd (upd H p (.lst (chainS.map V.str))) q (.lst (otherS.map V.str)) ∧ (c = true ↔ l ∈ otherS ∧ u ∈ otherS)) (fun B hB => ?_) ?_
    · walk_at "go"
      refine k_ite (fun c1 => ?_) (fun c1 => ?_)
      · have c1 := in_other c1
        walk_at "go"
        refine hB _ _ ⟨rfl, ?_⟩
        have e := inV_strs (n := u) (ns := otherS)
        have e2 : inV (.str u) (otherS.map V.str) = true ↔ u ∈ otherS := by rw [e]; simp
        exact e2.trans ⟨fun z => ⟨by simpa using c1, z⟩, fun z => z.2⟩
      · have c1 := in_other c1
        walk_at "go"
        refine hB _ _ ⟨rfl, ?_⟩
        have : l ∉ otherS := by simpa using c1
        simp [this]
    · rintro c _ ⟨rfl, hc⟩
      refine k_ite (fun c1 => ?_) (fun c1 => ?_)
      · obtain ⟨m1, m2⟩ := hc.mp c1
        walk_at "go"
        refine kr_index2 (xs := otherS.map V.str) h2 rfl (un3 l m1) ?_
        walk_at "go"
        refine kr_index2 (xs := otherS.map V.str) h2 rfl (un3 u m2) ?_
        walk_at "go"
        exact q_bl (un4 l m1 u m2) k0
      have n2 : ¬ (l ∈ otherS ∧ u ∈ otherS) := fun z => by rw [hc.mpr z] at c1; cases c1
      walk_at "go"
      exact q_bl (un5 l hl u hu n1 n2).symm k0
def spSeven : Sp := fun vs H Q _ => vs = [] ∧ ∀ p, Fresh H p → Q (.ref p) (upd H p (.lst (seven.map V.str)))
theorem ok_law_seven (T : Txt P w K mg)  : FnOk P w K mg base CX0 (1) T.a_law_seven T.d_law_seven [] (spSeven) := by
  refine T.F_law_seven.ok sc_law_seven (fun vs H Q E h => by obtain ⟨rfl, _⟩ := h; rfl) (fun cdv A outer s H vs Q E hr h => ?_)
  have hu := hu_of hr
  have hu64 := hr.units
  refine ⟨_, (pss_one (ps_ret (pe_lst (pa_cons pe_str (pa_cons pe_str (pa_cons pe_str (pa_cons pe_str (pa_cons pe_str (pa_cons pe_str (pa_cons pe_str pa_nil)))))))))), ?_⟩
  obtain ⟨rfl, k⟩ := h
  walk_at "start"
  walk_at "go"
  intro p fp
  exact k p fp
def spStranger : Sp := fun vs H Q _ => ∃ (p q : Addr), vs = [.ref p] ∧ StAt H p q ∧ ∀ s H', s ∉ seven → StAt H' p q → Keep [p] H H' → Q (.str s) H'
def spare : List Str := ["", "Zero", "owed ", " done", "ow n", "END", "got-"]
theorem spare_no : ∀ s ∈ spare, s ∉ seven := by decide +kernel
theorem seven_len : ∀ s ∈ seven, s.length ≤ 4 := by decide +kernel
theorem cut_no : ∀ s ∈ seven, cutS s none (some (-1)) ∉ seven := by decide +kernel
theorem pre_len : ∀ m ∈ seven, ∀ s ∈ seven, m.cps.toList.isPrefixOf s.cps.toList = true → s.length ≤ m.length := by decide +kernel
theorem pre_no {m w : Str} (hm : m ∈ seven) (hw : 1 ≤ w.length) : m ++ w ∉ seven := fun h => by
  have e := pre_len m hm (m ++ w) h (by rw [str_app]; simp)
  rw [app_len] at e
  omega
theorem ok_law_stranger (T : Txt P w K mg)  : FnOk P w K mg base CX0 (4) T.a_law_stranger T.d_law_stranger ["state"] (spStranger) := by
  refine T.F_law_stranger.ok sc_law_stranger (fun vs H Q E h => by obtain ⟨_, _, rfl, _⟩ := h; rfl) (fun cdv A outer s H vs Q E hr h => ?_)
  have hu := hu_of hr
  have hu64 := hr.units
  refine ⟨_, (pss_cons (ps_set (i := 1) sc_law_stranger.nd rfl (by first | exact Or.inl rfl | exact Or.inr rfl) (pe_lst (pa_cons pe_str (pa_cons pe_str (pa_cons pe_str (pa_cons pe_str (pa_cons pe_str (pa_cons pe_str (pa_cons pe_str pa_nil)))))))))
      (pss_cons (ps_set (i := 2) sc_law_stranger.nd rfl (by first | exact Or.inl rfl | exact Or.inr rfl) (pe_call (ok_law_draw T) (hr.mono (by first | decide | omega)) (by rfl) T.m_law_draw T.F_law_draw.kp T.b_law_draw .nil pass0 (pa_cons (pv 0) (pa_cons pe_int pa_nil))))
      (pss_cons (ps_if (pt_cmpR op_lt (pv 2) pe_int (nomark _)) (pss_one (ps_ret (pe_ix (ix_any hu) (pv 1) (pv 2) (fun _ _ => rfl)))) pss_nil)
      (pss_cons (ps_set (i := 3) sc_law_stranger.nd rfl (by first | exact Or.inl rfl | exact Or.inr rfl) (pe_ix (ix_any hu) (pe_call0 (ok_law_seven T) (hr.mono (by first | decide | omega)) (by rfl) T.m_law_seven T.F_law_seven.kp T.b_law_seven .nil pass0) (pe_call (ok_law_draw T) (hr.mono (by first | decide | omega)) (by rfl) T.m_law_draw T.F_law_draw.kp T.b_law_draw .nil pass0 (pa_cons (pv 0) (pa_cons pe_int pa_nil))) (fun _ _ => rfl)))
      (pss_cons (ps_if (pt_cmpR (op_eqq hu64) (pv 2) pe_int (nomark _)) (pss_one (ps_ret (pe_slice sl_str (pv 3) po_none (po_some (pe_un un_neg pe_int))))) pss_nil)
      (pss_cons (ps_set (i := 4) sc_law_stranger.nd rfl (by first | exact Or.inl rfl | exact Or.inr rfl) (pe_call (ok_law_word T) (hr.mono (by first | decide | omega)) (by rfl) T.m_law_word T.F_law_word.kp T.b_law_word .nil pass0 (pa_cons (pv 0) pa_nil)))
      (pss_cons (ps_if (pt_cmpR (op_eqq hu64) (pv 2) pe_int (nomark _)) (pss_one (ps_ret (pe_op op_plus (pv 3) (pv 4)))) pss_nil)
      (pss_one (ps_ret (pe_ifExp (pt_cmpR (op_inn hu) (pv 4) (pe_call0 (ok_law_seven T) (hr.mono (by first | decide | omega)) (by rfl) T.m_law_seven T.F_law_seven.kp T.b_law_seven .nil pass0) (by rfl)) (pe_op op_plus (pv 4) pe_str) (pv 4))))))))))), ?_⟩
  obtain ⟨p, q, rfl, S, k⟩ := h
  walk_at "start"
  walk_at "go"
  intro p1 f1
  walk_at "go"
  refine use_draw (S.new f1) (by decide) (by decide) fun d1 H1 l1 u1 S1 k1 => ?_
  have hp1 : H1 p1 = some (.lst (spare.map V.str)) := k1.at (nin1 (ne_new' f1 S.tp)) upd_same
  have K1 : Keep [p] H H1 := Keep.step k1 (fun _ h => h) (((Keep.refl H).new f1))
  walk_at "go"
  refine k_ite (fun c1 => ?_) (fun c1 => ?_)
  · walk_at "go"
    obtain ⟨s, hs, e⟩ := at_strs (ns := spare) l1 (by show d1 < 7; simpa using c1)
    refine kr_ixL hp1 e ?_
    exact k _ _ (spare_no s hs) S1 K1
  walk_at "go"
  refine ⟨rfl, fun p2 f2 => ?_⟩
  walk_at "go"
  refine use_draw (S1.new f2) (by decide) (by decide) fun d2 H2 l2 u2 S2 k2 => ?_
  have hp2 : H2 p2 = some (.lst (seven.map V.str)) := k2.at (nin1 (ne_new' f2 S1.tp)) upd_same
  have K2 : Keep [p] H H2 := Keep.step k2 (fun _ h => h) (K1.new f2)
  walk_at "go"
  obtain ⟨m, hm, e⟩ := at_strs (ns := seven) l2 u2
  refine kr_ixL hp2 e ?_
  walk_at "go"
  have lm := seven_len m hm
  refine k_ite (fun c2 => ?_) (fun c2 => ?_)
  · walk_at "go"
    refine kr_slS (size_ok (by omega)) ?_
    exact k _ _ (cut_no m hm) S2 K2
  walk_at "go"
  refine use_word S2 fun w0 H3 sw S3 k3 => ?_
  have K3 : Keep [p] H H3 := Keep.step k3 (fun _ h => h) K2
  walk_at "go"
  refine k_ite (fun c3 => ?_) (fun c3 => ?_)
  · walk_at "go"
    refine kr_plusS (size_ok (by have := sw.1; omega)) ?_
    exact k _ _ (pre_no hm sw.2.1) S3 K3
  walk_at "go"
  refine ⟨rfl, fun p3 f3 => ?_⟩
  walk_at "go"
  refine k_ite (fun c4 => ?_) (fun c4 => ?_)
  · walk_at "go"
    refine kr_plusS (size_ok (by have := sw.1; have : ("x" : Str).length = 1 := rfl; omega)) ?_
    exact k _ _ (pre_no (by rw [inV_strs] at c4; simpa using c4) (Nat.le_refl 1)) (S3.new f3) (K3.new f3)
  · walk_at "go"
    exact k _ _ (by rw [inV_strs] at c4; simpa using c4) (S3.new f3) (K3.new f3)
def spRefused : Sp := fun vs H Q _ => ∃ l u : Str, vs = [.str l, .str u] ∧ (l ∉ seven ∨ u ∉ seven) ∧ ∀ H', Keep [] H H' → Q (.str (if l ∈ seven then u else l)) H'
theorem ok_law_refused (T : Txt P w K mg)  : FnOk P w K mg base CX0 (4) T.a_law_refused T.d_law_refused ["lower", "upper"] (spRefused) := by
  refine T.F_law_refused.ok sc_law_refused (fun vs H Q E h => by obtain ⟨_, _, rfl, _⟩ := h; rfl) (fun cdv A outer s H vs Q E hr h => ?_)
  have hu := hu_of hr
  have hu64 := hr.units
  refine ⟨_, (pss_cons (ps_try_as1 (i := 2) rfl rfl sc_law_refused.nd rfl rfl (by exact ⟨rfl, by decide, Or.inl T.mc_UnknownMark⟩) takes0
      (fun W => ⟨_, fun pn xe tk _ => (pss_one (ps_expr (pe_callS (ok_below T) (hr.mono (by first | decide | omega)) (by rfl) T.m_below T.F_below.kp T.b_below (fun σ => passAt tk σ) (pa_cons (pv 0) (pa_cons (pv 1) pa_nil)))))⟩)
      (fun a cls d => ⟨_, fun oe pn hz hf => (pss_cons (ps_if (PW.pt (pw_or (pt_not (pt_val (pe_callB (call_isD hz hf) (by rfl) T.z_isinstance (by decide +kernel) (pa_cons (pv 2) (pa_cons (pe_glob (v := .ref T.c_SlotError) (by rfl) T.mc_SlotError rfl) pa_nil))))) (pw_or1 (pt_not (pt_val (pe_callB (call_isD hz hf) (by rfl) T.z_isinstance (by decide +kernel) (pa_cons (pv 2) (pa_cons (pe_bltn (v := .ty "ValueError") (by rfl) T.z_ValueError (by decide +kernel) rfl) pa_nil)))))))) (pss_one (ps_ret pe_non)) pss_nil)
      (pss_cons (ps_if (PW.pt (pw_or (pt_val (pe_callB (call_isD hz hf) (by rfl) T.z_isinstance (by decide +kernel) (pa_cons (pv 2) (pa_cons (pe_glob (v := .ref T.c_WrongMark) (by rfl) T.mc_WrongMark rfl) pa_nil)))) (pw_or1 (pt_val (pe_callB (call_isD hz hf) (by rfl) T.z_isinstance (by decide +kernel) (pa_cons (pv 2) (pa_cons (pe_glob (v := .ref T.c_MissingMark) (by rfl) T.mc_MissingMark rfl) pa_nil))))))) (pss_one (ps_ret pe_non)) pss_nil)
      (pss_one (ps_ret (pe_fldE hz hf (pv 2))))))⟩) rfl)
      (pss_one (ps_ret pe_non))), ?_⟩
  dsimp only
  obtain ⟨l, u, rfl, hlu, k⟩ := h
  walk_at "start"
  walk_at "go"
  refine k_callS ?_
  walk_at "go"
  refine ⟨l, u, rfl, fun h1 h2 => (hlu.elim (absurd h1) (absurd h2)), fun h1 d fd => ?_, fun h1 h2 d fd => ?_⟩
  · rw [if_neg h1] at k
    refine k_as T.sup_UnknownMark.te (fun a fa => ?_)
    have hd : upd H d (.xd [("mark", .str l)]) d = some (.xd [("mark", .str l)]) := upd_same
    repeat (first | walk_at "go1" | refine kr_isD T.xc_UnknownMark hd (fun _ h => h) T.kt_UnknownMark_SlotError ?_ | refine kr_isD T.xc_UnknownMark hd (fun _ h => h) T.kt_UnknownMark_ValueError ?_ | refine kr_isD T.xc_UnknownMark hd (fun _ h => h) T.kt_UnknownMark_WrongMark ?_ | refine kr_isD T.xc_UnknownMark hd (fun _ h => h) T.kt_UnknownMark_MissingMark ?_)
    refine k_fldV (excF_of T.sup_UnknownMark) rfl rfl hd ?_
    exact k _ ((Keep.refl H).new fd)
  · rw [if_pos h1] at k
    refine k_as T.sup_UnknownMark.te (fun a fa => ?_)
    have hd : upd H d (.xd [("mark", .str u)]) d = some (.xd [("mark", .str u)]) := upd_same
    repeat (first | walk_at "go1" | refine kr_isD T.xc_UnknownMark hd (fun _ h => h) T.kt_UnknownMark_SlotError ?_ | refine kr_isD T.xc_UnknownMark hd (fun _ h => h) T.kt_UnknownMark_ValueError ?_ | refine kr_isD T.xc_UnknownMark hd (fun _ h => h) T.kt_UnknownMark_WrongMark ?_ | refine kr_isD T.xc_UnknownMark hd (fun _ h => h) T.kt_UnknownMark_MissingMark ?_)
    refine k_fldV (excF_of T.sup_UnknownMark) rfl rfl hd ?_
    exact k _ ((Keep.refl H).new fd)
def spLaw (K : PySem.W.Frag) : Sp := fun vs H Q _ => ∃ (a : Addr) (ns : List Int), vs = [.ref a] ∧ SqL K H a (ns.map V.int) ∧ ns.length ≤ 63 ∧ ∀ H', Q (.bl true) H'
theorem not_self (x : V) : (!decide (x = x)) = false := by simp
theorem same_flat (T : Txt P w K mg)  : FnOk P w K mg base CX0 (8) T.a_law_same T.d_law_same ["here", "there"] (spFlat K) := by
  refine T.F_law_same.ok sc_law_same (fun vs H Q E h => by obtain ⟨_, _, _, rfl, _⟩ := h; rfl) (fun cdv A outer s H vs Q E hr h => ?_)
  have hu := hu_of hr
  have hu64 := hr.units
  refine ⟨_, (pss_cons (ps_if (PW.pt (pw_or (pt_cmpR op_isNA (pv 0) pe_non (nomark _)) (pw_or1 (pt_cmpR op_isNA (pv 1) pe_non (nomark _))))) (pss_one (ps_ret (pe_and (pe_cmpR op_isNA (pv 0) pe_non (nomark _)) (pe_one (pe_cmpR op_isNA (pv 1) pe_non (nomark _)))))) pss_nil)
      (pss_cons (ps_if (PW.pt (pw_or (pt_val (pe_callB call_isi (by rfl) T.z_isinstance (by decide +kernel) (pa_cons (pv 0) (pa_cons (pe_bltn (v := .ty "bool") (by rfl) T.z_bool (by decide +kernel) rfl) pa_nil)))) (pw_or1 (pt_val (pe_callB call_isi (by rfl) T.z_isinstance (by decide +kernel) (pa_cons (pv 1) (pa_cons (pe_bltn (v := .ty "bool") (by rfl) T.z_bool (by decide +kernel) rfl) pa_nil))))))) (pss_one (ps_ret (pe_and (pe_callB call_isi (by rfl) T.z_isinstance (by decide +kernel) (pa_cons (pv 0) (pa_cons (pe_bltn (v := .ty "bool") (by rfl) T.z_bool (by decide +kernel) rfl) pa_nil))) (pe_and (pe_callB call_isi (by rfl) T.z_isinstance (by decide +kernel) (pa_cons (pv 1) (pa_cons (pe_bltn (v := .ty "bool") (by rfl) T.z_bool (by decide +kernel) rfl) pa_nil))) (pe_one (pe_cmpR (op_eqq hu64) (pv 0) (pv 1) (nomark _))))))) pss_nil)
      (pss_cons (ps_if (PW.pt (pw_or (pt_val (pe_callB call_isi (by rfl) T.z_isinstance (by decide +kernel) (pa_cons (pv 0) (pa_cons (pe_bltn (v := .ty "int") (by rfl) T.z_int (by decide +kernel) rfl) pa_nil)))) (pw_or1 (pt_val (pe_callB call_isi (by rfl) T.z_isinstance (by decide +kernel) (pa_cons (pv 1) (pa_cons (pe_bltn (v := .ty "int") (by rfl) T.z_int (by decide +kernel) rfl) pa_nil))))))) (pss_one (ps_ret (pe_and (pe_callB call_isi (by rfl) T.z_isinstance (by decide +kernel) (pa_cons (pv 0) (pa_cons (pe_bltn (v := .ty "int") (by rfl) T.z_int (by decide +kernel) rfl) pa_nil))) (pe_and (pe_callB call_isi (by rfl) T.z_isinstance (by decide +kernel) (pa_cons (pv 1) (pa_cons (pe_bltn (v := .ty "int") (by rfl) T.z_int (by decide +kernel) rfl) pa_nil))) (pe_one (pe_cmpR (op_eqq hu64) (pv 0) (pv 1) (nomark _))))))) pss_nil)
      (pss_cons (ps_if (PW.pt (pw_or (pt_val (pe_callB call_isi (by rfl) T.z_isinstance (by decide +kernel) (pa_cons (pv 0) (pa_cons (pe_bltn (v := .ty "str") (by rfl) T.z_str (by decide +kernel) rfl) pa_nil)))) (pw_or1 (pt_val (pe_callB call_isi (by rfl) T.z_isinstance (by decide +kernel) (pa_cons (pv 1) (pa_cons (pe_bltn (v := .ty "str") (by rfl) T.z_str (by decide +kernel) rfl) pa_nil))))))) (pss_one (ps_ret (pe_and (pe_callB call_isi (by rfl) T.z_isinstance (by decide +kernel) (pa_cons (pv 0) (pa_cons (pe_bltn (v := .ty "str") (by rfl) T.z_str (by decide +kernel) rfl) pa_nil))) (pe_and (pe_callB call_isi (by rfl) T.z_isinstance (by decide +kernel) (pa_cons (pv 1) (pa_cons (pe_bltn (v := .ty "str") (by rfl) T.z_str (by decide +kernel) rfl) pa_nil))) (pe_one (pe_cmpR (op_eqq hu64) (pv 0) (pv 1) (nomark _))))))) pss_nil)
      (pss_cons (ps_if (PW.pt (pw_and (pt_val (pe_callB call_isi (by rfl) T.z_isinstance (by decide +kernel) (pa_cons (pv 0) (pa_cons (pe_bltn (v := .ty "dict") (by rfl) T.z_dict (by decide +kernel) rfl) pa_nil)))) (pw_and1 (pt_val (pe_callB call_isi (by rfl) T.z_isinstance (by decide +kernel) (pa_cons (pv 1) (pa_cons (pe_bltn (v := .ty "dict") (by rfl) T.z_dict (by decide +kernel) rfl) pa_nil))))))) pss_never pss_nil)
      (pss_cons (ps_if (PW.pt (pw_or (pt_cmpR (op_neq hu64) (pe_callB call_isi (by rfl) T.z_isinstance (by decide +kernel) (pa_cons (pv 0) (pa_cons (pe_bltn (v := .ty "tuple") (by rfl) T.z_tuple (by decide +kernel) rfl) pa_nil))) (pe_callB call_isi (by rfl) T.z_isinstance (by decide +kernel) (pa_cons (pv 1) (pa_cons (pe_bltn (v := .ty "tuple") (by rfl) T.z_tuple (by decide +kernel) rfl) pa_nil))) (nomark _)) (pw_or1 (pt_cmpR (op_neq hu64) (pe_callB call_isi (by rfl) T.z_isinstance (by decide +kernel) (pa_cons (pv 0) (pa_cons (pe_bltn (v := .ty "list") (by rfl) T.z_list (by decide +kernel) rfl) pa_nil))) (pe_callB call_isi (by rfl) T.z_isinstance (by decide +kernel) (pa_cons (pv 1) (pa_cons (pe_bltn (v := .ty "list") (by rfl) T.z_list (by decide +kernel) rfl) pa_nil))) (nomark _))))) (pss_one (ps_ret pe_bl)) pss_nil)
      (pss_cons (ps_if (PW.pt (pw_and (pt_not (pt_val (pe_callB call_isi (by rfl) T.z_isinstance (by decide +kernel) (pa_cons (pv 0) (pa_cons (pe_bltn (v := .ty "tuple") (by rfl) T.z_tuple (by decide +kernel) rfl) pa_nil))))) (pw_and1 (pt_not (pt_val (pe_callB call_isi (by rfl) T.z_isinstance (by decide +kernel) (pa_cons (pv 0) (pa_cons (pe_bltn (v := .ty "list") (by rfl) T.z_list (by decide +kernel) rfl) pa_nil)))))))) (pss_one (ps_ret pe_bl)) pss_nil)
      (pss_cons (ps_if (pt_cmpR (op_neq hu64) (pe_callB call_lenA (by rfl) T.z_len (by decide +kernel) (pa_cons (pv 0) pa_nil)) (pe_callB call_lenA (by rfl) T.z_len (by decide +kernel) (pa_cons (pv 1) pa_nil)) (nomark _)) (pss_one (ps_ret pe_bl)) pss_nil)
      (pss_cons (ps_for PassesOwn.never rfl (pi_range1 (by rfl) T.z_range (pa_cons (pe_callB call_lenA (by rfl) T.z_len (by decide +kernel) (pa_cons (pv 0) pa_nil)) pa_nil)) (pg_name (i := 3) sc_law_same.nd rfl (by first | exact Or.inl rfl | exact Or.inr rfl))
      (pss_one (ps_if (pt_not (pt_val (pe_call (ok_law_same T 7) (hr.mono (by first | decide | omega)) (by rfl) T.m_law_same T.F_law_same.kp T.b_law_same .nil pass0 (pa_cons (pe_ix (ix_any hu) (pv 0) (pv 3) (fun _ _ => rfl)) (pa_cons (pe_ix (ix_any hu) (pv 1) (pv 3) (fun _ _ => rfl)) pa_nil))))) (pss_one (ps_ret pe_bl)) pss_nil)))
      (pss_one (ps_ret pe_bl))))))))))), ?_⟩
  obtain ⟨a, b, ns, rfl, h1, h2, hl, k⟩ := h
  walk_at "start"
  repeat (first | walk_at "go1" | refine kr_isiQ_bool h1 ?_ | refine kr_isiQ_int h1 ?_ | refine kr_isiQ_str h1 ?_ | refine kr_isiQ_list h1 ?_ | refine kr_isiQ_tuple h1 ?_ | refine kr_isiQ_dict h1 ?_ | refine kr_lenQ h1 ?_)
  have hl2 : (ns.map V.str).length < 1000 := by rw [List.length_map]; exact hl
  refine k_iteF (not_self _) ?_
  repeat (first | walk_at "go1" | refine kr_lenQ h1 ?_)
  refine for_r (fun i σ H' => (∃ v, σ = [some (.ref a), some (.ref b), none, v]) ∧ Keep [] H H') ⟨⟨none, rfl⟩, Keep.refl H⟩ ?_ ?_
  · rintro i σ H1 hi ⟨⟨v, rfl⟩, k1⟩
    have hi2 : i < (ns.map V.str).length := hi
    obtain ⟨x, hx⟩ := some_of (xs := ns) (by rw [List.length_map] at hi2; exact hi2)
    have hx' : (ns.map V.str)[i]? = some (.str x) := by rw [List.getElem?_map, hx]; rfl
    walk_at "go"
    refine kr_ixQ (sqT_keep k1 h1) (atI_nat hx') ?_
    walk_at "go"
    refine kr_ixT (k1.at nin0 h2) (atI_nat hx') ?_
    walk_at "go"
    refine use_same (.str x) (.str x) (by show 0 < 7; decide) fun b H2 hb k2 => ?_
    obtain rfl : b = true := hb.mpr rfl
    walk_at "go"
    exact ⟨⟨_, rfl⟩, k1.trans k2⟩
  · rintro σ H1 ⟨⟨v, rfl⟩, k1⟩
    walk_at "go"
    exact k _ k1
theorem ok_law_same2 (T : Txt P w K mg) : FnOk P w K mg base CX0 8 T.a_law_same T.d_law_same ["here", "there"] (spSameF K 8) := (ok_law_same T 8).or (same_flat T)
theorem use_strs {H : Hp} {x : Str} {Q : VK} {E : XK} (k : ∀ H', Keep [] H H' → Q (.bl true) H') : spSameF K 8 ([.str x, .str x] ++ []) H Q E :=
  .inl (use_same (.str x) (.str x) (by show 0 < 8; decide) fun b H2 hb k2 => by obtain rfl : b = true := hb.mpr rfl; exact k _ k2)
theorem use_flat {H : Hp} {a b : Addr} {ns : List Str} {Q : VK} {E : XK} (h1 : SqT K H a (ns.map V.str)) (h2 : H b = some (.tup (ns.map V.str))) (hl : ns.length < 1000) (k : ∀ H', Keep [] H H' → Q (.bl true) H') : spSameF K 8 ([.ref a, .ref b] ++ []) H Q E :=
  .inr ⟨a, b, ns, rfl, h1, h2, hl, k⟩
theorem ok_law (T : Txt P w K mg)  : FnOk P w K mg base CX0 (9) T.a_law T.d_law ["script"] (spLaw K) := by
  refine T.F_law.ok sc_law (fun vs H Q E h => by obtain ⟨_, _, rfl, _⟩ := h; rfl) (fun cdv A outer s H vs Q E hr h => ?_)
  have hu := hu_of hr
  have hu64 := hr.units
  refine ⟨_, (pss_cons (ps_set (i := 1) sc_law.nd rfl (by first | exact Or.inl rfl | exact Or.inr rfl) (pe_call (ok_law_start T) (hr.mono (by first | decide | omega)) (by rfl) T.m_law_start T.F_law_start.kp T.b_law_start .nil pass0 (pa_cons (pv 0) pa_nil)))
      (pss_cons (ps_set (i := 2) sc_law.nd rfl (by first | exact Or.inl rfl | exact Or.inr rfl) (pe_call0 (ok_law_seven T) (hr.mono (by first | decide | omega)) (by rfl) T.m_law_seven T.F_law_seven.kp T.b_law_seven .nil pass0))
      (pss_cons (ps_if (pt_not (pt_val (pe_call (ok_law_same2 T) (hr.mono (by first | decide | omega)) (by rfl) T.m_law_same T.F_law_same.kp T.b_law_same .nil pass0 (pa_cons (pe_glob (v := .ref T.k_MARKS) (by rfl) T.mk_MARKS rfl) (pa_cons (pe_callTy call_tupleA (by rfl) T.z_tuple (by decide +kernel) (pa_cons (pv 2) pa_nil)) pa_nil))))) (pss_one (ps_ret pe_bl)) pss_nil)
      (pss_cons (ps_if (pt_not (pt_val (pe_call (ok_law_same2 T) (hr.mono (by first | decide | omega)) (by rfl) T.m_law_same T.F_law_same.kp T.b_law_same .nil pass0 (pa_cons (pe_glob (v := .ref T.k_KEEP_MARKS) (by rfl) T.mk_KEEP_MARKS rfl) (pa_cons (pe_tup (pa_cons pe_str (pa_cons pe_str (pa_cons pe_str (pa_cons pe_str (pa_cons pe_str pa_nil)))))) pa_nil))))) (pss_one (ps_ret pe_bl)) pss_nil)
      (pss_cons (ps_if (PW.pt (pw_or (pt_not (pt_val (pe_call (ok_law_same2 T) (hr.mono (by first | decide | omega)) (by rfl) T.m_law_same T.F_law_same.kp T.b_law_same .nil pass0 (pa_cons (pe_glob (v := .ref T.k_CONFIRM_MARKS) (by rfl) T.mk_CONFIRM_MARKS rfl) (pa_cons (pe_tup (pa_cons pe_str (pa_cons pe_str (pa_cons pe_str pa_nil)))) pa_nil))))) (pw_or1 (pt_not (pt_val (pe_call (ok_law_same2 T) (hr.mono (by first | decide | omega)) (by rfl) T.m_law_same T.F_law_same.kp T.b_law_same .nil pass0 (pa_cons (pe_glob (v := .ref T.k_BEGIN_MARKS) (by rfl) T.mk_BEGIN_MARKS rfl) (pa_cons (pe_tup (pa_cons pe_str (pa_cons pe_str (pa_cons pe_str pa_nil)))) pa_nil)))))))) (pss_one (ps_ret pe_bl)) pss_nil)
      (pss_cons (ps_for PassesOwn.never rfl (pi_list (pv 2)) (pg_name (i := 3) sc_law.nd rfl (by first | exact Or.inl rfl | exact Or.inr rfl))
      (pss_one (ps_for PassesOwn.never rfl (pi_list (pv 2)) (pg_name (i := 4) sc_law.nd rfl (by first | exact Or.inl rfl | exact Or.inr rfl))
      (pss_cons (ps_set (i := 5) sc_law.nd rfl (by first | exact Or.inl rfl | exact Or.inr rfl) (pe_call (ok_below T) (hr.mono (by first | decide | omega)) (by rfl) T.m_below T.F_below.kp T.b_below .nil passN (pa_cons (pv 3) (pa_cons (pv 4) pa_nil))))
      (pss_one (ps_if (PW.pt (pw_or (pt_not (pt_val (pe_callB call_isi (by rfl) T.z_isinstance (by decide +kernel) (pa_cons (pv 5) (pa_cons (pe_bltn (v := .ty "bool") (by rfl) T.z_bool (by decide +kernel) rfl) pa_nil))))) (pw_or1 (pt_cmpR (op_neq hu64) (pv 5) (pe_call (ok_law_under T) (hr.mono (by first | decide | omega)) (by rfl) T.m_law_under T.F_law_under.kp T.b_law_under .nil pass0 (pa_cons (pv 3) (pa_cons (pv 4) pa_nil))) (nomark _))))) (pss_one (ps_ret pe_bl)) pss_nil))))))
      (pss_cons (ps_set (i := 6) sc_law.nd rfl (by first | exact Or.inl rfl | exact Or.inr rfl) (pe_call (ok_law_stranger T) (hr.mono (by first | decide | omega)) (by rfl) T.m_law_stranger T.F_law_stranger.kp T.b_law_stranger .nil pass0 (pa_cons (pv 1) pa_nil)))
      (pss_cons (ps_set (i := 7) sc_law.nd rfl (by first | exact Or.inl rfl | exact Or.inr rfl) (pe_call (ok_law_stranger T) (hr.mono (by first | decide | omega)) (by rfl) T.m_law_stranger T.F_law_stranger.kp T.b_law_stranger .nil pass0 (pa_cons (pv 1) pa_nil)))
      (pss_cons (ps_set (i := 8) sc_law.nd rfl (by first | exact Or.inl rfl | exact Or.inr rfl) (pe_ix (ix_any hu) (pv 2) (pe_call (ok_law_draw T) (hr.mono (by first | decide | omega)) (by rfl) T.m_law_draw T.F_law_draw.kp T.b_law_draw .nil pass0 (pa_cons (pv 1) (pa_cons pe_int pa_nil))) (fun _ _ => rfl)))
      (pss_cons (ps_set (i := 9) sc_law.nd rfl (by first | exact Or.inl rfl | exact Or.inr rfl) (pe_ix (ix_any hu) (pv 2) (pe_call (ok_law_draw T) (hr.mono (by first | decide | omega)) (by rfl) T.m_law_draw T.F_law_draw.kp T.b_law_draw .nil pass0 (pa_cons (pv 1) (pa_cons pe_int pa_nil))) (fun _ _ => rfl)))
      (pss_cons (ps_for PassesOwn.never rfl (pi_list (pv 2)) (pg_name (i := 10) sc_law.nd rfl (by first | exact Or.inl rfl | exact Or.inr rfl))
      (pss_cons (ps_if (PW.pt (pw_or (pt_not (pt_val (pe_call (ok_law_same2 T) (hr.mono (by first | decide | omega)) (by rfl) T.m_law_same T.F_law_same.kp T.b_law_same .nil pass0 (pa_cons (pe_call (ok_law_refused T) (hr.mono (by first | decide | omega)) (by rfl) T.m_law_refused T.F_law_refused.kp T.b_law_refused .nil pass0 (pa_cons (pv 6) (pa_cons (pv 10) pa_nil))) (pa_cons (pv 6) pa_nil))))) (pw_or1 (pt_not (pt_val (pe_call (ok_law_same2 T) (hr.mono (by first | decide | omega)) (by rfl) T.m_law_same T.F_law_same.kp T.b_law_same .nil pass0 (pa_cons (pe_call (ok_law_refused T) (hr.mono (by first | decide | omega)) (by rfl) T.m_law_refused T.F_law_refused.kp T.b_law_refused .nil pass0 (pa_cons (pv 10) (pa_cons (pv 6) pa_nil))) (pa_cons (pv 6) pa_nil)))))))) (pss_one (ps_ret pe_bl)) pss_nil)
      (pss_cons (ps_if (PW.pt (pw_or (pt_not (pt_val (pe_call (ok_law_same2 T) (hr.mono (by first | decide | omega)) (by rfl) T.m_law_same T.F_law_same.kp T.b_law_same .nil pass0 (pa_cons (pe_call (ok_law_refused T) (hr.mono (by first | decide | omega)) (by rfl) T.m_law_refused T.F_law_refused.kp T.b_law_refused .nil pass0 (pa_cons (pv 7) (pa_cons (pv 10) pa_nil))) (pa_cons (pv 7) pa_nil))))) (pw_or1 (pt_not (pt_val (pe_call (ok_law_same2 T) (hr.mono (by first | decide | omega)) (by rfl) T.m_law_same T.F_law_same.kp T.b_law_same .nil pass0 (pa_cons (pe_call (ok_law_refused T) (hr.mono (by first | decide | omega)) (by rfl) T.m_law_refused T.F_law_refused.kp T.b_law_refused .nil pass0 (pa_cons (pv 10) (pa_cons (pv 7) pa_nil))) (pa_cons (pv 7) pa_nil)))))))) (pss_one (ps_ret pe_bl)) pss_nil)
      (pss_cons (ps_set (i := 5) sc_law.nd rfl (by first | exact Or.inl rfl | exact Or.inr rfl) (pe_call (ok_below T) (hr.mono (by first | decide | omega)) (by rfl) T.m_below T.F_below.kp T.b_below .nil passN (pa_cons (pv 8) (pa_cons (pv 10) pa_nil))))
      (pss_one (ps_if (PW.pt (pw_or (pt_not (pt_val (pe_callB call_isi (by rfl) T.z_isinstance (by decide +kernel) (pa_cons (pv 5) (pa_cons (pe_bltn (v := .ty "bool") (by rfl) T.z_bool (by decide +kernel) rfl) pa_nil))))) (pw_or1 (pt_cmpR (op_neq hu64) (pv 5) (pe_call (ok_law_under T) (hr.mono (by first | decide | omega)) (by rfl) T.m_law_under T.F_law_under.kp T.b_law_under .nil pass0 (pa_cons (pv 8) (pa_cons (pv 10) pa_nil))) (nomark _))))) (pss_one (ps_ret pe_bl)) pss_nil))))))
      (pss_cons (ps_if (PW.pt (pw_or (pt_not (pt_val (pe_call (ok_law_same2 T) (hr.mono (by first | decide | omega)) (by rfl) T.m_law_same T.F_law_same.kp T.b_law_same .nil pass0 (pa_cons (pe_call (ok_law_refused T) (hr.mono (by first | decide | omega)) (by rfl) T.m_law_refused T.F_law_refused.kp T.b_law_refused .nil pass0 (pa_cons (pv 6) (pa_cons (pv 7) pa_nil))) (pa_cons (pv 6) pa_nil))))) (pw_or1 (pt_not (pt_val (pe_call (ok_law_same2 T) (hr.mono (by first | decide | omega)) (by rfl) T.m_law_same T.F_law_same.kp T.b_law_same .nil pass0 (pa_cons (pe_call (ok_law_refused T) (hr.mono (by first | decide | omega)) (by rfl) T.m_law_refused T.F_law_refused.kp T.b_law_refused .nil pass0 (pa_cons (pv 7) (pa_cons (pv 6) pa_nil))) (pa_cons (pv 7) pa_nil)))))))) (pss_one (ps_ret pe_bl)) pss_nil)
      (pss_cons (ps_set (i := 5) sc_law.nd rfl (by first | exact Or.inl rfl | exact Or.inr rfl) (pe_call (ok_below T) (hr.mono (by first | decide | omega)) (by rfl) T.m_below T.F_below.kp T.b_below .nil passN (pa_cons (pv 8) (pa_cons (pv 9) pa_nil))))
      (pss_one (ps_ret (pe_and (pe_callB call_isi (by rfl) T.z_isinstance (by decide +kernel) (pa_cons (pv 5) (pa_cons (pe_bltn (v := .ty "bool") (by rfl) T.z_bool (by decide +kernel) rfl) pa_nil))) (pe_one (pe_cmpR (op_eqq hu64) (pv 5) (pe_call (ok_law_under T) (hr.mono (by first | decide | omega)) (by rfl) T.m_law_under T.F_law_under.kp T.b_law_under .nil pass0 (pa_cons (pv 8) (pa_cons (pv 9) pa_nil))) (nomark _))))))))))))))))))), ?_⟩
  obtain ⟨a, ns, rfl, hS, hlen, k⟩ := h
  walk_at "start"
  walk_at "go"
  refine use_start hS fun p q H1 fp fq S1 k1 => ?_
  walk_at "go"
  refine ⟨rfl, fun m fm => ?_⟩
  have hm := (upd_same : (upd H1 m (.lst (seven.map V.str))) m = some (.lst (seven.map V.str)))
  have S2 := S1.new (o := .lst (seven.map V.str)) fm
  have n1 : m ≠ p := (S1.p_ne fm).symm
  have n2 : m ≠ q := (S1.q_ne fm).symm
  generalize upd H1 m (.lst (seven.map V.str)) = H2 at hm S2 ⊢
  walk_at "go"
  intro t1 f1
  walk_at "go"
  refine use_flat (ns := seven) (T.tk_MARKS _) upd_same (by decide) fun H3 k3 => ?_
  have K3 : Keep [] H2 H3 := k3.trans' f1
  walk_at "go"
  intro t2 f2
  walk_at "go"
  refine use_flat (ns := ["zero", "calm", "owed", "done", "end"]) (T.tk_KEEP_MARKS _) upd_same (by decide) fun H4 k4 => ?_
  have K4 : Keep [] H2 H4 := K3.trans (k4.trans' f2)
  walk_at "go"
  intro t3 f3
  walk_at "go"
  refine use_flat (ns := ["zero", "own", "got"]) (T.tk_CONFIRM_MARKS _) upd_same (by decide) fun H5 k5 => ?_
  have K5 : Keep [] H2 H5 := K4.trans (k5.trans' f3)
  walk_at "go"
  intro t4 f4
  walk_at "go"
  refine use_flat (ns := ["zero", "done", "own"]) (T.tk_BEGIN_MARKS _) upd_same (by decide) fun H6 k6 => ?_
  have K6 : Keep [] H2 H6 := K5.trans (k6.trans' f4)
  have hm6 := K6.at nin0 hm
  have S6 := S2.keep K6 nin0 nin0
  walk_at "go"
  refine for_l (seven.map V.str) (fun i σ H' => (∃ v3 v4 v5, σ = [some (.ref a), some (.ref p), some (.ref m), v3, v4, v5, none, none, none, none, none]) ∧ H' m = some (.lst (seven.map V.str)) ∧ StAt H' p q) ⟨⟨none, none, none, rfl⟩, hm6, S6⟩ (fun i σ H' _ ⟨_, h, _⟩ => SqL.of h) ?_ ?_
  · rintro i x σ H7 hx ⟨⟨v3, v4, v5, rfl⟩, hm7, S7⟩
    obtain ⟨l, hl, rfl⟩ := List.mem_map.mp (List.mem_of_getElem? hx)
    walk_at "go"
    refine for_l (seven.map V.str) (fun i σ H' => (∃ v4 v5, σ = [some (.ref a), some (.ref p), some (.ref m), some (.str l), v4, v5, none, none, none, none, none]) ∧ H' m = some (.lst (seven.map V.str)) ∧ StAt H' p q) ⟨⟨_, _, rfl⟩, hm7, S7⟩ (fun i σ H' _ ⟨_, h, _⟩ => SqL.of h) ?_ ?_
    · rintro i x σ H8 hx ⟨⟨v4, v5, rfl⟩, hm8, S8⟩
      obtain ⟨u, hu, rfl⟩ := List.mem_map.mp (List.mem_of_getElem? hx)
      walk_at "go"
      refine ⟨l, u, rfl, fun _ _ => ?_, fun z => absurd hl z, fun _ z => absurd hu z⟩
      walk_at "go"
      refine ⟨l, u, rfl, hl, hu, fun H9 k9 => ?_⟩
      walk_at "go"
      refine k_iteF (by simp) ?_
      walk_at "go"
      exact ⟨⟨_, _, rfl⟩, k9.at nin0 hm8, S8.keep k9 nin0 nin0⟩
    · rintro σ H8 ⟨⟨v4, v5, rfl⟩, hm8, S8⟩
      exact ⟨⟨_, _, _, rfl⟩, hm8, S8⟩
  rintro σ H7 ⟨⟨v3, v4, v5, rfl⟩, hm7, S7⟩
  walk_at "go"
  refine ⟨p, q, rfl, S7, fun s1 H8 ns1 S8 k8 => ?_⟩
  have hm8 := k8.at (nin1 n1) hm7
  walk_at "go"
  refine ⟨p, q, rfl, S8, fun s2 H9 ns2 S9 k9 => ?_⟩
  have hm9 := k9.at (nin1 n1) hm8
  walk_at "go"
  refine use_draw S9 (by decide) (by decide) fun d1 HA l1 u1 SA kA => ?_
  have hmA := kA.at (nin1 n1) hm9
  walk_at "go"
  obtain ⟨x1, hx1, e1⟩ := at_strs (ns := seven) l1 u1
  refine kr_ixL hmA e1 ?_
  walk_at "go"
  refine use_draw SA (by decide) (by decide) fun d2 HB l2 u2 SB kB => ?_
  have hmB := kB.at (nin1 n1) hmA
  walk_at "go"
  obtain ⟨x2, hx2, e2⟩ := at_strs (ns := seven) l2 u2
  refine kr_ixL hmB e2 ?_
  walk_at "go"
  refine for_l (seven.map V.str) (fun i σ H' => (∃ v5 vA, σ = [some (.ref a), some (.ref p), some (.ref m), v3, v4, v5, some (.str s1), some (.str s2), some (.str x1), some (.str x2), vA]) ∧ H' m = some (.lst (seven.map V.str))) ⟨⟨_, _, rfl⟩, hmB⟩ (fun i σ H' _ ⟨_, h⟩ => SqL.of h) ?_ ?_
  · rintro i x σ HC hx ⟨⟨v5, vA, rfl⟩, hmC⟩
    obtain ⟨u, hu, rfl⟩ := List.mem_map.mp (List.mem_of_getElem? hx)
    walk_at "go"
    refine ⟨s1, u, rfl, .inl ns1, fun HD kD => ?_⟩
    rw [if_neg ns1]
    walk_at "go"
    refine use_strs fun HE kE => ?_
    walk_at "go"
    refine ⟨u, s1, rfl, .inr ns1, fun HF kF => ?_⟩
    rw [if_pos hu]
    walk_at "go"
    refine use_strs fun HG kG => ?_
    walk_at "go"
    refine ⟨s2, u, rfl, .inl ns2, fun HD' kD' => ?_⟩
    rw [if_neg ns2]
    walk_at "go"
    refine use_strs fun HE' kE' => ?_
    walk_at "go"
    refine ⟨u, s2, rfl, .inr ns2, fun HF' kF' => ?_⟩
    rw [if_pos hu]
    walk_at "go"
    refine use_strs fun HG' kG' => ?_
    walk_at "go"
    refine ⟨x1, u, rfl, fun _ _ => ?_, fun z => absurd hx1 z, fun _ z => absurd hu z⟩
    walk_at "go"
    refine ⟨x1, u, rfl, hx1, hu, fun HH kH => ?_⟩
    walk_at "go"
    refine k_iteF (by simp) ?_
    walk_at "go"
    exact ⟨⟨_, _, rfl⟩, kH.at nin0 (kG'.at nin0 (kF'.at nin0 (kE'.at nin0 (kD'.at nin0 (kG.at nin0 (kF.at nin0 (kE.at nin0 (kD.at nin0 hmC))))))))⟩
  rintro σ HC ⟨⟨v5, vA, rfl⟩, hmC⟩
  walk_at "go"
  refine ⟨s1, s2, rfl, .inl ns1, fun HD kD => ?_⟩
  rw [if_neg ns1]
  walk_at "go"
  refine use_strs fun HE kE => ?_
  walk_at "go"
  refine ⟨s2, s1, rfl, .inl ns2, fun HF kF => ?_⟩
  rw [if_neg ns2]
  walk_at "go"
  refine use_strs fun HG kG => ?_
  walk_at "go"
  refine ⟨x1, x2, rfl, fun _ _ => ?_, fun z => absurd hx1 z, fun _ z => absurd hx2 z⟩
  walk_at "go"
  refine ⟨x1, x2, rfl, hx1, hx2, fun HH kH => ?_⟩
  walk_at "go"
  exact q_bl (by simp) (k HH)
end
theorem all_mk {l : PySem.W.OpenLaw} {w : World} {K : PySem.W.Frag} {h : Heap} {mg : Str → Option Value} {fa a_law_mixed a_law_draw a_law_start a_law_word a_law_same a_check_mark a_stands_below a_below a_law_under a_law_seven a_law_stranger a_law_refused a_law c_UnknownMark c_SlotError c_WrongMark c_MissingMark i_UnknownMark cda_UnknownMark cc_UnknownMark cb0_UnknownMark k_MARKS k_KEEP_MARKS k_CONFIRM_MARKS k_BEGIN_MARKS k_ABOVE k_ABOVE_0 k_ABOVE_1 k_ABOVE_2 k_ABOVE_3 k_ABOVE_4 k_ABOVE_5 k_ABOVE_6 : Addr} (X : K.In h) (G : h.Ns mainGlobals mg) (hfa : mg "law" = some (.ref fa))
    {od_law_mixed an_law_mixed od_law_draw an_law_draw od_law_start an_law_start od_law_word an_law_word od_law_same an_law_same od_check_mark an_check_mark od_stands_below an_stands_below od_below an_below od_law_under an_law_under od_law_seven an_law_seven od_law_stranger an_law_stranger od_law_refused an_law_refused od_law an_law : Option Addr} {sl_law_mixed sl_law_draw sl_law_start sl_law_word sl_law_same sl_check_mark sl_stands_below sl_below sl_law_under sl_law_seven sl_law_stranger sl_law_refused sl_law : Array (Option Value)} {oc_law_mixed kV_law_mixed dc_law_mixed pm_law_mixed cd_law_mixed ct_law_mixed oc_law_draw kV_law_draw dc_law_draw pm_law_draw cd_law_draw ct_law_draw oc_law_start kV_law_start dc_law_start pm_law_start cd_law_start ct_law_start oc_law_word kV_law_word dc_law_word pm_law_word cd_law_word ct_law_word oc_law_same kV_law_same dc_law_same pm_law_same cd_law_same ct_law_same oc_check_mark kV_check_mark dc_check_mark pm_check_mark cd_check_mark ct_check_mark oc_stands_below kV_stands_below dc_stands_below pm_stands_below cd_stands_below ct_stands_below oc_below kV_below dc_below pm_below cd_below ct_below oc_law_under kV_law_under dc_law_under pm_law_under cd_law_under ct_law_under oc_law_seven kV_law_seven dc_law_seven pm_law_seven cd_law_seven ct_law_seven oc_law_stranger kV_law_stranger dc_law_stranger pm_law_stranger cd_law_stranger ct_law_stranger oc_law_refused kV_law_refused dc_law_refused pm_law_refused cd_law_refused ct_law_refused oc_law kV_law dc_law pm_law cd_law ct_law oc_UnknownMark kV_UnknownMark dc_UnknownMark pm_UnknownMark ct_UnknownMark ccl_UnknownMark cl_UnknownMark : Value} {nm_UnknownMark q_UnknownMark file_UnknownMark : Str} {tf_UnknownMark : Tok} {N_UnknownMark : Addr} {bs_UnknownMark sub_UnknownMark : List Value} {sn_UnknownMark : List Str} {ab_UnknownMark : Bool} {col_UnknownMark : Option Bool} {dd_UnknownMark : Option Addr} {m0_UnknownMark m1_UnknownMark m2_UnknownMark m3_UnknownMark m5_UnknownMark : Option Value} {od_UnknownMark an_UnknownMark cdd_UnknownMark cld_UnknownMark : Option Addr} {sl_UnknownMark ccs_UnknownMark csl_UnknownMark : Array (Option Value)} {vs_UnknownMark : Array Value} {u0_MARKS u1_MARKS u2_MARKS u3_MARKS u4_MARKS u5_MARKS u6_MARKS : Tok} {n_MARKS : Nat} {sl_MARKS : Array (Option Value)} {dd_MARKS : Option Addr} {u0_KEEP_MARKS u1_KEEP_MARKS u2_KEEP_MARKS u3_KEEP_MARKS u4_KEEP_MARKS : Tok} {n_KEEP_MARKS : Nat} {sl_KEEP_MARKS : Array (Option Value)} {dd_KEEP_MARKS : Option Addr} {u0_CONFIRM_MARKS u1_CONFIRM_MARKS u2_CONFIRM_MARKS : Tok} {n_CONFIRM_MARKS : Nat} {sl_CONFIRM_MARKS : Array (Option Value)} {dd_CONFIRM_MARKS : Option Addr} {u0_BEGIN_MARKS u1_BEGIN_MARKS u2_BEGIN_MARKS : Tok} {n_BEGIN_MARKS : Nat} {sl_BEGIN_MARKS : Array (Option Value)} {dd_BEGIN_MARKS : Option Addr} {es_ABOVE : Array DictEntry} {n_ABOVE : Nat} {u0_ABOVE_0 u1_ABOVE_0 u2_ABOVE_0 u3_ABOVE_0 u4_ABOVE_0 u5_ABOVE_0 u6_ABOVE_0 : Tok} {n_ABOVE_0 : Nat} {sl_ABOVE_0 : Array (Option Value)} {dd_ABOVE_0 : Option Addr} {u0_ABOVE_1 u1_ABOVE_1 u2_ABOVE_1 u3_ABOVE_1 : Tok} {n_ABOVE_1 : Nat} {sl_ABOVE_1 : Array (Option Value)} {dd_ABOVE_1 : Option Addr} {u0_ABOVE_2 u1_ABOVE_2 u2_ABOVE_2 : Tok} {n_ABOVE_2 : Nat} {sl_ABOVE_2 : Array (Option Value)} {dd_ABOVE_2 : Option Addr} {u0_ABOVE_3 u1_ABOVE_3 : Tok} {n_ABOVE_3 : Nat} {sl_ABOVE_3 : Array (Option Value)} {dd_ABOVE_3 : Option Addr} {u0_ABOVE_4 : Tok} {n_ABOVE_4 : Nat} {sl_ABOVE_4 : Array (Option Value)} {dd_ABOVE_4 : Option Addr} {u0_ABOVE_5 u1_ABOVE_5 u2_ABOVE_5 : Tok} {n_ABOVE_5 : Nat} {sl_ABOVE_5 : Array (Option Value)} {dd_ABOVE_5 : Option Addr} {u0_ABOVE_6 u1_ABOVE_6 : Tok} {n_ABOVE_6 : Nat} {sl_ABOVE_6 : Array (Option Value)} {dd_ABOVE_6 : Option Addr}
    (z_ValueError : PySem.W.nsIn K mainGlobals "ValueError" = some none)
    (z_bool : PySem.W.nsIn K mainGlobals "bool" = some none)
    (z_dict : PySem.W.nsIn K mainGlobals "dict" = some none)
    (z_int : PySem.W.nsIn K mainGlobals "int" = some none)
    (z_isinstance : PySem.W.nsIn K mainGlobals "isinstance" = some none)
    (z_len : PySem.W.nsIn K mainGlobals "len" = some none)
    (z_list : PySem.W.nsIn K mainGlobals "list" = some none)
    (z_range : PySem.W.nsIn K mainGlobals "range" = some none)
    (z_str : PySem.W.nsIn K mainGlobals "str" = some none)
    (z_tuple : PySem.W.nsIn K mainGlobals "tuple" = some none)
    (n1_law_mixed : PySem.W.nsIn K mainGlobals "_law_mixed" = some (some (.ref a_law_mixed)))
    (l_law_mixed : K.lookup a_law_mixed = some ⟨oc_law_mixed, od_law_mixed, .func (PySem.W.fnOf "_law_mixed" "_law_mixed" (defArgs s_law_mixed) (defBody s_law_mixed) (defScope s_law_mixed) .none kV_law_mixed dc_law_mixed pm_law_mixed an_law_mixed cd_law_mixed ct_law_mixed), sl_law_mixed⟩)
    (cc_law_mixed : PySem.W.codeIn K cd_law_mixed "_law_mixed" = true)
    (k_law_mixed : PySem.W.keepIn K (.ref a_law_mixed) = true)
    (n1_law_draw : PySem.W.nsIn K mainGlobals "_law_draw" = some (some (.ref a_law_draw)))
    (l_law_draw : K.lookup a_law_draw = some ⟨oc_law_draw, od_law_draw, .func (PySem.W.fnOf "_law_draw" "_law_draw" (defArgs s_law_draw) (defBody s_law_draw) (defScope s_law_draw) .none kV_law_draw dc_law_draw pm_law_draw an_law_draw cd_law_draw ct_law_draw), sl_law_draw⟩)
    (cc_law_draw : PySem.W.codeIn K cd_law_draw "_law_draw" = true)
    (k_law_draw : PySem.W.keepIn K (.ref a_law_draw) = true)
    (n1_law_start : PySem.W.nsIn K mainGlobals "_law_start" = some (some (.ref a_law_start)))
    (l_law_start : K.lookup a_law_start = some ⟨oc_law_start, od_law_start, .func (PySem.W.fnOf "_law_start" "_law_start" (defArgs s_law_start) (defBody s_law_start) (defScope s_law_start) .none kV_law_start dc_law_start pm_law_start an_law_start cd_law_start ct_law_start), sl_law_start⟩)
    (cc_law_start : PySem.W.codeIn K cd_law_start "_law_start" = true)
    (k_law_start : PySem.W.keepIn K (.ref a_law_start) = true)
    (n1_law_word : PySem.W.nsIn K mainGlobals "_law_word" = some (some (.ref a_law_word)))
    (l_law_word : K.lookup a_law_word = some ⟨oc_law_word, od_law_word, .func (PySem.W.fnOf "_law_word" "_law_word" (defArgs s_law_word) (defBody s_law_word) (defScope s_law_word) .none kV_law_word dc_law_word pm_law_word an_law_word cd_law_word ct_law_word), sl_law_word⟩)
    (cc_law_word : PySem.W.codeIn K cd_law_word "_law_word" = true)
    (k_law_word : PySem.W.keepIn K (.ref a_law_word) = true)
    (n1_law_same : PySem.W.nsIn K mainGlobals "_law_same" = some (some (.ref a_law_same)))
    (l_law_same : K.lookup a_law_same = some ⟨oc_law_same, od_law_same, .func (PySem.W.fnOf "_law_same" "_law_same" (defArgs s_law_same) (defBody s_law_same) (defScope s_law_same) .none kV_law_same dc_law_same pm_law_same an_law_same cd_law_same ct_law_same), sl_law_same⟩)
    (cc_law_same : PySem.W.codeIn K cd_law_same "_law_same" = true)
    (k_law_same : PySem.W.keepIn K (.ref a_law_same) = true)
    (n1_check_mark : PySem.W.nsIn K mainGlobals "check_mark" = some (some (.ref a_check_mark)))
    (l_check_mark : K.lookup a_check_mark = some ⟨oc_check_mark, od_check_mark, .func (PySem.W.fnOf "check_mark" "check_mark" (defArgs s_check_mark) (defBody s_check_mark) (defScope s_check_mark) .none kV_check_mark dc_check_mark pm_check_mark an_check_mark cd_check_mark ct_check_mark), sl_check_mark⟩)
    (cc_check_mark : PySem.W.codeIn K cd_check_mark "check_mark" = true)
    (k_check_mark : PySem.W.keepIn K (.ref a_check_mark) = true)
    (n1_stands_below : PySem.W.nsIn K mainGlobals "stands_below" = some (some (.ref a_stands_below)))
    (l_stands_below : K.lookup a_stands_below = some ⟨oc_stands_below, od_stands_below, .func (PySem.W.fnOf "stands_below" "stands_below" (defArgs s_stands_below) (defBody s_stands_below) (defScope s_stands_below) .none kV_stands_below dc_stands_below pm_stands_below an_stands_below cd_stands_below ct_stands_below), sl_stands_below⟩)
    (cc_stands_below : PySem.W.codeIn K cd_stands_below "stands_below" = true)
    (k_stands_below : PySem.W.keepIn K (.ref a_stands_below) = true)
    (n1_below : PySem.W.nsIn K mainGlobals "below" = some (some (.ref a_below)))
    (l_below : K.lookup a_below = some ⟨oc_below, od_below, .func (PySem.W.fnOf "below" "below" (defArgs s_below) (defBody s_below) (defScope s_below) .none kV_below dc_below pm_below an_below cd_below ct_below), sl_below⟩)
    (cc_below : PySem.W.codeIn K cd_below "below" = true)
    (k_below : PySem.W.keepIn K (.ref a_below) = true)
    (n1_law_under : PySem.W.nsIn K mainGlobals "_law_under" = some (some (.ref a_law_under)))
    (l_law_under : K.lookup a_law_under = some ⟨oc_law_under, od_law_under, .func (PySem.W.fnOf "_law_under" "_law_under" (defArgs s_law_under) (defBody s_law_under) (defScope s_law_under) .none kV_law_under dc_law_under pm_law_under an_law_under cd_law_under ct_law_under), sl_law_under⟩)
    (cc_law_under : PySem.W.codeIn K cd_law_under "_law_under" = true)
    (k_law_under : PySem.W.keepIn K (.ref a_law_under) = true)
    (n1_law_seven : PySem.W.nsIn K mainGlobals "_law_seven" = some (some (.ref a_law_seven)))
    (l_law_seven : K.lookup a_law_seven = some ⟨oc_law_seven, od_law_seven, .func (PySem.W.fnOf "_law_seven" "_law_seven" (defArgs s_law_seven) (defBody s_law_seven) (defScope s_law_seven) .none kV_law_seven dc_law_seven pm_law_seven an_law_seven cd_law_seven ct_law_seven), sl_law_seven⟩)
    (cc_law_seven : PySem.W.codeIn K cd_law_seven "_law_seven" = true)
    (k_law_seven : PySem.W.keepIn K (.ref a_law_seven) = true)
    (n1_law_stranger : PySem.W.nsIn K mainGlobals "_law_stranger" = some (some (.ref a_law_stranger)))
    (l_law_stranger : K.lookup a_law_stranger = some ⟨oc_law_stranger, od_law_stranger, .func (PySem.W.fnOf "_law_stranger" "_law_stranger" (defArgs s_law_stranger) (defBody s_law_stranger) (defScope s_law_stranger) .none kV_law_stranger dc_law_stranger pm_law_stranger an_law_stranger cd_law_stranger ct_law_stranger), sl_law_stranger⟩)
    (cc_law_stranger : PySem.W.codeIn K cd_law_stranger "_law_stranger" = true)
    (k_law_stranger : PySem.W.keepIn K (.ref a_law_stranger) = true)
    (n1_law_refused : PySem.W.nsIn K mainGlobals "_law_refused" = some (some (.ref a_law_refused)))
    (l_law_refused : K.lookup a_law_refused = some ⟨oc_law_refused, od_law_refused, .func (PySem.W.fnOf "_law_refused" "_law_refused" (defArgs s_law_refused) (defBody s_law_refused) (defScope s_law_refused) .none kV_law_refused dc_law_refused pm_law_refused an_law_refused cd_law_refused ct_law_refused), sl_law_refused⟩)
    (cc_law_refused : PySem.W.codeIn K cd_law_refused "_law_refused" = true)
    (k_law_refused : PySem.W.keepIn K (.ref a_law_refused) = true)
    (n1_law : PySem.W.nsIn K mainGlobals "law" = some (some (.ref a_law)))
    (l_law : K.lookup a_law = some ⟨oc_law, od_law, .func (PySem.W.fnOf "law" "law" (defArgs s_law) (defBody s_law) (defScope s_law) .none kV_law dc_law pm_law an_law cd_law ct_law), sl_law⟩)
    (cc_law : PySem.W.codeIn K cd_law "law" = true)
    (k_law : PySem.W.keepIn K (.ref a_law) = true)
    (aC_UnknownMark : PySem.W.nsIn K mainGlobals "UnknownMark" = some (some (.ref c_UnknownMark)))
    (aC_SlotError : PySem.W.nsIn K mainGlobals "SlotError" = some (some (.ref c_SlotError)))
    (aC_WrongMark : PySem.W.nsIn K mainGlobals "WrongMark" = some (some (.ref c_WrongMark)))
    (aC_MissingMark : PySem.W.nsIn K mainGlobals "MissingMark" = some (some (.ref c_MissingMark)))
    (z_super : PySem.W.nsIn K mainGlobals "super" = some none)
    (opq : PySem.W.nsIn K PySem.cStatics "thirdparty.any" = some none)
    (topS : (l.prog.main.scope.names.lookup ("super" : Str)).isSome = false)
    (eHn : PySem.W.specialIn K (.builtin "object.__class__") "__get__" = some (some (.builtin "getset_descriptor.__get__")))
    (eHt : PySem.W.takesIn K (.builtin "object.__class__") = some true)
    (xL_UnknownMark : K.lookup c_UnknownMark = some (PySem.excClassObj nm_UnknownMark q_UnknownMark c_UnknownMark N_UnknownMark bs_UnknownMark [.ref cb0_UnknownMark, .type "ValueError", .type "Exception", .type "BaseException", .type "object"] true sn_UnknownMark sub_UnknownMark ab_UnknownMark col_UnknownMark dd_UnknownMark m0_UnknownMark m1_UnknownMark m2_UnknownMark m3_UnknownMark m5_UnknownMark "ValueError.__new__"))
    (sa_UnknownMark : PySem.W.findIn K (.ref c_UnknownMark) "__setattr__" = some (some (.builtin "object.__setattr__")))
    (ga_UnknownMark : PySem.W.findIn K (.ref c_UnknownMark) "__getattribute__" = some (some (.builtin "BaseException.__getattribute__")))
    (gg_UnknownMark : PySem.W.findIn K (.ref c_UnknownMark) "__getattr__" = some none)
    (nb_UnknownMark : PySem.W.findIn K (.ref c_UnknownMark) "mark" = some none)
    (a1_UnknownMark : PySem.W.findIn K (.ref c_UnknownMark) "__init__" = some (some (.ref i_UnknownMark)))
    (t1_UnknownMark : PySem.W.typeIn K (.ref i_UnknownMark) = some (.type "function"))
    (l_UnknownMark : K.lookup i_UnknownMark = some ⟨oc_UnknownMark, od_UnknownMark, .func (PySem.W.ksFn "__init__" "UnknownMark.__init__" (defArgs s_UnknownMark_init) (defBody s_UnknownMark_init) (defScope s_UnknownMark_init) .none kV_UnknownMark dc_UnknownMark pm_UnknownMark an_UnknownMark (.ref cda_UnknownMark) ct_UnknownMark cc_UnknownMark), sl_UnknownMark⟩)
    (cd_UnknownMark : PySem.W.codeIn K (.ref cda_UnknownMark) "UnknownMark.__init__" = true)
    (lc_UnknownMark : K.lookup cda_UnknownMark = some ⟨ccl_UnknownMark, cdd_UnknownMark, .fields vs_UnknownMark, ccs_UnknownMark⟩)
    (vf_UnknownMark : vs_UnknownMark[2]? = some (.str file_UnknownMark tf_UnknownMark))
    (ff_UnknownMark : ((l.prog.main.file : Str) == file_UnknownMark) = true)
    (ce_UnknownMark : K.lookup cc_UnknownMark = some ⟨cl_UnknownMark, cld_UnknownMark, .cell (some (.ref c_UnknownMark)), csl_UnknownMark⟩)
    (kC_UnknownMark : PySem.W.keepIn K (.ref c_UnknownMark) = true)
    (eC_UnknownMark : PySem.W.subIn K (.ref c_UnknownMark) (.type "BaseException") = some true)
    (tC_UnknownMark : PySem.W.typeIn K (.ref c_UnknownMark) = some (.type "type"))
    (hC_UnknownMark : PySem.W.hasDictIn K c_UnknownMark = true)
    (sC_UnknownMark : PySem.W.subIn K (.ref c_UnknownMark) (.ref c_UnknownMark) = some true)
    (su_UnknownMark : PySem.W.ks_superIn K c_UnknownMark c_UnknownMark "__init__" = some (some (.builtin "ValueError.__init__")))
    (vE_UnknownMark : PySem.W.subIn K (.ref c_UnknownMark) (.type "ValueError") = some true)
    (mD_UnknownMark : PySem.W.mroIn K c_UnknownMark (.ref c_UnknownMark) = some true)
    (eA_UnknownMark : PySem.W.findIn K (.ref c_UnknownMark) "__class__" = some (some (.builtin "object.__class__")))
    (eM_UnknownMark : PySem.W.mroIn K c_UnknownMark (.type "object") = some true)
    (eC_SlotError : PySem.W.subIn K (.ref c_SlotError) (.type "BaseException") = some true)
    (tC_SlotError : PySem.W.typeIn K (.ref c_SlotError) = some (.type "type"))
    (hC_SlotError : PySem.W.hasDictIn K c_SlotError = true)
    (eC_WrongMark : PySem.W.subIn K (.ref c_WrongMark) (.type "BaseException") = some true)
    (tC_WrongMark : PySem.W.typeIn K (.ref c_WrongMark) = some (.type "type"))
    (hC_WrongMark : PySem.W.hasDictIn K c_WrongMark = true)
    (eC_MissingMark : PySem.W.subIn K (.ref c_MissingMark) (.type "BaseException") = some true)
    (tC_MissingMark : PySem.W.typeIn K (.ref c_MissingMark) = some (.type "type"))
    (hC_MissingMark : PySem.W.hasDictIn K c_MissingMark = true)
    (sb_UnknownMark_SlotError : PySem.W.subIn K (.ref c_UnknownMark) (.ref c_SlotError) = some true)
    (sb_UnknownMark_ValueError : PySem.W.subIn K (.ref c_UnknownMark) (.type "ValueError") = some true)
    (sb_UnknownMark_WrongMark : PySem.W.subIn K (.ref c_UnknownMark) (.ref c_WrongMark) = some false)
    (sb_UnknownMark_MissingMark : PySem.W.subIn K (.ref c_UnknownMark) (.ref c_MissingMark) = some false)
    (aK_MARKS : PySem.W.nsIn K mainGlobals "MARKS" = some (some (.ref k_MARKS)))
    (lK_MARKS : K.lookup k_MARKS = some ⟨.type "tuple", dd_MARKS, .seq ([.str "zero" u0_MARKS, .str "calm" u1_MARKS, .str "owed" u2_MARKS, .str "done" u3_MARKS, .str "end" u4_MARKS, .str "own" u5_MARKS, .str "got" u6_MARKS] : List Value).toArray n_MARKS, sl_MARKS⟩)
    (aK_KEEP_MARKS : PySem.W.nsIn K mainGlobals "KEEP_MARKS" = some (some (.ref k_KEEP_MARKS)))
    (lK_KEEP_MARKS : K.lookup k_KEEP_MARKS = some ⟨.type "tuple", dd_KEEP_MARKS, .seq ([.str "zero" u0_KEEP_MARKS, .str "calm" u1_KEEP_MARKS, .str "owed" u2_KEEP_MARKS, .str "done" u3_KEEP_MARKS, .str "end" u4_KEEP_MARKS] : List Value).toArray n_KEEP_MARKS, sl_KEEP_MARKS⟩)
    (aK_CONFIRM_MARKS : PySem.W.nsIn K mainGlobals "CONFIRM_MARKS" = some (some (.ref k_CONFIRM_MARKS)))
    (lK_CONFIRM_MARKS : K.lookup k_CONFIRM_MARKS = some ⟨.type "tuple", dd_CONFIRM_MARKS, .seq ([.str "zero" u0_CONFIRM_MARKS, .str "own" u1_CONFIRM_MARKS, .str "got" u2_CONFIRM_MARKS] : List Value).toArray n_CONFIRM_MARKS, sl_CONFIRM_MARKS⟩)
    (aK_BEGIN_MARKS : PySem.W.nsIn K mainGlobals "BEGIN_MARKS" = some (some (.ref k_BEGIN_MARKS)))
    (lK_BEGIN_MARKS : K.lookup k_BEGIN_MARKS = some ⟨.type "tuple", dd_BEGIN_MARKS, .seq ([.str "zero" u0_BEGIN_MARKS, .str "done" u1_BEGIN_MARKS, .str "own" u2_BEGIN_MARKS] : List Value).toArray n_BEGIN_MARKS, sl_BEGIN_MARKS⟩)
    (aK_ABOVE : PySem.W.nsIn K mainGlobals "ABOVE" = some (some (.ref k_ABOVE)))
    (lK_ABOVE : K.lookup k_ABOVE = some ⟨.type "dict", none, .dict es_ABOVE n_ABOVE, #[]⟩)
    (kl_ABOVE : PySem.W.KeysLit w.params es_ABOVE.toList)
    (nK_ABOVE_0 : PySem.W.nsIn K k_ABOVE "zero" = some (some (.ref k_ABOVE_0)))
    (lK_ABOVE_0 : K.lookup k_ABOVE_0 = some ⟨.type "tuple", dd_ABOVE_0, .seq ([.str "zero" u0_ABOVE_0, .str "calm" u1_ABOVE_0, .str "owed" u2_ABOVE_0, .str "done" u3_ABOVE_0, .str "end" u4_ABOVE_0, .str "own" u5_ABOVE_0, .str "got" u6_ABOVE_0] : List Value).toArray n_ABOVE_0, sl_ABOVE_0⟩)
    (nK_ABOVE_1 : PySem.W.nsIn K k_ABOVE "calm" = some (some (.ref k_ABOVE_1)))
    (lK_ABOVE_1 : K.lookup k_ABOVE_1 = some ⟨.type "tuple", dd_ABOVE_1, .seq ([.str "calm" u0_ABOVE_1, .str "owed" u1_ABOVE_1, .str "done" u2_ABOVE_1, .str "end" u3_ABOVE_1] : List Value).toArray n_ABOVE_1, sl_ABOVE_1⟩)
    (nK_ABOVE_2 : PySem.W.nsIn K k_ABOVE "owed" = some (some (.ref k_ABOVE_2)))
    (lK_ABOVE_2 : K.lookup k_ABOVE_2 = some ⟨.type "tuple", dd_ABOVE_2, .seq ([.str "owed" u0_ABOVE_2, .str "done" u1_ABOVE_2, .str "end" u2_ABOVE_2] : List Value).toArray n_ABOVE_2, sl_ABOVE_2⟩)
    (nK_ABOVE_3 : PySem.W.nsIn K k_ABOVE "done" = some (some (.ref k_ABOVE_3)))
    (lK_ABOVE_3 : K.lookup k_ABOVE_3 = some ⟨.type "tuple", dd_ABOVE_3, .seq ([.str "done" u0_ABOVE_3, .str "end" u1_ABOVE_3] : List Value).toArray n_ABOVE_3, sl_ABOVE_3⟩)
    (nK_ABOVE_4 : PySem.W.nsIn K k_ABOVE "end" = some (some (.ref k_ABOVE_4)))
    (lK_ABOVE_4 : K.lookup k_ABOVE_4 = some ⟨.type "tuple", dd_ABOVE_4, .seq ([.str "end" u0_ABOVE_4] : List Value).toArray n_ABOVE_4, sl_ABOVE_4⟩)
    (nK_ABOVE_5 : PySem.W.nsIn K k_ABOVE "own" = some (some (.ref k_ABOVE_5)))
    (lK_ABOVE_5 : K.lookup k_ABOVE_5 = some ⟨.type "tuple", dd_ABOVE_5, .seq ([.str "own" u0_ABOVE_5, .str "got" u1_ABOVE_5, .str "end" u2_ABOVE_5] : List Value).toArray n_ABOVE_5, sl_ABOVE_5⟩)
    (nK_ABOVE_6 : PySem.W.nsIn K k_ABOVE "got" = some (some (.ref k_ABOVE_6)))
    (lK_ABOVE_6 : K.lookup k_ABOVE_6 = some ⟨.type "tuple", dd_ABOVE_6, .seq ([.str "got" u0_ABOVE_6, .str "end" u1_ABOVE_6] : List Value).toArray n_ABOVE_6, sl_ABOVE_6⟩)
    : ∃ fd : FuncData, (∀ (s : Shared) (v : Value), BindsTo s fd ⟨[v], []⟩ [("script", v)]) ∧ ∀ base : Heap, K.In base → base.Ns mainGlobals mg → FnOk l.prog w K mg base CX0 9 fa fd ["script"] (spLaw K) := by
  have e := hfa.symm.trans (PySem.W.mg_of X G n1_law)
  cases e
  have F_law_mixed := fun_mk (st := s_law_mixed) l_law_mixed cc_law_mixed k_law_mixed
  have b_law_mixed := F_law_mixed.binds (ps := ["cell", "turn", "limit"]) fun _ _ _ _ _ _ us hl => match us, hl with | [_, _, _], _ => rfl
  have F_law_draw := fun_mk (st := s_law_draw) l_law_draw cc_law_draw k_law_draw
  have b_law_draw := F_law_draw.binds (ps := ["state", "limit"]) fun _ _ _ _ _ _ us hl => match us, hl with | [_, _], _ => rfl
  have F_law_start := fun_mk (st := s_law_start) l_law_start cc_law_start k_law_start
  have b_law_start := F_law_start.binds (ps := ["script"]) fun _ _ _ _ _ _ us hl => match us, hl with | [_], _ => rfl
  have F_law_word := fun_mk (st := s_law_word) l_law_word cc_law_word k_law_word
  have b_law_word := F_law_word.binds (ps := ["state"]) fun _ _ _ _ _ _ us hl => match us, hl with | [_], _ => rfl
  have F_law_same := fun_mk (st := s_law_same) l_law_same cc_law_same k_law_same
  have b_law_same := F_law_same.binds (ps := ["here", "there"]) fun _ _ _ _ _ _ us hl => match us, hl with | [_, _], _ => rfl
  have F_check_mark := fun_mk (st := s_check_mark) l_check_mark cc_check_mark k_check_mark
  have b_check_mark := F_check_mark.binds (ps := ["mark"]) fun _ _ _ _ _ _ us hl => match us, hl with | [_], _ => rfl
  have F_stands_below := fun_mk (st := s_stands_below) l_stands_below cc_stands_below k_stands_below
  have b_stands_below := F_stands_below.binds (ps := ["lower", "upper"]) fun _ _ _ _ _ _ us hl => match us, hl with | [_, _], _ => rfl
  have F_below := fun_mk (st := s_below) l_below cc_below k_below
  have b_below := F_below.binds (ps := ["lower", "upper"]) fun _ _ _ _ _ _ us hl => match us, hl with | [_, _], _ => rfl
  have F_law_under := fun_mk (st := s_law_under) l_law_under cc_law_under k_law_under
  have b_law_under := F_law_under.binds (ps := ["lower", "upper"]) fun _ _ _ _ _ _ us hl => match us, hl with | [_, _], _ => rfl
  have F_law_seven := fun_mk (st := s_law_seven) l_law_seven cc_law_seven k_law_seven
  have b_law_seven := F_law_seven.binds (ps := []) fun _ _ _ _ _ _ us hl => match us, hl with | [], _ => rfl
  have F_law_stranger := fun_mk (st := s_law_stranger) l_law_stranger cc_law_stranger k_law_stranger
  have b_law_stranger := F_law_stranger.binds (ps := ["state"]) fun _ _ _ _ _ _ us hl => match us, hl with | [_], _ => rfl
  have F_law_refused := fun_mk (st := s_law_refused) l_law_refused cc_law_refused k_law_refused
  have b_law_refused := F_law_refused.binds (ps := ["lower", "upper"]) fun _ _ _ _ _ _ us hl => match us, hl with | [_, _], _ => rfl
  have F_law := fun_mk (st := s_law) l_law cc_law k_law
  have b_law := F_law.binds (ps := ["script"]) fun _ _ _ _ _ _ us hl => match us, hl with | [_], _ => rfl
  let T : Txt l.prog w K mg := { z_ValueError := PySem.W.mg_none_of X G z_ValueError, z_bool := PySem.W.mg_none_of X G z_bool, z_dict := PySem.W.mg_none_of X G z_dict, z_int := PySem.W.mg_none_of X G z_int, z_isinstance := PySem.W.mg_none_of X G z_isinstance, z_len := PySem.W.mg_none_of X G z_len, z_list := PySem.W.mg_none_of X G z_list, z_range := PySem.W.mg_none_of X G z_range, z_str := PySem.W.mg_none_of X G z_str, z_tuple := PySem.W.mg_none_of X G z_tuple, a_law_mixed := a_law_mixed, d_law_mixed := _, F_law_mixed := F_law_mixed, b_law_mixed := b_law_mixed, m_law_mixed := PySem.W.mg_of X G n1_law_mixed, a_law_draw := a_law_draw, d_law_draw := _, F_law_draw := F_law_draw, b_law_draw := b_law_draw, m_law_draw := PySem.W.mg_of X G n1_law_draw, a_law_start := a_law_start, d_law_start := _, F_law_start := F_law_start, b_law_start := b_law_start, m_law_start := PySem.W.mg_of X G n1_law_start, a_law_word := a_law_word, d_law_word := _, F_law_word := F_law_word, b_law_word := b_law_word, m_law_word := PySem.W.mg_of X G n1_law_word, a_law_same := a_law_same, d_law_same := _, F_law_same := F_law_same, b_law_same := b_law_same, m_law_same := PySem.W.mg_of X G n1_law_same, a_check_mark := a_check_mark, d_check_mark := _, F_check_mark := F_check_mark, b_check_mark := b_check_mark, m_check_mark := PySem.W.mg_of X G n1_check_mark, a_stands_below := a_stands_below, d_stands_below := _, F_stands_below := F_stands_below, b_stands_below := b_stands_below, m_stands_below := PySem.W.mg_of X G n1_stands_below, a_below := a_below, d_below := _, F_below := F_below, b_below := b_below, m_below := PySem.W.mg_of X G n1_below, a_law_under := a_law_under, d_law_under := _, F_law_under := F_law_under, b_law_under := b_law_under, m_law_under := PySem.W.mg_of X G n1_law_under, a_law_seven := a_law_seven, d_law_seven := _, F_law_seven := F_law_seven, b_law_seven := b_law_seven, m_law_seven := PySem.W.mg_of X G n1_law_seven, a_law_stranger := a_law_stranger, d_law_stranger := _, F_law_stranger := F_law_stranger, b_law_stranger := b_law_stranger, m_law_stranger := PySem.W.mg_of X G n1_law_stranger, a_law_refused := a_law_refused, d_law_refused := _, F_law_refused := F_law_refused, b_law_refused := b_law_refused, m_law_refused := PySem.W.mg_of X G n1_law_refused, a_law := fa, d_law := _, F_law := F_law, b_law := b_law, m_law := PySem.W.mg_of X G n1_law, c_UnknownMark := c_UnknownMark, mc_UnknownMark := PySem.W.mg_of X G aC_UnknownMark, c_SlotError := c_SlotError, mc_SlotError := PySem.W.mg_of X G aC_SlotError, c_WrongMark := c_WrongMark, mc_WrongMark := PySem.W.mg_of X G aC_WrongMark, c_MissingMark := c_MissingMark, mc_MissingMark := PySem.W.mg_of X G aC_MissingMark, i_UnknownMark := i_UnknownMark, sup_UnknownMark := { gC := PySem.W.mg_of X G aC_UnknownMark, gS := PySem.W.mg_none_of X G z_super, cls := ⟨_, _, _, _, _, _, _, _, _, _, _, _, _, _, _, xL_UnknownMark, by rfl⟩, sa := sa_UnknownMark, ga := ga_UnknownMark, gg := gg_UnknownMark, noN := nb_UnknownMark, iC := a1_UnknownMark, tC := t1_UnknownMark, kC := kC_UnknownMark, exC := eC_UnknownMark, tyC := tC_UnknownMark, hdC := hC_UnknownMark, te := PySem.W.exm_ref eC_UnknownMark hC_UnknownMark tC_UnknownMark sC_UnknownMark, sup := su_UnknownMark, opq := opq, vE := vE_UnknownMark, mroD := mD_UnknownMark, clD := cls_of hC_UnknownMark, fo := { ks := rfl, kc := rfl, ka := rfl, kf := rfl, db := by decide, nes := by decide }, top := topS, fn := ⟨"UnknownMark.__init__", _, defArgs s_UnknownMark_init, _, kV_UnknownMark, _, _, _, _, _, _, _, _, _, _, _, _, cda_UnknownMark, cc_UnknownMark, vs_UnknownMark, _, _, _, _, _, _, _, _, _, _, _, _, _, _, l_UnknownMark, cd_UnknownMark, lc_UnknownMark, vf_UnknownMark, ff_UnknownMark, ce_UnknownMark, rfl, rfl, rfl, fun s x v => .of_eq rfl⟩ }, xc_UnknownMark := ⟨ga_UnknownMark, gg_UnknownMark, eC_UnknownMark, hC_UnknownMark, eA_UnknownMark, eHn, eHt, eM_UnknownMark⟩, kt_UnknownMark_SlotError := kit_ref hC_SlotError tC_SlotError sC_UnknownMark sb_UnknownMark_SlotError, em_UnknownMark_SlotError := PySem.W.exm_ref eC_SlotError hC_SlotError tC_SlotError sb_UnknownMark_SlotError, kt_UnknownMark_ValueError := kit_type (by decide +kernel) sb_UnknownMark_ValueError, kt_UnknownMark_WrongMark := kit_ref hC_WrongMark tC_WrongMark sC_UnknownMark sb_UnknownMark_WrongMark, em_UnknownMark_WrongMark := PySem.W.exm_ref eC_WrongMark hC_WrongMark tC_WrongMark sb_UnknownMark_WrongMark, kt_UnknownMark_MissingMark := kit_ref hC_MissingMark tC_MissingMark sC_UnknownMark sb_UnknownMark_MissingMark, em_UnknownMark_MissingMark := PySem.W.exm_ref eC_MissingMark hC_MissingMark tC_MissingMark sb_UnknownMark_MissingMark, k_MARKS := k_MARKS, mk_MARKS := PySem.W.mg_of X G aK_MARKS, tk_MARKS := fun H => .inr ⟨_, _, _, lK_MARKS, rfl, rfl, (by show 7 ≤ sizeLine; decide), (.cons ⟨_, rfl⟩ (.cons ⟨_, rfl⟩ (.cons ⟨_, rfl⟩ (.cons ⟨_, rfl⟩ (.cons ⟨_, rfl⟩ (.cons ⟨_, rfl⟩ (.cons ⟨_, rfl⟩ .nil)))))))⟩, k_KEEP_MARKS := k_KEEP_MARKS, mk_KEEP_MARKS := PySem.W.mg_of X G aK_KEEP_MARKS, tk_KEEP_MARKS := fun H => .inr ⟨_, _, _, lK_KEEP_MARKS, rfl, rfl, (by show 5 ≤ sizeLine; decide), (.cons ⟨_, rfl⟩ (.cons ⟨_, rfl⟩ (.cons ⟨_, rfl⟩ (.cons ⟨_, rfl⟩ (.cons ⟨_, rfl⟩ .nil)))))⟩, k_CONFIRM_MARKS := k_CONFIRM_MARKS, mk_CONFIRM_MARKS := PySem.W.mg_of X G aK_CONFIRM_MARKS, tk_CONFIRM_MARKS := fun H => .inr ⟨_, _, _, lK_CONFIRM_MARKS, rfl, rfl, (by show 3 ≤ sizeLine; decide), (.cons ⟨_, rfl⟩ (.cons ⟨_, rfl⟩ (.cons ⟨_, rfl⟩ .nil)))⟩, k_BEGIN_MARKS := k_BEGIN_MARKS, mk_BEGIN_MARKS := PySem.W.mg_of X G aK_BEGIN_MARKS, tk_BEGIN_MARKS := fun H => .inr ⟨_, _, _, lK_BEGIN_MARKS, rfl, rfl, (by show 3 ≤ sizeLine; decide), (.cons ⟨_, rfl⟩ (.cons ⟨_, rfl⟩ (.cons ⟨_, rfl⟩ .nil)))⟩, k_ABOVE := k_ABOVE, mk_ABOVE := PySem.W.mg_of X G aK_ABOVE, k_ABOVE_0 := k_ABOVE_0, tk_ABOVE_0 := fun H => .inr ⟨_, _, _, lK_ABOVE_0, rfl, rfl, (by show 7 ≤ sizeLine; decide), (.cons ⟨_, rfl⟩ (.cons ⟨_, rfl⟩ (.cons ⟨_, rfl⟩ (.cons ⟨_, rfl⟩ (.cons ⟨_, rfl⟩ (.cons ⟨_, rfl⟩ (.cons ⟨_, rfl⟩ .nil)))))))⟩, dk_ABOVE_0 := ⟨_, _, _, lK_ABOVE, kl_ABOVE, nK_ABOVE_0, rfl⟩, k_ABOVE_1 := k_ABOVE_1, tk_ABOVE_1 := fun H => .inr ⟨_, _, _, lK_ABOVE_1, rfl, rfl, (by show 4 ≤ sizeLine; decide), (.cons ⟨_, rfl⟩ (.cons ⟨_, rfl⟩ (.cons ⟨_, rfl⟩ (.cons ⟨_, rfl⟩ .nil))))⟩, dk_ABOVE_1 := ⟨_, _, _, lK_ABOVE, kl_ABOVE, nK_ABOVE_1, rfl⟩, k_ABOVE_2 := k_ABOVE_2, tk_ABOVE_2 := fun H => .inr ⟨_, _, _, lK_ABOVE_2, rfl, rfl, (by show 3 ≤ sizeLine; decide), (.cons ⟨_, rfl⟩ (.cons ⟨_, rfl⟩ (.cons ⟨_, rfl⟩ .nil)))⟩, dk_ABOVE_2 := ⟨_, _, _, lK_ABOVE, kl_ABOVE, nK_ABOVE_2, rfl⟩, k_ABOVE_3 := k_ABOVE_3, tk_ABOVE_3 := fun H => .inr ⟨_, _, _, lK_ABOVE_3, rfl, rfl, (by show 2 ≤ sizeLine; decide), (.cons ⟨_, rfl⟩ (.cons ⟨_, rfl⟩ .nil))⟩, dk_ABOVE_3 := ⟨_, _, _, lK_ABOVE, kl_ABOVE, nK_ABOVE_3, rfl⟩, k_ABOVE_4 := k_ABOVE_4, tk_ABOVE_4 := fun H => .inr ⟨_, _, _, lK_ABOVE_4, rfl, rfl, (by show 1 ≤ sizeLine; decide), (.cons ⟨_, rfl⟩ .nil)⟩, dk_ABOVE_4 := ⟨_, _, _, lK_ABOVE, kl_ABOVE, nK_ABOVE_4, rfl⟩, k_ABOVE_5 := k_ABOVE_5, tk_ABOVE_5 := fun H => .inr ⟨_, _, _, lK_ABOVE_5, rfl, rfl, (by show 3 ≤ sizeLine; decide), (.cons ⟨_, rfl⟩ (.cons ⟨_, rfl⟩ (.cons ⟨_, rfl⟩ .nil)))⟩, dk_ABOVE_5 := ⟨_, _, _, lK_ABOVE, kl_ABOVE, nK_ABOVE_5, rfl⟩, k_ABOVE_6 := k_ABOVE_6, tk_ABOVE_6 := fun H => .inr ⟨_, _, _, lK_ABOVE_6, rfl, rfl, (by show 2 ≤ sizeLine; decide), (.cons ⟨_, rfl⟩ (.cons ⟨_, rfl⟩ .nil))⟩, dk_ABOVE_6 := ⟨_, _, _, lK_ABOVE, kl_ABOVE, nK_ABOVE_6, rfl⟩ }
  exact ⟨PySem.W.fnOf "law" "law" (defArgs s_law) (defBody s_law) (defScope s_law) .none kV_law dc_law pm_law an_law cd_law ct_law, fun s v => .of_eq rfl, fun base _ _ => ok_law T⟩
theorem walk {l : PySem.W.OpenLaw} {q : Program} {loose : List Str} {XP : (Str → Option Value) → Heap → Prop} {YP : World → Heap → Prop} {d : DefRec} {K : Params → PySem.W.Frag} (hn : l.most = some 63) (hdf : d.params.defaults = [])
    (hY : ∀ (w : World) (h : Heap), YP w h → (K w.params).In h)
    (F : ∀ (w : World) (mg : Str → Option Value) (fa : Addr) (h : Heap), (K w.params).In h → h.Ns mainGlobals mg → mg d.name = some (.ref fa) →
      ∃ fd : FuncData, (∀ (s : Shared) (u : Value), BindsTo s fd ⟨[u], []⟩ [("script", u)]) ∧ ∀ base : Heap, (K w.params).In base → base.Ns mainGlobals mg → FnOk l.prog w (K w.params) mg base CX0 9 fa fd ["script"] (spLaw (K w.params))) :
    PySem.W.WalkO q loose XP YP l.row.toRowW d [] (fun f vs => PySem.call f vs) :=
  L2.walk_of (n := 63) (k := 9) (x := "script") (CX := fun _ => CX0) (sp := fun w => spLaw (K w.params)) hn (by decide) hdf ⟨rfl, by decide, by decide⟩ hY F (fun _ _ a ns hl _ hS => ⟨a, ns, rfl, hS, hl, fun _ => rfl⟩) fun _ _ _ _ _ z => z
end K
open PySem PySem.W PyProof.Rows
set_option maxRecDepth 100000 in
set_option maxHeartbeats 0 in
theorem PySem.Challenge.cw_copiesfollow_k24_ladder_below_holds : PySem.Challenge.rw_copiesfollow_k24_ladder_below.Holds := by
  w_on; o_law; k_head; (case hw => w_witness2)
  k_fill
  refine K.walk (l := PySem.Challenge.rw_copiesfollow_k24_ladder_below) rfl rfl (fun w h Y => PySem.W.kIn_of Y) ?F
  case F =>
    intro w mg fa h KX G hmg
    refine' K.all_mk KX G hmg ?z_ValueError ?z_bool ?z_dict ?z_int ?z_isinstance ?z_len ?z_list ?z_range ?z_str ?z_tuple ?n1_law_mixed ?l_law_mixed ?cc_law_mixed ?k_law_mixed ?n1_law_draw ?l_law_draw ?cc_law_draw ?k_law_draw ?n1_law_start ?l_law_start ?cc_law_start ?k_law_start ?n1_law_word ?l_law_word ?cc_law_word ?k_law_word ?n1_law_same ?l_law_same ?cc_law_same ?k_law_same ?n1_check_mark ?l_check_mark ?cc_check_mark ?k_check_mark ?n1_stands_below ?l_stands_below ?cc_stands_below ?k_stands_below ?n1_below ?l_below ?cc_below ?k_below ?n1_law_under ?l_law_under ?cc_law_under ?k_law_under ?n1_law_seven ?l_law_seven ?cc_law_seven ?k_law_seven ?n1_law_stranger ?l_law_stranger ?cc_law_stranger ?k_law_stranger ?n1_law_refused ?l_law_refused ?cc_law_refused ?k_law_refused ?n1_law ?l_law ?cc_law ?k_law ?aC_UnknownMark ?aC_SlotError ?aC_WrongMark ?aC_MissingMark ?z_super ?opq ?topS ?eHn ?eHt ?xL_UnknownMark ?sa_UnknownMark ?ga_UnknownMark ?gg_UnknownMark ?nb_UnknownMark ?a1_UnknownMark ?t1_UnknownMark ?l_UnknownMark ?cd_UnknownMark ?lc_UnknownMark ?vf_UnknownMark ?ff_UnknownMark ?ce_UnknownMark ?kC_UnknownMark ?eC_UnknownMark ?tC_UnknownMark ?hC_UnknownMark ?sC_UnknownMark ?su_UnknownMark ?vE_UnknownMark ?mD_UnknownMark ?eA_UnknownMark ?eM_UnknownMark ?eC_SlotError ?tC_SlotError ?hC_SlotError ?eC_WrongMark ?tC_WrongMark ?hC_WrongMark ?eC_MissingMark ?tC_MissingMark ?hC_MissingMark ?sb_UnknownMark_SlotError ?sb_UnknownMark_ValueError ?sb_UnknownMark_WrongMark ?sb_UnknownMark_MissingMark ?aK_MARKS ?lK_MARKS ?aK_KEEP_MARKS ?lK_KEEP_MARKS ?aK_CONFIRM_MARKS ?lK_CONFIRM_MARKS ?aK_BEGIN_MARKS ?lK_BEGIN_MARKS ?aK_ABOVE ?lK_ABOVE ?kl_ABOVE ?nK_ABOVE_0 ?lK_ABOVE_0 ?nK_ABOVE_1 ?lK_ABOVE_1 ?nK_ABOVE_2 ?lK_ABOVE_2 ?nK_ABOVE_3 ?lK_ABOVE_3 ?nK_ABOVE_4 ?lK_ABOVE_4 ?nK_ABOVE_5 ?lK_ABOVE_5 ?nK_ABOVE_6 ?lK_ABOVE_6
    (case z_ValueError => k_is)
    (case z_bool => k_is)
    (case z_dict => k_is)
    (case z_int => k_is)
    (case z_isinstance => k_is)
    (case z_len => k_is)
    (case z_list => k_is)
    (case z_range => k_is)
    (case z_str => k_is)
    (case z_tuple => k_is)
    (case n1_law_mixed => k_is)
    (case l_law_mixed => k_is)
    (case cc_law_mixed => k_is)
    (case k_law_mixed => k_is)
    (case n1_law_draw => k_is)
    (case l_law_draw => k_is)
    (case cc_law_draw => k_is)
    (case k_law_draw => k_is)
    (case n1_law_start => k_is)
    (case l_law_start => k_is)
    (case cc_law_start => k_is)
    (case k_law_start => k_is)
    (case n1_law_word => k_is)
    (case l_law_word => k_is)
    (case cc_law_word => k_is)
    (case k_law_word => k_is)
    (case n1_law_same => k_is)
    (case l_law_same => k_is)
    (case cc_law_same => k_is)
    (case k_law_same => k_is)
    (case n1_check_mark => k_is)
    (case l_check_mark => k_is)
    (case cc_check_mark => k_is)
    (case k_check_mark => k_is)
    (case n1_stands_below => k_is)
    (case l_stands_below => k_is)
    (case cc_stands_below => k_is)
    (case k_stands_below => k_is)
    (case n1_below => k_is)
    (case l_below => k_is)
    (case cc_below => k_is)
    (case k_below => k_is)
    (case n1_law_under => k_is)
    (case l_law_under => k_is)
    (case cc_law_under => k_is)
    (case k_law_under => k_is)
    (case n1_law_seven => k_is)
    (case l_law_seven => k_is)
    (case cc_law_seven => k_is)
    (case k_law_seven => k_is)
    (case n1_law_stranger => k_is)
    (case l_law_stranger => k_is)
    (case cc_law_stranger => k_is)
    (case k_law_stranger => k_is)
    (case n1_law_refused => k_is)
    (case l_law_refused => k_is)
    (case cc_law_refused => k_is)
    (case k_law_refused => k_is)
    (case n1_law => k_is)
    (case l_law => k_is)
    (case cc_law => k_is)
    (case k_law => k_is)
    (case aC_UnknownMark => k_is)
    (case aC_SlotError => k_is)
    (case aC_WrongMark => k_is)
    (case aC_MissingMark => k_is)
    (case z_super => k_is)
    (case opq => k_is)
    (case topS => first | rfl | decide +kernel)
    (case eHn => k_is)
    (case eHt => k_is)
    (case xL_UnknownMark => k_is)
    (case sa_UnknownMark => k_is)
    (case ga_UnknownMark => k_is)
    (case gg_UnknownMark => k_is)
    (case nb_UnknownMark => k_is)
    (case a1_UnknownMark => k_is)
    (case t1_UnknownMark => k_is)
    (case l_UnknownMark => k_is)
    (case cd_UnknownMark => k_is)
    (case lc_UnknownMark => k_is)
    (case vf_UnknownMark => first | rfl | decide +kernel)
    (case ff_UnknownMark => first | rfl | decide +kernel)
    (case ce_UnknownMark => k_is)
    (case kC_UnknownMark => k_is)
    (case eC_UnknownMark => k_is)
    (case tC_UnknownMark => k_is)
    (case hC_UnknownMark => k_is)
    (case sC_UnknownMark => k_is)
    (case su_UnknownMark => ks_is)
    (case vE_UnknownMark => k_is)
    (case mD_UnknownMark => k_is)
    (case eA_UnknownMark => k_is)
    (case eM_UnknownMark => k_is)
    (case eC_SlotError => k_is)
    (case tC_SlotError => k_is)
    (case hC_SlotError => k_is)
    (case eC_WrongMark => k_is)
    (case tC_WrongMark => k_is)
    (case hC_WrongMark => k_is)
    (case eC_MissingMark => k_is)
    (case tC_MissingMark => k_is)
    (case hC_MissingMark => k_is)
    (case sb_UnknownMark_SlotError => k_is)
    (case sb_UnknownMark_ValueError => k_is)
    (case sb_UnknownMark_WrongMark => k_is)
    (case sb_UnknownMark_MissingMark => k_is)
    (case aK_MARKS => k_is)
    (case lK_MARKS => k_is)
    (case aK_KEEP_MARKS => k_is)
    (case lK_KEEP_MARKS => k_is)
    (case aK_CONFIRM_MARKS => k_is)
    (case lK_CONFIRM_MARKS => k_is)
    (case aK_BEGIN_MARKS => k_is)
    (case lK_BEGIN_MARKS => k_is)
    (case aK_ABOVE => k_is)
    (case lK_ABOVE => k_is)
    (case kl_ABOVE => repeat (first | exact trivial | refine ⟨⟨_, _, rfl, rfl⟩, ?_⟩))
    (case nK_ABOVE_0 => k_is)
    (case lK_ABOVE_0 => k_is)
    (case nK_ABOVE_1 => k_is)
    (case lK_ABOVE_1 => k_is)
    (case nK_ABOVE_2 => k_is)
    (case lK_ABOVE_2 => k_is)
    (case nK_ABOVE_3 => k_is)
    (case lK_ABOVE_3 => k_is)
    (case nK_ABOVE_4 => k_is)
    (case lK_ABOVE_4 => k_is)
    (case nK_ABOVE_5 => k_is)
    (case lK_ABOVE_5 => k_is)
    (case nK_ABOVE_6 => k_is)
    (case lK_ABOVE_6 => k_is)
#print axioms PySem.Challenge.cw_copiesfollow_k24_ladder_below_holds
