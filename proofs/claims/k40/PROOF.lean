import PyProof.Rows.All
import Wide.All
import OpenK.AllK
import Wide.FinOn
import HandS.ForMost
import HandS.Wide
import HandS.Small
import HandS.IsInst
import HandS.Property
import HandS.ForExc
import HandS.ExcSuper
import HandS.ExcIs
import HandS.TryMany
import KE.KExcSuper
import KE.KExcIs
import HandS.WrittenGet
import HandS.Text
import KE.RegKSuper
import HandS.Conv
import HandS.Walk
import HandS.Iter
import HandS.Deep
import HandS.FStr
import OpenK.KMeth
import KE.KOpsOwn
import KE.KCallOwn
import HandS.Steps
import HandS.RaiseMore
import HandS.OwnIter
import HandS.IterNext
import HandS.Defaults
import HandS.Star
import HandS.ClsMeth
import HandS.Codes
import HandS.SortInts
import KE.LtData
import KE.DataCmp
import HandS.Strs
import HandS.More
import HandS.ExcOwn
import PySem.Challenge.RW_copiesfollow_k40_whole_world_gaps
set_option Elab.async false
set_option linter.all false
set_option maxRecDepth 100000
set_option maxHeartbeats 4000000
namespace Cf
open PySem L2 PySem.Spec PyProof.Rows
/-! ## operators that fit every kind of value -/
section
variable {X : Cx}
/-- nothing is tracked there -/
def Fresh (H : Hp) (p : Addr) : Prop := H p = none
def rPlus : R2 := fun x y H Q => rI0 (fun i j => .int (i + j)) x y H Q ∨ ((∃ i j, x = .str i ∧ y = .str j ∧ i.length + j.length ≤ sizeLine ∧ Q (.str (i ++ j)) H) ∨ rCat x y H Q)
theorem op_plus : OpR X (binaryOp .Add) rPlus := op_add.or (op_add_str.or op_cat)
def rTimes : R2 := fun x y H Q => rI CMul (fun i j => .int (i * j)) x y H Q ∨ rRep x y H Q
theorem op_times : OpR X (binaryOp .Mult) rTimes := op_mul.or op_rep
def rEqq (K : PySem.W.Frag) : R2 := fun x y H Q => rEq x y H Q ∨ rEqD K x y H Q
theorem op_eqq (hu : X.A.units + 64 < cLine) : OpR X (compareOp .Eq) (rEqq X.K) := op_eq.or (op_eqD hu)
def rNeq (K : PySem.W.Frag) : R2 := fun x y H Q => rNe x y H Q ∨ rNeD K x y H Q
theorem op_neq (hu : X.A.units + 64 < cLine) : OpR X (compareOp .NotEq) (rNeq X.K) := op_ne.or (op_neD hu)
def rDIn : R2 := fun y x H Q => ∃ a o, x = .ref a ∧ DGet H a y o ∧ Q (.bl o.isSome) H
theorem op_din (hu : X.A.units + 1 < cLine) : OpR X (compareOp .In) rDIn := by
  intro pins s σ H y x u v Q I ry rx h
  obtain ⟨a, o, rfl, g, q⟩ := h
  obtain rfl : v = Value.ref a := rx
  exact d_in hu I g ry fun s3 I3 => ⟨.bl o.isSome, H, I3, rfl, q⟩
def rDNotIn : R2 := fun y x H Q => ∃ a o, x = .ref a ∧ DGet H a y o ∧ Q (.bl (!o.isSome)) H
theorem op_dnotin (hu : X.A.units + 1 < cLine) : OpR X (compareOp .NotIn) rDNotIn := by
  intro pins s σ H y x u v Q I ry rx h
  obtain ⟨a, o, rfl, g, q⟩ := h
  obtain rfl : v = Value.ref a := rx
  exact d_notIn hu I g ry fun s3 I3 => ⟨.bl (!o.isSome), H, I3, rfl, q⟩
def rInn (K : PySem.W.Frag) : R2 := fun x y H Q => rIn K false x y H Q ∨ rDIn x y H Q
theorem op_inn (hu : X.A.units + 1 < cLine) : OpR X (compareOp .In) (rInn X.K) := op_in_seq.or (op_din hu)
def rNotInn (K : PySem.W.Frag) : R2 := fun x y H Q => rIn K true x y H Q ∨ rDNotIn x y H Q
theorem op_notInn (hu : X.A.units + 1 < cLine) : OpR X (compareOp .NotIn) (rNotInn X.K) := op_notIn_seq.or (op_dnotin hu)
def rIxD : R2 := fun x y H Q => ∃ a v, x = .ref a ∧ DGet H a y (some v) ∧ Q v H
theorem ix_dict (hu : X.A.units + 1 < cLine) : IxR X rIxD := by
  intro value slice pins s σ H x y v u Q I rx ry h hs
  obtain ⟨a, z, rfl, g, q⟩ := h
  obtain rfl : v = Value.ref a := rx
  exact tail_any (dict_typeIs I g) PySem.F.slot_dict_getitem.lookup (d_getItem hu I g ry fun w' s3 I3 rw' => ⟨z, H, I3, rw', q⟩) hs
def rIxx (K : PySem.W.Frag) : R2 := fun x y H Q => rIx K x y H Q ∨ rIxD x y H Q
theorem ix_any (hu : X.A.units + 1 < cLine) : IxR X (rIxx X.K) := ix_seq.or (ix_dict hu)
theorem PSet.or {r r' : TSet} (h : PSet X r) (h' : PSet X r') : PSet X (fun o i v H Q => r o i v H Q ∨ r' o i v H Q) := by
  intro pins s σ H o i v ov iv u Q I ro ri rv q
  rcases q with q | q
  · exact h pins s σ H o i v ov iv u Q I ro ri rv q
  · exact h' pins s σ H o i v ov iv u Q I ro ri rv q
def rSett : TSet := fun o i v H Q => rSetL o i v H Q ∨ rSetD o i v H Q
theorem set_any (hu : X.A.units + 1 < cLine) : PSet X rSett := PSet.or set_list (set_dict hu)
def rLen (K : PySem.W.Frag) : List V → Hp → VK → Prop := fun xs H Q => (∃ p ys, xs = [.ref p] ∧ (SqL K H p ys ∨ SqT K H p ys) ∧ Q (.int ys.length) H) ∨ (∃ z, xs = [.str z] ∧ z.length ≤ sizeLine ∧ Q (.int z.length) H)
def rIsN : R2 := fun x y H Q => y = .non ∧ Q (.bl (decide (x = .non))) H
theorem op_isNA : OpR X (compareOp .Is) rIsN := op_isN
def rNotN : R2 := fun x y H Q => y = .non ∧ Q (.bl (!decide (x = .non))) H
theorem op_notNA : OpR X (compareOp .IsNot) rNotN := op_notN
def rInt : List V → Hp → VK → Prop := fun xs H Q => ∃ i, xs = [.int i] ∧ Q (.int i) H
theorem call_intA : CallR X (.type "int") rInt := fun pins s σ H xs us Q I r h => call_int1 pins s σ H xs us Q I r (.inl h)
def rListOf (K : PySem.W.Frag) : List V → Hp → VK → Prop := fun xs H Q => ∃ p ys, xs = [.ref p] ∧ (SqL K H p ys ∨ SqT K H p ys) ∧ ∀ l, H l = none → Q (.ref l) (upd H l (.lst ys))
theorem call_listA : CallR X (.type "list") (rListOf X.K) := call_list_of
def rTupOf (K : PySem.W.Frag) : List V → Hp → VK → Prop := fun xs H Q => ∃ p ys, xs = [.ref p] ∧ ((SqL K H p ys ∧ ∀ l, H l = none → Q (.ref l) (upd H l (.tup ys))) ∨ (SqT K H p ys ∧ Q (.ref p) H))
theorem call_tupleA : CallR X (.type "tuple") (rTupOf X.K) := call_tuple_of
theorem call_lenA : CallR X (.builtin "len") (rLen X.K) := CallR.or call_len_seq call_len_str
end
/-! the same in a block whose context is not X itself -/
section
variable {X : Cx} {K : PySem.W.Frag}
theorem ix_anyK (h : X.K = K) (hu : X.A.units + 1 < cLine) : IxR X (rIxx K) := h ▸ ix_any hu
theorem op_eqqK (h : X.K = K) (hu : X.A.units + 64 < cLine) : OpR X (compareOp .Eq) (rEqq K) := h ▸ op_eqq hu
theorem op_neqK (h : X.K = K) (hu : X.A.units + 64 < cLine) : OpR X (compareOp .NotEq) (rNeq K) := h ▸ op_neq hu
theorem op_innK (h : X.K = K) (hu : X.A.units + 1 < cLine) : OpR X (compareOp .In) (rInn K) := h ▸ op_inn hu
theorem op_notInnK (h : X.K = K) (hu : X.A.units + 1 < cLine) : OpR X (compareOp .NotIn) (rNotInn K) := h ▸ op_notInn hu
theorem call_lenAK (h : X.K = K) : CallR X (.builtin "len") (rLen K) := h ▸ call_lenA
theorem call_listAK (h : X.K = K) : CallR X (.type "list") (rListOf K) := h ▸ call_listA
theorem call_tupleAK (h : X.K = K) : CallR X (.type "tuple") (rTupOf K) := h ▸ call_tupleA
theorem call_isiK' (h : X.K = K) : CallR X (.builtin "isinstance") (rIsi K) := h ▸ call_isi
theorem sl_listK (h : X.K = K) : SlR X (rSlL K) := h ▸ sl_list
theorem pe_fldK {e : Expr} {f : Str} {pos : Pos} {ta : TE} (h : X.K = K) (he : PE X e ta) (hb : attributeBase e f X.env (eval e X.env) = eval e X.env) : PE X (.Attribute e f pos) (tFld K ta f) := h ▸ pe_fld he hb
theorem pi_listK {tg l : Expr} {tl : TE} (h : X.K = K) (hl : PE X l tl) : PI X tg l (iList K tl) := h ▸ pi_list hl
end
end Cf
namespace Cf
open PySem L2 PySem.Spec PyProof.Rows
/-! ## steps of a reading, by its head -/
def TFld (K : PySem.W.Frag) (f : Str) (x : V) (H1 : Hp) (Q : VK) : Prop := ∃ a C dx fs v, x = .ref a ∧ H1 a = some (.ins C dx fs) ∧ Cls K C ∧ NoAttr K C f ∧ fs.lookup f = some v ∧ Q v H1
def TProp (C : Addr) (sp : Sp) (dvs : List V) (E : XK) (x : V) (H1 : Hp) (Q : VK) : Prop := ∃ a dx fs, x = .ref a ∧ H1 a = some (.ins C dx fs) ∧ sp (.ref a :: dvs) H1 Q E
def SFld (K : PySem.W.Frag) (f : Str) (y x : V) (H2 : Hp) (R : Hp → Prop) : Prop := ∃ a C dx fs, x = .ref a ∧ H2 a = some (.ins C dx fs) ∧ Cls K C ∧ NoAttr K C f ∧ fs.length < 1000 ∧ R (upd H2 a (.ins C dx (putF f y fs)))
def TMeth (C : Addr) (m : Str) (x : V) (H1 : Hp) (R : Prop) : Prop := ∃ a dx fs, x = .ref a ∧ H1 a = some (.ins C dx fs) ∧ fs.lookup m = none ∧ R
def tTru (K : PySem.W.Frag) (ta : TE) : TT := fun σ H Q => ta σ H fun x H' => ∃ k, TruV K x H' k ∧ Q k H'
theorem pt_tru {X : Cx} {a : Expr} {ta : TE} (ha : PE X a ta) (he : ∀ whole, isTrue a X.env whole = (do let v ← whole; standAt a.pos; holding [v] (truthy v))) : PT X a (tTru X.K ta) := pt_truth ha he
section
variable {K : PySem.W.Frag} {σ : L2.St} {H : Hp} {D : Ends} {ta tb te : TE} {t u : TT} {tA tr : TA} {a b : TS} {r : R2} {C : Addr} {sp : Sp} {dvs : List V} {E : XK}
theorem k_var {i : Nat} {v : V} {Q : VK} (e : σ[i]? = some (some v)) (h : Q v H) : tVar i σ H Q := ⟨v, e, h⟩
theorem k_c {v : V} {Q : VK} (h : Q v H) : tC v σ H Q := h
theorem k_op {Q : VK} (h : ta σ H fun x H1 => tb σ H1 fun y H2 => r x y H2 Q) : tOp r ta tb σ H Q := h
theorem k_un {r : V → Hp → VK → Prop} {Q : VK} (h : ta σ H fun x H1 => r x H1 Q) : tUn r ta σ H Q := h
theorem k_test {Q : Bool → Hp → Prop} (h : ta σ H fun x H' => ∃ k, x = .bl k ∧ Q k H') : tTest ta σ H Q := h
theorem k_tB {Q : Bool → Hp → Prop} (h : ta σ H fun x H' => ∃ k, x = .bl k ∧ Q k H') : tB ta σ H Q := h
theorem k_tru {Q : Bool → Hp → Prop} (h : ta σ H fun x H' => ∃ k, TruV K x H' k ∧ Q k H') : tTru K ta σ H Q := h
theorem k_ex {b : Bool} {P : Bool → Prop} (h : P b) : ∃ k, V.bl b = .bl k ∧ P k := ⟨b, rfl, h⟩
theorem k_exT {b : Bool} {P : Bool → Prop} (h : P b) : ∃ k, TruV K (V.bl b) H k ∧ P k := ⟨b, rfl, h⟩
theorem k_exI {i : Int} {P : Bool → Prop} (h : P (i != 0)) : ∃ k, TruV K (V.int i) H k ∧ P k := ⟨_, rfl, h⟩
theorem k_and {Q : Bool → Hp → Prop} (h : t σ H fun c H1 => if c = true then u σ H1 Q else Q false H1) : tAnd t u σ H Q := h
theorem k_or {Q : Bool → Hp → Prop} (h : t σ H fun c H1 => if c = true then Q true H1 else u σ H1 Q) : tOr t u σ H Q := h
theorem k_not {Q : Bool → Hp → Prop} (h : t σ H fun c H1 => Q (!c) H1) : tNot t σ H Q := h
theorem k_andV {Q : VK} (h : ta σ H fun x H1 => ∃ c, x = .bl c ∧ if c = true then tb σ H1 Q else Q (.bl false) H1) : tAndV ta tb σ H Q := h
theorem k_orV {Q : VK} (h : ta σ H fun x H1 => ∃ c, x = .bl c ∧ if c = true then Q (.bl true) H1 else tb σ H1 Q) : tOrV ta tb σ H Q := h
theorem k_notV {Q : VK} (h : ta σ H fun x H1 => ∃ c, x = .bl c ∧ Q (.bl (!c)) H1) : tNotV ta σ H Q := h
theorem k_ifE {Q : VK} (h : t σ H fun c H1 => if c = true then ta σ H1 Q else tb σ H1 Q) : tIf t ta tb σ H Q := h
theorem k_cons {Q : List V → Hp → Prop} (h : ta σ H fun x H1 => tr σ H1 fun xs H2 => Q (x :: xs) H2) : tCons ta tr σ H Q := h
theorem k_nil {Q : List V → Hp → Prop} (h : Q [] H) : tNil σ H Q := h
theorem k_tup {Q : VK} (h : tA σ H fun xs H1 => xs.length ≤ sizeLine ∧ ∀ p, Fresh H1 p → Q (.ref p) (upd H1 p (.tup xs))) : tTup tA σ H Q := h
theorem k_lst {Q : VK} (h : tA σ H fun xs H1 => xs.length ≤ sizeLine ∧ ∀ p, Fresh H1 p → Q (.ref p) (upd H1 p (.lst xs))) : tLst tA σ H Q := h
theorem k_call {Q : VK} (h : tA σ H fun vs H1 => sp (vs ++ dvs) H1 Q E) : tCall sp dvs E tA σ H Q := h
theorem k_cb {r : List V → Hp → VK → Prop} {Q : VK} (h : tA σ H fun vs H1 => r vs H1 Q) : tCB r tA σ H Q := h
theorem k_bm0 {T : String} {r : V → List V → Hp → VK → Prop} {Q : VK} (h : te σ H fun x H1 => tyV K T x H1 ∧ r x [] H1 Q) : tBM0 K T r te σ H Q := h
theorem k_bm {T : String} {r : V → List V → Hp → VK → Prop} {Q : VK} (h : te σ H fun x H1 => tyV K T x H1 ∧ tA σ H1 fun xs H2 => r x xs H2 Q) : tBM K T r te tA σ H Q := h
theorem k_fld {f : Str} {Q : VK} (h : ta σ H fun x H1 => TFld K f x H1 Q) : tFld K ta f σ H Q := h
theorem k_prop {Q : VK} (h : ta σ H fun x H1 => TProp C sp dvs E x H1 Q) : tProp C sp dvs E ta σ H Q := h
theorem k_sl {r : V → Option Int → Option Int → Hp → VK → Prop} {tl th : TO} {Q : VK} (h : te σ H fun x H1 => tl σ H1 fun l H2 => th σ H2 fun u H3 => r x l u H3 Q) : tSl r te tl th σ H Q := h
theorem k_nopart {Q : Option Int → Hp → Prop} (h : Q none H) : tNoPart σ H Q := h
theorem k_part {Q : Option Int → Hp → Prop} (h : te σ H fun x H1 => ∃ i, x = .int i ∧ Q (some i) H1) : tPart te σ H Q := h
theorem k_exint {i : Int} {P : Int → Prop} (h : P i) : ∃ k, V.int i = .int k ∧ P k := ⟨i, rfl, h⟩
-- statements
variable {nx : L2.St → Hp → Prop} {rt : VK} {bk ct : L2.St → Hp → Prop}
theorem k_next (h : nx σ H) : tNext ⟨nx, rt, bk, ct⟩ σ H := h
theorem k_brk (h : bk σ H) : tBreak ⟨nx, rt, bk, ct⟩ σ H := h
theorem k_cont (h : ct σ H) : tCont ⟨nx, rt, bk, ct⟩ σ H := h
theorem k_seq (h : a ⟨b ⟨nx, rt, bk, ct⟩, rt, bk, ct⟩ σ H) : tSeq a b ⟨nx, rt, bk, ct⟩ σ H := h
theorem k_drop (h : te σ H fun _ H1 => nx σ H1) : tDrop te ⟨nx, rt, bk, ct⟩ σ H := h
theorem k_ret (h : te σ H rt) : tRet te ⟨nx, rt, bk, ct⟩ σ H := h
theorem k_retN (h : rt .non H) : tRetN ⟨nx, rt, bk, ct⟩ σ H := h
theorem k_ifs (h : t σ H fun b' H1 => if b' = true then a D σ H1 else b D σ H1) : tIfS t a b D σ H := h
theorem k_asg {g : TG} (h : te σ H fun x H1 => g x σ H1 nx) : tAsg te g ⟨nx, rt, bk, ct⟩ σ H := h
theorem k_gname {i : Nat} {v : V} {σ' : L2.St} {Q : L2.St → Hp → Prop} (e : σ.set i (some v) = σ') (h : Q σ' H) : gName i v σ H Q := by subst e; exact h
theorem k_gsub {to ti : TE} {st : TSet} {v : V} {Q : L2.St → Hp → Prop} (h : to σ H fun o H1 => ti σ H1 fun i H2 => st o i v H2 fun H3 => Q σ H3) : gSub to ti st v σ H Q := h
theorem k_sfld {tv : TE} {f : Str} (h : tv σ H fun y H1 => ta σ H1 fun x H2 => SFld K f y x H2 (nx σ)) : sFld K ta tv f ⟨nx, rt, bk, ct⟩ σ H := h
/-- a loop over J, from H1 -/
def ForE (g : TG) (tb : TS) (D : Ends) (J : It) (σ : L2.St) (H1 : Hp) : Prop := ∃ W : Nat → Nat → L2.St → Hp → Prop, (∃ m, W 0 m σ H1) ∧ ∀ i m σ H, W i m σ H →
  (J.stop i H ∧ D.nx σ H) ∨ (J.go i H ∧ ∃ N : L2.St → Hp → Prop, (∀ σ' H', N σ' H' → ∃ m', m' < m ∧ W (i + 1) m' σ' H') ∧ ∀ x H', J.yld i H x H' → g x σ H' fun σ2 H2 => tb { D with nx := N, ct := N, bk := D.nx } σ2 H2)
theorem k_for {wi : TI} {g : TG} {tb : TS} (h : wi σ H fun J H1 => ForE g tb ⟨nx, rt, bk, ct⟩ J σ H1) : tFor wi g tb ⟨nx, rt, bk, ct⟩ σ H := h
theorem k_rng1 {R : It → Hp → Prop} (h : tA σ H fun vs H1 => ∃ j : Int, vs = [.int j] ∧ -(2 ^ 62) ≤ j ∧ j < 2 ^ 62 ∧ R (Itr 0 j.toNat) H1) : iRng1 tA σ H R := h
theorem k_rng2 {R : It → Hp → Prop} (h : tA σ H fun vs H1 => ∃ i j : Int, vs = [.int i, .int j] ∧ (-(2 ^ 62) ≤ i ∧ i < 2 ^ 62 ∧ -(2 ^ 62) ≤ j ∧ j < 2 ^ 62) ∧ R (Itr i (j - i).toNat) H1) : iRng2 tA σ H R := h
theorem k_ilist {tl : TE} {R : It → Hp → Prop} (h : tl σ H fun x H1 => ∃ a, x = .ref a ∧ (∃ xs, SqL K H1 a xs) ∧ R (Itl K a) H1) : iList K tl σ H R := h
theorem k_itup {tl : TE} {R : It → Hp → Prop} (h : tl σ H fun x H1 => ∃ a, x = .ref a ∧ (∃ xs, SqT K H1 a xs) ∧ R (Itt K a) H1) : iTup K tl σ H R := h
theorem k_exrng {n : Int} {R : Int → Prop} (h : -(2 ^ 62) ≤ n ∧ n < 2 ^ 62) (q : R n) : ∃ j : Int, [V.int n] = [.int j] ∧ -(2 ^ 62) ≤ j ∧ j < 2 ^ 62 ∧ R j := ⟨n, rfl, h.1, h.2, q⟩
theorem k_exrng2 {m n : Int} {R : Int → Int → Prop} (h : -(2 ^ 62) ≤ m ∧ m < 2 ^ 62 ∧ -(2 ^ 62) ≤ n ∧ n < 2 ^ 62) (q : R m n) : ∃ i j : Int, [V.int m, V.int n] = [.int i, .int j] ∧ (-(2 ^ 62) ≤ i ∧ i < 2 ^ 62 ∧ -(2 ^ 62) ≤ j ∧ j < 2 ^ 62) ∧ R i j := ⟨m, n, rfl, h, q⟩
theorem k_exlst {a : Addr} {xs : List V} {R : Addr → Prop} (h : H a = some (.lst xs)) (q : R a) : ∃ b, V.ref a = .ref b ∧ (∃ xs, SqL K H b xs) ∧ R b := ⟨a, rfl, ⟨xs, SqL.of h⟩, q⟩
theorem k_extup {a : Addr} {xs : List V} {R : Addr → Prop} (h : H a = some (.tup xs)) (q : R a) : ∃ b, V.ref a = .ref b ∧ (∃ xs, SqT K H b xs) ∧ R b := ⟨a, rfl, ⟨xs, SqT.of h⟩, q⟩
theorem for_r {g : TG} {tb : TS} {n : Nat} (Pv : Nat → L2.St → Hp → Prop) (h0 : Pv 0 σ H)
    (hs : ∀ (i : Nat) σ H, i < n → Pv i σ H → g (.int i) σ H fun σ2 H2 => tb ⟨Pv (i + 1), rt, nx, Pv (i + 1)⟩ σ2 H2) (hd : ∀ σ H, Pv n σ H → nx σ H) : ForE g tb ⟨nx, rt, bk, ct⟩ (Itr 0 n) σ H :=
  for_range (D := ⟨nx, rt, bk, ct⟩) Pv h0 (fun i σ H hi p => by
    have e := hs i σ H hi p
    have z : (0 : Int) + (i : Int) = (i : Int) := Int.zero_add _
    rw [z]
    exact e) hd
theorem for_rl {g : TG} {tb : TS} {n : Nat} {lo : Int} (Pv : Nat → L2.St → Hp → Prop) (h0 : Pv 0 σ H)
    (hs : ∀ (i : Nat) σ H, i < n → Pv i σ H → g (.int (lo + i)) σ H fun σ2 H2 => tb ⟨Pv (i + 1), rt, nx, Pv (i + 1)⟩ σ2 H2) (hd : ∀ σ H, Pv n σ H → nx σ H) : ForE g tb ⟨nx, rt, bk, ct⟩ (Itr lo n) σ H :=
  for_range (D := ⟨nx, rt, bk, ct⟩) Pv h0 hs hd
theorem for_l {g : TG} {tb : TS} {p : Addr} (xs : List V) (Pv : Nat → L2.St → Hp → Prop) (h0 : Pv 0 σ H) (hl : ∀ i σ H, i ≤ xs.length → Pv i σ H → SqL K H p xs)
    (hs : ∀ (i : Nat) x σ H, xs[i]? = some x → Pv i σ H → g x σ H fun σ2 H2 => tb ⟨Pv (i + 1), rt, nx, Pv (i + 1)⟩ σ2 H2) (hd : ∀ σ H, Pv xs.length σ H → nx σ H) : ForE g tb ⟨nx, rt, bk, ct⟩ (Itl K p) σ H :=
  for_list (D := ⟨nx, rt, bk, ct⟩) Pv h0 hl hs hd
theorem for_t {g : TG} {tb : TS} {p : Addr} (xs : List V) (Pv : Nat → L2.St → Hp → Prop) (h0 : Pv 0 σ H) (hl : ∀ i σ H, i ≤ xs.length → Pv i σ H → SqT K H p xs)
    (hs : ∀ (i : Nat) x σ H, xs[i]? = some x → Pv i σ H → g x σ H fun σ2 H2 => tb ⟨Pv (i + 1), rt, nx, Pv (i + 1)⟩ σ2 H2) (hd : ∀ σ H, Pv xs.length σ H → nx σ H) : ForE g tb ⟨nx, rt, bk, ct⟩ (Itt K p) σ H :=
  for_tup (D := ⟨nx, rt, bk, ct⟩) Pv h0 hl hs hd
/-- a comprehension over J, its list at L -/
def LcE (g : TG) (tt : TT) (te : TE) (vs : List Nat) (J : It) (σ : L2.St) (L : Addr) (H1 : Hp) (Qd : Hp → Prop) : Prop := ∃ W : Nat → Nat → Hp → Prop, (∃ m, W 0 m (upd H1 L (.lst []))) ∧ ∀ i m H, W i m H →
  (J.stop i H ∧ Qd H) ∨ (J.go i H ∧ ∃ Nx : Hp → Prop, (∀ H', Nx H' → ∃ m', m' < m ∧ W (i + 1) m' H') ∧ ∀ x H', J.yld i H x H' → g x (wipe σ vs) H' fun σ2 H2 => wipe σ2 vs = wipe σ vs ∧ tt σ2 H2 fun b H3 =>
    if b = true then te σ2 H3 fun y H4 => ∃ acc, H4 L = some (.lst acc) ∧ acc.length < sizeLine ∧ Nx (upd H4 L (.lst (acc ++ [y]))) else Nx H3)
theorem k_lc {wi : TI} {g : TG} {tt : TT} {te : TE} {vs : List Nat} {Q : VK} (h : wi σ H fun J H1 => ∀ L, Fresh H1 L → LcE g tt te vs J σ L H1 (Q (.ref L))) : tLc wi g tt te vs σ H Q := h
theorem k_yes {Q : Bool → Hp → Prop} (h : Q true H) : tYes σ H Q := h
theorem lc_r {g : TG} {tt : TT} {vs : List Nat} {n : Nat} {L : Addr} {Qd : Hp → Prop} (Pv : Nat → Hp → Prop) (h0 : Pv 0 (upd H L (.lst [])))
    (hs : ∀ (i : Nat) H, i < n → Pv i H → g (.int i) (wipe σ vs) H fun σ2 H2 => wipe σ2 vs = wipe σ vs ∧ tt σ2 H2 fun b H3 =>
      if b = true then te σ2 H3 fun y H4 => ∃ acc, H4 L = some (.lst acc) ∧ acc.length < sizeLine ∧ Pv (i + 1) (upd H4 L (.lst (acc ++ [y]))) else Pv (i + 1) H3) (hd : ∀ H, Pv n H → Qd H) : LcE g tt te vs (Itr 0 n) σ L H Qd :=
  lc_range Pv h0 (fun i H hi p => by
    have e := hs i H hi p
    have z : (0 : Int) + (i : Int) = (i : Int) := Int.zero_add _
    rw [z]
    exact e) hd
theorem lc_l {g : TG} {tt : TT} {vs : List Nat} {p : Addr} {L : Addr} {Qd : Hp → Prop} (xs : List V) (Pv : Nat → Hp → Prop) (h0 : Pv 0 (upd H L (.lst []))) (hl : ∀ i H, i ≤ xs.length → Pv i H → SqL K H p xs)
    (hs : ∀ (i : Nat) x H, xs[i]? = some x → Pv i H → g x (wipe σ vs) H fun σ2 H2 => wipe σ2 vs = wipe σ vs ∧ tt σ2 H2 fun b H3 =>
      if b = true then te σ2 H3 fun y H4 => ∃ acc, H4 L = some (.lst acc) ∧ acc.length < sizeLine ∧ Pv (i + 1) (upd H4 L (.lst (acc ++ [y]))) else Pv (i + 1) H3) (hd : ∀ H, Pv xs.length H → Qd H) : LcE g tt te vs (Itl K p) σ L H Qd :=
  lc_list (K := K) Pv h0 hl hs hd
/-- the end of a comprehension's turn -/
theorem lc_put {L : Addr} {acc : List V} {y : V} {N : Hp → Prop} (h : H L = some (.lst acc)) (hl : acc.length < 1000) (q : N (upd H L (.lst (acc ++ [y])))) : ∃ acc, H L = some (.lst acc) ∧ acc.length < sizeLine ∧ N (upd H L (.lst (acc ++ [y]))) := ⟨acc, h, small1000 (Nat.le_of_lt hl), q⟩
theorem k_meth {m : Str} {Q : VK} (h : ta σ H fun x H1 => TMeth C m x H1 (tA σ H1 fun vs H2 => sp (x :: (vs ++ dvs)) H2 Q E)) : tMeth C m sp dvs E ta tA σ H Q := h
theorem k_make {Q : VK} (h : tA σ H fun vs H1 => ∀ x dx, Fresh H1 x → Fresh H1 dx → dx ≠ x → sp (.ref x :: (vs ++ dvs)) (upd (upd H1 dx (.own x)) x (.ins C dx [])) (fun v H2 => v = .non ∧ Q (.ref x) H2) E) : tMake C sp dvs E tA σ H Q := h
theorem k_disp {trs : List (TE × TE)} {Q : VK} (h : ∀ p, Fresh H p → tPairs trs σ (upd H p (.dK [])) fun ps H2 => H2 p = some (.dK []) ∧ ∃ kvs : List (Key × V), ps = kvs.map (fun kv => (kV kv.1, kv.2)) ∧ kvs.length ≤ 15 ∧ Q (.ref p) (upd H2 p (.dK (mergeK [] kvs)))) : tDisp trs σ H Q := h
theorem kr_meth {r dx : Addr} {fs : List (Str × V)} {m : Str} {R : Prop} (h : H r = some (.ins C dx fs)) (l : fs.lookup m = none) (q : R) : TMeth C m (.ref r) H R := ⟨r, dx, fs, rfl, h, l, q⟩
theorem kr_fld {r C dx : Addr} {fs : List (Str × V)} {f : Str} {v : V} {Q : VK} (h : H r = some (.ins C dx fs)) (c : Cls K C) (n : NoAttr K C f) (l : fs.lookup f = some v) (q : Q v H) : TFld K f (.ref r) H Q := ⟨r, C, dx, fs, v, rfl, h, c, n, l, q⟩
theorem kr_sfld {r C dx : Addr} {fs fs' : List (Str × V)} {f : Str} {y : V} {R : Hp → Prop} (h : H r = some (.ins C dx fs)) (c : Cls K C) (n : NoAttr K C f) (l : fs.length < 1000) (e : putF f y fs = fs') (q : R (upd H r (.ins C dx fs'))) : SFld K f y (.ref r) H R := by
  subst e; exact ⟨r, C, dx, fs, rfl, h, c, n, l, q⟩
theorem kr_prop {r dx : Addr} {fs : List (Str × V)} {Q : VK} (h : H r = some (.ins C dx fs)) (q : sp (.ref r :: dvs) H Q E) : TProp C sp dvs E (.ref r) H Q := ⟨r, dx, fs, rfl, h, q⟩
theorem k_tyL {l : Addr} {xs : List V} {R : Prop} (h : H l = some (.lst xs)) (q : R) : tyV K "list" (.ref l) H ∧ R := ⟨.inl ⟨rfl, xs, SqL.of h⟩, q⟩
theorem kr_inI {p : Addr} {xs : List V} {x : V} {b : Bool} {Q : VK} (h : H p = some (.lst xs)) (f : flatV x = true) (g : xs.all flatV = true) (e : inV x xs = b) (q : Q (.bl b) H) : rInn K x (.ref p) H Q := by
  subst e; exact .inl ⟨p, xs, rfl, .inl (SqL.of h), f, g, q⟩
theorem kr_inT {p : Addr} {xs : List V} {x : V} {b : Bool} {Q : VK} (h : H p = some (.tup xs)) (f : flatV x = true) (g : xs.all flatV = true) (e : inV x xs = b) (q : Q (.bl b) H) : rInn K x (.ref p) H Q := by
  subst e; exact .inl ⟨p, xs, rfl, .inr (SqT.of h), f, g, q⟩
theorem kr_inD {d : Addr} {kvs : List (Key × V)} {s : Str} {b : Bool} {Q : VK} (h : H d = some (.dK kvs)) (e : (valV kvs (Sum.inr s)).isSome = b) (q : Q (.bl b) H) : rInn K (.str s) (.ref d) H Q := by
  subst e; exact .inr ⟨d, _, rfl, DGet.k (k := Sum.inr s) h, q⟩
theorem kr_notInI {p : Addr} {xs : List V} {x : V} {b : Bool} {Q : VK} (h : H p = some (.lst xs)) (f : flatV x = true) (g : xs.all flatV = true) (e : inV x xs = b) (q : Q (.bl (!b)) H) : rNotInn K x (.ref p) H Q := by
  subst e; exact .inl ⟨p, xs, rfl, .inl (SqL.of h), f, g, q⟩
theorem kr_notInT {p : Addr} {xs : List V} {x : V} {b : Bool} {Q : VK} (h : H p = some (.tup xs)) (f : flatV x = true) (g : xs.all flatV = true) (e : inV x xs = b) (q : Q (.bl (!b)) H) : rNotInn K x (.ref p) H Q := by
  subst e; exact .inl ⟨p, xs, rfl, .inr (SqT.of h), f, g, q⟩
theorem kr_notInD {d : Addr} {kvs : List (Key × V)} {s : Str} {b : Bool} {Q : VK} (h : H d = some (.dK kvs)) (e : (valV kvs (Sum.inr s)).isSome = b) (q : Q (.bl (!b)) H) : rNotInn K (.str s) (.ref d) H Q := by
  subst e; exact .inr ⟨d, _, rfl, DGet.k (k := Sum.inr s) h, q⟩
theorem kr_slL {p : Addr} {xs : List V} {lo hi : Option Int} {Q : VK} (h : H p = some (.lst xs)) (q : ∀ l, Fresh H l → Q (.ref l) (upd H l (.lst (cutV xs lo hi)))) : rSlL K (.ref p) lo hi H Q := ⟨p, xs, rfl, SqL.of h, q⟩
theorem kr_append {l : Addr} {xs : List V} {y : V} {Q : VK} (h : H l = some (.lst xs)) (hl : xs.length < sizeLine) (q : Q .non (upd H l (.lst (xs ++ [y])))) : rAppend (.ref l) [y] H Q := ⟨l, xs, y, rfl, rfl, h, hl, q⟩
theorem kr_pop0 {l : Addr} {xs : List V} {x : V} {Q : VK} (h : H l = some (.lst (x :: xs))) (q : Q x (upd H l (.lst xs))) : rPopAt (.ref l) [.int 0] H Q :=
  ⟨l, x :: xs, 0, 0, x, rfl, rfl, h, by decide, by decide, by simp [seqIndex?], rfl, q⟩
theorem k_pairs_nil {Q : List (V × V) → Hp → Prop} (h : Q [] H) : tPairs [] σ H Q := h
theorem k_pairs {tk tv : TE} {r : List (TE × TE)} {Q : List (V × V) → Hp → Prop} (h : tk σ H fun x H1 => tv σ H1 fun y H2 => tPairs r σ H2 fun ps H3 => Q ((x, y) :: ps) H3) : tPairs ((tk, tv) :: r) σ H Q := h
-- operators
theorem kr_I0 {g : Int → Int → V} {i j : Int} {Q : VK} (h : Q (g i j) H) : rI0 g (.int i) (.int j) H Q := ⟨i, j, rfl, rfl, h⟩
theorem kr_I {Co : Int → Int → Prop} {g : Int → Int → V} {i j : Int} {Q : VK} (hc : Co i j) (h : Q (g i j) H) : rI Co g (.int i) (.int j) H Q := ⟨i, j, rfl, rfl, hc, h⟩
theorem kr_U {g : Int → V} {i : Int} {Q : VK} (h : Q (g i) H) : rU g (.int i) H Q := ⟨i, rfl, h⟩
theorem kr_plus {i j : Int} {Q : VK} (h : Q (.int (i + j)) H) : rPlus (.int i) (.int j) H Q := .inl ⟨i, j, rfl, rfl, h⟩
theorem kr_plusS {i j : Str} {Q : VK} (hl : i.length + j.length ≤ sizeLine) (h : Q (.str (i ++ j)) H) : rPlus (.str i) (.str j) H Q := .inr (.inl ⟨i, j, rfl, rfl, hl, h⟩)
theorem kr_plusL {l q : Addr} {xs zs : List V} {Q : VK} (h1 : H l = some (.lst xs)) (h2 : H q = some (.lst zs)) (hl : xs.length + zs.length ≤ sizeLine) (h : ∀ p, Fresh H p → Q (.ref p) (upd H p (.lst (xs ++ zs)))) : rPlus (.ref l) (.ref q) H Q :=
  .inr (.inr ⟨l, q, xs, zs, rfl, rfl, h1, h2, hl, h⟩)
theorem kr_times {i j : Int} {Q : VK} (hc : CMul i j) (h : Q (.int (i * j)) H) : rTimes (.int i) (.int j) H Q := .inl ⟨i, j, rfl, rfl, hc, h⟩
theorem kr_eq {x y : V} {Q : VK} (hc : scal x y = true) (h : Q (.bl (decide (x = y))) H) : rEqq K x y H Q := .inl ⟨hc, h⟩
theorem kr_ne {x y : V} {Q : VK} (hc : scal x y = true) (h : Q (.bl (!decide (x = y))) H) : rNeq K x y H Q := .inl ⟨hc, h⟩
theorem kr_ixL {p : Addr} {xs : List V} {i : Int} {v : V} {Q : VK} (h : H p = some (.lst xs)) (ha : atI xs i = some v) (q : Q v H) : rIxx K (.ref p) (.int i) H Q := .inl (.inl ⟨p, xs, i, v, rfl, rfl, SqL.of h, ha, q⟩)
theorem kr_ixT {p : Addr} {xs : List V} {i : Int} {v : V} {Q : VK} (h : H p = some (.tup xs)) (ha : atI xs i = some v) (q : Q v H) : rIxx K (.ref p) (.int i) H Q := .inl (.inr (.inl ⟨p, xs, i, v, rfl, rfl, SqT.of h, ha, q⟩))
theorem kr_ixS {z : Str} {i : Int} {c : Nat} {Q : VK} (hz : z.length ≤ sizeLine) (ha : atI z.cps.toList i = some c) (q : Q (.str ⟨#[c]⟩) H) : rIxx K (.str z) (.int i) H Q := .inl (.inr (.inr ⟨z, i, c, rfl, rfl, hz, ha, q⟩))
theorem kr_ixD {d : Addr} {kvs : List (Key × V)} {s : Str} {v : V} {Q : VK} (h : H d = some (.dK kvs)) (ha : valV kvs (Sum.inr s) = some v) (q : Q v H) : rIxx K (.ref d) (.str s) H Q :=
  .inr ⟨d, v, rfl, ha ▸ DGet.k (k := Sum.inr s) h, q⟩
theorem kr_ixDi {d : Addr} {kvs : List (Key × V)} {s : Int} {v : V} {Q : VK} (h : H d = some (.dK kvs)) (ha : valV kvs (Sum.inl s) = some v) (q : Q v H) : rIxx K (.ref d) (.int s) H Q :=
  .inr ⟨d, v, rfl, ha ▸ DGet.k (k := Sum.inl s) h, q⟩
theorem kr_setL {p : Addr} {xs xs' : List V} {i : Int} {j : Nat} {v : V} {Q : Hp → Prop} (h : H p = some (.lst xs)) (ha : ixN xs.length i = some j) (e : xs.set j v = xs') (q : Q (upd H p (.lst xs'))) : rSett (.ref p) (.int i) v H Q := by subst e; exact .inl ⟨p, xs, i, j, rfl, rfl, h, ha, q⟩
theorem kr_setD {d : Addr} {kvs kvs' : List (Key × V)} {s : Str} {v : V} {Q : Hp → Prop} (h : H d = some (.dK kvs)) (hl : kvs.length < sizeLine) (e : putK kvs (Sum.inr s) v = kvs') (q : Q (upd H d (.dK kvs'))) : rSett (.ref d) (.str s) v H Q := by
  subst e; exact .inr ⟨d, _, rfl, DPut.k (k := Sum.inr s) h hl, q⟩
theorem kr_int {i : Int} {Q : VK} (q : Q (.int i) H) : rInt [.int i] H Q := ⟨i, rfl, q⟩
theorem kr_listL {p : Addr} {xs : List V} {Q : VK} (h : H p = some (.lst xs)) (q : ∀ l, Fresh H l → Q (.ref l) (upd H l (.lst xs))) : rListOf K [.ref p] H Q := ⟨p, xs, rfl, .inl (SqL.of h), q⟩
theorem kr_listT {p : Addr} {xs : List V} {Q : VK} (h : H p = some (.tup xs)) (q : ∀ l, Fresh H l → Q (.ref l) (upd H l (.lst xs))) : rListOf K [.ref p] H Q := ⟨p, xs, rfl, .inr (SqT.of h), q⟩
theorem kr_tupL {p : Addr} {xs : List V} {Q : VK} (h : H p = some (.lst xs)) (q : ∀ l, Fresh H l → Q (.ref l) (upd H l (.tup xs))) : rTupOf K [.ref p] H Q := ⟨p, xs, rfl, .inl ⟨SqL.of h, q⟩⟩
theorem kr_tupT {p : Addr} {xs : List V} {Q : VK} (h : H p = some (.tup xs)) (q : Q (.ref p) H) : rTupOf K [.ref p] H Q := ⟨p, xs, rfl, .inr ⟨SqT.of h, q⟩⟩
theorem kr_lenL {p : Addr} {xs : List V} {Q : VK} (h : H p = some (.lst xs)) (q : Q (.int xs.length) H) : rLen K [.ref p] H Q := .inl ⟨p, xs, rfl, .inl (SqL.of h), q⟩
theorem kr_lenT {p : Addr} {xs : List V} {Q : VK} (h : H p = some (.tup xs)) (q : Q (.int xs.length) H) : rLen K [.ref p] H Q := .inl ⟨p, xs, rfl, .inr (SqT.of h), q⟩
theorem kr_lenS {z : Str} {Q : VK} (h : z.length ≤ sizeLine) (q : Q (.int z.length) H) : rLen K [.str z] H Q := .inr ⟨z, rfl, h, q⟩
theorem kr_disp {p : Addr} {ps : List (V × V)} {kvs kvs' : List (Key × V)} {Q : VK} (h : H p = some (.dK [])) (e : ps = kvs.map (fun kv => (kV kv.1, kv.2))) (hl : kvs.length ≤ 15) (m : mergeK [] kvs = kvs') (q : Q (.ref p) (upd H p (.dK kvs'))) :
    H p = some (.dK []) ∧ ∃ kvs : List (Key × V), ps = kvs.map (fun kv => (kV kv.1, kv.2)) ∧ kvs.length ≤ 15 ∧ Q (.ref p) (upd H p (.dK (mergeK [] kvs))) := by subst m; exact ⟨h, kvs, e, hl, q⟩
/-- what holds behind a statement, once for all its ways -/
theorem k_cut {R : L2.St → Hp → Prop} (h1 : ∀ B : L2.St → Hp → Prop, (∀ σ' H', R σ' H' → B σ' H') → a ⟨B, rt, bk, ct⟩ σ H) (h2 : ∀ σ' H', R σ' H' → b ⟨nx, rt, bk, ct⟩ σ' H') : tSeq a b ⟨nx, rt, bk, ct⟩ σ H := h1 _ h2
/-- .. behind a test -/
theorem k_cutI {R : Bool → Hp → Prop} (h1 : ∀ B : Bool → Hp → Prop, (∀ c H', R c H' → B c H') → t σ H B) (h2 : ∀ c H', R c H' → if c = true then a D σ H' else b D σ H') : tIfS t a b D σ H := h1 _ h2
/-- .. behind an expression -/
theorem k_cutE {Q : VK} (R : VK) (h1 : ∀ B : VK, (∀ v H', R v H' → B v H') → te σ H B) (h2 : ∀ v H', R v H' → Q v H') : te σ H Q := h1 _ h2
theorem k_size {xs : List V} {R : Prop} (h : Nat.ble xs.length 1000 = true) (q : R) : xs.length ≤ sizeLine ∧ R := ⟨Nat.le_of_lt (small1000 (Nat.le_of_ble_eq_true h)), q⟩
/-- forgetting what the state is made of -/
theorem k_gen {t : TS} {R : L2.St → Hp → Prop} (h : R σ H) (k : ∀ σ' H', R σ' H' → t D σ' H') : t D σ H := k σ H h
theorem k_wipe {a b : L2.St} {vs : List Nat} {R : Prop} (e : wipe a vs = wipe b vs) (q : R) : wipe a vs = wipe b vs ∧ R := ⟨e, q⟩
theorem k_ite {c : Bool} {A B : Prop} (h1 : c = true → A) (h2 : c = false → B) : if c = true then A else B := by
  cases c with
  | true => rw [if_pos rfl]; exact h1 rfl
  | false => rw [if_neg (by decide)]; exact h2 rfl
theorem k_iteT {c : Bool} {A B : Prop} (h : c = true) (k : A) : if c = true then A else B := by rw [if_pos h]; exact k
theorem k_iteF {c : Bool} {A B : Prop} (h : c = false) (k : B) : if c = true then A else B := by rw [h, if_neg (by decide)]; exact k
end
theorem start_cons {n : Str} {N : List Str} {v : V} {vs : List V} : L2.start (n :: N) (v :: vs) = some v :: L2.start N vs := by simp [L2.start]
theorem start_none {n : Str} {N : List Str} : L2.start (n :: N) [] = none :: L2.start N [] := by simp [L2.start, List.replicate_succ]
theorem start_nil : L2.start [] [] = [] := rfl
/-! ## heaps -/
/-- what is tracked is kept, but for the objects at S -/
def Keep (S : List Addr) (H H' : Hp) : Prop := ∀ b o, b ∉ S → H b = some o → H' b = some o
theorem Keep.refl {S : List Addr} (H : Hp) : Keep S H H := fun _ _ _ h => h
theorem Keep.trans {S : List Addr} {H H1 H2 : Hp} (a : Keep S H H1) (b : Keep S H1 H2) : Keep S H H2 := fun c o n h => b c o n (a c o n h)
theorem Keep.mono {S S' : List Addr} {H H' : Hp} (a : Keep S H H') (h : ∀ b, b ∈ S → b ∈ S') : Keep S' H H' := fun c o n e => a c o (fun z => n (h c z)) e
theorem Keep.same {S : List Addr} {H H' : Hp} (a : Keep [] H H') : Keep S H H' := fun c o _ e => a c o (by simp) e
theorem Keep.at {S : List Addr} {H H' : Hp} {b : Addr} {o : HO} (k : Keep S H H') (n : b ∉ S) (h : H b = some o) : H' b = some o := k b o n h
theorem get_new {H : Hp} {r p : Addr} {o u : HO} (hp : Fresh H p) (h : H r = some o) : upd H p u r = some o := by rw [upd_ne (ne_of_none h hp)]; exact h
theorem get_ne {H : Hp} {r p : Addr} {o u : HO} (hn : r ≠ p) (h : H r = some o) : upd H p u r = some o := by rw [upd_ne hn]; exact h
theorem Keep.new {S : List Addr} {H H1 : Hp} {p : Addr} {o : HO} (k : Keep S H H1) (hp : Fresh H1 p) : Keep S H (upd H1 p o) := fun c u n e => get_new hp (k c u n e)
theorem Keep.mut {S : List Addr} {H H1 : Hp} {p : Addr} {o : HO} (k : Keep S H H1) (hp : p ∈ S) : Keep S H (upd H1 p o) := fun c u n e => get_ne (fun z => n (z ▸ hp)) (k c u n e)
/-- an object that was not tracked at H may change -/
theorem Keep.mutN {S : List Addr} {H H1 : Hp} {p : Addr} {o : HO} (k : Keep S H H1) (hp : Fresh H p) : Keep S H (upd H1 p o) := fun c u n e => get_ne (ne_of_none e hp) (k c u n e)
theorem Keep.free' {H H' : Hp} (e : Keep [] H H') {l : Addr} (h : Fresh H' l) : Fresh H l := by
  show H l = Option.none
  have h : H' l = Option.none := h
  cases q : H l with
  | none => rfl
  | some o => rw [e l o (by simp) q] at h; cases h
theorem Keep.free {S : List Addr} {H H' : Hp} (e : Keep S H H') {l : Addr} (h : H' l = Option.none) (hs : ∀ b ∈ S, ∃ o, H' b = some o) : H l = Option.none := by
  cases q : H l with
  | none => rfl
  | some o =>
    by_cases m : l ∈ S
    · obtain ⟨o', e'⟩ := hs l m
      rw [h] at e'; cases e'
    · rw [e l o m q] at h; cases h
theorem upd_none {H : Hp} {p l : Addr} {o : HO} (h : Fresh (upd H p o) l) : l ≠ p ∧ Fresh H l := by
  unfold Fresh upd at h
  by_cases e : l = p
  · rw [if_pos e] at h; cases h
  · rw [if_neg e] at h; exact ⟨e, h⟩
theorem Keep.step {S S' : List Addr} {H H1 H2 : Hp} (k : Keep S' H1 H2) (h : ∀ b, b ∈ S' → b ∈ S) (k0 : Keep S H H1) : Keep S H H2 := k0.trans (k.mono h)
/-- behind a change of objects that are new -/
theorem Keep.stepN {S S' : List Addr} {H H1 H2 : Hp} (k : Keep S' H1 H2) (h : ∀ b, b ∈ S' → b ∈ S ∨ Fresh H b) (k0 : Keep S H H1) : Keep S H H2 := fun c o n e => k.at (fun z => (h c z).elim n fun q => by have q : H c = Option.none := q; rw [q] at e; cases e) (k0 c o n e)
theorem Keep.none {S : List Addr} {H H1 : Hp} {l : Addr} (k : Keep S H H1) (h : Fresh H1 l) (n : l ∉ S) : Fresh H l := by
  show H l = Option.none
  have h : H1 l = Option.none := h
  cases q : H l with
  | none => rfl
  | some o => rw [k l o n q] at h; cases h
theorem nin0 {b : Addr} : b ∉ ([] : List Addr) := by simp
theorem nin1 {b p : Addr} (h : b ≠ p) : b ∉ [p] := by simpa using h
theorem ninc {b p : Addr} {S : List Addr} (h : b ≠ p) (h2 : b ∉ S) : b ∉ p :: S := by simp [h, h2]
/-- something is tracked there -/
def Tr (H : Hp) (p : Addr) : Prop := ∃ o, H p = some o
theorem Tr.of {H : Hp} {p : Addr} {o : HO} (h : H p = some o) : Tr H p := ⟨o, h⟩
theorem Tr.same {H : Hp} {p : Addr} {o : HO} : Tr (upd H p o) p := ⟨o, upd_same⟩
theorem Tr.up {H : Hp} {p r : Addr} {o : HO} (h : Tr H r) : Tr (upd H p o) r := by
  obtain ⟨u, h⟩ := h
  by_cases e : r = p
  · subst e; exact Tr.same
  · exact ⟨u, get_ne e h⟩
theorem Tr.keep {S : List Addr} {H H' : Hp} {r : Addr} (k : Keep S H H') (n : r ∉ S) (h : Tr H r) : Tr H' r := let ⟨o, e⟩ := h; ⟨o, k.at n e⟩
theorem ne_new {H : Hp} {r p : Addr} (hp : Fresh H p) (h : Tr H r) : r ≠ p := let ⟨_, e⟩ := h; ne_of_none e hp
theorem ne_new' {H : Hp} {r p : Addr} (hp : Fresh H p) (h : Tr H r) : p ≠ r := (ne_new hp h).symm
end Cf

namespace Cf
open PySem L2 PySem.Spec PyProof.Rows
/-! ## draws -/
def spMixed : Sp := fun vs H Q _ => ∃ (c t n : Int), vs = [.int c, .int t, .int n] ∧ 0 < n ∧ ∀ d, 0 ≤ d → d < n → Q (.int d) H
/-- the state of a law's draws: the list at p, the script's copy at q -/
structure StAt (H : Hp) (p q : Addr) : Prop where
  ne : q ≠ p
  at_ : ∃ (ns : List Int) (i b c m t : Int), H p = some (.lst [.ref q, .int i, .int b, .int c, .int m, .int t]) ∧ H q = some (.lst (ns.map V.int)) ∧ 0 ≤ i
def spDraw : Sp := fun vs H Q _ => ∃ (p q : Addr) (n : Int), vs = [.ref p, .int n] ∧ StAt H p q ∧ 0 < n ∧ n.natAbs.log2 < 9000 ∧
  ∀ d H', 0 ≤ d → d < n → StAt H' p q → Keep [p] H H' → Q (.int d) H'
section
variable {H H' : Hp} {p q : Addr} {S : List Addr} {Q : VK} {E : XK} {n c t : Int}
theorem StAt.keep (h : StAt H p q) (k : Keep S H H') (hp : p ∉ S) (hq : q ∉ S) : StAt H' p q := by
  obtain ⟨ne, ns, i, b, c, m, t, h1, h2, h3⟩ := h
  exact ⟨ne, ns, i, b, c, m, t, k.at hp h1, k.at hq h2, h3⟩
theorem StAt.new {r : Addr} {o : HO} (h : StAt H p q) (hr : Fresh H r) : StAt (upd H r o) p q := h.keep (S := []) ((Keep.refl H).new hr) nin0 nin0
theorem StAt.mut {r : Addr} {o : HO} (h : StAt H p q) (h1 : r ≠ p) (h2 : r ≠ q) : StAt (upd H r o) p q := h.keep (S := [r]) ((Keep.refl H).mut (by simp)) (nin1 h1.symm) (nin1 h2.symm)
theorem StAt.p_some (h : StAt H p q) : ∃ o, H p = some o := let ⟨_, _, _, _, _, _, h, _, _⟩ := h.at_; ⟨_, h⟩
theorem StAt.q_some (h : StAt H p q) : ∃ o, H q = some o := let ⟨_, _, _, _, _, _, _, h, _⟩ := h.at_; ⟨_, h⟩
theorem StAt.tp (h : StAt H p q) : Tr H p := h.p_some
theorem StAt.tq (h : StAt H p q) : Tr H q := h.q_some
theorem StAt.p_ne {r : Addr} (h : StAt H p q) (hr : Fresh H r) : p ≠ r := let ⟨_, e⟩ := h.p_some; ne_of_none e hr
theorem StAt.q_ne {r : Addr} (h : StAt H p q) (hr : Fresh H r) : q ≠ r := let ⟨_, e⟩ := h.q_some; ne_of_none e hr
theorem use_mixed (h0 : 0 < n) (k : ∀ d, 0 ≤ d → d < n → Q (.int d) H) : spMixed ([.int c, .int t, .int n] ++ []) H Q E := ⟨c, t, n, rfl, h0, k⟩
theorem use_draw (h : StAt H p q) (h0 : 0 < n) (h1 : n.natAbs.log2 < 9000) (k : ∀ d H', 0 ≤ d → d < n → StAt H' p q → Keep [p] H H' → Q (.int d) H') : spDraw ([.ref p, .int n] ++ []) H Q E := ⟨p, q, n, rfl, h, h0, h1, k⟩
end
theorem atI_zero {α : Type} {x : α} {xs : List α} : atI (x :: xs) 0 = some x := atI_nat (j := 0) (xs := x :: xs) rfl
theorem atI_lt {α : Type} {xs : List α} {i : Int} (h0 : 0 ≤ i) (h : i < xs.length) : ∃ x, x ∈ xs ∧ atI xs i = some x := by
  have hk : i.toNat < xs.length := by omega
  have ek : i = ((i.toNat : Nat) : Int) := by omega
  refine ⟨xs[i.toNat], List.getElem_mem hk, ?_⟩
  have e := atI_nat (List.getElem?_eq_getElem hk)
  rw [← ek] at e
  exact e
theorem atI_ints {ns : List Int} {i : Int} (h0 : 0 ≤ i) (h : i < ns.length) : ∃ x, x ∈ ns ∧ atI (ns.map V.int) i = some (.int x) := by
  obtain ⟨v, hv, e⟩ := atI_lt (xs := ns.map V.int) h0 (by simpa using h)
  obtain ⟨x, hx, rfl⟩ := List.mem_map.mp hv
  exact ⟨x, hx, e⟩
def spStart (K : PySem.W.Frag) : Sp := fun vs H Q _ => ∃ (a : Addr) (ns : List Int), vs = [.ref a] ∧ SqL K H a (ns.map V.int) ∧ ∀ p q H', Fresh H p → Fresh H q → StAt H' p q → Keep [] H H' → Q (.ref p) H'
def Small (s : Str) : Prop := s.length ≤ 8 ∧ 1 ≤ s.length ∧ ∀ c ∈ s.cps.toList, 97 ≤ c ∧ c ≤ 122
def spWord : Sp := fun vs H Q _ => ∃ (p q : Addr), vs = [.ref p] ∧ StAt H p q ∧ ∀ s H', Small s → StAt H' p q → Keep [p] H H' → Q (.str s) H'
abbrev abc : Str := Str.ofString "abcdefghijklmnopqrstuvwxyz"
theorem abc_list : abc.cps.toList = (List.range 26).map (97 + ·) := by decide +kernel
theorem abc_len : abc.length ≤ sizeLine := by decide +kernel
theorem abc_at {d : Int} (h0 : 0 ≤ d) (h : d < 26) : ∃ c, (97 ≤ c ∧ c ≤ 122) ∧ atI abc.cps.toList d = some c := by
  obtain ⟨c, hc, e⟩ := atI_lt (xs := abc.cps.toList) h0 (by rw [abc_list]; simpa using h)
  refine ⟨c, ?_, e⟩
  rw [abc_list] at hc
  obtain ⟨k, hk, rfl⟩ := List.mem_map.mp hc
  have := List.mem_range.mp hk
  omega
theorem str_app (x y : Str) : (x ++ y).cps.toList = x.cps.toList ++ y.cps.toList := by
  show (x.cps ++ y.cps).toList = _
  simp
theorem str_len (x : Str) : x.length = x.cps.toList.length := by simp [Str.length]
theorem app_len (x y : Str) : (x ++ y).length = x.length + y.length := by rw [str_len, str_app, List.length_append, ← str_len, ← str_len]
theorem one_len (c : Nat) : (⟨#[c]⟩ : Str).length = 1 := rfl
theorem size_ok {n : Nat} (h : n ≤ 1000) : n ≤ sizeLine := Nat.le_of_lt (small1000 h)
theorem log_ok {n : Int} (h : n.natAbs < 2 ^ 64) : n.natAbs.log2 < 9000 := Nat.lt_of_lt_of_le (PySem.Flt.log2_lt_of (by decide) h) (by decide)
theorem small_ext {z : Str} {c : Nat} (ha : ∀ x ∈ z.cps.toList, 97 ≤ x ∧ x ≤ 122) (hc : 97 ≤ c ∧ c ≤ 122) : ∀ x ∈ (z ++ (⟨#[c]⟩ : Str)).cps.toList, 97 ≤ x ∧ x ≤ 122 := by
  intro x hx
  rw [str_app] at hx
  rcases List.mem_append.mp hx with h | h
  · exact ha x h
  · have e : x = c := by simpa using h
    rw [e]
    exact hc
def spValue : Sp := fun vs H Q _ => ∃ (p q : Addr), vs = [.ref p] ∧ StAt H p q ∧ ∀ i H', StAt H' p q → Keep [p] H H' → Q (.int i) H'
theorem use_value {H : Hp} {p q : Addr} {Q : VK} {E : XK} (h : StAt H p q) (k : ∀ i H', StAt H' p q → Keep [p] H H' → Q (.int i) H') : spValue ([.ref p] ++ []) H Q E := ⟨p, q, rfl, h, k⟩
theorem use_word {H : Hp} {p q : Addr} {Q : VK} {E : XK} (h : StAt H p q) (k : ∀ s H', Small s → StAt H' p q → Keep [p] H H' → Q (.str s) H') : spWord ([.ref p] ++ []) H Q E := ⟨p, q, rfl, h, k⟩
theorem use_start {K : PySem.W.Frag} {H : Hp} {a : Addr} {ns : List Int} {Q : VK} {E : XK} (h : SqL K H a (ns.map V.int)) (k : ∀ p q H', Fresh H p → Fresh H q → StAt H' p q → Keep [] H H' → Q (.ref p) H') : spStart K ([.ref a] ++ []) H Q E := ⟨a, ns, rfl, h, k⟩
theorem cmulR {i j : Int} (h : -(2 ^ 64) < j ∧ j < 2 ^ 64) : CMul i j := .inr h
end Cf

namespace Cf
open PySem L2 PySem.Spec PyProof.Rows
/-! ## plain data -/
inductive D where
  | non
  | bl (b : Bool)
  | int (i : Int)
  | str (s : Str)
  | lst (ds : List D)
  | tup (ds : List D)
  | dic (ks : List Key) (ds : List D)
mutual
def D.depth : D → Nat
  | .lst ds => D.depths ds + 1
  | .tup ds => D.depths ds + 1
  | .dic _ ds => D.depths ds + 2
  | _ => 0
def D.depths : List D → Nat
  | [] => 0
  | d :: ds => max d.depth (D.depths ds)
end
theorem depth_mem : ∀ {ds : List D} {d : D}, d ∈ ds → d.depth ≤ D.depths ds
  | e :: r, d, h => by
    unfold D.depths
    rcases List.mem_cons.mp h with h | h
    · subst h; omega
    · have := depth_mem h; omega
mutual
/-- at v stands the datum, none of its objects at S -/
inductive Is (S : List Addr) (H : Hp) : V → D → Prop
  | non : Is S H .non .non
  | bl (b : Bool) : Is S H (.bl b) (.bl b)
  | int (i : Int) : Is S H (.int i) (.int i)
  | str (x : Str) : Is S H (.str x) (.str x)
  | lst {a : Addr} {xs : List V} {ds : List D} (h : H a = some (.lst xs)) (n : a ∉ S) (l : xs.length < 1000000) (t : IsL S H xs ds) : Is S H (.ref a) (.lst ds)
  | tup {a : Addr} {xs : List V} {ds : List D} (h : H a = some (.tup xs)) (n : a ∉ S) (l : xs.length < 1000000) (t : IsL S H xs ds) : Is S H (.ref a) (.tup ds)
  | dic {a : Addr} {kvs : List (Key × V)} {ds : List D} (h : H a = some (.dK kvs)) (n : a ∉ S) (l : kvs.length < 1000) (g : ∀ (i : Nat) (k : Key) (v : V), kvs[i]? = some (k, v) → valV kvs k = some v) (t : IsL S H (kvs.map (·.2)) ds) : Is S H (.ref a) (.dic (kvs.map (·.1)) ds)
inductive IsL (S : List Addr) (H : Hp) : List V → List D → Prop
  | nil : IsL S H [] []
  | cons {v : V} {vs : List V} {d : D} {ds : List D} (h : Is S H v d) (t : IsL S H vs ds) : IsL S H (v :: vs) (d :: ds)
end
mutual
theorem Is.keep {S S' : List Addr} {H H' : Hp} (k : Keep S' H H') (hs : ∀ b ∈ S', b ∈ S) : ∀ {v : V} {d : D}, Is S H v d → Is S H' v d
  | _, _, .non => .non
  | _, _, .bl b => .bl b
  | _, _, .int b => .int b
  | _, _, .str b => .str b
  | _, _, .lst h n l t => .lst (k.at (fun z => n (hs _ z)) h) n l (IsL.keep k hs t)
  | _, _, .tup h n l t => .tup (k.at (fun z => n (hs _ z)) h) n l (IsL.keep k hs t)
  | _, _, .dic h n l g t => .dic (k.at (fun z => n (hs _ z)) h) n l g (IsL.keep k hs t)
theorem IsL.keep {S S' : List Addr} {H H' : Hp} (k : Keep S' H H') (hs : ∀ b ∈ S', b ∈ S) : ∀ {vs : List V} {ds : List D}, IsL S H vs ds → IsL S H' vs ds
  | _, _, .nil => .nil
  | _, _, .cons h t => .cons (Is.keep k hs h) (IsL.keep k hs t)
end
mutual
theorem Is.less {S S' : List Addr} {H : Hp} (hs : ∀ b ∈ S', b ∈ S) : ∀ {v : V} {d : D}, Is S H v d → Is S' H v d
  | _, _, .non => .non
  | _, _, .bl b => .bl b
  | _, _, .int b => .int b
  | _, _, .str b => .str b
  | _, _, .lst h n l t => .lst h (fun z => n (hs _ z)) l (IsL.less hs t)
  | _, _, .tup h n l t => .tup h (fun z => n (hs _ z)) l (IsL.less hs t)
  | _, _, .dic h n l g t => .dic h (fun z => n (hs _ z)) l g (IsL.less hs t)
theorem IsL.less {S S' : List Addr} {H : Hp} (hs : ∀ b ∈ S', b ∈ S) : ∀ {vs : List V} {ds : List D}, IsL S H vs ds → IsL S' H vs ds
  | _, _, .nil => .nil
  | _, _, .cons h t => .cons (Is.less hs h) (IsL.less hs t)
end
theorem Is.free {S : List Addr} {H : Hp} {v : V} {d : D} (h : Is S H v d) : Is [] H v d := h.less (by simp)
theorem IsL.free {S : List Addr} {H : Hp} {v : List V} {d : List D} (h : IsL S H v d) : IsL [] H v d := h.less (by simp)
theorem Is.new {S : List Addr} {H : Hp} {v : V} {d : D} {r : Addr} {o : HO} (h : Is S H v d) (hr : Fresh H r) : Is S (upd H r o) v d := h.keep (S' := []) ((Keep.refl H).new hr) (by simp)
theorem IsL.new {S : List Addr} {H : Hp} {v : List V} {d : List D} {r : Addr} {o : HO} (h : IsL S H v d) (hr : Fresh H r) : IsL S (upd H r o) v d := h.keep (S' := []) ((Keep.refl H).new hr) (by simp)
theorem IsL.len {S : List Addr} {H : Hp} : ∀ {vs : List V} {ds : List D}, IsL S H vs ds → vs.length = ds.length
  | _, _, .nil => rfl
  | _, _, .cons _ t => by rw [List.length_cons, List.length_cons, IsL.len t]
theorem IsL.get {S : List Addr} {H : Hp} : ∀ {vs : List V} {ds : List D} {i : Nat} {v : V}, IsL S H vs ds → vs[i]? = some v → ∃ d, ds[i]? = some d ∧ Is S H v d := by
  intro vs
  induction vs with
  | nil => intro ds i v h e; simp at e
  | cons w vs ih =>
    intro ds i v h e
    cases h with
    | cons h t =>
      cases i with
      | zero => cases e; exact ⟨_, rfl, h⟩
      | succ i =>
        have z := ih t (show vs[i]? = some v from e)
        obtain ⟨d, e1, e2⟩ := z
        exact ⟨d, e1, e2⟩
theorem IsL.app {S : List Addr} {H : Hp} : ∀ {vs : List V} {ds : List D} {ws : List V} {es : List D}, IsL S H vs ds → IsL S H ws es → IsL S H (vs ++ ws) (ds ++ es)
  | _, _, _, _, .nil, h => h
  | _, _, _, _, .cons h t, k => .cons h (IsL.app t k)
theorem IsL.app_inv {S : List Addr} {H : Hp} : ∀ {ds es : List D} {vs : List V}, IsL S H vs (ds ++ es) → ∃ ys zs, vs = ys ++ zs ∧ IsL S H ys ds ∧ IsL S H zs es
  | [], _, vs, h => ⟨[], vs, rfl, .nil, h⟩
  | d :: ds, es, vs, h => by
    have h' : IsL S H vs (d :: (ds ++ es)) := h
    cases h' with
    | cons h t =>
      obtain ⟨ys, zs, e, h1, h2⟩ := IsL.app_inv t
      subst e
      rename_i hh
      exact ⟨_ :: ys, zs, rfl, .cons (by assumption) h1, h2⟩
theorem IsL.snoc_inv {S : List Addr} {H : Hp} {ds : List D} {d : D} {vs : List V} (h : IsL S H vs (ds ++ [d])) : ∃ ys y, vs = ys ++ [y] ∧ IsL S H ys ds ∧ Is S H y d := by
  obtain ⟨ys, zs, e, h1, h2⟩ := h.app_inv
  cases h2 with
  | cons h2 h3 =>
    cases h3
    exact ⟨ys, _, e, h1, h2⟩
theorem IsL.put {S : List Addr} {H : Hp} {vs : List V} {ds : List D} {v : V} {d : D} (t : IsL S H vs ds) (h : Is S H v d) : IsL S H (vs ++ [v]) (ds ++ [d]) := t.app (.cons h .nil)
/-! ## the kinds of data -/
inductive Kd where
  | non | bl | int | str | lst | tup | dic
@[reducible] def Kd.name : Kd → String
  | .non => "NoneType" | .bl => "bool" | .int => "int" | .str => "str" | .lst => "list" | .tup => "tuple" | .dic => "dict"
@[reducible] def isk : Kd → Kd → Bool
  | .non, .non => true | .bl, .bl => true | .bl, .int => true | .int, .int => true | .str, .str => true | .lst, .lst => true | .tup, .tup => true | .dic, .dic => true
  | _, _ => false
theorem kit_isk (a b : Kd) : kitB a.name b.name = some (isk a b) := by
  cases a <;> cases b <;> decide +kernel
inductive KdOf (H : Hp) : V → Kd → Prop
  | non : KdOf H .non .non
  | bl (b : Bool) : KdOf H (.bl b) .bl
  | int (b : Int) : KdOf H (.int b) .int
  | str (b : Str) : KdOf H (.str b) .str
  | lst {a : Addr} {xs : List V} (h : H a = some (.lst xs)) : KdOf H (.ref a) .lst
  | tup {a : Addr} {xs : List V} (h : H a = some (.tup xs)) : KdOf H (.ref a) .tup
  | dic {a : Addr} {xs : List (Key × V)} (h : H a = some (.dK xs)) : KdOf H (.ref a) .dic
theorem KdOf.ty {K : PySem.W.Frag} {H : Hp} {x : V} {a : Kd} (h : KdOf H x a) : TyX K H x (.type a.name) := by
  cases h with
  | non => exact .base .non
  | bl b => exact .base (.bl b)
  | int b => exact .base (.int b)
  | str b => exact .base (.str b)
  | lst h => exact .base (.lst h)
  | tup h => exact .base (.tup h)
  | dic h => exact .base (.dK h)
section
variable {K : PySem.W.Frag} {H : Hp} {x : V} {a : Kd} {Q : VK}
theorem kr_isi (b : Kd) (ty : KdOf H x a) (q : Q (.bl (isk a b)) H) : rIsi K [x, .ty b.name] H Q := ⟨x, .ty b.name, _, _, _, rfl, .ty _, ty.ty, kit_ty (kit_isk a b), q⟩
theorem kr_isi_bool (ty : KdOf H x a) (q : Q (.bl (isk a .bl)) H) : rIsi K [x, .ty "bool"] H Q := kr_isi .bl ty q
theorem kr_isi_int (ty : KdOf H x a) (q : Q (.bl (isk a .int)) H) : rIsi K [x, .ty "int"] H Q := kr_isi .int ty q
theorem kr_isi_str (ty : KdOf H x a) (q : Q (.bl (isk a .str)) H) : rIsi K [x, .ty "str"] H Q := kr_isi .str ty q
theorem kr_isi_list (ty : KdOf H x a) (q : Q (.bl (isk a .lst)) H) : rIsi K [x, .ty "list"] H Q := kr_isi .lst ty q
theorem kr_isi_tuple (ty : KdOf H x a) (q : Q (.bl (isk a .tup)) H) : rIsi K [x, .ty "tuple"] H Q := kr_isi .tup ty q
theorem kr_isi_dict (ty : KdOf H x a) (q : Q (.bl (isk a .dic)) H) : rIsi K [x, .ty "dict"] H Q := kr_isi .dic ty q
theorem kr_isN {x : V} (q : Q (.bl (decide (x = .non))) H) : rIsN x .non H Q := ⟨rfl, q⟩
theorem kr_notN {x : V} (q : Q (.bl (!decide (x = .non))) H) : rNotN x .non H Q := ⟨rfl, q⟩
end
/-! ## the law's own equality -/
def spSame (n : Nat) : Sp := fun vs H Q _ => ∃ (x y : V) (d e : D), vs = [x, y] ∧ Is [] H x d ∧ Is [] H y e ∧ d.depth < n ∧ ∀ (b : Bool) H', (b = true ↔ d = e) → Keep [] H H' → Q (.bl b) H'
theorem use_same {n : Nat} {H : Hp} {x y : V} {d e : D} {Q : VK} {E : XK} (h1 : Is [] H x d) (h2 : Is [] H y e) (h3 : d.depth < n) (k : ∀ (b : Bool) H', (b = true ↔ d = e) → Keep [] H H' → Q (.bl b) H') : spSame n ([x, y] ++ []) H Q E :=
  ⟨x, y, d, e, rfl, h1, h2, h3, k⟩
theorem same_none {P : Program} {w : World} {K : PySem.W.Frag} {mg : Str → Option Value} {base : Heap} {f : Addr} {fd : FuncData} : FnOk P w K mg base CX0 0 f fd ["here", "there"] (spSame 0) := by
  have no : ∀ vs H Q E, ¬ spSame 0 vs H Q E := fun vs H Q E h => by
    obtain ⟨_, _, _, _, _, _, _, h, _⟩ := h
    omega
  exact ⟨fun vs H Q E h => absurd h (no vs H Q E), fun A outer s H args us vs Q E _ _ _ _ h => absurd h (no vs H Q E)⟩
theorem take_eq {α : Type} {ds es : List α} {i : Nat} {d : α} (h : ds.take i = es.take i) (h1 : ds[i]? = some d) (h2 : es[i]? = some d) : ds.take (i + 1) = es.take (i + 1) := by
  rw [List.take_add_one, List.take_add_one, h, h1, h2]
theorem some_of {α : Type} {xs : List α} {i : Nat} (h : i < xs.length) : ∃ x, xs[i]? = some x := ⟨xs[i], List.getElem?_eq_getElem h⟩
theorem take_all {α : Type} {ds es : List α} (hl : ds.length = es.length) (h : ds.take ds.length = es.take ds.length) : ds = es := by
  rw [List.take_length] at h
  rw [hl, List.take_length] at h
  exact h
end Cf

namespace Cf
open PySem L2 PySem.Spec PyProof.Rows
/-! ## footprints: what may change, part by part -/
def Dj (f g : List Addr) : Prop := ∀ x, x ∈ f → x ∉ g
theorem Dj.symm {f g : List Addr} (h : Dj f g) : Dj g f := fun x h1 h2 => h x h2 h1
/-- the parts stand apart, all their objects are tracked -/
structure Wd (H : Hp) (L : List (List Addr)) : Prop where
  pw : L.Pairwise Dj
  tr : ∀ f, f ∈ L → ∀ x, x ∈ f → ∃ o, H x = some o
theorem pw_get {L : List (List Addr)} {i j : Nat} {f g : List Addr} (h : L.Pairwise Dj) (hi : L[i]? = some f) (hj : L[j]? = some g) (n : i ≠ j) : Dj f g := by
  rcases Nat.lt_or_gt_of_ne n with n | n
  · obtain ⟨a, rfl⟩ := List.getElem?_eq_some_iff.mp hi
    obtain ⟨b, rfl⟩ := List.getElem?_eq_some_iff.mp hj
    exact List.pairwise_iff_getElem.mp h i j a b n
  · obtain ⟨a, rfl⟩ := List.getElem?_eq_some_iff.mp hi
    obtain ⟨b, rfl⟩ := List.getElem?_eq_some_iff.mp hj
    exact (List.pairwise_iff_getElem.mp h j i b a n).symm
theorem Wd.dj {H : Hp} {L : List (List Addr)} (w : Wd H L) (i j : Nat) {f g : List Addr} (hi : L[i]? = some f) (hj : L[j]? = some g) (n : i ≠ j := by decide) : Dj f g := pw_get w.pw hi hj n
theorem mem_flat {L : List (List Addr)} {i : Nat} {f : List Addr} {x : Addr} (hi : L[i]? = some f) (h : x ∈ f) : x ∈ L.flatten := List.mem_flatten.mpr ⟨f, List.mem_of_getElem? hi, h⟩
/-- what is new: all that is there is known or new -/
def Grow (H : Hp) (S S' : List Addr) : Prop := ∀ x, x ∈ S' → x ∈ S ∨ Fresh H x
theorem Grow.refl {H : Hp} {S : List Addr} : Grow H S S := fun _ h => .inl h
theorem Wd.same {H H' : Hp} {L : List (List Addr)} (w : Wd H L) (k : Keep [] H H') : Wd H' L := ⟨w.pw, fun f hf x hx => let ⟨o, e⟩ := w.tr f hf x hx; ⟨o, k.at nin0 e⟩⟩
theorem Wd.set {H H' : Hp} {L : List (List Addr)} {f f' : List Addr} (w : Wd H L) (i : Nat) (hi : L[i]? = some f) (k : Keep f H H') (g : Grow H f f') (t : ∀ x, x ∈ f' → ∃ o, H' x = some o) : Wd H' (L.set i f') := by
  have hl : i < L.length := (List.getElem?_eq_some_iff.mp hi).1
  have at_ : ∀ j y, (L.set i f')[j]? = some y → (j = i ∧ y = f') ∨ (j ≠ i ∧ L[j]? = some y) := by
    intro j y h
    by_cases e : j = i
    · subst e
      rw [List.getElem?_set_self hl] at h
      exact .inl ⟨rfl, (Option.some.inj h).symm⟩
    · rw [List.getElem?_set_ne (fun z => e z.symm)] at h
      exact .inr ⟨e, h⟩
  have dj : ∀ j y, j ≠ i → L[j]? = some y → Dj f' y := by
    intro j y n h x h1 h2
    rcases g x h1 with h3 | h3
    · exact pw_get w.pw hi h (fun z => n z.symm) x h3 h2
    · obtain ⟨o, e⟩ := w.tr y (List.mem_of_getElem? h) x h2
      have h3 : H x = none := h3
      rw [h3] at e
      cases e
  refine ⟨?_, ?_⟩
  · refine List.pairwise_iff_getElem.mpr fun a b ha hb n => ?_
    have ea := at_ a _ (List.getElem?_eq_getElem ha)
    have eb := at_ b _ (List.getElem?_eq_getElem hb)
    rcases ea with ⟨e1, e2⟩ | ⟨e1, e2⟩
    · rcases eb with ⟨e3, e4⟩ | ⟨e3, e4⟩
      · omega
      · rw [e2]
        exact dj b _ e3 e4
    · rcases eb with ⟨e3, e4⟩ | ⟨e3, e4⟩
      · rw [e4]
        exact (dj a _ e1 e2).symm
      · exact pw_get w.pw e2 e4 (Nat.ne_of_lt n)
  · intro y hy x hx
    obtain ⟨j, hj⟩ := List.mem_iff_getElem?.mp hy
    rcases at_ j y hj with ⟨e1, e2⟩ | ⟨e1, e2⟩
    · subst e2
      exact t x hx
    · obtain ⟨o, e⟩ := w.tr y (List.mem_of_getElem? e2) x hx
      exact ⟨o, k.at (fun z => pw_get w.pw e2 hi e1 x hx z) e⟩
theorem grow_set {H : Hp} {L : List (List Addr)} {f f' : List Addr} {i : Nat} (hi : L[i]? = some f) (g : Grow H f f') : Grow H L.flatten (L.set i f').flatten := by
  intro x hx
  obtain ⟨y, hy, hxy⟩ := List.mem_flatten.mp hx
  obtain ⟨j, hj⟩ := List.mem_iff_getElem?.mp hy
  have hl : i < L.length := (List.getElem?_eq_some_iff.mp hi).1
  by_cases e : j = i
  · subst e
    rw [List.getElem?_set_self hl] at hj
    cases hj
    rcases g x hxy with h | h
    · exact .inl (mem_flat hi h)
    · exact .inr h
  · rw [List.getElem?_set_ne (fun z => e z.symm)] at hj
    exact .inl (mem_flat hj hxy)
mutual
/-- data stands when a part changes, and beside new parts -/
theorem Is.go {S S' F : List Addr} {H H' : Hp} (k : Keep F H H') (hf : ∀ x, x ∈ F → x ∈ S) (g : Grow H S S') : ∀ {v : V} {d : D}, Is S H v d → Is S' H' v d
  | _, _, .non => .non
  | _, _, .bl b => .bl b
  | _, _, .int b => .int b
  | _, _, .str b => .str b
  | _, _, .lst h n l t => .lst (k.at (fun z => n (hf _ z)) h) (fun z => (g _ z).elim n fun e => by have e : H _ = none := e; rw [e] at h; cases h) l (IsL.go k hf g t)
  | _, _, .tup h n l t => .tup (k.at (fun z => n (hf _ z)) h) (fun z => (g _ z).elim n fun e => by have e : H _ = none := e; rw [e] at h; cases h) l (IsL.go k hf g t)
  | _, _, .dic h n l e2 t => .dic (k.at (fun z => n (hf _ z)) h) (fun z => (g _ z).elim n fun e => by have e : H _ = none := e; rw [e] at h; cases h) l e2 (IsL.go k hf g t)
theorem IsL.go {S S' F : List Addr} {H H' : Hp} (k : Keep F H H') (hf : ∀ x, x ∈ F → x ∈ S) (g : Grow H S S') : ∀ {vs : List V} {ds : List D}, IsL S H vs ds → IsL S' H' vs ds
  | _, _, .nil => .nil
  | _, _, .cons h t => .cons (Is.go k hf g h) (IsL.go k hf g t)
end
/-- while the state is built: the parts L, and other objects N that are no part -/
structure Bd (H : Hp) (L : List (List Addr)) (N : List Addr) : Prop where
  wd : Wd H L
  out : ∀ x, x ∈ N → x ∉ L.flatten ∧ Tr H x
theorem Bd.same {H H' : Hp} {L : List (List Addr)} {N : List Addr} (b : Bd H L N) (k : Keep [] H H') : Bd H' L N := ⟨b.wd.same k, fun x hx => ⟨(b.out x hx).1, (b.out x hx).2.keep k nin0⟩⟩
theorem Wd.fresh {H : Hp} {L : List (List Addr)} (w : Wd H L) {x : Addr} (h : Fresh H x) : x ∉ L.flatten := fun z => by
  obtain ⟨f, hf, hx⟩ := List.mem_flatten.mp z
  obtain ⟨o, e⟩ := w.tr f hf x hx
  have h : H x = none := h
  rw [h] at e
  cases e
theorem Bd.obj {H H' : Hp} {L : List (List Addr)} {N : List Addr} {x : Addr} (b : Bd H L N) (h : Fresh H x) (k : Keep [] H H') (t : Tr H' x) : Bd H' L (x :: N) := by
  have b' := b.same k
  refine ⟨b'.wd, fun y hy => ?_⟩
  rcases List.mem_cons.mp hy with e | e
  · subst e
    exact ⟨b.wd.fresh h, t⟩
  · exact b'.out y e
theorem Bd.part {H H' : Hp} {L : List (List Addr)} {N g : List Addr} (b : Bd H L N) (k : Keep [] H H') (hg : ∀ y, y ∈ g → Fresh H y ∧ Tr H' y) : Bd H' (L ++ [g]) N := by
  have b' := b.same k
  refine ⟨⟨?_, ?_⟩, ?_⟩
  · refine List.pairwise_append.mpr ⟨b.wd.pw, by simp, fun f hf g' hg' => ?_⟩
    have e : g' = g := by simpa using hg'
    subst e
    intro x hx hx'
    exact b.wd.fresh (hg x hx').1 (List.mem_flatten.mpr ⟨f, hf, hx⟩)
  · intro f hf x hx
    rcases List.mem_append.mp hf with h | h
    · exact b'.wd.tr f h x hx
    · have e : f = g := by simpa using h
      subst e
      exact (hg x hx).2
  · intro x hx
    refine ⟨fun z => ?_, (b'.out x hx).2⟩
    rw [List.flatten_append] at z
    rcases List.mem_append.mp z with h | h
    · exact (b.out x hx).1 h
    · have h' : x ∈ g := by simpa using h
      obtain ⟨o, e⟩ := (b.out x hx).2
      have q : H x = none := (hg x h').1
      rw [q] at e
      cases e
theorem Bd.one {H : Hp} {p q : Addr} (s : StAt H p q) : Bd H [[p, q]] [] := by
  refine ⟨⟨by simp, ?_⟩, by simp⟩
  intro f hf x hx
  have e : f = [p, q] := by simpa using hf
  subst e
  simp at hx
  rcases hx with h | h
  · rw [h]; exact s.tp
  · rw [h]; exact s.tq
/-! ## data by its form -/
section
variable {S : List Addr} {H : Hp} {v : V} {vs : List V} {d : D} {ds : List D}
theorem Is.int_inv {i : Int} (h : Is S H v (.int i)) : v = .int i := by cases h; rfl
theorem Is.str_inv {i : Str} (h : Is S H v (.str i)) : v = .str i := by cases h; rfl
theorem Is.bl_inv {i : Bool} (h : Is S H v (.bl i)) : v = .bl i := by cases h; rfl
theorem Is.non_inv (h : Is S H v .non) : v = .non := by cases h; rfl
theorem Is.tup_inv (h : Is S H v (.tup ds)) : ∃ a xs, v = .ref a ∧ H a = some (.tup xs) ∧ a ∉ S ∧ xs.length < 1000000 ∧ IsL S H xs ds := by
  cases h with
  | tup h n l t => exact ⟨_, _, rfl, h, n, l, t⟩
theorem Is.lst_inv (h : Is S H v (.lst ds)) : ∃ a xs, v = .ref a ∧ H a = some (.lst xs) ∧ a ∉ S ∧ xs.length < 1000000 ∧ IsL S H xs ds := by
  cases h with
  | lst h n l t => exact ⟨_, _, rfl, h, n, l, t⟩
theorem IsL.nil_inv (h : IsL S H vs []) : vs = [] := by cases h; rfl
theorem IsL.cons_inv (h : IsL S H vs (d :: ds)) : ∃ x xs, vs = x :: xs ∧ Is S H x d ∧ IsL S H xs ds := by
  cases h with
  | cons h t => exact ⟨_, _, rfl, h, t⟩
theorem IsL.ints : ∀ {ns : List Int}, IsL S H (ns.map V.int) (ns.map D.int)
  | [] => .nil
  | _ :: _ => .cons (.int _) IsL.ints
theorem IsL.ints_inv : ∀ {ns : List Int} {vs : List V}, IsL S H vs (ns.map D.int) → vs = ns.map V.int
  | [], _, h => h.nil_inv
  | n :: ns, _, h => by
    obtain ⟨x, xs, rfl, h1, h2⟩ := IsL.cons_inv (d := .int n) (ds := ns.map D.int) h
    rw [h1.int_inv, IsL.ints_inv h2]
    rfl
theorem inV_ints {n : Int} : ∀ {ns : List Int}, inV (.int n) (ns.map V.int) = decide (n ∈ ns)
  | [] => rfl
  | m :: ns => by
    have ih := inV_ints (n := n) (ns := ns)
    unfold inV at ih ⊢
    rw [List.map_cons, List.any_cons, ih]
    show ((m == n) || decide (n ∈ ns)) = _
    by_cases e : m = n
    · subst e; simp
    · have e' : ¬ n = m := fun z => e z.symm
      simp [e, e']
theorem ints_flat : ∀ {ns : List Int}, (ns.map V.int).all flatV = true
  | [] => rfl
  | m :: ns => by rw [List.map_cons, List.all_cons, ints_flat]; rfl
end
end Cf

/-! own errors whose __init__ says super().__init__('..') and keeps one field -/
namespace PySem
namespace SupX
open PySem.W PySem.Calls PyProof.Rows PySem.HandSPX
section
variable {prog : Program} {w : World} {A : Around} {E : Value → Shared → Prop} {h : Heap} {g : Array GenState} {d : Drawn} {t : Nat} {os : OsState}
variable {nm q : Str} {C N : Addr} {bs bm : List Value} {hdct : Bool} {sn : List Str} {sub : List Value} {ab : Bool} {col : Option Bool} {dd : Option Addr} {k0 k1 k2 k3 k5 : Option Value}
/-- the bound ValueError.__init__ is called: the exception's args are laid anew -/
theorem sup_wrap {u x t0 : Addr} {us : List Value} {Q : Value → Shared → Prop}
    (cC : h.get? C = some (excClassObj nm q C N bs bm hdct sn sub ab col dd k0 k1 k2 k3 k5 "ValueError.__new__")) (cx : h.get? x = some (excO C t0)) (cu : h.get? u = some (kxs_mw "ValueError.__init__" x)) (lus : us.length ≤ sizeLine)
    (hq : ∀ h' t1, (∀ b o, b ≠ x → h.get? b = some o → h'.get? b = some o) → h'.get? x = some (excO C t1) → Q .none ⟨h', g, d, t, os⟩) :
    wpAny (model prog w) A (call (.ref u) us) Q E ⟨h, g, d, t, os⟩ := by
  refine wpAny_call (codeAny_of_tree ?tree)
  show wpAny _ A.in1 (callAny (.ref u) ⟨us, []⟩) _ _ _
  simp only [callAny]
  refine wpAny_bind (wpAny_load cu ?_)
  have mw : (Value.type "method-wrapper" == Value.type "method" || Value.type "method-wrapper" == Value.type "builtin_function_or_method" || Value.type "method-wrapper" == Value.type "method-wrapper") = true := by decide
  simp only [kxs_mw, mw, if_true]
  refine KFB.if_so (by decide) (wpAny_bind (check_bound_init F.excBase_ValueError.toExcCallFacts cC cx rfl ?_))
  refine wpAny_bind (wpAny_pure (wpAny_pure ⟨plainId_quiet F.excBase_ValueError.init.plain _, codeAny_builtin F.excBase_ValueError.initEntry ?_⟩))
  rw [Around.under_plainId F.excBase_ValueError.init.plain _]
  wp_walk
  exact hq _ h.objs.size (fun b o hb ho => by rw [Heap.get?_update_other _ _ (Ne.symm hb)]; exact Heap.get?_push_of_some _ ho)
    (by rw [Heap.get?_update_self _ (Heap.get?_push_of_some _ cx) rfl]; rfl)
end
end SupX
end PySem
namespace PySem
namespace SupX
open PySem.W PySem.Calls PyProof.Rows PySem.HandSPX
/-- def __init__(self, f): super().__init__('..'); self.f = f -/
def sB (fld txt : Str) (kk : Nat) (p0 p1 p2 p3 p4 p5 p6 p7 p8 p9 : Pos) : List Stmt :=
  [.Expr (.Call (.Attribute (.Call (.Name "super" p0) [] [] p1) "__init__" p2) [.Constant (.str txt) kk p3] [] p4) p5, .Assign [.Attribute (.Name "self" p6) fld p7] (.Name fld p8) p9]
def sS (fld : Str) : Scope := { kind := .function, names := [(PySem.Str.ofString "self", .local), (fld, .local), (PySem.Str.ofString "__class__", .free), (PySem.Str.ofString "super", .globalImplicit)], isGenerator := false, isCoroutine := false, more := [] }
structure FldOk (fld : Str) : Prop where
  ks : (sS fld).names.lookup ("super" : Str) = some .globalImplicit
  kc : (sS fld).names.lookup ("__class__" : Str) = some .free
  ka : (sS fld).names.lookup ("self" : Str) = some .local
  kf : (sS fld).names.lookup fld = some .local
  db : (fld == ("__debug__" : Str)) = false
  nes : fld ≠ ("self" : Str)
/-- what the written part says of the class at C and of the __init__ at fI, written in the class at D -/
structure SupTxt (P : Program) (K : Frag) (mg : Str → Option Value) (nm : Str) (C D fI : Addr) (fld : Str) : Prop where
  gC : mg nm = some (.ref C)
  gS : mg "super" = none
  cls : ∃ nm q N bs bm sn sub ab col dd k0 k1 k2 k3 k5, K.lookup C = some (excClassObj nm q C N bs bm true sn sub ab col dd k0 k1 k2 k3 k5 "ValueError.__new__") ∧ refsVE bm = true
  sa : findIn K (.ref C) "__setattr__" = some (some (.builtin "object.__setattr__"))
  ga : findIn K (.ref C) "__getattribute__" = some (some (.builtin "BaseException.__getattribute__"))
  gg : findIn K (.ref C) "__getattr__" = some none
  noN : findIn K (.ref C) fld = some none
  iC : findIn K (.ref C) "__init__" = some (some (.ref fI))
  tC : typeIn K (.ref fI) = some (.type "function")
  kC : keepIn K (.ref C) = true
  exC : subIn K (.ref C) (.type "BaseException") = some true
  tyC : typeIn K (.ref C) = some (.type "type")
  hdC : hasDictIn K C = true
  te : exmOne K (.ref C) (.ref C) = some true
  sup : ks_superIn K C D "__init__" = some (some (.builtin "ValueError.__init__"))
  opq : nsIn K cStatics "thirdparty.any" = some none
  vE : subIn K (.ref C) (.type "ValueError") = some true
  mroD : mroIn K C (.ref D) = some true
  clD : (clsIn K D).isSome = true
  fo : FldOk fld
  top : (P.main.scope.names.lookup ("super" : Str)).isSome = false
  fn : ∃ (qual txt : Str) (params : Arguments) (oc kV doc pm ct ccl cl : Value) (od an cdd cld : Option Addr) (osl ccs csl : Array (Option Value)) (cda cc : Addr) (vs : Array Value) (file : Str) (tf : Tok) (ar : Arg) (kk : Nat) (p0 p1 p2 p3 p4 p5 p6 p7 p8 p9 : Pos),
    K.lookup fI = some ⟨oc, od, .func (ksFn "__init__" qual params (sB fld txt kk p0 p1 p2 p3 p4 p5 p6 p7 p8 p9) (sS fld) .none kV doc pm an (.ref cda) ct cc), osl⟩ ∧ codeIn K (.ref cda) qual = true ∧
    K.lookup cda = some ⟨ccl, cdd, .fields vs, ccs⟩ ∧ vs[2]? = some (.str file tf) ∧ ((P.main.file : Str) == file) = true ∧ K.lookup cc = some ⟨cl, cld, .cell (some (.ref D)), csl⟩ ∧
    (params.posonlyargs ++ params.args).head? = some ar ∧ ar.arg = "self" ∧ (p2.endLine == p4.line) = true ∧
    (∀ (s : Shared) (x v : Value), BindsTo s (ksFn "__init__" qual params (sB fld txt kk p0 p1 p2 p3 p4 p5 p6 p7 p8 p9) (sS fld) .none kV doc pm an (.ref cda) ct cc) ⟨[x, v], []⟩ [("self", x), (fld, v)])
/-- what __init__ leaves of a fresh exception at x -/
structure SupEnd (fld : Str) (h h' : Heap) (x C dx t1 : Addr) (v : Value) : Prop where
  keep : ∀ b o, b ≠ x → h.get? b = some o → h'.get? b = some o
  obj : h'.get? x = some { cls := .ref C, dict := some dx, data := .fields #[.ref t1, .none, .none, .none, .bool false, .none] }
  dbig : h.objs.size ≤ dx
  dne : dx ≠ x
  ns : h'.Ns1 dx (fun y => if y = fld then some v else none)
structure SupMade (fld : Str) (h h' : Heap) (e C d : Addr) (v : Value) : Prop where
  keep : ∀ b o, h.get? b = some o → h'.get? b = some o
  new : h.objs.size ≤ e
  obj : ∃ oe vs, h'.get? e = some oe ∧ oe.cls = .ref C ∧ oe.dict = some d ∧ oe.data = .fields vs ∧ vs[1]? = some .none
  dbig : h.objs.size ≤ d
  dne : d ≠ e
  ns : h'.Ns1 d (fun y => if y = fld then some v else none)
section
variable {prog : Program} {w : World} {A : Around} {E : Value → Shared → Prop} {R : Result → Shared → Prop} {s : Shared} {K : Frag} {mg mb : Str → Option Value} {C D fI : Addr} {nm fld : Str}
theorem sup_init (T : SupTxt prog K mg nm C D fI fld) {x t0 : Addr} {v : Value} (X : K.In s.heap) (hg : s.heap.Ns mainGlobals mg) (hb : s.heap.Ns builtinsNs mb) (hbs : mb "super" = some (.type "super")) (hlim : s.heap.NoLimit)
    (hx : s.heap.get? x = some (excO C t0)) (hnx : K.lookup x = none) (hroom : A.depth < recursionLimit)
    (hq : ∀ h' tk dx t1, SupEnd fld s.heap h' x C dx t1 v → R (.ok (.ret .none)) { s with heap := h', toks := tk }) :
    codeAny (model prog w) A (.call (.ref fI) ⟨[.ref x, v], []⟩) R s := by
  obtain ⟨qual, txt, params, oc, kV, doc, pm, ct, ccl, cl, od, an, cdd, cld, osl, ccs, csl, cda, cc, vs, file, tf, ar, kk, p0, p1, p2, p3, p4, p5, p6, p7, p8, p9, ho, hcd, hcode, hvs, hfile, hcell, hp, har, hline, hbind⟩ := T.fn
  obtain ⟨nmC, q, N, bs, bm, sn, sub, ab, col, dd, k0, k1, k2, k3, k5, hC, hbm⟩ := T.cls
  have hcl : clsIn K C = some { name := nmC, bases := bs, mro := .ref C :: bm, ns := N, qualname := q, hasDict := true, slotNames := sn, subclasses := sub, abstract := ab, collection := col, hasDel := false } := by unfold clsIn; rw [hC] <;> rfl
  obtain ⟨cdD, hclD⟩ := Option.isSome_iff_exists.mp T.clD
  refine ks_codeAny_call_defAt (body := sB fld txt kk p0 p1 p2 p3 p4 p5 p6 p7 p8 p9) hroom (X _ _ ho) rfl hlim (codeRec_of X hcd) rfl (hbind s (.ref x) v) (by intro y hy; simp [ksFn, fnX, sS] at hy; rcases hy with h | h | h | h <;> (rw [h]; simp)) (fun y hy => ?_) (fun h₁ hns hk => ?_) rfl rfl rfl
  · simp at hy
    rcases hy with h | h
    · rw [h]; exact T.fo.ka
    · rw [h]; exact T.fo.kf
  obtain ⟨hh, g, dr, tk, os⟩ := s
  have k : ∀ b o, hh.get? b = some o → h₁.get? b = some o := hk
  have X₁ : K.In h₁ := X.keeps k
  have hx₁ := k _ _ hx
  have lx := Heap.lt_size hx
  have hself : (fun y => List.lookup y ([(PySem.Str.ofString "self", Value.ref x), (fld, v)] : List (Str × Value)).reverse) ("self" : Str) = some (.ref x) := by
    have : (("self" : Str) == fld) = false := by simpa using (Ne.symm T.fo.nes)
    simp [List.lookup, this]
  have hfv : (fun y => List.lookup y ([(PySem.Str.ofString "self", Value.ref x), (fld, v)] : List (Str × Value)).reverse) fld = some v := by
    simp [List.lookup]
  obtain ⟨oD, hD1, hD2⟩ : ∃ oD, h₁.get? D = some oD ∧ oD.data = .cls cdD := by
    unfold clsIn at hclD
    split at hclD
    · rename_i c d cd' sl ho
      cases hclD
      exact ⟨_, X₁ _ _ ho, rfl⟩
    · cases hclD
  have I₁ : InstAt h₁ x (excO C t0) C none := ⟨hx₁, rfl, rfl, trivial⟩
  have hpos : ∀ few o env, methodCallPos few o env p2 p4 = pure p4 := by intro few o env; unfold methodCallPos; simp [hline]
  have he : eval (.Call (.Attribute (.Call (.Name "super" p0) [] [] p1) "__init__" p2) [.Constant (.str txt) kk p3] [] p4) (ksEnv qual (sS fld) hh.objs.size fI (.ref cda) cc) = (do
      let ov ← attributeBase (.Call (.Name "super" p0) [] [] p1) "__init__" (ksEnv qual (sS fld) hh.objs.size fI (.ref cda) cc) (eval (.Call (.Name "super" p0) [] [] p1) (ksEnv qual (sS fld) hh.objs.size fI (.ref cda) cc))
      standAt p2.atName
      let (f, first) ← holding [ov] (getMethod ov "__init__" (do return (← importBound (.Call (.Name "super" p0) [] [] p1) (ksEnv qual (sS fld) hh.objs.size fI (.ref cda) cc)).getD true))
      let cp ← methodCallPos true (.Call (.Name "super" p0) [] [] p1) (ksEnv qual (sS fld) hh.objs.size fI (.ref cda) cc) p2 p4
      callWith cp f first (backTo p4 (starEach [.Constant (.str txt) kk p3] (ksEnv qual (sS fld) hh.objs.size fI (.ref cda) cc))) []) := by rfl
  simp only [hpos, pure_bind] at he
  refine ks_wpAt_execs_cons (ks_wpAt_Expr_any (ks_wpAt_MethodCall (pl := do return (← importBound (.Call (.Name "super" p0) [] [] p1) (ksEnv qual (sS fld) hh.objs.size fI (.ref cda) cc)).getD true) ?_ he))
  refine ks_wpAt_super_base (env := ksEnv qual (sS fld) hh.objs.size fI (.ref cda) cc) T.fo.ks T.fo.kc (by decide) rfl (X₁ _ _ ho) rfl hp rfl (X₁ _ _ hcode) rfl hvs hfile T.top ?_
  refine ks_loadName_global (env := ksEnv qual (sS fld) hh.objs.size fI (.ref cda) cc) rfl T.fo.ks (loadGlobal_builtin (env := ksEnv qual (sS fld) hh.objs.size fI (.ref cda) cc) (hg.keeps k) T.gS (hb.keeps k) hbs ⟨rfl, ?_⟩)
  refine wpAny_loadName_free rfl T.fo.kc rfl ⟨_, X₁ _ _ hcell, rfl⟩ ?_
  rw [har]
  refine wpAny_loadName_local rfl T.fo.ka hns hself ?_
  refine ks_wpAny_isType_cls hD1 hD2 ⟨rfl, ?_⟩
  refine ks_wpAny_call_super hD1 hD2 hx₁ rfl (fun c e => by cases e) (looks_mroIn X₁ T.mroD) (fun h₂ hso k₂ => ?_)
  have X₂ : K.In h₂ := X₁.keeps k₂
  have hx₂ := k₂ _ _ hx₁
  have I₂ : InstAt h₂ x (excO C t0) C none := ⟨hx₂, rfl, rfl, trivial⟩
  have hI : Looks (model prog w) h₂ (isInstance (.ref x) (.type "ValueError")) true := I₂.type.andThen (looks_subIn X₂ T.vE)
  refine kxs_getMethod kxs_ValueError hso (looks_opaque X₂ T.opq) (l₀ := .ref C :: bm) ?_ rfl X₂ (by have := T.sup; unfold ks_superIn at this; rw [hcl] at this; exact this) hI (ks_ne X₂ I₂ hcl) (by decide) ?_
  · exact fun A Q E s k q => wpAny_bind ((looks_clsIn X₂ hcl) A _ E s k (wpAny_pure q))
  have lus : ([Value.str txt (tk + [(PySem.Str.ofString "self", Value.ref x), (fld, v)].length + 1)] : List Value).length ≤ sizeLine := by
    rw [sizeLine_eq]
    exact (by decide : 1 ≤ 16777216)
  have kmw : ∀ b o, h₂.get? b = some o → (h₂.push (kxs_mw "ValueError.__init__" x)).get? b = some o := fun b o e => Heap.get?_push_of_some _ e
  have hmw : (h₂.push (kxs_mw "ValueError.__init__" x)).get? h₂.objs.size = some (kxs_mw "ValueError.__init__" x) := Heap.get?_push_at rfl rfl
  refine kxs_callWith (i := "ValueError.__init__") (x := x) rfl (evalArgs_plain ?_)
  show wpAny _ _ (spliced [(false, eval (.Constant (.str txt) kk p3) _)]) _ _ _
  refine spliced_cons ?_
  refine wpAny_Constant_str ?_
  refine spliced_nil ⟨hmw, ?_⟩
  refine sup_wrap (kmw _ _ (X₂ _ _ hC)) (kmw _ _ hx₂) hmw lus (fun h₃ t1 k₃ hx₃ => ?_)
  refine wpAt_of_wpAny ?_
  have z : ∀ b o, b ≠ x → h₁.get? b = some o → h₃.get? b = some o := fun b o hb e => k₃ b o hb (kmw _ _ (k₂ _ _ e))
  have X₃ : K.In h₃ := fun a o e => z a o (fun q => by rw [q, hnx] at e; cases e) (X₁ a o e)
  have hns₃ : h₃.Ns hh.objs.size (fun y => List.lookup y ([(PySem.Str.ofString "self", Value.ref x), (fld, v)] : List (Str × Value)).reverse) := by
    obtain ⟨o, es, ep, e, r⟩ := hns
    exact ⟨o, es, ep, z _ _ (Nat.ne_of_gt lx) e, r⟩
  refine wpAny_execs_cons (plainObj_wpAny_Assign_Attribute ?_)
  refine wpAny_Name (wpAny_loadName_local rfl T.fo.kf hns₃ hfv ?_) T.fo.db
  refine wpAny_Name (wpAny_loadName_local rfl T.fo.ka hns₃ hself ?_) (by decide)
  refine set_plain X₃ (ox := excO C t1) (od := none) ⟨hx₃, rfl, rfl, trivial⟩ T.sa ?_
  refine exc_osa X₃ hx₃ hcl (show refsVE (.ref C :: bm) = true from hbm) rfl T.noN (fun h₄ tk₄ dx k₄ dn dne hx₄ hn₄ => ?_)
  refine wpAny_execs_nil (hq h₄ tk₄ dx t1 ⟨fun b o hb e => k₄ b o hb (z b o hb (k b o e)), hx₄, Nat.le_of_lt (Nat.lt_of_lt_of_le hns₃.lt dn), dne, hn₄⟩)
theorem one_size (v : Value) : [v].length ≤ sizeLine := by
  rw [sizeLine_eq]
  exact (by decide : 1 ≤ 16777216)
theorem sup_made (T : SupTxt prog K mg nm C D fI fld) {v : Value} (X : K.In s.heap) (hg : s.heap.Ns mainGlobals mg) (hb : s.heap.Ns builtinsNs mb) (hbs : mb "super" = some (.type "super")) (hlim : s.heap.NoLimit) (hroom : A.depth + 1 < recursionLimit)
    (hq : ∀ h' tk e d, SupMade fld s.heap h' e C d v → R (.ok (.ret (.ref e))) { s with heap := h', toks := tk }) :
    codeAny (model prog w) A (.call (.ref C) ⟨[v], []⟩) R s := by
  obtain ⟨nmC, q, N, bs, bm, sn, sub, ab, col, dd, k0, k1, k2, k3, k5, hC, hbm⟩ := T.cls
  obtain ⟨hp, g, dr, tk, os⟩ := s
  have k : ∀ b o, hp.get? b = some o → ((hp.push (kdv_tup [v])).push (excO C hp.objs.size)).get? b = some o := fun b o e => Heap.get?_push_of_some _ (Heap.get?_push_of_some _ e)
  have hget : ((hp.push (kdv_tup [v])).push (excO C hp.objs.size)).get? (hp.objs.size + 1) = some (excO C hp.objs.size) := by heap_get
  have hnx : K.lookup (hp.objs.size + 1) = none := by
    cases e : K.lookup (hp.objs.size + 1) with
    | none => rfl
    | some o =>
      have z : hp.get? (hp.objs.size + 1) = some o := X _ _ e
      exact absurd (Nat.lt_of_succ_lt (Heap.lt_size z)) (Nat.lt_irrefl _)
  refine call_own F.excBase_ValueError (fun X => refsVE_contains X bm hbm) (X _ _ hC) (looks_findIn X T.iC) (fun self => bind_fn X self T.tC) (one_size v) ?_
  refine sup_init (s := ⟨(hp.push (kdv_tup [v])).push (excO C hp.objs.size), g, dr, tk, os⟩) T (X.keeps k) (hg.keeps k) (hb.keeps k) hbs (hlim.keeps k) hget hnx ?_ fun h' tk' dx t1 ⟨k', hx, dn, dne, hns⟩ => ?_
  · show A.depth + 1 < recursionLimit
    exact hroom
  · have old : ∀ b o, hp.get? b = some o → h'.get? b = some o := fun b o e => k' b o (Nat.ne_of_lt (Nat.lt_succ_of_lt (Heap.lt_size e))) (k b o e)
    have z : hp.objs.size + 1 + 1 ≤ dx := by
      first
        | (simpa only [Heap.size_push] using dn)
        | exact dn
        | (have q := dn; rw [Heap.size_push, Heap.size_push] at q; exact q)
    exact ⟨rfl, hq h' tk' (hp.objs.size + 1) dx ⟨old, Nat.le_succ _, ⟨_, _, hx, rfl, rfl, rfl, rfl⟩, Nat.le_trans (Nat.le_trans (Nat.le_succ _) (Nat.le_succ _)) z, dne, hns⟩⟩
end
end SupX
end PySem

namespace L2
open PySem PySem.Spec PyProof.Rows PySem.SupX
theorem relO_fld {fld : Str} {v : V} {v' : Value} (r : RelV v v') (f : Str) : RelO (List.lookup f [((fld : Str), v)]) (if f = fld then some v' else none) := by
  by_cases hw : f = fld
  · subst hw
    rw [if_pos rfl]
    have q : List.lookup f [((f : Str), v)] = some v := by simp [List.lookup]
    rw [q]
    exact r
  · rw [if_neg hw]
    have qw : (f == fld) = false := by simpa using hw
    have q2 : List.lookup f [((fld : Str), v)] = none := by simp [List.lookup, qw]
    rw [q2]
    trivial
section
variable {X : Cx} {C D fI : Addr} {nm fld : Str}
/-- X(e): an own error with one field -/
def tMk1 (C : Addr) (fld : Str) (ta : TA) : St → Hp → XK → Prop := fun σ H Q => ta σ H fun vs H1 => ∃ v, vs = [v] ∧ ∀ d, H1 d = none → Q (.ref C) (some d) (upd H1 d (.xd [((fld : Str), v)]))
theorem pmk_sup {a : Expr} {ta : TA} {p pos : Pos} {k : Nat} (T : SupTxt X.prog X.K X.mg nm C D fI fld) (hr : Room k X.A) (ha : PA X [a] ta) (hdb : (nm == ("__debug__" : Str)) = false := by decide) (hg : Gl X nm := by rfl)
    (he : starEach (a :: []) X.env = (false, eval a X.env) :: starEach [] X.env := by rfl) (hpl : (backTo pos (starEach [] X.env)).any (·.1) = false := by rfl) :
    PMk X (.Call (.Name nm p) [a] [] pos) (tMk1 C fld ta) := by
  intro pins s σ H Q I h
  refine wpAny_Call_Name_kw (ld_glob I hg T.gC ?_ (hd := hdb))
  refine PySem.W.callWith_K (h₀ := X.base) I.ok.mod.kin T.kC (thn (ha.run pos pins s σ H _ I h) fun us s1 hh => ?_) he hpl
  obtain ⟨vs, H1, I1, r1, v, ev, q1⟩ := hh
  subst ev
  refine ⟨I1.kIn, ?_⟩
  cases r1 with
  | cons rv rn =>
    rename_i v' us'
    cases rn
    show wpAny _ _ (call (.ref C) [v']) _ _ _
    have hlim := I1.nolimit
    have hgl := I1.mod.glob.keeps I1.bk
    obtain ⟨mb, hbl, hbe⟩ := I1.mod.blt
    have hbl := hbl.keeps I1.bk
    have hbs : mb "super" = some (.type "super") := (hbe _ (by decide)).trans (by kernel_rfl)
    obtain ⟨hp, g, dr, tk, os⟩ := s1
    refine wpAny_call (sup_made T I1.kIn hgl hbl hbs hlim (by have := hr.dp; omega) fun h' tk' e d M => ?_)
    show MkP X pins σ Q (.ref e) ⟨h', g, dr, tk', os⟩
    obtain ⟨oe, fv, hoe, hc, hd, hdat, h1⟩ := M.obj
    have hns := M.ns
    obtain ⟨G', g1, g2⟩ := restrict h' fun b => decide (b ≠ e)
    have gk : ∀ b, b ≠ e → G'.get? b = h'.get? b := fun b hb => g1 b (decide_eq_true hb)
    have ge : G'.get? e = none := g2 e (by simp)
    have old : ∀ b o, hp.get? b = some o → G'.get? b = some o := fun b o q => (gk b (Nat.ne_of_lt (Nat.lt_of_lt_of_le (Heap.lt_size q) M.new))).trans (M.keep b o q)
    have ob : ObjOk X.prog X.w (upd H1 d (.xd [((fld : Str), v)])) G' d (.xd [((fld : Str), v)]) :=
      ⟨_, hns.at (fun o q => (gk d M.dne).trans q), fun f => relO_fld rv f⟩
    have J : Inv X pins σ (upd H1 d (.xd [((fld : Str), v)])) ⟨G', g, dr, tk', os⟩ := I1.laid (t' := tk') old M.dbig ob
    refine ⟨e, oe, fv, ⟨G', g, dr, tk', os⟩, _, .ref C, some d, rfl, J, fun b o q => ?_, ge, hoe, ⟨hc, hd⟩, hdat, h1, ?_, rfl, I1.bare, raises_own T.exC T.tyC, q1 d (I1.hok.fresh M.dbig)⟩
    · by_cases hb : b = e
      · have q' : G'.get? b = some o := q
        rw [hb, ge] at q'; cases q'
      · exact (gk b hb).symm.trans q
    · rw [upd_ne (Ne.symm M.dne)]
      exact I1.hok.fresh M.new
/-- raise X(e) -/
def tRaise1 (C : Addr) (fld : Str) (W : WX) (ta : TA) : TS := fun _ σ H => tMk1 C fld ta σ H fun cls d H' => W cls d σ H'
theorem ps_raise1 {a : Expr} {ta : TA} {W : WX} {p pos pos2 : Pos} {k : Nat} (hc : X.calm = true) (T : SupTxt X.prog X.K X.mg nm C D fI fld) (hr : Room k X.A) (tk : Takes X W) (ha : PA X [a] ta) (hdb : (nm == ("__debug__" : Str)) = false := by decide) (hg : Gl X nm := by rfl)
    (he : starEach (a :: []) X.env = (false, eval a X.env) :: starEach [] X.env := by rfl) (hpl : (backTo pos (starEach [] X.env)).any (·.1) = false := by rfl) :
    PS X (.Raise (some (.Call (.Name nm p) [a] [] pos)) none pos2) (tRaise1 C fld W ta) := ps_raise hc tk (pmk_sup T hr ha hdb hg he hpl)
/-- what the class at D of a held error says, so that its field is read -/
structure ExcF (K : PySem.W.Frag) (D : Addr) (fld : Str) : Prop where
  ga : PySem.W.findIn K (.ref D) "__getattribute__" = some (some (.builtin "BaseException.__getattribute__"))
  gg : PySem.W.findIn K (.ref D) "__getattr__" = some none
  ex : PySem.W.subIn K (.ref D) (.type "BaseException") = some true
  hd : PySem.W.hasDictIn K D = true
  no : PySem.W.findIn K (.ref D) fld = some none
/-- e.fld, e the exception that the suite holds (at a; its class cls, its dict d) -/
def tFldE (K : PySem.W.Frag) (fld : Str) (a : Addr) (cls : Value) (d : Option Addr) (te : TE) : TE := fun σ H Q => te σ H fun x H1 => x = .ref a ∧ ∃ (C dd : Addr) (fs : List (Str × V)) (v : V), cls = .ref C ∧ ExcF K C fld ∧ d = some dd ∧ H1 dd = some (.xd fs) ∧ fs.lookup fld = some v ∧ Q v H1
theorem pe_fldE {a : Addr} {oe : Obj} {cls : Value} {d : Option Addr} {pn : List (Addr × Obj)} {e : Expr} {te : TE} {pos : Pos} (hz : Zc cls d oe) (hf : ∃ vs, oe.data = .fields vs) (he : PE (X.suite a ((a, oe) :: pn)) e te)
    (hb : attributeBase e fld X.env (eval e X.env) = eval e X.env := by rfl) :
    PE (X.suite a ((a, oe) :: pn)) (.Attribute e fld pos) (tFldE X.K fld a cls d te) := by
  refine ⟨fun pins s σ H Q I h => ?_⟩
  refine attr_of hb (thn (he.run pins s σ H _ I h) fun u s1 hh => ?_)
  obtain ⟨x, H1, I1, rx, ex, C, dd, fs, v, ec, T, ed, ea, ef, q⟩ := hh
  subst ex
  obtain rfl : u = Value.ref a := rx
  subst ec
  subst ed
  obtain ⟨ha, _⟩ := I1.pin (a, oe) (List.mem_append_left _ List.mem_cons_self)
  obtain ⟨vs, hd⟩ := hf
  have hx : ObjOk X.prog X.w H1 s1.heap dd (.xd fs) := I1.hok dd _ ea
  obtain ⟨mA, hns, hr⟩ := hx
  obtain ⟨od, ho, hl⟩ := lookIn_ns hns
  obtain ⟨u, hu, ru⟩ := RelO.some_of (v := v) (o := mA fld) (by rw [← ef]; exact hr fld)
  have J : PySem.W.InstAt s1.heap a oe C (some od) := ⟨ha, hz.1, by unfold PySem.W.notCls; rw [hd] <;> rfl, by rw [hz.2]; exact ho⟩
  exact HandSPX.exc_get I1.kIn J T.ga T.gg T.ex (PySem.W.findObj_own T.hd T.no rfl (by rw [hl, hu])) (handed_of ru) ⟨v, H1, I1.tok _, ru, q⟩
/-- isinstance(e, c), e the exception that the suite holds, with a dict of its own -/
def rIsD (K : PySem.W.Frag) (a : Addr) (cls : Value) (d : Option Addr) : List V → Hp → VK → Prop := fun xs H Q =>
  ∃ (c : V) (cv : Value) (b : Bool) (C : Addr), xs = [.ref a, c] ∧ (∀ u, RelV c u → u = cv) ∧ cls = .ref C ∧ ExcC K C ∧ (d = none ∨ ∃ dd fs, d = some dd ∧ H dd = some (.xd fs)) ∧ PySem.W.kitOne K (.ref C) cv = some b ∧ Q (.bl b) H
theorem call_isD {a : Addr} {cls : Value} {d : Option Addr} {oe : Obj} {pn : List (Addr × Obj)} (hz : Zc cls d oe) (hf : ∃ vs, oe.data = .fields vs) : CallR (X.suite a ((a, oe) :: pn)) (.builtin "isinstance") (rIsD X.K a cls d) := by
  intro pins s σ H xs us Q I r h
  obtain ⟨c, cv, b, D, rfl, hcv, ec, T, ed, e, q⟩ := h
  subst ec
  cases r with
  | cons rx rr =>
    cases rr with
    | cons rt rr =>
      cases rr
      cases rx
      have ec := hcv _ rt
      subst ec
      obtain ⟨ha, _⟩ := I.pin (a, oe) (List.mem_append_left _ List.mem_cons_self)
      obtain ⟨vs, hd⟩ := hf
      have J : ∃ od, PySem.W.InstAt s.heap a oe D od := by
        rcases ed with rfl | ⟨dd, fs, rfl, ea⟩
        · exact ⟨none, ha, hz.1, by unfold PySem.W.notCls; rw [hd] <;> rfl, by rw [hz.2]; trivial⟩
        · have hx : ObjOk X.prog X.w H s.heap dd (.xd fs) := I.hok dd _ ea
          obtain ⟨mA, hns, hr⟩ := hx
          obtain ⟨od, ho, hl⟩ := lookIn_ns hns
          exact ⟨some od, ha, hz.1, by unfold PySem.W.notCls; rw [hd] <;> rfl, by rw [hz.2]; exact ho⟩
      obtain ⟨od, J⟩ := J
      have cl : (PySem.W.clsIn X.K D).isSome = true := by obtain ⟨cd, hc, _⟩ := PySem.W.any_some T.hd; rw [hc]; rfl
      exact PySem.W.kia_one (PySem.W.kitx_exc (gt := none) cl T.hg T.hk T.hs T.ha T.hn T.ht T.hm) I.kIn J e (fun z => nomatch z) fun tk => ⟨.bl b, H, I.kept (t' := tk) fun _ _ z => z, rfl, q⟩
end
end L2

namespace L2
open PySem PySem.Spec PyProof.Rows PySem.SupX
section
variable {X : Cx} {x n : Str} {c : Value} {i : Nat} {body suite : List Stmt} {b₀ : Stmt} {np pos pos' : Pos} {Wout : WX}
theorem ps_try_as1 (hs : X.stack = X.env :: X.outer) (hf : X.env.frame = some X.env.locals) (hN : X.N.Nodup) (hi : X.N[i]? = some n) (hln : X.env.kindOf n = some .local) (hc : Names X x c) (tk : Takes X Wout)
    (kb : ∀ W : WX, {t : TS // ∀ (pn : List (Addr × Obj)) (xe : Value → Shared → Prop), Takes (X.tr pn xe) W → PassesOwn (model X.prog X.w) X.A X.env xe → PSs (X.tr pn xe) body t})
    (ks : ∀ (a : Addr) (cls : Value) (d : Option Addr), {t : TS // ∀ (oe : Obj) (pn : List (Addr × Obj)), Zc cls d oe → (∃ vs, oe.data = .fields vs) → PSs (X.suite a ((a, oe) :: pn)) (b₀ :: suite) t}) {t : TS} (ht : (fun D σ H => (kb (wAs X.K c i (fun a cls d => (ks a cls d).1) Wout D)).1 D σ H) = t) :
    PS X (.Try body [.ExceptHandler (some (.Name x np)) (some n) (b₀ :: suite) pos'] [] [] pos) t := by
  rw [← ht]
  exact ps_try_as (tb := fun W => (kb W).1) (ts := fun a cls d => (ks a cls d).1) hs hf hN hi hln hc tk (fun W pn xe a b => (kb W).2 pn xe a b) (fun a oe cls d pn h1 h2 => (ks a cls d).2 oe pn h1 h2)
theorem ps_try_only1 (hs : X.stack = X.env :: X.outer) (hf : X.env.frame = some X.env.locals) (hc : Names X x c) (tk : Takes X Wout)
    (kb : ∀ W : WX, {t : TS // ∀ (pn : List (Addr × Obj)) (xe : Value → Shared → Prop), Takes (X.tr pn xe) W → PassesOwn (model X.prog X.w) X.A X.env xe → PSs (X.tr pn xe) body t})
    (ks : ∀ (a : Addr) (cls : Value) (d : Option Addr), {t : TS // ∀ (oe : Obj) (pn : List (Addr × Obj)), Zc cls d oe → (∃ vs, oe.data = .fields vs) → PSs (X.suite a ((a, oe) :: pn)) (b₀ :: suite) t}) {t : TS} (ht : (fun D σ H => (kb (wOnly X.K c (fun a cls d => (ks a cls d).1) Wout D)).1 D σ H) = t) :
    PS X (.Try body [.ExceptHandler (some (.Name x np)) none (b₀ :: suite) pos'] [] [] pos) t := by
  rw [← ht]
  exact ps_try_only (tb := fun W => (kb W).1) (ts := fun a cls d => (ks a cls d).1) hs hf hc tk (fun W pn xe a b => (kb W).2 pn xe a b) (fun a oe cls d pn h1 h2 => (ks a cls d).2 oe pn h1 h2)
end
theorem excF_of {P : Program} {K : PySem.W.Frag} {mg : Str → Option Value} {nm fld : Str} {C D fI : Addr} (T : SupTxt P K mg nm C D fI fld) : ExcF K C fld := ⟨T.ga, T.gg, T.exC, T.hdC, T.noN⟩
end L2

namespace L2
open PySem PySem.Spec PyProof.Rows
/-- an own def that may raise, called where it does not -/
theorem passN {X : Cx} : Passes (L2.CX X.prog X.w) X (fun _ _ _ => False) := fun _ _ _ _ _ _ _ h => by
  obtain ⟨_, _, _, _, _, _, _, _, _, _, _, _, z⟩ := h
  exact z.elim
theorem FnOk.or {P : Program} {w : World} {K : PySem.W.Frag} {mg : Str → Option Value} {base : Heap} {CX : CXT} {k : Nat} {f : Addr} {fd : FuncData} {ps : List Str} {sp sp' : Sp} (F : FnOk P w K mg base CX k f fd ps sp) (G : FnOk P w K mg base CX k f fd ps sp') :
    FnOk P w K mg base CX k f fd ps (fun vs H Q E => sp vs H Q E ∨ sp' vs H Q E) :=
  ⟨fun vs H Q E h => h.elim (F.len vs H Q E) (G.len vs H Q E), fun A outer s H args us vs Q E hr he hb hv h => h.elim (F.run A outer s H args us vs Q E hr he hb hv) (G.run A outer s H args us vs Q E hr he hb hv)⟩
section
variable {K : PySem.W.Frag} {C S : Addr} {b : Bool}
theorem cls_of (h : PySem.W.hasDictIn K C = true) : (PySem.W.clsIn K C).isSome = true := by
  obtain ⟨cd, hc, _⟩ := PySem.W.any_some h
  rw [hc]
  rfl
theorem kit_ref (hd : PySem.W.hasDictIn K S = true) (ht : PySem.W.typeIn K (.ref S) = some (.type "type")) (hC : PySem.W.subIn K (.ref C) (.ref C) = some true) (h : PySem.W.subIn K (.ref C) (.ref S) = some b) : PySem.W.kitOne K (.ref C) (.ref S) = some b := by
  have e2 : ((PySem.W.clsIn K S).isSome && PySem.W.typeIn K (.ref S) == some (.type "type")) = true := by rw [cls_of hd, ht]; rfl
  have e3 : PySem.W.kitCls K (.ref C) (.ref S) = some b := by
    show (if ((PySem.W.clsIn K S).isSome && PySem.W.typeIn K (.ref S) == some (.type "type")) = true then PySem.W.subIn K (.ref C) (.ref S) else none) = some b
    rw [if_pos e2]
    exact h
  unfold PySem.W.kitOne
  by_cases e : C = S
  · subst e
    rw [hC] at h
    cases h
    rw [if_pos (by simp)]
  · rw [if_neg (by simpa using e)]
    exact e3
theorem kit_type {T : String} (hm : PySem.W.kitMeta T = true) (h : PySem.W.subIn K (.ref C) (.type T) = some b) : PySem.W.kitOne K (.ref C) (.type T) = some b := by
  unfold PySem.W.kitOne PySem.W.kitCls
  rw [if_neg (by simp)]
  dsimp only
  rw [if_pos hm]
  exact h
end
end L2
namespace Cf
open PySem L2 PySem.Spec PyProof.Rows
section
variable {K : PySem.W.Frag} {w : World} {H : Hp} {σ : L2.St} {Q : VK}
/-! ## sequences that the top has written, or that stand in the heap -/
theorem kr_inS {p : Addr} {xs : List V} {x : V} {b : Bool} (h : SqT K H p xs) (f : flatV x = true) (g : xs.all flatV = true) (e : inV x xs = b) (q : Q (.bl b) H) : rInn K x (.ref p) H Q := by
  subst e; exact .inl ⟨p, xs, rfl, .inr h, f, g, q⟩
theorem kr_notInS {p : Addr} {xs : List V} {x : V} {b : Bool} (h : SqT K H p xs) (f : flatV x = true) (g : xs.all flatV = true) (e : inV x xs = b) (q : Q (.bl (!b)) H) : rNotInn K x (.ref p) H Q := by
  subst e; exact .inl ⟨p, xs, rfl, .inr h, f, g, q⟩
theorem kr_ixQ {p : Addr} {xs : List V} {i : Int} {v : V} (h : SqT K H p xs) (ha : atI xs i = some v) (q : Q v H) : rIxx K (.ref p) (.int i) H Q := .inl (.inr (.inl ⟨p, xs, i, v, rfl, rfl, h, ha, q⟩))
theorem kr_lenQ {p : Addr} {xs : List V} (h : SqT K H p xs) (q : Q (.int xs.length) H) : rLen K [.ref p] H Q := .inl ⟨p, xs, rfl, .inr h, q⟩
theorem sqT_ty {p : Addr} {xs : List V} (h : SqT K H p xs) : TyX K H (.ref p) (.type Kd.tup.name) := by
  rcases h with h | ⟨o, its, n, e, c, _⟩
  · rcases h with h | ⟨o, h⟩
    · exact .base (.tup h)
    · exact .fTuple h
  · exact .kTuple e c
theorem kr_isiQ {p : Addr} {xs : List V} (b : Kd) (h : SqT K H p xs) (q : Q (.bl (isk .tup b)) H) : rIsi K [.ref p, .ty b.name] H Q := ⟨.ref p, .ty b.name, _, _, _, rfl, .ty _, sqT_ty h, kit_ty (kit_isk .tup b), q⟩
theorem kr_ixKd {d : Addr} {z : Str} {v : V} (h : KDct K w d z v) (q : Q v H) : L2.rIxD K w (.ref d) (.str z) H Q := ⟨d, z, v, rfl, rfl, h, q⟩
theorem inV_strs {n : Str} : ∀ {ns : List Str}, inV (.str n) (ns.map V.str) = decide (n ∈ ns)
  | [] => rfl
  | m :: ns => by
    have ih := inV_strs (n := n) (ns := ns)
    unfold inV at ih ⊢
    rw [List.map_cons, List.any_cons, ih]
    show ((m == n) || decide (n ∈ ns)) = _
    by_cases e : m = n
    · subst e; simp
    · have e' : ¬ n = m := fun z => e z.symm
      simp [e, e']
theorem strs_flat : ∀ {ns : List Str}, (ns.map V.str).all flatV = true
  | [] => rfl
  | _ :: ns => by
    have ih := strs_flat (ns := ns)
    simp only [List.map_cons, List.all_cons, ih]
    rfl
/-! ## errors -/
theorem k_raise {C : Addr} {fld : Str} {W : WX} {ta : TA} {D : Ends} (h : ta σ H fun vs H1 => ∃ v, vs = [v] ∧ ∀ d, Fresh H1 d → W (.ref C) (some d) σ (upd H1 d (.xd [((fld : Str), v)]))) : tRaise1 C fld W ta D σ H := h
theorem k_ex1 {v : V} {R : V → Prop} (h : R v) : ∃ y, [v] = [y] ∧ R y := ⟨v, rfl, h⟩
theorem k_callS {sp : Sp} {E : L2.St → XK} {t : TA} (h : t σ H fun vs H1 => sp vs H1 Q (E σ)) : tCallS sp E t σ H Q := h
theorem k_as {c cls : Value} {i : Nat} {ts : Addr → Value → Option Addr → TS} {W : WX} {D : Ends} {d : Option Addr} (e : PySem.W.exmOne K cls c = some true)
    (h : ∀ a, Fresh H a → ts a cls d { nx := fun σ' H' => D.nx (σ'.set i none) H', rt := D.rt, bk := fun σ' H' => D.bk (σ'.set i none) H', ct := fun σ' H' => D.ct (σ'.set i none) H' } (σ.set i (some (.ref a))) H) : WE (wAs K c i ts W D) σ cls d H :=
  ⟨true, e, fun _ => h, fun z => by cases z⟩
theorem kr_isD {a C dd : Addr} {fs : List (Str × V)} {c : V} {cv : Value} {b : Bool} (t : ExcC K C) (h : H dd = some (.xd fs)) (hc : ∀ u, RelV c u → u = cv) (e : PySem.W.kitOne K (.ref C) cv = some b) (q : Q (.bl b) H) : rIsD K a (.ref C) (some dd) [.ref a, c] H Q :=
  ⟨c, cv, b, C, rfl, hc, rfl, t, .inr ⟨dd, fs, rfl, h⟩, e, q⟩
theorem k_fldE {fld : Str} {a C dd : Addr} {fs : List (Str × V)} {v : V} {te : TE} (t : ExcF K C fld) (l : fs.lookup fld = some v) (h : te σ H fun x H1 => x = .ref a ∧ H1 dd = some (.xd fs) ∧ Q v H1) (hm : ∀ (Q Q' : VK), (∀ x H1, Q x H1 → Q' x H1) → te σ H Q → te σ H Q') : tFldE K fld a (.ref C) (some dd) te σ H Q :=
  hm _ _ (fun x H1 ⟨h1, h2, h3⟩ => ⟨h1, C, dd, fs, v, rfl, t, rfl, h2, l, h3⟩) h
theorem k_fldV {fld : Str} {a C dd : Addr} {fs : List (Str × V)} {v : V} {i : Nat} (t : ExcF K C fld) (hv : σ[i]? = some (some (.ref a))) (l : fs.lookup fld = some v) (h : H dd = some (.xd fs)) (q : Q v H) : tFldE K fld a (.ref C) (some dd) (tVar i) σ H Q :=
  ⟨.ref a, hv, rfl, C, dd, fs, v, rfl, t, rfl, h, l, q⟩
/-! ## the place of a text in a list -/
def idxV (y : Str) : List V → Option Nat
  | [] => none
  | .str x :: r => if x = y then some 0 else (idxV y r).map (· + 1)
  | _ :: _ => none
theorem idxV_at {y : Str} : ∀ {xs : List V} {j : Nat}, idxV y xs = some j → xs[j]? = some (.str y) ∧ ∀ (m : Nat) (z : V), m < j → xs[m]? = some z → eqV z (.str y) = false
  | [], _, h => by cases h
  | .str x :: r, j, h => by
    unfold idxV at h
    by_cases e : x = y
    · rw [if_pos e] at h
      cases h
      subst e
      exact ⟨rfl, fun m z hm => absurd hm (Nat.not_lt_zero _)⟩
    · rw [if_neg e] at h
      cases q : idxV y r with
      | none => rw [q] at h; cases h
      | some k =>
        rw [q] at h
        cases h
        obtain ⟨h1, h2⟩ := idxV_at q
        refine ⟨by simpa using h1, fun m z hm hz => ?_⟩
        cases m with
        | zero =>
          cases (show some (V.str x) = some z from hz)
          show (x == y) = false
          simpa using e
        | succ m => exact h2 m z (Nat.lt_of_succ_lt_succ hm) (by simpa using hz)
  | .non :: _, _, h => by cases h
  | .bl _ :: _, _, h => by cases h
  | .int _ :: _, _, h => by cases h
  | .flt _ :: _, _, h => by cases h
  | .ref _ :: _, _, h => by cases h
  | .byt _ :: _, _, h => by cases h
  | .ty _ :: _, _, h => by cases h
theorem kr_index {p : Addr} {xs : List V} {y : Str} {j : Nat} (h : H p = some (.lst xs)) (g : xs.all flatV = true) (e : idxV y xs = some j) (q : Q (.int (j : Nat)) H) : rIndex K (.ref p) [.str y] H Q :=
  ⟨p, xs, .str y, j, .str y, rfl, rfl, SqL.of h, rfl, g, (idxV_at e).1, (by show (y == y) = true; simp), (idxV_at e).2, q⟩
theorem kr_index2 {p : Addr} {xs : List V} {y : Str} (h : H p = some (.lst xs)) (g : xs.all flatV = true) (e : (idxV y xs).isSome = true) (q : Q (.int (((idxV y xs).getD 0 : Nat))) H) : rIndex K (.ref p) [.str y] H Q := by
  obtain ⟨j, hj⟩ := Option.isSome_iff_exists.mp e
  rw [hj] at q
  exact kr_index h g hj q
theorem q_bl {b c : Bool} (e : c = b) (h : Q (.bl b) H) : Q (.bl c) H := e ▸ h
theorem kr_isiQ_bool {p : Addr} {xs : List V} (h : SqT K H p xs) (q : Q (.bl false) H) : rIsi K [.ref p, .ty "bool"] H Q := kr_isiQ .bl h q
theorem kr_isiQ_int {p : Addr} {xs : List V} (h : SqT K H p xs) (q : Q (.bl false) H) : rIsi K [.ref p, .ty "int"] H Q := kr_isiQ .int h q
theorem kr_isiQ_str {p : Addr} {xs : List V} (h : SqT K H p xs) (q : Q (.bl false) H) : rIsi K [.ref p, .ty "str"] H Q := kr_isiQ .str h q
theorem kr_isiQ_list {p : Addr} {xs : List V} (h : SqT K H p xs) (q : Q (.bl false) H) : rIsi K [.ref p, .ty "list"] H Q := kr_isiQ .lst h q
theorem kr_isiQ_tuple {p : Addr} {xs : List V} (h : SqT K H p xs) (q : Q (.bl true) H) : rIsi K [.ref p, .ty "tuple"] H Q := kr_isiQ .tup h q
theorem kr_isiQ_dict {p : Addr} {xs : List V} (h : SqT K H p xs) (q : Q (.bl false) H) : rIsi K [.ref p, .ty "dict"] H Q := kr_isiQ .dic h q
theorem sqT_keep {H' : Hp} {p : Addr} {xs : List V} (k : Keep [] H H') (h : SqT K H p xs) : SqT K H' p xs := by
  rcases h with h | h
  · rcases h with h | ⟨o, h⟩
    · exact .inl (.inl (k.at nin0 h))
    · exact .inl (.inr ⟨o, k.at nin0 h⟩)
  · exact .inr h
theorem at_strs {ns : List Str} {i : Int} (h0 : 0 ≤ i) (h : i < ns.length) : ∃ x, x ∈ ns ∧ atI (ns.map V.str) i = some (.str x) := by
  obtain ⟨v, hv, e⟩ := atI_lt (xs := ns.map V.str) h0 (by simpa using h)
  obtain ⟨x, hx, rfl⟩ := List.mem_map.mp hv
  exact ⟨x, hx, e⟩
theorem kr_slS {z : Str} {lo hi : Option Int} (h : z.length ≤ sizeLine) (q : Q (.str (cutS z lo hi)) H) : rSlS (.str z) lo hi H Q := ⟨z, rfl, h, q⟩
/-- a written tuple of texts, a tuple of the same texts -/
def spFlat (K : PySem.W.Frag) : Sp := fun vs H Q _ => ∃ (a b : Addr) (ns : List Str), vs = [.ref a, .ref b] ∧ SqT K H a (ns.map V.str) ∧ H b = some (.tup (ns.map V.str)) ∧ ns.length < 1000 ∧ ∀ H', Keep [] H H' → Q (.bl true) H'
def spSameF (K : PySem.W.Frag) (n : Nat) : Sp := fun vs H Q E => spSame n vs H Q E ∨ spFlat K vs H Q E
theorem Keep.trans' {H H1 : Hp} {p : Addr} {o : HO} (k : Keep [] (upd H p o) H1) (hp : Fresh H p) : Keep [] H H1 := fun b u n e => k b u n (get_new hp e)
end
end Cf

namespace Cf
open PySem L2 PySem.Spec PyProof.Rows
/-! ## dicts as data -/
def D.key : Key → D
  | .inl i => .int i
  | .inr s => .str s
theorem is_key {S : List Addr} {H : Hp} : ∀ k : Key, Is S H (kV k) (D.key k)
  | .inl i => .int i
  | .inr s => .str s
theorem is_keys {S : List Addr} {H : Hp} : ∀ kvs : List (Key × V), IsL S H (kvs.map fun kv => kV kv.1) (kvs.map fun kv => D.key kv.1)
  | [] => .nil
  | kv :: r => .cons (is_key kv.1) (is_keys r)
theorem key_inj : ∀ {a b : Key}, D.key a = D.key b → a = b
  | .inl _, .inl _, h => by cases h; rfl
  | .inr _, .inr _, h => by cases h; rfl
  | .inl _, .inr _, h => by cases h
  | .inr _, .inl _, h => by cases h
theorem keys_inj : ∀ {a b : List (Key × V)}, (a.map fun kv => D.key kv.1) = (b.map fun kv => D.key kv.1) ↔ a.map (·.1) = b.map (·.1)
  | [], [] => by simp
  | [], _ :: _ => by simp
  | _ :: _, [] => by simp
  | x :: a, y :: b => by
    simp only [List.map_cons, List.cons.injEq, keys_inj (a := a) (b := b)]
    exact ⟨fun h => ⟨key_inj h.1, h.2⟩, fun h => ⟨congrArg _ h.1, h.2⟩⟩
theorem keys_depth : ∀ kvs : List (Key × V), D.depths (kvs.map fun kv => D.key kv.1) = 0
  | [] => rfl
  | (.inl _, _) :: r => by show max 0 (D.depths (r.map fun kv => D.key kv.1)) = 0; rw [keys_depth r]; rfl
  | (.inr _, _) :: r => by show max 0 (D.depths (r.map fun kv => D.key kv.1)) = 0; rw [keys_depth r]; rfl
section
variable {K : PySem.W.Frag} {H : Hp} {σ : L2.St} {Q : VK}
theorem kr_listD {p : Addr} {kvs : List (Key × V)} (h : H p = some (.dK kvs)) (q : ∀ l, Fresh H l → Q (.ref l) (upd H l (.lst (kvs.map fun kv => kV kv.1)))) : rListD [.ref p] H Q := ⟨p, kvs, rfl, h, q⟩
theorem k_chain {r r' : R2} {ta tb tc : TE} (h : ta σ H fun x H1 => tb σ H1 fun y H2 => r x y H2 fun z H3 => ∃ k, z = .bl k ∧ (if k = true then tc σ H3 fun w' H4 => r' y w' H4 Q else Q (.bl false) H3)) : tChain r r' ta tb tc σ H Q := h
/-- [d[k] for k in d] -/
theorem k_vals {a : Addr} {kvs : List (Key × V)} {i j : Nat} (h : H a = some (.dK kvs)) (l : kvs.length < 1000) (g : ∀ (i : Nat) (k : Key) (v : V), kvs[i]? = some (k, v) → valV kvs k = some v)
    (h0 : σ[i]? = some (some (.ref a))) (h1 : ∀ v, ((wipe σ [j]).set j (some v))[i]? = some (some (.ref a))) (h2 : ∀ v, ((wipe σ [j]).set j (some v))[j]? = some (some v)) (h3 : ∀ v, wipe ((wipe σ [j]).set j (some v)) [j] = wipe σ [j])
    (q : ∀ L H', Fresh H L → H' L = some (.lst (kvs.map (·.2))) → Keep [] H H' → Q (.ref L) H') : tLockE (tLc (iKeys (tVar i)) (gName j) tYes (tOp (rIxx K) (tVar i) (tVar j)) [j]) σ H Q := by
  refine ⟨a, .dK kvs, h, trivial, fun od => ?_⟩
  refine k_lc ?_
  refine ⟨.ref a, h0, a, od, rfl, .inl ⟨kvs, upd_same, fun L fL => ?_⟩⟩
  obtain ⟨nL, fL'⟩ := upd_none fL
  refine lc_it (walk_keys (d := a) (o := od) (kvs := kvs)) (fun m H' => H' = upd (upd H a (.frz od (.dK kvs))) L (.lst ((kvs.map (·.2)).take m))) rfl ?_ ?_ ?_
  · rintro m H' _ rfl
    exact get_ne (Ne.symm nL) upd_same
  · rintro m x H1 H' hm rfl ⟨rfl, k, v, e, rfl⟩
    refine k_gname rfl ⟨h3 _, ?_⟩
    refine k_yes ?_
    rw [if_pos rfl]
    refine k_op (k_var (h1 _) (k_var (h2 _) ?_))
    refine .inr ⟨a, v, rfl, .inl ⟨kvs, k, .inr ⟨od, get_ne (Ne.symm nL) upd_same⟩, rfl, (g m k v e).symm⟩, ?_⟩
    refine ⟨(kvs.map (·.2)).take m, upd_same, small1000 (Nat.le_of_lt (by rw [List.length_take]; omega)), ?_⟩
    show upd (upd _ L _) L _ = upd _ L _
    have e2 : (kvs.map (·.2))[m]? = some v := by rw [List.getElem?_map, e]; rfl
    rw [List.take_add_one, e2]
    funext b
    by_cases hb : b = L
    · subst hb; rw [upd_same, upd_same]; rfl
    · rw [upd_ne hb, upd_ne hb, upd_ne hb]
  · rintro H' rfl
    refine ⟨get_ne (Ne.symm nL) upd_same, ?_⟩
    rw [show (kvs.map (·.2)).take kvs.length = kvs.map (·.2) from List.take_of_length_le (by simp)]
    refine q L _ fL' (get_ne nL upd_same) (fun b o _ e => ?_)
    by_cases hb : b = a
    · subst hb; rw [upd_same, ← h, e]
    · have nb : b ≠ L := ne_of_none e fL'
      rw [upd_ne hb, upd_ne nb, upd_ne hb, e]
end
end Cf

/-! mirrors: values as plain data, defs as transformers of wishes -/
namespace Mi
open PySem L2 PySem.Spec PyProof.Rows
open Cf (Fresh)
/-! ## plain data -/
inductive D where
  | non | bl (b : Bool) | int (i : Int) | str (s : Str) | lst (ds : List D) | tup (ds : List D)
  | dic (ks : List Key) (ds : List D) | obj (c : Str) (ns : List Str) (ds : List D) | xd (ns : List Str) (ds : List D) | own (a : Addr)
abbrev CT := Str → Option Addr
mutual
inductive Is (K : PySem.W.Frag) (C : CT) (G : Hp) : V → D → Prop
  | non : Is K C G .non .non
  | bl (b : Bool) : Is K C G (.bl b) (.bl b)
  | int (i : Int) : Is K C G (.int i) (.int i)
  | str (x : Str) : Is K C G (.str x) (.str x)
  | lst {a : Addr} {xs : List V} {ds : List D} (h : G a = some (.lst xs)) (l : xs.length ≤ 1000000) (t : IsL K C G xs ds) : Is K C G (.ref a) (.lst ds)
  | tup {a : Addr} {xs : List V} {ds : List D} (h : SqT K G a xs) (l : xs.length ≤ 1000000) (t : IsL K C G xs ds) : Is K C G (.ref a) (.tup ds)
  | dic {a : Addr} {kvs : List (Key × V)} {ds : List D} (h : G a = some (.dK kvs)) (n : (kvs.map (·.1)).Nodup) (t : IsL K C G (kvs.map (·.2)) ds) : Is K C G (.ref a) (.dic (kvs.map (·.1)) ds)
  | obj {a A dx : Addr} {fs : List (Str × V)} {ds : List D} {c : Str} (h : G a = some (.ins A dx fs)) (hc : C c = some A) (t : IsL K C G (fs.map (·.2)) ds) : Is K C G (.ref a) (.obj c (fs.map (·.1)) ds)
  | xd {a : Addr} {fs : List (Str × V)} {ds : List D} (h : G a = some (.xd fs)) (t : IsL K C G (fs.map (·.2)) ds) : Is K C G (.ref a) (.xd (fs.map (·.1)) ds)
  | own (a : Addr) : Is K C G (.ref a) (.own a)
inductive IsL (K : PySem.W.Frag) (C : CT) (G : Hp) : List V → List D → Prop
  | nil : IsL K C G [] []
  | cons {v : V} {vs : List V} {d : D} {ds : List D} (h : Is K C G v d) (t : IsL K C G vs ds) : IsL K C G (v :: vs) (d :: ds)
end
/-- part of a heap -/
def Sub (G H : Hp) : Prop := ∀ b o, G b = some o → H b = some o
/-- two parts without a common place -/
def Dis (A B : Hp) : Prop := ∀ b, A b = none ∨ B b = none
section
variable {K : PySem.W.Frag} {C : CT} {G G' H H' A B F W : Hp}
theorem Sub.refl (H : Hp) : Sub H H := fun _ _ h => h
theorem Sub.trans (a : Sub G H) (b : Sub H H') : Sub G H' := fun c o h => b c o (a c o h)
theorem Sub.free (a : Sub G H) {p : Addr} (h : Fresh H p) : G p = none := by
  have h : H p = none := h
  cases e : G p with
  | none => rfl
  | some o => rw [a p o e] at h; cases h
theorem Sub.new (a : Sub G H) {p : Addr} {o : HO} (h : Fresh H p) : Sub G (upd H p o) := fun b u e => by
  have n : b ≠ p := fun z => by rw [z, a.free h] at e; cases e
  rw [upd_ne n]; exact a b u e
theorem Sub.upd (a : Sub G H) {p : Addr} {o : HO} : Sub (L2.upd G p o) (L2.upd H p o) := fun b u e => by
  by_cases h : b = p
  · rw [h, upd_same] at e ⊢; exact e
  · rw [upd_ne h] at e ⊢; exact a b u e
theorem Sub.self {p : Addr} {o : HO} (h : G p = none) : Sub G (L2.upd G p o) := fun b u e => by
  have n : b ≠ p := fun z => by rw [z, h] at e; cases e
  rw [upd_ne n]; exact e
theorem Dis.symm (h : Dis A B) : Dis B A := fun b => (h b).symm
theorem Dis.new (h : Dis A B) {p : Addr} {o : HO} (hb : B p = none) : Dis (L2.upd A p o) B := fun b => by
  by_cases e : b = p
  · right; rw [e]; exact hb
  · rw [upd_ne e]; exact h b
theorem Dis.less (h : Dis A B) (s : Sub G A) : Dis G B := fun b => by
  rcases h b with h | h
  · left
    cases e : G b with
    | none => rfl
    | some o => rw [s b o e] at h; cases h
  · exact .inr h
theorem sqL_mono (k : Sub G G') {p : Addr} {xs : List V} (h : SqL K G p xs) : SqL K G' p xs := by
  rcases h with h | h
  · rcases h with h | ⟨o, h⟩
    · exact .inl (.inl (k _ _ h))
    · exact .inl (.inr ⟨o, k _ _ h⟩)
  · exact .inr h
theorem sqT_mono (k : Sub G G') {p : Addr} {xs : List V} (h : SqT K G p xs) : SqT K G' p xs := by
  rcases h with h | h
  · rcases h with h | ⟨o, h⟩
    · exact .inl (.inl (k _ _ h))
    · exact .inl (.inr ⟨o, k _ _ h⟩)
  · exact .inr h
mutual
theorem Is.mono (k : Sub G G') : ∀ {v : V} {d : D}, Is K C G v d → Is K C G' v d
  | _, _, .non => .non
  | _, _, .bl b => .bl b
  | _, _, .int b => .int b
  | _, _, .str b => .str b
  | _, _, .lst h l t => .lst (k _ _ h) l (IsL.mono k t)
  | _, _, .tup h l t => .tup (sqT_mono k h) l (IsL.mono k t)
  | _, _, .dic h n t => .dic (k _ _ h) n (IsL.mono k t)
  | _, _, .obj h n t => .obj (k _ _ h) n (IsL.mono k t)
  | _, _, .xd h t => .xd (k _ _ h) (IsL.mono k t)
  | _, _, .own a => .own a
theorem IsL.mono (k : Sub G G') : ∀ {vs : List V} {ds : List D}, IsL K C G vs ds → IsL K C G' vs ds
  | _, _, .nil => .nil
  | _, _, .cons h t => .cons (Is.mono k h) (IsL.mono k t)
end
theorem IsL.len : ∀ {vs : List V} {ds : List D}, IsL K C G vs ds → vs.length = ds.length
  | _, _, .nil => rfl
  | _, _, .cons _ t => by rw [List.length_cons, List.length_cons, IsL.len t]
theorem IsL.get : ∀ {vs : List V} {ds : List D} {i : Nat} {v : V}, IsL K C G vs ds → vs[i]? = some v → ∃ d, ds[i]? = some d ∧ Is K C G v d := by
  intro vs
  induction vs with
  | nil => intro ds i v h e; simp at e
  | cons w vs ih =>
    intro ds i v h e
    cases h with
    | cons h t =>
      cases i with
      | zero => cases e; exact ⟨_, rfl, h⟩
      | succ i =>
        obtain ⟨d, e1, e2⟩ := ih t (show vs[i]? = some v from e)
        exact ⟨d, e1, e2⟩
theorem IsL.get' : ∀ {ds : List D} {vs : List V} {i : Nat} {d : D}, IsL K C G vs ds → ds[i]? = some d → ∃ v, vs[i]? = some v ∧ Is K C G v d := by
  intro ds vs i d h e
  have hl := h.len
  have hi : i < ds.length := (List.getElem?_eq_some_iff.mp e).1
  have hv : vs[i]? = some vs[i] := List.getElem?_eq_getElem (by omega)
  obtain ⟨d', e1, e2⟩ := h.get hv
  rw [e] at e1
  cases e1
  exact ⟨_, hv, e2⟩
theorem IsL.app : ∀ {vs : List V} {ds : List D} {ws : List V} {es : List D}, IsL K C G vs ds → IsL K C G ws es → IsL K C G (vs ++ ws) (ds ++ es)
  | _, _, _, _, .nil, h => h
  | _, _, _, _, .cons h t, k => .cons h (IsL.app t k)
theorem IsL.put {vs : List V} {ds : List D} {v : V} {d : D} (t : IsL K C G vs ds) (h : Is K C G v d) : IsL K C G (vs ++ [v]) (ds ++ [d]) := t.app (.cons h .nil)
theorem IsL.drop : ∀ (n : Nat) {vs : List V} {ds : List D}, IsL K C G vs ds → IsL K C G (vs.drop n) (ds.drop n)
  | 0, _, _, h => h
  | n + 1, _, _, .nil => .nil
  | n + 1, _, _, .cons _ t => IsL.drop n t
theorem IsL.take : ∀ (n : Nat) {vs : List V} {ds : List D}, IsL K C G vs ds → IsL K C G (vs.take n) (ds.take n)
  | 0, _, _, h => .nil
  | n + 1, _, _, .nil => .nil
  | n + 1, _, _, .cons h t => .cons h (IsL.take n t)
theorem IsL.set : ∀ (n : Nat) {vs : List V} {ds : List D} {v : V} {d : D}, IsL K C G vs ds → Is K C G v d → IsL K C G (vs.set n v) (ds.set n d)
  | _, _, _, _, _, .nil, _ => .nil
  | 0, _, _, _, _, .cons _ t, h => .cons h t
  | n + 1, _, _, _, _, .cons q t, h => .cons q (IsL.set n t h)
end
/-! ## types as data -/
class Enc (α : Type) where
  enc : α → D
open Enc (enc)
/-- a tuple of things of one kind -/
structure Tp (α : Type) where
  l : List α
structure T3 (α β γ : Type) where
  a : α
  b : β
  c : γ
structure T4 (α β γ δ : Type) where
  a : α
  b : β
  c : γ
  d : δ
/-- a written list of two, of three things -/
structure L1 (α : Type) where
  a : α
structure L2' (α β : Type) where
  a : α
  b : β
structure L3 (α β γ : Type) where
  a : α
  b : β
  c : γ
structure L4 (α β γ δ : Type) where
  a : α
  b : β
  c : γ
  d : δ
/-- a dict -/
structure Dc (κ α : Type) where
  l : List (κ × α)
instance : Enc D := ⟨id⟩
instance : Enc Int := ⟨.int⟩
instance : Enc Bool := ⟨.bl⟩
instance : Enc Str := ⟨.str⟩
instance : Enc Unit := ⟨fun _ => .non⟩
instance {α : Type} [Enc α] : Enc (Option α) := ⟨fun o => match o with | none => .non | some a => enc a⟩
instance {α : Type} [Enc α] : Enc (List α) := ⟨fun l => .lst (l.map enc)⟩
instance {α : Type} [Enc α] : Enc (Tp α) := ⟨fun l => .tup (l.l.map enc)⟩
instance {α β : Type} [Enc α] [Enc β] : Enc (α × β) := ⟨fun p => .tup [enc p.1, enc p.2]⟩
instance {α β γ : Type} [Enc α] [Enc β] [Enc γ] : Enc (T3 α β γ) := ⟨fun p => .tup [enc p.a, enc p.b, enc p.c]⟩
instance {α β γ δ : Type} [Enc α] [Enc β] [Enc γ] [Enc δ] : Enc (T4 α β γ δ) := ⟨fun p => .tup [enc p.a, enc p.b, enc p.c, enc p.d]⟩
instance {α : Type} [Enc α] : Enc (L1 α) := ⟨fun p => .lst [enc p.a]⟩
instance {α β : Type} [Enc α] [Enc β] : Enc (L2' α β) := ⟨fun p => .lst [enc p.a, enc p.b]⟩
instance {α β γ : Type} [Enc α] [Enc β] [Enc γ] : Enc (L3 α β γ) := ⟨fun p => .lst [enc p.a, enc p.b, enc p.c]⟩
instance {α β γ δ : Type} [Enc α] [Enc β] [Enc γ] [Enc δ] : Enc (L4 α β γ δ) := ⟨fun p => .lst [enc p.a, enc p.b, enc p.c, enc p.d]⟩
/-! ## wishes -/
structure Exn where
  cls : Str
  ns : List Str
  ds : List D
abbrev M (α : Type) := (α → Prop) → (Exn → Prop) → Prop
def mr {α : Type} (a : α) : M α := fun post _ => post a
def mb {α β : Type} (m : M α) (k : α → M β) : M β := fun post px => m (fun a => k a post px) px
def mx {α : Type} (e : Exn) : M α := fun _ px => px e
def mstuck {α : Type} : M α := fun _ _ => False
/-- asked: c -/
def mreq {α : Type} (c : Prop) (m : M α) : M α := fun post px => c ∧ m post px
def mite {α : Type} (m : M Bool) (a b : M α) : M α := mb m fun c => if c = true then a else b
def mdraw (n : Int) : M Int := fun post _ => 0 < n ∧ n.natAbs.log2 < 9000 ∧ ∀ d, 0 ≤ d → d < n → post d
/-- a loop's turn: on, broken off, the def's end -/
inductive Stp (γ ρ : Type) where
  | next (c : γ)
  | brk (c : γ)
  | ret (r : ρ)
def forR {α γ ρ : Type} : List α → γ → (α → γ → M (Stp γ ρ)) → M (γ ⊕ ρ)
  | [], c, _ => mr (.inl c)
  | x :: xs, c, f => mb (f x c) fun s => match s with
    | .next c' => forR xs c' f
    | .brk c' => mr (.inl c')
    | .ret r => mr (.inr r)
def forM {α γ : Type} : List α → γ → (α → γ → M γ) → M γ
  | [], c, _ => mr c
  | x :: xs, c, f => mb (f x c) fun c' => forM xs c' f
def mapM {α β : Type} (f : α → M β) : List α → M (List β)
  | [] => mr []
  | x :: xs => mb (f x) fun y => mb (mapM f xs) fun ys => mr (y :: ys)
/-! ## a point of a def's run -/
inductive Cell (K : PySem.W.Frag) (C : CT) (G : Hp) : HO → D → Prop
  | lst {xs : List V} {ds : List D} (l : xs.length ≤ 1000000) (t : IsL K C G xs ds) : Cell K C G (.lst xs) (.lst ds)
  | dic {kvs : List (Key × V)} {ds : List D} (n : (kvs.map (·.1)).Nodup) (t : IsL K C G (kvs.map (·.2)) ds) : Cell K C G (.dK kvs) (.dic (kvs.map (·.1)) ds)
  | obj {A dx : Addr} {fs : List (Str × V)} {ds : List D} {c : Str} (hc : C c = some A) (t : IsL K C G (fs.map (·.2)) ds) : Cell K C G (.ins A dx fs) (.obj c (fs.map (·.1)) ds)
theorem Cell.mono {K : PySem.W.Frag} {C : CT} {G G' : Hp} (k : Sub G G') {o : HO} {d : D} (h : Cell K C G o d) : Cell K C G' o d := by
  cases h with
  | lst l t => exact .lst l (t.mono k)
  | dic n t => exact .dic n (t.mono k)
  | obj hc t => exact .obj hc (t.mono k)
structure Zx where
  K : PySem.W.Frag
  C : CT
  R : Hp → Prop
  G0 : Hp
  F0 : Hp
  E : XK
structure PtS (Z : Zx) (L : List (V × D)) (O : List (Addr × D)) (H G F W : Hp) : Prop where
  g0 : Sub Z.G0 G
  f0 : Sub Z.F0 F
  g : Sub G H
  f : Sub F H
  w : Sub W H
  gf : Dis G F
  gw : Dis G W
  fw : Dis F W
  r : Z.R W
  l : ∀ x ∈ L, Is Z.K Z.C G x.1 x.2
  o : ∀ x ∈ O, ∃ ho, F x.1 = some ho ∧ Z.F0 x.1 = none ∧ Cell Z.K Z.C G ho x.2
  nd : (O.map (·.1)).Nodup
def Pt (Z : Zx) (L : List (V × D)) (O : List (Addr × D)) (H : Hp) : Prop := ∃ G F W, PtS Z L O H G F W
/-- an error in the air -/
def dvV : Option Addr → V
  | some p => .ref p
  | none => .non
def dvD (d : Option Addr) (e : Exn) : D := match d with
  | some _ => .xd e.ns e.ds
  | none => .non
def Ex (K : PySem.W.Frag) (C : CT) (G : Hp) (c : Value) (d : Option Addr) (e : Exn) : Prop := ∃ A, c = .ref A ∧ C e.cls = some A ∧ (d = none → e.ns = []) ∧ Is K C G (dvV d) (dvD d e)
def PtX (Z : Zx) (H : Hp) (c : Value) (d : Option Addr) (e : Exn) : Prop := ∃ G F W, PtS Z [] [] H G F W ∧ Ex Z.K Z.C G c d e
def HX (Z : Zx) (px : Exn → Prop) : Prop := ∀ e c d H', PtX Z H' c d e → px e → Z.E c d H'
section
variable {Z : Zx} {L L' : List (V × D)} {O O' : List (Addr × D)} {H : Hp}
theorem Pt.less (h : Pt Z L O H) (s : ∀ x ∈ L', x ∈ L) : Pt Z L' O H := by
  obtain ⟨G, F, W, h⟩ := h
  exact ⟨G, F, W, { h with l := fun x hx => h.l x (s x hx) }⟩
theorem Pt.lessO (h : Pt Z L O H) (s : List.Sublist O' O) : Pt Z L O' H := by
  obtain ⟨G, F, W, h⟩ := h
  exact ⟨G, F, W, { h with o := fun x hx => h.o x (s.subset hx), nd := h.nd.sublist (s.map _) }⟩
/-- a new thing that stays as it is -/
theorem Pt.new (h : Pt Z L O H) {p : Addr} {o : HO} {d : D} (hp : Fresh H p) (hd : ∀ G, (∀ x ∈ L, Is Z.K Z.C G x.1 x.2) → G p = none → Is Z.K Z.C (upd G p o) (.ref p) d) : Pt Z ((.ref p, d) :: L) O (upd H p o) := by
  obtain ⟨G, F, W, h⟩ := h
  have hG := h.g.free hp
  refine ⟨upd G p o, F, W, ⟨h.g0.trans (.self hG), h.f0, h.g.upd, h.f.new hp, h.w.new hp, h.gf.new (h.f.free hp), h.gw.new (h.w.free hp), h.fw, h.r, fun x hx => ?_, fun x hx => ?_, h.nd⟩⟩
  · rcases List.mem_cons.mp hx with e | e
    · rw [e]; exact hd G h.l hG
    · exact (h.l x e).mono (.self hG)
  · obtain ⟨ho, e1, e2, e3⟩ := h.o x hx
    exact ⟨ho, e1, e2, e3.mono (.self hG)⟩
/-- a new thing of one's own -/
theorem Pt.own (h : Pt Z L O H) {p : Addr} {o : HO} {d : D} (hp : Fresh H p) (hd : ∀ G, (∀ x ∈ L, Is Z.K Z.C G x.1 x.2) → Cell Z.K Z.C G o d) : Pt Z L ((p, d) :: O) (upd H p o) := by
  obtain ⟨G, F, W, h⟩ := h
  have hF := h.f.free hp
  refine ⟨G, upd F p o, W, ⟨h.g0, h.f0.trans (.self hF), h.g.new hp, h.f.upd, h.w.new hp, (h.gf.symm.new (h.g.free hp)).symm, h.gw, h.fw.new (h.w.free hp), h.r, h.l, fun x hx => ?_, ?_⟩⟩
  · rcases List.mem_cons.mp hx with e | e
    · rw [e]; exact ⟨o, upd_same, h.f0.free hF, hd G h.l⟩
    · obtain ⟨ho, e1, e2, e3⟩ := h.o x e
      refine ⟨ho, ?_, e2, e3⟩
      have n : x.1 ≠ p := fun z => by rw [z, hF] at e1; cases e1
      show upd F p o x.1 = some ho
      rw [upd_ne n]; exact e1
  · refine List.nodup_cons.mpr ⟨fun z => ?_, h.nd⟩
    obtain ⟨x, hx, e⟩ := List.mem_map.mp z
    obtain ⟨ho, e1, _, _⟩ := h.o x hx
    rw [show x.1 = p from e, hF] at e1
    cases e1
/-- p's entry among one's own, and the entries with another datum there -/
inductive Up (p : Addr) (d d' : D) : List (Addr × D) → List (Addr × D) → Prop
  | hd {O : List (Addr × D)} : Up p d d' ((p, d) :: O) ((p, d') :: O)
  | tl {O O' : List (Addr × D)} {x : Addr × D} (h : Up p d d' O O') : Up p d d' (x :: O) (x :: O')
theorem Up.mem {p : Addr} {d d' : D} (h : Up p d d' O O') : (p, d) ∈ O := by
  induction h with
  | hd => exact List.mem_cons_self
  | tl _ ih => exact List.mem_cons_of_mem _ ih
theorem Up.addrs {p : Addr} {d d' : D} (h : Up p d d' O O') : O'.map (·.1) = O.map (·.1) := by
  induction h with
  | hd => rfl
  | tl _ ih => rw [List.map_cons, List.map_cons, ih]
theorem Up.cases {p : Addr} {d d' : D} (h : Up p d d' O O') (n : (O.map (·.1)).Nodup) : ∀ x ∈ O', (x = (p, d')) ∨ (x.1 ≠ p ∧ x ∈ O) := by
  induction h with
  | hd =>
    rename_i O1
    intro x hx
    have n1 := (List.nodup_cons.mp n).1
    rcases List.mem_cons.mp hx with e | e
    · exact .inl e
    · exact .inr ⟨fun z => n1 (List.mem_map.mpr ⟨x, e, z⟩), List.mem_cons_of_mem _ e⟩
  | tl h ih =>
    rename_i O1 O2 y
    obtain ⟨n1, n2⟩ := List.nodup_cons.mp n
    intro x hx
    rcases List.mem_cons.mp hx with e | e
    · refine .inr ⟨fun z => n1 ?_, by rw [e]; exact List.mem_cons_self⟩
      rw [e] at z
      exact List.mem_map.mpr ⟨_, h.mem, z.symm⟩
    · rcases ih n2 x e with q | ⟨q1, q2⟩
      · exact .inl q
      · exact .inr ⟨q1, List.mem_cons_of_mem _ q2⟩
/-- one's own thing is changed -/
theorem Pt.put (h : Pt Z L O H) {p : Addr} {o : HO} {d d' : D} (u : Up p d d' O O') (hd : ∀ G, (∀ x ∈ L, Is Z.K Z.C G x.1 x.2) → ∀ ho, H p = some ho → Cell Z.K Z.C G ho d → Cell Z.K Z.C G o d') : Pt Z L O' (upd H p o) := by
  obtain ⟨G, F, W, h⟩ := h
  obtain ⟨ho, e1, e2, e3⟩ := h.o _ u.mem
  have e1 : F p = some ho := e1
  have gp : G p = none := (h.gf p).resolve_right (fun z => by rw [z] at e1; cases e1)
  have wp : W p = none := (h.fw p).resolve_left (fun z => by rw [z] at e1; cases e1)
  have kp : ∀ {A : Hp}, A p = none → Sub A H → Sub A (upd H p o) := fun {A} hA s b q e => by
    have n : b ≠ p := fun z => by rw [z, hA] at e; cases e
    rw [upd_ne n]; exact s b q e
  refine ⟨G, upd F p o, W, ⟨h.g0, fun b q e => ?_, kp gp h.g, h.f.upd, kp wp h.w, (h.gf.symm.new gp).symm, h.gw, h.fw.new wp, h.r, h.l, fun x hx => ?_, by rw [u.addrs]; exact h.nd⟩⟩
  · have n : b ≠ p := fun z => by rw [z, show Z.F0 p = none from e2] at e; cases e
    rw [upd_ne n]; exact h.f0 b q e
  · rcases u.cases h.nd x hx with q | ⟨q1, q2⟩
    · rw [q]; exact ⟨o, upd_same, e2, hd G h.l ho (h.f _ _ e1) e3⟩
    · obtain ⟨h1, h2, h3, h4⟩ := h.o x q2
      exact ⟨h1, by rw [upd_ne q1]; exact h2, h3, h4⟩
/-- what stands at one's own place -/
theorem Pt.at (h : Pt Z L O H) {p : Addr} {d : D} (m : (p, d) ∈ O) : ∃ ho G, H p = some ho ∧ Cell Z.K Z.C G ho d ∧ (∀ x ∈ L, Is Z.K Z.C G x.1 x.2) ∧ Sub G H := by
  obtain ⟨G, F, W, h⟩ := h
  obtain ⟨ho, e1, e2, e3⟩ := h.o _ m
  exact ⟨ho, G, h.f _ _ e1, e3, h.l, h.g⟩
theorem Pt.is (h : Pt Z L O H) {v : V} {d : D} (m : (v, d) ∈ L) : Is Z.K Z.C H v d := by
  obtain ⟨G, F, W, h⟩ := h
  exact (h.l _ m).mono h.g
def del (F : Hp) (p : Addr) : Hp := fun b => if b = p then none else F b
theorem del_ne {F : Hp} {p b : Addr} (h : b ≠ p) : del F p b = F b := by unfold del; rw [if_neg h]
theorem del_same {F : Hp} {p : Addr} : del F p p = none := by unfold del; rw [if_pos rfl]
theorem del_sub {F : Hp} {p : Addr} : Sub (del F p) F := fun b o e => by
  by_cases h : b = p
  · rw [h, del_same] at e; cases e
  · rw [del_ne h] at e; exact e
inductive Sel (p : Addr) (d : D) : List (Addr × D) → List (Addr × D) → Prop
  | hd {O : List (Addr × D)} : Sel p d ((p, d) :: O) O
  | tl {O O' : List (Addr × D)} {x : Addr × D} (h : Sel p d O O') : Sel p d (x :: O) (x :: O')
theorem Sel.mem {p : Addr} {d : D} (h : Sel p d O O') : (p, d) ∈ O := by
  induction h with
  | hd => exact List.mem_cons_self
  | tl _ ih => exact List.mem_cons_of_mem _ ih
theorem Sel.sub {p : Addr} {d : D} (h : Sel p d O O') : List.Sublist O' O := by
  induction h with
  | hd => exact List.sublist_cons_self _ _
  | tl _ ih => exact ih.cons_cons _
theorem Sel.ne {p : Addr} {d : D} (h : Sel p d O O') (n : (O.map (·.1)).Nodup) : ∀ x ∈ O', x.1 ≠ p := by
  induction h with
  | hd =>
    intro x hx z
    exact (List.nodup_cons.mp n).1 (List.mem_map.mpr ⟨x, hx, z⟩)
  | tl h ih =>
    obtain ⟨n1, n2⟩ := List.nodup_cons.mp n
    intro x hx
    rcases List.mem_cons.mp hx with e | e
    · rw [e]; intro z
      exact n1 (List.mem_map.mpr ⟨_, h.mem, z.symm⟩)
    · exact ih n2 x e
theorem Cell.is {K : PySem.W.Frag} {C : CT} {G : Hp} {p : Addr} {o : HO} {d : D} (h : Cell K C G o d) (e : G p = some o) : Is K C G (.ref p) d := by
  cases h with
  | lst l t => exact .lst e l t
  | dic n t => exact .dic e n t
  | obj hc t => exact .obj e hc t
/-- one's own thing is handed on: it stays as it is from here on -/
theorem Pt.freeze (h : Pt Z L O H) {p : Addr} {d : D} (u : Sel p d O O') : Pt Z ((.ref p, d) :: L) O' H := by
  obtain ⟨G, F, W, h⟩ := h
  obtain ⟨ho, e1, e2, e3⟩ := h.o _ u.mem
  have e1 : F p = some ho := e1
  have gp : G p = none := (h.gf p).resolve_right (fun z => by rw [z] at e1; cases e1)
  have wp : W p = none := (h.fw p).resolve_left (fun z => by rw [z] at e1; cases e1)
  have sg : Sub G (upd G p ho) := .self gp
  refine ⟨upd G p ho, del F p, W, ⟨h.g0.trans sg, fun b q e => ?_, fun b q e => ?_, del_sub.trans h.f, h.w, fun b => ?_, h.gw.new wp, h.fw.less del_sub, h.r, fun x hx => ?_, fun x hx => ?_, h.nd.sublist (u.sub.map _)⟩⟩
  · have n : b ≠ p := fun z => by rw [z, show Z.F0 p = none from e2] at e; cases e
    rw [del_ne n]; exact h.f0 b q e
  · by_cases z : b = p
    · rw [z, upd_same] at e; rw [z, ← e]; exact h.f _ _ e1
    · rw [upd_ne z] at e; exact h.g b q e
  · by_cases z : b = p
    · right; rw [z, del_same]
    · rw [upd_ne z, del_ne z]; exact h.gf b
  · rcases List.mem_cons.mp hx with e | e
    · rw [e]; exact (e3.mono sg).is upd_same
    · exact (h.l x e).mono sg
  · obtain ⟨h1, h2, h3, h4⟩ := h.o x (u.sub.subset hx)
    exact ⟨h1, by rw [del_ne (u.ne h.nd x hx)]; exact h2, h3, h4.mono sg⟩
end
end Mi

/-! expressions -/
namespace Mi
open Enc (enc)
open PySem L2 PySem.Spec PyProof.Rows
open Cf (Fresh)
section
variable {Z : Zx} {L : List (V × D)} {O : List (Addr × D)} {σ : L2.St} {α β δ γ : Type} [Enc α] [Enc β] [Enc δ]
/-- the expression read as t gives what m says -/
def EV (Z : Zx) (L : List (V × D)) (O : List (Addr × D)) (t : TE) (σ : L2.St) (m : M α) : Prop :=
  ∀ (L1 : List (V × D)) (H : Hp) (post : α → Prop) (px : Exn → Prop) (Q : VK), (∀ x ∈ L, x ∈ L1) → Pt Z L1 O H → HX Z px → m post px →
    (∀ (a : α) (v : V) (H' : Hp), Pt Z ((v, enc a) :: L1) O H' → post a → Q v H') → t σ H Q
/-- a test -/
def ET (Z : Zx) (L : List (V × D)) (O : List (Addr × D)) (t : TT) (σ : L2.St) (m : M Bool) : Prop :=
  ∀ (L1 : List (V × D)) (H : Hp) (post : Bool → Prop) (px : Exn → Prop) (Q : Bool → Hp → Prop), (∀ x ∈ L, x ∈ L1) → Pt Z L1 O H → HX Z px → m post px →
    (∀ (a : Bool) (H' : Hp), Pt Z L1 O H' → post a → Q a H') → t σ H Q
theorem sub_cons {α : Type} {L : List α} {L1 : List α} {x : α} (s : ∀ y ∈ L, y ∈ L1) : ∀ y ∈ L, y ∈ x :: L1 := fun y h => List.mem_cons_of_mem _ (s y h)
theorem sub_refl' {α : Type} {L : List α} : ∀ y ∈ L, y ∈ L := fun _ h => h
theorem Pt.add (h : Pt Z L O H) {v : V} {d : D} (hd : ∀ G, (∀ x ∈ L, Is Z.K Z.C G x.1 x.2) → Is Z.K Z.C G v d) : Pt Z ((v, d) :: L) O H := by
  obtain ⟨G, F, W, h⟩ := h
  exact ⟨G, F, W, { h with l := fun x hx => by rcases List.mem_cons.mp hx with e | e; (· rw [e]; exact hd G h.l); (· exact h.l x e) }⟩
theorem Pt.tail {x : V × D} (h : Pt Z (x :: L) O H) : Pt Z L O H := h.less fun y hy => List.mem_cons_of_mem _ hy
theorem Pt.hd {v : V} {d : D} (h : Pt Z ((v, d) :: L) O H) : Is Z.K Z.C H v d := h.is List.mem_cons_self
theorem Pt.hd2 {x : V × D} {v : V} {d : D} (h : Pt Z (x :: (v, d) :: L) O H) : Is Z.K Z.C H v d := h.is (List.mem_cons_of_mem _ List.mem_cons_self)
theorem EV.less {L' : List (V × D)} {t : TE} {m : M α} (e : EV Z L' O t σ m) (s : ∀ x ∈ L', x ∈ L) : EV Z L O t σ m := fun L1 H post px Q hs hp hx hm k => e L1 H post px Q (fun x h => hs x (s x h)) hp hx hm k
theorem EV.var {i : Nat} {v : V} {a : α} (h : σ[i]? = some (some v)) (m : (v, enc a) ∈ L) : EV Z L O (tVar i) σ (mr a) := fun L1 H post px Q s hp hx hm k =>
  ⟨v, h, k a v H (hp.less fun x hx => by rcases List.mem_cons.mp hx with e | e; (· rw [e]; exact s _ m); (· exact e)) hm⟩
theorem EV.int {i : Int} : EV Z L O (tC (.int i)) σ (mr i) := fun L1 H post px Q s hp hx hm k => k i _ H (hp.add fun G _ => .int i) hm
theorem EV.str {i : Str} : EV Z L O (tC (.str i)) σ (mr i) := fun L1 H post px Q s hp hx hm k => k i _ H (hp.add fun G _ => .str i) hm
theorem EV.bl {i : Bool} : EV Z L O (tC (.bl i)) σ (mr i) := fun L1 H post px Q s hp hx hm k => k i _ H (hp.add fun G _ => .bl i) hm
theorem EV.unit : EV Z L O (tC .non) σ (mr ()) := fun L1 H post px Q s hp hx hm k => k () _ H (hp.add fun G _ => .non) hm
theorem EV.optN : EV Z L O (tC .non) σ (mr (none : Option α)) := fun L1 H post px Q s hp hx hm k => k Option.none _ H (hp.add fun G _ => .non) hm
/-- a thing of another type with the same datum -/
theorem EV.as {t : TE} {m : M α} {m' : M β} (e : EV Z L O t σ m) (h : ∀ post px, m' post px → m (fun a => ∃ b : β, enc b = enc a ∧ post b) px) : EV Z L O t σ m' := fun L1 H post px Q s hp hx hm k =>
  e L1 H _ px Q s hp hx (h post px hm) fun a v H' hp' ⟨b, e1, hb⟩ => k b v H' (e1 ▸ hp') hb
theorem EV.asP {t : TE} {a : α} {b : β} (e : EV Z L O t σ (mr a)) (h : enc b = enc a) : EV Z L O t σ (mr b) := e.as fun post px hm => ⟨b, h, hm⟩
theorem EV.opt {t : TE} {a : α} (e : EV Z L O t σ (mr a)) : EV Z L O t σ (mr (Option.some a)) := e.asP rfl
theorem EV.optM {t : TE} {m : M α} (e : EV Z L O t σ m) : EV Z L O t σ (mb m fun a => mr (Option.some a)) := fun L1 H post px Q s hp hx hm k => e L1 H _ px Q s hp hx hm fun a v H' hp' hb => k (Option.some a) v H' hp' hb
/-- not None -/
def mget {α : Type} : Option α → M α
  | none => mstuck
  | some a => mr a
theorem EV.get {t : TE} {o : Option α} (e : EV Z L O t σ (mr o)) : EV Z L O t σ (mget o) := e.as fun post px hm => by
  cases o with
  | none => exact hm.elim
  | some a => exact ⟨a, rfl, hm⟩
theorem EV.getM {t : TE} {m : M (Option α)} (e : EV Z L O t σ m) : EV Z L O t σ (mb m mget) := fun L1 H post px Q s hp hx hm k => e L1 H _ px Q s hp hx hm fun o v H' hp' hb => by
  cases o with
  | none => exact hb.elim
  | some a => exact k a v H' hp' hb
/-- the datum itself -/
theorem EV.toD {t : TE} {a : α} (e : EV Z L O t σ (mr a)) : EV Z L O t σ (mr (enc a : D)) := e.asP rfl
theorem EV.toDM {t : TE} {m : M α} (e : EV Z L O t σ m) : EV Z L O t σ (mb m fun a => mr (enc a : D)) := fun L1 H post px Q s hp hx hm k => e L1 H _ px Q s hp hx hm fun a v H' hp' hb => k (enc a) v H' hp' hb
/-- an operator on values -/
def Ok2 (Z : Zx) (r : R2) (f : α → β → M δ) : Prop := ∀ (L : List (V × D)) (O : List (Addr × D)) (H : Hp) (a : α) (b : β) (x y : V) (post : δ → Prop) (px : Exn → Prop) (Q : VK),
  Pt Z ((y, enc b) :: (x, enc a) :: L) O H → HX Z px → f a b post px → (∀ (c : δ) (v : V) (H' : Hp), Pt Z ((v, enc c) :: L) O H' → post c → Q v H') → r x y H Q
theorem EV.op2 {r : R2} {f : α → β → M δ} {ta tb : TE} {m1 : M α} {m2 : M β} (o : Ok2 Z r f) (e1 : EV Z L O ta σ m1) (e2 : EV Z L O tb σ m2) : EV Z L O (tOp r ta tb) σ (mb m1 fun a => mb m2 fun b => f a b) := fun L1 H post px Q s hp hx hm k =>
  e1 L1 H _ px _ s hp hx hm fun a x H1 hp1 hm1 => e2 _ H1 _ px _ (sub_cons s) hp1 hx hm1 fun b y H2 hp2 hm2 => o L1 O H2 a b x y post px Q hp2 hx hm2 k
theorem EV.op2P {r : R2} {f : α → β → M δ} {ta tb : TE} {a : α} {b : β} (o : Ok2 Z r f) (e1 : EV Z L O ta σ (mr a)) (e2 : EV Z L O tb σ (mr b)) : EV Z L O (tOp r ta tb) σ (f a b) := EV.op2 o e1 e2
def Ok1 (Z : Zx) (r : V → Hp → VK → Prop) (f : α → M δ) : Prop := ∀ (L : List (V × D)) (O : List (Addr × D)) (H : Hp) (a : α) (x : V) (post : δ → Prop) (px : Exn → Prop) (Q : VK),
  Pt Z ((x, enc a) :: L) O H → HX Z px → f a post px → (∀ (c : δ) (v : V) (H' : Hp), Pt Z ((v, enc c) :: L) O H' → post c → Q v H') → r x H Q
theorem EV.un {r : V → Hp → VK → Prop} {f : α → M δ} {ta : TE} {m1 : M α} (o : Ok1 Z r f) (e1 : EV Z L O ta σ m1) : EV Z L O (tUn r ta) σ (mb m1 f) := fun L1 H post px Q s hp hx hm k =>
  e1 L1 H _ px _ s hp hx hm fun a x H1 hp1 hm1 => o L1 O H1 a x post px Q hp1 hx hm1 k
theorem EV.unP {r : V → Hp → VK → Prop} {f : α → M δ} {ta : TE} {a : α} (o : Ok1 Z r f) (e1 : EV Z L O ta σ (mr a)) : EV Z L O (tUn r ta) σ (f a) := EV.un (m1 := mr a) o e1
/-! ### tests -/
theorem ET.less {L' : List (V × D)} {t : TT} {m : M Bool} (e : ET Z L' O t σ m) (s : ∀ x ∈ L', x ∈ L) : ET Z L O t σ m := fun L1 H post px Q hs hp hx hm k => e L1 H post px Q (fun x h => hs x (s x h)) hp hx hm k
theorem ET.test {t : TE} {m : M Bool} (e : EV Z L O t σ m) : ET Z L O (tTest t) σ m := fun L1 H post px Q s hp hx hm k => e L1 H _ px _ s hp hx hm fun a v H' hp' hb => by
  have h := hp'.hd
  cases h
  exact ⟨a, rfl, k a H' hp'.tail hb⟩
theorem ET.tB {t : TE} {m : M Bool} (e : EV Z L O t σ m) : ET Z L O (tB t) σ m := ET.test e
theorem ET.tru {t : TE} {m : M Bool} (e : EV Z L O t σ m) : ET Z L O (Cf.tTru Z.K t) σ m := fun L1 H post px Q s hp hx hm k => e L1 H _ px _ s hp hx hm fun a v H' hp' hb => by
  have h := hp'.hd
  cases h
  exact ⟨a, rfl, k a H' hp'.tail hb⟩
theorem ET.truI {t : TE} {m : M Int} (e : EV Z L O t σ m) : ET Z L O (Cf.tTru Z.K t) σ (mb m fun a => mr (a != 0)) := fun L1 H post px Q s hp hx hm k => e L1 H _ px _ s hp hx hm fun a v H' hp' hb => by
  have h := hp'.hd
  cases h
  exact ⟨_, rfl, k _ H' hp'.tail hb⟩
def mand (m1 m2 : M Bool) : M Bool := mb m1 fun a => if a = true then m2 else mr false
def mor (m1 m2 : M Bool) : M Bool := mb m1 fun a => if a = true then mr true else m2
theorem ET.and {t u : TT} {m1 m2 : M Bool} (e1 : ET Z L O t σ m1) (e2 : ET Z L O u σ m2) : ET Z L O (tAnd t u) σ (mand m1 m2) := fun L1 H post px Q s hp hx hm k =>
  e1 L1 H _ px _ s hp hx hm fun a H1 hp1 hm1 => by
    cases a with
    | true => rw [if_pos rfl] at hm1 ⊢; exact e2 L1 H1 post px Q s hp1 hx hm1 k
    | false => rw [if_neg (by decide)] at hm1 ⊢; exact k false H1 hp1 hm1
theorem ET.or {t u : TT} {m1 m2 : M Bool} (e1 : ET Z L O t σ m1) (e2 : ET Z L O u σ m2) : ET Z L O (tOr t u) σ (mor m1 m2) := fun L1 H post px Q s hp hx hm k =>
  e1 L1 H _ px _ s hp hx hm fun a H1 hp1 hm1 => by
    cases a with
    | false => rw [if_neg (by decide)] at hm1 ⊢; exact e2 L1 H1 post px Q s hp1 hx hm1 k
    | true => rw [if_pos rfl] at hm1 ⊢; exact k true H1 hp1 hm1
theorem ET.andP {t u : TT} {a b : Bool} (e1 : ET Z L O t σ (mr a)) (e2 : ET Z L O u σ (mr b)) : ET Z L O (tAnd t u) σ (mr (a && b)) := fun L1 H post px Q s hp hx hm k =>
  ET.and e1 e2 L1 H post px Q s hp hx (by
    show (if a = true then mr b else mr false) post px
    cases a with
    | true => exact hm
    | false => exact hm) k
theorem ET.orP {t u : TT} {a b : Bool} (e1 : ET Z L O t σ (mr a)) (e2 : ET Z L O u σ (mr b)) : ET Z L O (tOr t u) σ (mr (a || b)) := fun L1 H post px Q s hp hx hm k =>
  ET.or e1 e2 L1 H post px Q s hp hx (by
    show (if a = true then mr true else mr b) post px
    cases a with
    | true => exact hm
    | false => exact hm) k
theorem ET.notP {t : TT} {a : Bool} (e1 : ET Z L O t σ (mr a)) : ET Z L O (tNot t) σ (mr (!a)) := fun L1 H post px Q s hp hx hm k =>
  e1 L1 H (fun c => post (!c)) px _ s hp hx hm fun a H1 hp1 hm1 => k (!a) H1 hp1 hm1
theorem ET.not {t : TT} {m : M Bool} (e1 : ET Z L O t σ m) : ET Z L O (tNot t) σ (mb m fun a => mr (!a)) := fun L1 H post px Q s hp hx hm k =>
  e1 L1 H _ px _ s hp hx hm fun a H1 hp1 hm1 => k (!a) H1 hp1 hm1
/-! ### tests as values -/
theorem EV.andV {ta tb : TE} {m1 m2 : M Bool} (e1 : EV Z L O ta σ m1) (e2 : EV Z L O tb σ m2) : EV Z L O (tAndV ta tb) σ (mand m1 m2) := fun L1 H post px Q s hp hx hm k =>
  e1 L1 H _ px _ s hp hx hm fun a v H1 hp1 hm1 => by
    have h := hp1.hd
    cases h
    refine ⟨a, rfl, ?_⟩
    cases a with
    | true => rw [if_pos rfl] at hm1 ⊢; exact e2 L1 H1 post px Q s hp1.tail hx hm1 k
    | false => rw [if_neg (by decide)] at hm1 ⊢; exact k false _ H1 hp1 hm1
theorem EV.orV {ta tb : TE} {m1 m2 : M Bool} (e1 : EV Z L O ta σ m1) (e2 : EV Z L O tb σ m2) : EV Z L O (tOrV ta tb) σ (mor m1 m2) := fun L1 H post px Q s hp hx hm k =>
  e1 L1 H _ px _ s hp hx hm fun a v H1 hp1 hm1 => by
    have h := hp1.hd
    cases h
    refine ⟨a, rfl, ?_⟩
    cases a with
    | false => rw [if_neg (by decide)] at hm1 ⊢; exact e2 L1 H1 post px Q s hp1.tail hx hm1 k
    | true => rw [if_pos rfl] at hm1 ⊢; exact k true _ H1 hp1 hm1
theorem EV.andVP {ta tb : TE} {a b : Bool} (e1 : EV Z L O ta σ (mr a)) (e2 : EV Z L O tb σ (mr b)) : EV Z L O (tAndV ta tb) σ (mr (a && b)) := fun L1 H post px Q s hp hx hm k =>
  EV.andV e1 e2 L1 H post px Q s hp hx (by
    show (if a = true then mr b else mr false) post px
    cases a with
    | true => exact hm
    | false => exact hm) k
theorem EV.orVP {ta tb : TE} {a b : Bool} (e1 : EV Z L O ta σ (mr a)) (e2 : EV Z L O tb σ (mr b)) : EV Z L O (tOrV ta tb) σ (mr (a || b)) := fun L1 H post px Q s hp hx hm k =>
  EV.orV e1 e2 L1 H post px Q s hp hx (by
    show (if a = true then mr true else mr b) post px
    cases a with
    | true => exact hm
    | false => exact hm) k
theorem EV.notV {ta : TE} {m1 : M Bool} (e1 : EV Z L O ta σ m1) : EV Z L O (tNotV ta) σ (mb m1 fun a => mr (!a)) := fun L1 H post px Q s hp hx hm k =>
  e1 L1 H _ px _ s hp hx hm fun a v H1 hp1 hm1 => by
    have h := hp1.hd
    cases h
    exact ⟨a, rfl, k (!a) _ H1 (hp1.tail.add fun G _ => .bl _) hm1⟩
theorem EV.notVP {ta : TE} {a : Bool} (e1 : EV Z L O ta σ (mr a)) : EV Z L O (tNotV ta) σ (mr (!a)) := EV.notV e1
theorem EV.ite {t : TT} {ta tb : TE} {m1 : M Bool} {m2 m3 : M α} (e1 : ET Z L O t σ m1) (e2 : EV Z L O ta σ m2) (e3 : EV Z L O tb σ m3) : EV Z L O (tIf t ta tb) σ (mite m1 m2 m3) := fun L1 H post px Q s hp hx hm k =>
  e1 L1 H _ px _ s hp hx hm fun a H1 hp1 hm1 => by
    cases a with
    | true => rw [if_pos rfl] at hm1 ⊢; exact e2 L1 H1 post px Q s hp1 hx hm1 k
    | false => rw [if_neg (by decide)] at hm1 ⊢; exact e3 L1 H1 post px Q s hp1 hx hm1 k
theorem EV.iteP {t : TT} {ta tb : TE} {c : Bool} {a b : α} (e1 : ET Z L O t σ (mr c)) (e2 : EV Z L O ta σ (mr a)) (e3 : EV Z L O tb σ (mr b)) : EV Z L O (tIf t ta tb) σ (mr (if c = true then a else b)) := fun L1 H post px Q s hp hx hm k =>
  EV.ite e1 e2 e3 L1 H post px Q s hp hx (by
    show (if c = true then mr a else mr b) post px
    cases c with
    | true => rw [if_pos rfl]; rw [if_pos rfl] at hm; exact hm
    | false => rw [if_neg (by decide)]; rw [if_neg (by decide)] at hm; exact hm) k
/-! ### arguments -/
/-- arguments without effect -/
def EA (Z : Zx) (L : List (V × D)) (O : List (Addr × D)) (t : TA) (σ : L2.St) (m : M γ) (ds : γ → List D) : Prop :=
  ∀ (L1 : List (V × D)) (H : Hp) (post : γ → Prop) (px : Exn → Prop) (Q : List V → Hp → Prop), (∀ x ∈ L, x ∈ L1) → Pt Z L1 O H → HX Z px → m post px →
    (∀ (g : γ) (vs : List V) (H' : Hp), vs.length = (ds g).length → Pt Z (vs.zip (ds g) ++ L1) O H' → post g → Q vs H') → t σ H Q
theorem EA.nil : EA Z L O tNil σ (mr ()) (fun _ => []) := fun L1 H post px Q s hp hx hm k => k () [] H rfl hp hm
theorem EA.cons {ta : TE} {tr : TA} {m1 : M α} {m2 : M γ} {ds : γ → List D} (e : EV Z L O ta σ m1) (r : EA Z L O tr σ m2 ds) : EA Z L O (tCons ta tr) σ (mb m1 fun a => mb m2 fun g => mr (a, g)) (fun g => enc g.1 :: ds g.2) := fun L1 H post px Q s hp hx hm k =>
  e L1 H _ px _ s hp hx hm fun a v H1 hp1 hm1 => r _ H1 _ px _ (sub_cons s) hp1 hx hm1 fun g vs H2 hl hp2 hm2 => k (a, g) (v :: vs) H2 (by simp [hl]) (hp2.less fun x hx => by
    rcases List.mem_cons.mp hx with e | e
    · rw [e]; exact List.mem_append_right _ List.mem_cons_self
    · rcases List.mem_append.mp e with e | e
      · exact List.mem_append_left _ e
      · exact List.mem_append_right _ (List.mem_cons_of_mem _ e)) hm2
theorem EA.consP {ta : TE} {tr : TA} {a : α} {g : γ} {ds : γ → List D} (e : EV Z L O ta σ (mr a)) (r : EA Z L O tr σ (mr g) ds) : EA Z L O (tCons ta tr) σ (mr (a, g)) (fun g => enc g.1 :: ds g.2) := EA.cons e r
theorem zip_is {K : PySem.W.Frag} {C : CT} {G : Hp} : ∀ {vs : List V} {ds : List D}, vs.length = ds.length → (∀ x ∈ vs.zip ds, Is K C G x.1 x.2) → IsL K C G vs ds
  | [], [], _, _ => .nil
  | v :: vs, d :: ds, h, k => .cons (k (v, d) List.mem_cons_self) (zip_is (by simpa using h) fun x hx => k x (List.mem_cons_of_mem _ hx))
  | [], _ :: _, h, _ => by cases h
  | _ :: _, [], h, _ => by cases h
/-- a written tuple -/
theorem EV.tup {t : TA} {m : M γ} {ds : γ → List D} {f : γ → α} (e : EA Z L O t σ m ds) (hf : ∀ g, enc (f g) = .tup (ds g)) (hl : ∀ g, (ds g).length ≤ 1000) : EV Z L O (tTup t) σ (mb m fun g => mr (f g)) := fun L1 H post px Q s hp hx hm k =>
  e L1 H _ px _ s hp hx hm fun g vs H1 h1 hp1 hm1 => by
    refine ⟨by rw [h1]; exact Cf.size_ok (hl g), fun p np => k (f g) _ _ ?_ hm1⟩
    have q := hp1.new (o := .tup vs) (d := .tup (ds g)) np fun G hG nG => .tup (.inl (.inl upd_same)) (by rw [h1]; exact Nat.le_trans (hl _) (by decide)) (zip_is h1 fun x hx => (hG x (List.mem_append_left _ hx)).mono (.self nG))
    rw [hf g]
    exact q.less fun x hx => by
      rcases List.mem_cons.mp hx with e | e
      · rw [e]; exact List.mem_cons_self
      · exact List.mem_cons_of_mem _ (List.mem_append_right _ e)
theorem EV.tupP {t : TA} {g : γ} {ds : γ → List D} {a : α} (e : EA Z L O t σ (mr g) ds) (hf : enc a = .tup (ds g)) (hl : (ds g).length ≤ 1000) : EV Z L O (tTup t) σ (mr a) := fun L1 H post px Q s hp hx hm k =>
  e L1 H (fun g' => g' = g) px _ s hp hx rfl fun g' vs H1 h1 hp1 hm1 => by
    subst hm1
    refine ⟨by rw [h1]; exact Cf.size_ok hl, fun p np => k a _ _ ?_ hm⟩
    have q := hp1.new (o := .tup vs) (d := .tup (ds g')) np fun G hG nG => .tup (.inl (.inl upd_same)) (by rw [h1]; exact Nat.le_trans hl (by decide)) (zip_is h1 fun x hx => (hG x (List.mem_append_left _ hx)).mono (.self nG))
    rw [hf]
    exact q.less fun x hx => by
      rcases List.mem_cons.mp hx with e | e
      · rw [e]; exact List.mem_cons_self
      · exact List.mem_cons_of_mem _ (List.mem_append_right _ e)
/-- a written list -/
theorem EV.lst {t : TA} {m : M γ} {ds : γ → List D} {f : γ → α} (e : EA Z L O t σ m ds) (hf : ∀ g, enc (f g) = .lst (ds g)) (hl : ∀ g, (ds g).length ≤ 1000) : EV Z L O (tLst t) σ (mb m fun g => mr (f g)) := fun L1 H post px Q s hp hx hm k =>
  e L1 H _ px _ s hp hx hm fun g vs H1 h1 hp1 hm1 => by
    refine ⟨by rw [h1]; exact Cf.size_ok (hl g), fun p np => k (f g) _ _ ?_ hm1⟩
    have q := hp1.new (o := .lst vs) (d := .lst (ds g)) np fun G hG nG => .lst upd_same (by rw [h1]; exact Nat.le_trans (hl _) (by decide)) (zip_is h1 fun x hx => (hG x (List.mem_append_left _ hx)).mono (.self nG))
    rw [hf g]
    exact q.less fun x hx => by
      rcases List.mem_cons.mp hx with e | e
      · rw [e]; exact List.mem_cons_self
      · exact List.mem_cons_of_mem _ (List.mem_append_right _ e)
theorem EV.lstP {t : TA} {g : γ} {ds : γ → List D} {a : α} (e : EA Z L O t σ (mr g) ds) (hf : enc a = .lst (ds g)) (hl : (ds g).length ≤ 1000) : EV Z L O (tLst t) σ (mr a) := fun L1 H post px Q s hp hx hm k =>
  e L1 H (fun g' => g' = g) px _ s hp hx rfl fun g' vs H1 h1 hp1 hm1 => by
    subst hm1
    refine ⟨by rw [h1]; exact Cf.size_ok hl, fun p np => k a _ _ ?_ hm⟩
    have q := hp1.new (o := .lst vs) (d := .lst (ds g')) np fun G hG nG => .lst upd_same (by rw [h1]; exact Nat.le_trans hl (by decide)) (zip_is h1 fun x hx => (hG x (List.mem_append_left _ hx)).mono (.self nG))
    rw [hf]
    exact q.less fun x hx => by
      rcases List.mem_cons.mp hx with e | e
      · rw [e]; exact List.mem_cons_self
      · exact List.mem_cons_of_mem _ (List.mem_append_right _ e)
/-! ### calls -/
/-- a def's promise: what m says; it may raise -/
def Call (K : PySem.W.Frag) (C : CT) (R : Hp → Prop) (L : List (V × D)) (m : M α) (H : Hp) (Q : VK) (E : XK) : Prop :=
  ∃ (G0 F0 : Hp) (post : α → Prop) (px : Exn → Prop), Pt ⟨K, C, R, G0, F0, E⟩ L [] H ∧ m post px ∧ HX ⟨K, C, R, G0, F0, E⟩ px ∧ ∀ (r : α) (v : V) (H' : Hp), Pt ⟨K, C, R, G0, F0, E⟩ [(v, enc r)] [] H' → post r → Q v H'
def ET0 : XK := fun _ _ _ => True
/-- .. of a def that raises nothing -/
def CallN (K : PySem.W.Frag) (C : CT) (R : Hp → Prop) (L : List (V × D)) (m : M α) (H : Hp) (Q : VK) : Prop :=
  ∃ (G0 F0 : Hp) (post : α → Prop) (px : Exn → Prop), Pt ⟨K, C, R, G0, F0, ET0⟩ L [] H ∧ m post px ∧ ∀ (r : α) (v : V) (H' : Hp), Pt ⟨K, C, R, G0, F0, ET0⟩ [(v, enc r)] [] H' → post r → Q v H'
theorem hx0 {K : PySem.W.Frag} {C : CT} {R : Hp → Prop} {G0 F0 : Hp} {px : Exn → Prop} : HX ⟨K, C, R, G0, F0, ET0⟩ px := fun _ _ _ _ _ _ => trivial
/-- it raises nothing here -/
def mno {α : Type} (m : M α) : M α := fun post _ => m post fun _ => False
def R0 : Hp → Prop := fun W => ∀ b, W b = none
def join (A B : Hp) : Hp := fun b => match A b with | some o => some o | none => B b
theorem join_l {A B : Hp} : Sub A (join A B) := fun b o e => by unfold join; rw [e]
theorem join_r {A B : Hp} (d : Dis A B) : Sub B (join A B) := fun b o e => by
  unfold join
  rcases d b with h | h
  · rw [h]; exact e
  · rw [h] at e; cases e
theorem join_sub {A B H : Hp} (a : Sub A H) (b : Sub B H) : Sub (join A B) H := fun c o e => by
  unfold join at e
  cases h : A c with
  | some u => rw [h] at e; cases e; exact a c _ h
  | none => rw [h] at e; exact b c o e
theorem join_dis {A B G : Hp} (a : Dis G A) (b : Dis G B) : Dis G (join A B) := fun c => by
  unfold join
  rcases a c with h | h
  · exact .inl h
  · rw [h]; exact b c
theorem sub_none {A : Hp} : Sub (fun _ => none) A := fun b o e => by cases e
theorem PtS.enter {L1 : List (V × D)} {H G F W : Hp} {ps : List (V × D)} {E : XK} (h : PtS Z (ps ++ L1) O H G F W) : Pt ⟨Z.K, Z.C, R0, G, join F W, E⟩ ps [] H :=
  ⟨G, join F W, fun _ => none, ⟨.refl _, .refl _, h.g, join_sub h.f h.w, sub_none, join_dis h.gf h.gw, fun b => .inr rfl, fun b => .inr rfl, fun b => rfl, fun x hx => h.l x (List.mem_append_left _ hx), (fun x hx => by cases hx), List.nodup_nil⟩⟩
theorem PtS.leaveX {L1 : List (V × D)} {H H' G F W : Hp} {ps : List (V × D)} {E : XK} {c : Value} {d : Option Addr} {e : Exn} (h : PtS Z (ps ++ L1) O H G F W) (q : PtX ⟨Z.K, Z.C, R0, G, join F W, E⟩ H' c d e) : PtX Z H' c d e := by
  obtain ⟨G', F', W', h', q⟩ := q
  exact ⟨G', F, W, ⟨h.g0.trans h'.g0, h.f0, h'.g, (join_l.trans h'.f0).trans h'.f, ((join_r h.fw).trans h'.f0).trans h'.f, (h'.gf.symm.less (join_l.trans h'.f0)).symm, (h'.gf.symm.less ((join_r h.fw).trans h'.f0)).symm, h.fw, h.r, (by intro x hx; cases hx), (by intro x hx; cases hx), List.nodup_nil⟩, q⟩
theorem PtS.leave {L1 : List (V × D)} {H H' G F W : Hp} {ps : List (V × D)} {E : XK} {v : V} {d : D} (h : PtS Z (ps ++ L1) O H G F W) (q : Pt ⟨Z.K, Z.C, R0, G, join F W, E⟩ [(v, d)] [] H') : Pt Z ((v, d) :: L1) O H' := by
  obtain ⟨G', F', W', h'⟩ := q
  refine ⟨G', F, W, ⟨h.g0.trans h'.g0, h.f0, h'.g, (join_l.trans h'.f0).trans h'.f, ((join_r h.fw).trans h'.f0).trans h'.f, (h'.gf.symm.less (join_l.trans h'.f0)).symm, (h'.gf.symm.less ((join_r h.fw).trans h'.f0)).symm, h.fw, h.r, fun x hx => ?_, fun x hx => ?_, h.nd⟩⟩
  · rcases List.mem_cons.mp hx with e | e
    · rw [e]; exact h'.l _ List.mem_cons_self
    · exact (h.l x (List.mem_append_right _ e)).mono h'.g0
  · obtain ⟨ho, e1, e2, e3⟩ := h.o x hx
    exact ⟨ho, e1, e2, e3.mono h'.g0⟩
theorem PtS.leaveW {L1 : List (V × D)} {H H' G F W : Hp} {ps : List (V × D)} {E : XK} {v : V} {d : D} (h : PtS Z (ps ++ L1) O H G F W) (q : Pt ⟨Z.K, Z.C, Z.R, G, F, E⟩ [(v, d)] [] H') : Pt Z ((v, d) :: L1) O H' := by
  obtain ⟨G', F', W', h'⟩ := q
  refine ⟨G', F', W', ⟨h.g0.trans h'.g0, h.f0.trans h'.f0, h'.g, h'.f, h'.w, h'.gf, h'.gw, h'.fw, h'.r, fun x hx => ?_, fun x hx => ?_, h.nd⟩⟩
  · rcases List.mem_cons.mp hx with e | e
    · rw [e]; exact h'.l _ List.mem_cons_self
    · exact (h.l x (List.mem_append_right _ e)).mono h'.g0
  · obtain ⟨ho, e1, e2, e3⟩ := h.o x hx
    exact ⟨ho, h'.f0 _ _ e1, e2, e3.mono h'.g0⟩
section
variable {m : M α} {L1 : List (V × D)} {H : Hp} {post : α → Prop} {px : Exn → Prop} {Q : VK} {ps : List (V × D)}
/-- a call of a def that asks nothing of the world -/
theorem call_x (hp : Pt Z (ps ++ L1) O H) (hx : HX Z px) (hm : m post px) (k : ∀ (a : α) (v : V) (H' : Hp), Pt Z ((v, enc a) :: L1) O H' → post a → Q v H') : Call Z.K Z.C R0 ps m H Q Z.E := by
  obtain ⟨G, F, W, h⟩ := hp
  exact ⟨G, join F W, post, px, h.enter, hm, fun e c d H' q hpx => hx e c d H' (h.leaveX q) hpx, fun r v H' q hr => k r v H' (h.leave q) hr⟩
theorem call_f (hp : Pt Z (ps ++ L1) O H) (hm : mno m post px) (k : ∀ (a : α) (v : V) (H' : Hp), Pt Z ((v, enc a) :: L1) O H' → post a → Q v H') {E : XK} : Call Z.K Z.C R0 ps m H Q E := by
  obtain ⟨G, F, W, h⟩ := hp
  exact ⟨G, join F W, post, _, h.enter, hm, fun e c d H' q hpx => hpx.elim, fun r v H' q hr => k r v H' (h.leave q) hr⟩
theorem call_n (hp : Pt Z (ps ++ L1) O H) (hm : m post px) (k : ∀ (a : α) (v : V) (H' : Hp), Pt Z ((v, enc a) :: L1) O H' → post a → Q v H') : CallN Z.K Z.C R0 ps m H Q := by
  obtain ⟨G, F, W, h⟩ := hp
  exact ⟨G, join F W, post, px, h.enter, hm, fun r v H' q hr => k r v H' (h.leave q) hr⟩
/-- .. of a def that draws -/
theorem call_w (hp : Pt Z (ps ++ L1) O H) (hm : m post px) (k : ∀ (a : α) (v : V) (H' : Hp), Pt Z ((v, enc a) :: L1) O H' → post a → Q v H') : CallN Z.K Z.C Z.R ps m H Q := by
  obtain ⟨G, F, W, h⟩ := hp
  exact ⟨G, F, post, px, ⟨G, F, W, ⟨.refl _, .refl _, h.g, h.f, h.w, h.gf, h.gw, h.fw, h.r, fun x hx => h.l x (List.mem_append_left _ hx), (fun x hx => by cases hx), List.nodup_nil⟩⟩, hm, fun r v H' q hr => k r v H' (h.leaveW q) hr⟩
end
/-- what a call asks, by the kind of the def: n raises nothing, x raises, f raises but not here, w draws -/
theorem EV.callN {sp : Sp} {dvs : List V} {E : XK} {t : TA} {m : M γ} {ds : γ → List D} {f : γ → M α} (e : EA Z L O t σ m ds) (hc : ∀ g vs H Q, vs.length = (ds g).length → CallN Z.K Z.C R0 (vs.zip (ds g)) (f g) H Q → sp (vs ++ dvs) H Q E) : EV Z L O (tCall sp dvs E t) σ (mb m f) := fun L1 H post px Q s hp hx hm k =>
  e L1 H _ px _ s hp hx hm fun g vs H1 h1 hp1 hm1 => hc g vs H1 Q h1 (call_n hp1 hm1 k)
theorem EV.callNP {sp : Sp} {dvs : List V} {E : XK} {t : TA} {g : γ} {ds : γ → List D} {m : M α} (e : EA Z L O t σ (mr g) ds) (hc : ∀ vs H Q, vs.length = (ds g).length → CallN Z.K Z.C R0 (vs.zip (ds g)) m H Q → sp (vs ++ dvs) H Q E) : EV Z L O (tCall sp dvs E t) σ m := fun L1 H post px Q s hp hx hm k =>
  e L1 H (fun g' => g' = g) px _ s hp hx rfl fun g' vs H1 h1 hp1 hm1 => by subst hm1; exact hc vs H1 Q h1 (call_n hp1 hm k)
theorem EV.callX {sp : Sp} {dvs : List V} {t : TA} {m : M γ} {ds : γ → List D} {f : γ → M α} (e : EA Z L O t σ m ds) (hc : ∀ g vs H Q, vs.length = (ds g).length → Call Z.K Z.C R0 (vs.zip (ds g)) (f g) H Q Z.E → sp (vs ++ dvs) H Q Z.E) : EV Z L O (tCall sp dvs Z.E t) σ (mb m f) := fun L1 H post px Q s hp hx hm k =>
  e L1 H _ px _ s hp hx hm fun g vs H1 h1 hp1 hm1 => hc g vs H1 Q h1 (call_x hp1 hx hm1 k)
theorem EV.callXP {sp : Sp} {dvs : List V} {t : TA} {g : γ} {ds : γ → List D} {m : M α} (e : EA Z L O t σ (mr g) ds) (hc : ∀ vs H Q, vs.length = (ds g).length → Call Z.K Z.C R0 (vs.zip (ds g)) m H Q Z.E → sp (vs ++ dvs) H Q Z.E) : EV Z L O (tCall sp dvs Z.E t) σ m := fun L1 H post px Q s hp hx hm k =>
  e L1 H (fun g' => g' = g) px _ s hp hx rfl fun g' vs H1 h1 hp1 hm1 => by subst hm1; exact hc vs H1 Q h1 (call_x hp1 hx hm k)
theorem EV.callS {sp : Sp} {E : L2.St → XK} {t : TA} {m : M γ} {ds : γ → List D} {f : γ → M α} (hE : E σ = Z.E) (e : EA Z L O t σ m ds) (hc : ∀ g vs H Q, vs.length = (ds g).length → Call Z.K Z.C R0 (vs.zip (ds g)) (f g) H Q Z.E → sp vs H Q Z.E) : EV Z L O (tCallS sp E t) σ (mb m f) := fun L1 H post px Q s hp hx hm k =>
  e L1 H _ px _ s hp hx hm fun g vs H1 h1 hp1 hm1 => by rw [hE]; exact hc g vs H1 Q h1 (call_x hp1 hx hm1 k)
theorem EV.callSP {sp : Sp} {E : L2.St → XK} {t : TA} {g : γ} {ds : γ → List D} {m : M α} (hE : E σ = Z.E) (e : EA Z L O t σ (mr g) ds) (hc : ∀ vs H Q, vs.length = (ds g).length → Call Z.K Z.C R0 (vs.zip (ds g)) m H Q Z.E → sp vs H Q Z.E) : EV Z L O (tCallS sp E t) σ m := fun L1 H post px Q s hp hx hm k =>
  e L1 H (fun g' => g' = g) px _ s hp hx rfl fun g' vs H1 h1 hp1 hm1 => by subst hm1; rw [hE]; exact hc vs H1 Q h1 (call_x hp1 hx hm k)
theorem EV.callF {sp : Sp} {dvs : List V} {E : XK} {t : TA} {m : M γ} {ds : γ → List D} {f : γ → M α} (e : EA Z L O t σ m ds) (hc : ∀ g vs H Q, vs.length = (ds g).length → Call Z.K Z.C R0 (vs.zip (ds g)) (f g) H Q E → sp (vs ++ dvs) H Q E) : EV Z L O (tCall sp dvs E t) σ (mb m fun g => mno (f g)) := fun L1 H post px Q s hp hx hm k =>
  e L1 H _ px _ s hp hx hm fun g vs H1 h1 hp1 hm1 => hc g vs H1 Q h1 (call_f (px := px) hp1 hm1 k)
theorem EV.callFP {sp : Sp} {dvs : List V} {E : XK} {t : TA} {g : γ} {ds : γ → List D} {m : M α} (e : EA Z L O t σ (mr g) ds) (hc : ∀ vs H Q, vs.length = (ds g).length → Call Z.K Z.C R0 (vs.zip (ds g)) m H Q E → sp (vs ++ dvs) H Q E) : EV Z L O (tCall sp dvs E t) σ (mno m) := fun L1 H post px Q s hp hx hm k =>
  e L1 H (fun g' => g' = g) px _ s hp hx rfl fun g' vs H1 h1 hp1 hm1 => by subst hm1; exact hc vs H1 Q h1 (call_f (px := px) hp1 hm k)
/-- the first argument is the state -/
theorem EV.callW {sp : Sp} {dvs : List V} {E : XK} {t : TA} {m : M γ} {ds : γ → List D} {f : γ → M α} {i : Nat} {p : Addr} (hi : σ[i]? = some (some (.ref p))) (e : EA Z L O t σ m ds) (hc : ∀ g vs H Q, vs.length = (ds g).length → CallN Z.K Z.C Z.R (vs.zip (ds g)) (f g) H Q → sp (.ref p :: vs ++ dvs) H Q E) : EV Z L O (tCall sp dvs E (tCons (tVar i) t)) σ (mb m f) := fun L1 H post px Q s hp hx hm k =>
  ⟨_, hi, e L1 H _ px _ s hp hx hm fun g vs H1 h1 hp1 hm1 => hc g vs H1 Q h1 (call_w hp1 hm1 k)⟩
theorem EV.callWP {sp : Sp} {dvs : List V} {E : XK} {t : TA} {g : γ} {ds : γ → List D} {m : M α} {i : Nat} {p : Addr} (hi : σ[i]? = some (some (.ref p))) (e : EA Z L O t σ (mr g) ds) (hc : ∀ vs H Q, vs.length = (ds g).length → CallN Z.K Z.C Z.R (vs.zip (ds g)) m H Q → sp (.ref p :: vs ++ dvs) H Q E) : EV Z L O (tCall sp dvs E (tCons (tVar i) t)) σ m := fun L1 H post px Q s hp hx hm k =>
  ⟨_, hi, e L1 H (fun g' => g' = g) px _ s hp hx rfl fun g' vs H1 h1 hp1 hm1 => by subst hm1; exact hc vs H1 Q h1 (call_w hp1 hm k)⟩
end
end Mi

/-! operators, subscripts, fields -/
namespace Mi
open Enc (enc)
open PySem L2 PySem.Spec PyProof.Rows
open Cf (Fresh rPlus rTimes rEqq rNeq rInn rNotInn rIxx rIsN rNotN rInt rListOf rTupOf)
section
variable {Z : Zx} {L : List (V × D)} {O : List (Addr × D)} {σ : L2.St} {α β γ δ : Type} [Enc α] [Enc β] [Enc γ] [Enc δ]
variable {G : Hp} {K : PySem.W.Frag} {C : CT} {v : V}
theorem is_int {i : Int} (h : Is K C G v (enc i)) : v = .int i := by cases h; rfl
theorem is_str {i : Str} (h : Is K C G v (enc i)) : v = .str i := by cases h; rfl
theorem is_bl {i : Bool} (h : Is K C G v (enc i)) : v = .bl i := by cases h; rfl
theorem is_lst {ds : List D} (h : Is K C G v (.lst ds)) : ∃ a xs, v = .ref a ∧ G a = some (.lst xs) ∧ xs.length ≤ 1000000 ∧ IsL K C G xs ds := by
  cases h with
  | lst h l t => exact ⟨_, _, rfl, h, l, t⟩
theorem is_tup {ds : List D} (h : Is K C G v (.tup ds)) : ∃ a xs, v = .ref a ∧ SqT K G a xs ∧ xs.length ≤ 1000000 ∧ IsL K C G xs ds := by
  cases h with
  | tup h l t => exact ⟨_, _, rfl, h, l, t⟩
theorem is_obj {c : Str} {ns : List Str} {ds : List D} (h : Is K C G v (.obj c ns ds)) : ∃ a A dx fs, v = .ref a ∧ G a = some (.ins A dx fs) ∧ C c = some A ∧ fs.map (·.1) = ns ∧ IsL K C G (fs.map (·.2)) ds := by
  cases h with
  | obj h hc t => exact ⟨_, _, _, _, rfl, h, hc, rfl, t⟩
theorem PtS.sub {L' : List (V × D)} {H G F W : Hp} (h : PtS Z L O H G F W) (s : ∀ x ∈ L', x ∈ L) : PtS Z L' O H G F W := { h with l := fun x hx => h.l x (s x hx) }
theorem PtS.t1 {x : V × D} {H G F W : Hp} (h : PtS Z (x :: L) O H G F W) : PtS Z L O H G F W := h.sub fun y hy => List.mem_cons_of_mem _ hy
theorem PtS.t2 {x y : V × D} {H G F W : Hp} (h : PtS Z (x :: y :: L) O H G F W) : PtS Z L O H G F W := h.t1.t1
theorem PtS.add {H G F W : Hp} (h : PtS Z L O H G F W) {v : V} {d : D} (hd : Is Z.K Z.C G v d) : Pt Z ((v, d) :: L) O H :=
  ⟨G, F, W, { h with l := fun x hx => by rcases List.mem_cons.mp hx with e | e; (· rw [e]; exact hd); (· exact h.l x e) }⟩
theorem PtS.new {H G F W : Hp} (h : PtS Z L O H G F W) {p : Addr} {o : HO} {d : D} (hp : Fresh H p) (hd : Is Z.K Z.C (upd G p o) (.ref p) d) : Pt Z ((.ref p, d) :: L) O (upd H p o) := by
  have hG := h.g.free hp
  refine ⟨upd G p o, F, W, ⟨h.g0.trans (.self hG), h.f0, h.g.upd, h.f.new hp, h.w.new hp, h.gf.new (h.f.free hp), h.gw.new (h.w.free hp), h.fw, h.r, fun x hx => ?_, fun x hx => ?_, h.nd⟩⟩
  · rcases List.mem_cons.mp hx with e | e
    · rw [e]; exact hd
    · exact (h.l x e).mono (.self hG)
  · obtain ⟨ho, e1, e2, e3⟩ := h.o x hx
    exact ⟨ho, e1, e2, e3.mono (.self hG)⟩
theorem PtS.x0 {x : V} {d : D} {H G F W : Hp} (h : PtS Z ((x, d) :: L) O H G F W) : Is Z.K Z.C G x d := h.l _ List.mem_cons_self
theorem PtS.x1 {x : V} {d : D} {z : V × D} {H G F W : Hp} (h : PtS Z (z :: (x, d) :: L) O H G F W) : Is Z.K Z.C G x d := h.l _ (List.mem_cons_of_mem _ List.mem_cons_self)
theorem PtS.pt {H G F W : Hp} (h : PtS Z L O H G F W) : Pt Z L O H := ⟨G, F, W, h⟩
theorem le_size {n : Nat} (h : n ≤ 1000000) : n ≤ sizeLine := by rw [sizeLine_eq]; omega
theorem Pt.get1 {x : V} {d : D} {H : Hp} (h : Pt Z ((x, d) :: L) O H) : ∃ G, (∀ y ∈ L, Is Z.K Z.C G y.1 y.2) ∧ Is Z.K Z.C G x d ∧ Sub G H := by
  obtain ⟨G, F, W, h⟩ := h
  exact ⟨G, fun y hy => h.l y (List.mem_cons_of_mem _ hy), h.l _ List.mem_cons_self, h.g⟩
/-! ### numbers, texts -/
theorem ok_addI : Ok2 Z rPlus (fun a b : Int => mr (a + b)) := fun L O H a b x y post px Q hp hx hm k => by
  obtain rfl := is_int hp.hd
  obtain rfl := is_int hp.hd2
  exact .inl ⟨a, b, rfl, rfl, k _ _ H (hp.tail.tail.add fun G _ => .int _) hm⟩
def maddS (a b : Str) : M Str := mreq (a.length + b.length ≤ sizeLine) (mr (a ++ b))
theorem ok_addS : Ok2 Z rPlus maddS := fun L O H a b x y post px Q hp hx hm k => by
  obtain rfl := is_str hp.hd
  obtain rfl := is_str hp.hd2
  exact .inr (.inl ⟨a, b, rfl, rfl, hm.1, k _ _ H (hp.tail.tail.add fun G _ => .str _) hm.2⟩)
def maddL {α : Type} (a b : List α) : M (List α) := mreq (a.length + b.length ≤ 1000000) (mr (a ++ b))
theorem ok_addL : Ok2 Z rPlus (maddL (α := α)) := fun L O H a b x y post px Q hp hx hm k => by
  obtain ⟨G, F, W, h⟩ := hp
  obtain ⟨q, ys, rfl, e1, l1, t1⟩ := is_lst h.x0
  obtain ⟨p, xs, rfl, e2, l2, t2⟩ := is_lst h.x1
  have n1 := t1.len
  have n2 := t2.len
  rw [List.length_map] at n1 n2
  have hl : (xs ++ ys).length ≤ 1000000 := by rw [List.length_append, n1, n2]; exact hm.1
  refine .inr (.inr ⟨p, q, xs, ys, rfl, rfl, h.g _ _ e2, h.g _ _ e1, by rw [n1, n2]; exact le_size hm.1, fun r hr => k (a ++ b) _ _ (h.t2.new hr (.lst upd_same hl ?_)) hm.2⟩)
  rw [List.map_append]
  exact (t2.app t1).mono (.self (h.g.free hr))
theorem ok_subI : Ok2 Z (rI0 fun i j => .int (i - j)) (fun a b : Int => mr (a - b)) := fun L O H a b x y post px Q hp hx hm k => by
  obtain rfl := is_int hp.hd
  obtain rfl := is_int hp.hd2
  exact ⟨a, b, rfl, rfl, k _ _ H (hp.tail.tail.add fun G _ => .int _) hm⟩
def mmulI (a b : Int) : M Int := mreq (CMul a b) (mr (a * b))
theorem ok_mulI : Ok2 Z rTimes mmulI := fun L O H a b x y post px Q hp hx hm k => by
  obtain rfl := is_int hp.hd
  obtain rfl := is_int hp.hd2
  exact .inl ⟨a, b, rfl, rfl, hm.1, k _ _ H (hp.tail.tail.add fun G _ => .int _) hm.2⟩
theorem ok_rI {Co : Int → Int → Prop} {g : Int → Int → Int} : Ok2 Z (rI Co fun i j => .int (g i j)) (fun a b => mreq (Co a b) (mr (g a b))) := fun L O H a b x y post px Q hp hx hm k => by
  obtain rfl := is_int hp.hd
  obtain rfl := is_int hp.hd2
  exact ⟨a, b, rfl, rfl, hm.1, k _ _ H (hp.tail.tail.add fun G _ => .int _) hm.2⟩
def mmodI (a b : Int) : M Int := mreq (0 < b) (mr (a % b))
theorem ok_modI : Ok2 Z (rI (fun _ j => 0 < j) fun i j => .int (i % j)) mmodI := ok_rI
def mdivI (a b : Int) : M Int := mreq (CDivW a b) (mr (a / b))
theorem ok_divI : Ok2 Z (rI CDivW fun i j => .int (i / j)) mdivI := ok_rI
theorem ok_negI : Ok1 Z (rU fun i => .int (-i)) (fun a : Int => mr (-a)) := fun L O H a x post px Q hp hx hm k => by
  obtain rfl := is_int hp.hd
  exact ⟨a, rfl, k _ _ H (hp.tail.add fun G _ => .int _) hm⟩
theorem ok_cmp {g : Int → Int → Bool} : Ok2 Z (rI0 fun i j => .bl (g i j)) (fun a b : Int => mr (g a b)) := fun L O H a b x y post px Q hp hx hm k => by
  obtain rfl := is_int hp.hd
  obtain rfl := is_int hp.hd2
  exact ⟨a, b, rfl, rfl, k _ _ H (hp.tail.tail.add fun G _ => .bl _) hm⟩
theorem ok_lt : Ok2 Z (rI0 fun i j => .bl (decide (i < j))) (fun a b : Int => mr (decide (a < b))) := ok_cmp
theorem ok_le : Ok2 Z (rI0 fun i j => .bl (decide (i ≤ j))) (fun a b : Int => mr (decide (a ≤ b))) := ok_cmp
theorem ok_gt : Ok2 Z (rI0 fun i j => .bl (decide (j < i))) (fun a b : Int => mr (decide (b < a))) := ok_cmp
theorem ok_ge : Ok2 Z (rI0 fun i j => .bl (decide (j ≤ i))) (fun a b : Int => mr (decide (b ≤ a))) := ok_cmp
/-- values that == compares at once -/
class Scal (α : Type) [Enc α] where
  dec : DecidableEq α
  eq : ∀ {K : PySem.W.Frag} {C : CT} {G : Hp} {a b : α} {x y : V}, Is K C G x (enc a) → Is K C G y (enc b) → scal x y = true ∧ (x = y ↔ a = b)
instance : Scal Int := ⟨inferInstance, fun h h' => by rw [is_int h, is_int h']; exact ⟨rfl, by simp⟩⟩
instance : Scal Str := ⟨inferInstance, fun h h' => by rw [is_str h, is_str h']; exact ⟨rfl, by simp⟩⟩
instance : Scal Bool := ⟨inferInstance, fun h h' => by rw [is_bl h, is_bl h']; exact ⟨rfl, by simp⟩⟩
instance : Scal (Option Int) := ⟨inferInstance, fun {K C G a b x y} h h' => by
  cases a <;> cases b
  · cases h; cases h'; exact ⟨rfl, by simp⟩
  · cases h; rw [is_int h']; exact ⟨rfl, by simp⟩
  · cases h'; rw [is_int h]; exact ⟨rfl, by simp⟩
  · rw [is_int h, is_int h']; exact ⟨rfl, by simp⟩⟩
instance : Scal (Option Str) := ⟨inferInstance, fun {K C G a b x y} h h' => by
  cases a <;> cases b
  · cases h; cases h'; exact ⟨rfl, by simp⟩
  · cases h; rw [is_str h']; exact ⟨rfl, by simp⟩
  · cases h'; rw [is_str h]; exact ⟨rfl, by simp⟩
  · rw [is_str h, is_str h']; exact ⟨rfl, by simp⟩⟩
instance instDecScal {α : Type} [Enc α] [s : Scal α] : DecidableEq α := s.dec
def meq {α : Type} [DecidableEq α] (a b : α) : Bool := decide (a = b)
theorem ok_eqS [DecidableEq α] [s : Scal α] : Ok2 Z (rEqq Z.K) (fun a b : α => mr (decide (a = b))) := fun L O H a b x y post px Q hp hx hm k => by
  obtain ⟨e1, e2⟩ := s.eq hp.hd2 hp.hd
  refine .inl ⟨e1, ?_⟩
  have e : decide (x = y) = decide (a = b) := by simp only [e2]
  rw [e]
  exact k _ _ H (hp.tail.tail.add fun G _ => .bl _) hm
theorem ok_neS [DecidableEq α] [s : Scal α] : Ok2 Z (rNeq Z.K) (fun a b : α => mr (!decide (a = b))) := fun L O H a b x y post px Q hp hx hm k => by
  obtain ⟨e1, e2⟩ := s.eq hp.hd2 hp.hd
  refine .inl ⟨e1, ?_⟩
  have e : decide (x = y) = decide (a = b) := by simp only [e2]
  rw [e]
  exact k _ _ H (hp.tail.tail.add fun G _ => .bl _) hm
/-! ### None -/
class NotNon (α : Type) [Enc α] where
  ne : ∀ a : α, enc a ≠ D.non
instance : NotNon Int := ⟨fun a h => by cases h⟩
instance : NotNon Bool := ⟨fun a h => by cases h⟩
instance : NotNon Str := ⟨fun a h => by cases h⟩
instance {α : Type} [Enc α] : NotNon (List α) := ⟨fun a h => by cases h⟩
instance {α : Type} [Enc α] : NotNon (Tp α) := ⟨fun a h => by cases h⟩
instance {α β : Type} [Enc α] [Enc β] : NotNon (α × β) := ⟨fun a h => by cases h⟩
instance {α β γ : Type} [Enc α] [Enc β] [Enc γ] : NotNon (T3 α β γ) := ⟨fun a h => by cases h⟩
theorem is_non {d : D} (h : Is K C G v d) : v = .non ↔ d = .non := by
  cases h <;> simp
theorem dec_non {d : D} {b : Bool} (h : Is K C G v d) (hb : d = .non ↔ b = true) : decide (v = .non) = b := by
  rw [Bool.eq_iff_iff, decide_eq_true_iff, is_non h, hb]
theorem enc_none [n : NotNon α] (a : Option α) : enc a = D.non ↔ a.isNone = true := by
  cases a with
  | none => exact ⟨fun _ => rfl, fun _ => rfl⟩
  | some a => exact ⟨fun h => absurd h (n.ne a), fun h => by cases h⟩
theorem ok_isN [n : NotNon α] : Ok2 Z Cf.rIsN (fun (a : Option α) (_ : Unit) => mr a.isNone) := fun L O H a b x y post px Q hp hx hm k => by
  have h2 := hp.hd
  cases h2
  refine ⟨rfl, ?_⟩
  rw [dec_non hp.hd2 (enc_none a)]
  exact k _ _ H (hp.tail.tail.add fun G _ => .bl _) hm
theorem ok_notN [n : NotNon α] : Ok2 Z Cf.rNotN (fun (a : Option α) (_ : Unit) => mr a.isSome) := fun L O H a b x y post px Q hp hx hm k => by
  have h2 := hp.hd
  cases h2
  refine ⟨rfl, ?_⟩
  rw [dec_non hp.hd2 (enc_none a), show (!a.isNone) = a.isSome by cases a <;> rfl]
  exact k _ _ H (hp.tail.tail.add fun G _ => .bl _) hm
/-- a thing that is never None -/
theorem ok_isNn [n : NotNon α] : Ok2 Z Cf.rIsN (fun (a : α) (_ : Unit) => mr false) := fun L O H a b x y post px Q hp hx hm k => by
  have h2 := hp.hd
  cases h2
  refine ⟨rfl, ?_⟩
  rw [dec_non (b := false) hp.hd2 ⟨fun z => absurd z (n.ne a), fun z => by cases z⟩]
  exact k _ _ H (hp.tail.tail.add fun G _ => .bl _) hm
/-! ### subscripts -/
def mix {α : Type} (xs : List α) (i : Int) : M α := match atI xs i with
  | some a => mr a
  | none => mstuck
theorem atI_isL {xs : List V} {ds : List D} {i : Int} {d : D} (t : IsL K C G xs ds) (h : atI ds i = some d) : ∃ v, atI xs i = some v ∧ Is K C G v d := by
  unfold atI at h ⊢
  rw [t.len]
  cases e : ixN ds.length i with
  | none => rw [e] at h; cases h
  | some j => rw [e] at h; exact t.get' h
theorem atI_map {α β : Type} {f : α → β} {xs : List α} {i : Int} : atI (xs.map f) i = (atI xs i).map f := by
  unfold atI
  rw [List.length_map]
  cases ixN xs.length i with
  | none => rfl
  | some j => show (xs.map f)[j]? = _; rw [List.getElem?_map]; rfl
theorem ok_ixL : Ok2 Z (rIxx Z.K) (fun (a : List α) (i : Int) => mix a i) := fun L O H a b x y post px Q hp hx hm k => by
  obtain ⟨G, F, W, h⟩ := hp
  obtain rfl := is_int h.x0
  obtain ⟨p, xs, rfl, e, l, t⟩ := is_lst h.x1
  have hm : mix a b post px := hm
  unfold mix at hm
  cases q : atI a b with
  | none => rw [q] at hm; exact hm.elim
  | some c =>
    rw [q] at hm
    obtain ⟨v, e1, e2⟩ := atI_isL (d := enc c) t (by rw [atI_map, q]; rfl)
    exact .inl (.inl ⟨p, xs, b, v, rfl, rfl, .inl (.inl (h.g _ _ e)), e1, k c v H (h.t2.add e2) hm⟩)
theorem ok_ixT : Ok2 Z (rIxx Z.K) (fun (a : Tp α) (i : Int) => mix a.l i) := fun L O H a b x y post px Q hp hx hm k => by
  obtain ⟨G, F, W, h⟩ := hp
  obtain rfl := is_int h.x0
  obtain ⟨p, xs, rfl, e, l, t⟩ := is_tup h.x1
  have hm : mix a.l b post px := hm
  unfold mix at hm
  cases q : atI a.l b with
  | none => rw [q] at hm; exact hm.elim
  | some c =>
    rw [q] at hm
    obtain ⟨v, e1, e2⟩ := atI_isL (d := enc c) t (by rw [atI_map, q]; rfl)
    exact .inl (.inr (.inl ⟨p, xs, b, v, rfl, rfl, sqT_mono h.g e, e1, k c v H (h.t2.add e2) hm⟩))
/-- the i-th sign -/
def mixS (z : Str) (i : Int) : M Str := mreq (z.length ≤ sizeLine) (match atI z.cps.toList i with
  | some c => mr (⟨#[c]⟩ : Str)
  | none => mstuck)
theorem ok_ixS : Ok2 Z (rIxx Z.K) mixS := fun L O H a b x y post px Q hp hx hm k => by
  obtain rfl := is_int hp.hd
  obtain rfl := is_str hp.hd2
  obtain ⟨hl, hm⟩ := hm
  cases q : atI a.cps.toList b with
  | none => rw [q] at hm; exact hm.elim
  | some c =>
    rw [q] at hm
    exact .inl (.inr (.inr ⟨a, b, c, rfl, rfl, hl, q, k _ _ H (hp.tail.tail.add fun G _ => .str _) hm⟩))
/-- a part of a written tuple or list, at a written place -/
theorem EV.proj {ta : TE} {i : Int} {m : M α} (e : EV Z L O ta σ m) (f : α → β) (h : ∀ a, ∃ ds, (enc a = .tup ds ∨ enc a = .lst ds) ∧ atI ds i = Option.some (enc (f a))) : EV Z L O (tOp (rIxx Z.K) ta (tC (.int i))) σ (mb m fun a => mr (f a)) := fun L1 H post px Q s hp hx hm k =>
  e L1 H _ px _ s hp hx hm fun a x H1 hp1 hm1 => by
    obtain ⟨G, F, W, h1⟩ := hp1
    obtain ⟨ds, hd | hd, ha⟩ := h a
    · obtain ⟨p, xs, rfl, e, l, t⟩ := is_tup (hd ▸ h1.x0)
      obtain ⟨v, e1, e2⟩ := atI_isL t ha
      exact .inl (.inr (.inl ⟨p, xs, i, v, rfl, rfl, sqT_mono h1.g e, e1, k _ v H1 (h1.t1.add e2) hm1⟩))
    · obtain ⟨p, xs, rfl, e, l, t⟩ := is_lst (hd ▸ h1.x0)
      obtain ⟨v, e1, e2⟩ := atI_isL t ha
      exact .inl (.inl ⟨p, xs, i, v, rfl, rfl, .inl (.inl (h1.g _ _ e)), e1, k _ v H1 (h1.t1.add e2) hm1⟩)
theorem EV.projP {ta : TE} {i : Int} {a : α} {b : β} (e : EV Z L O ta σ (mr a)) (h : ∃ ds, (enc a = .tup ds ∨ enc a = .lst ds) ∧ atI ds i = Option.some (enc b)) : EV Z L O (tOp (rIxx Z.K) ta (tC (.int i))) σ (mr b) := fun L1 H post px Q s hp hx hm k =>
  e L1 H (fun a' => a' = a) px _ s hp hx rfl fun a' x H1 hp1 hm1 => by
    subst hm1
    obtain ⟨G, F, W, h1⟩ := hp1
    obtain ⟨ds, hd | hd, ha⟩ := h
    · obtain ⟨p, xs, rfl, e, l, t⟩ := is_tup (hd ▸ h1.x0)
      obtain ⟨v, e1, e2⟩ := atI_isL t ha
      exact .inl (.inr (.inl ⟨p, xs, i, v, rfl, rfl, sqT_mono h1.g e, e1, k _ v H1 (h1.t1.add e2) hm⟩))
    · obtain ⟨p, xs, rfl, e, l, t⟩ := is_lst (hd ▸ h1.x0)
      obtain ⟨v, e1, e2⟩ := atI_isL t ha
      exact .inl (.inl ⟨p, xs, i, v, rfl, rfl, .inl (.inl (h1.g _ _ e)), e1, k _ v H1 (h1.t1.add e2) hm⟩)
/-! ### slices -/
def cutL {α : Type} (xs : List α) (lo hi : Option Int) : List α := (xs.drop (HT.sIx xs.length 0 lo)).take (HT.sIx xs.length xs.length hi - HT.sIx xs.length 0 lo)
def EO (Z : Zx) (L : List (V × D)) (O : List (Addr × D)) (t : TO) (σ : L2.St) (m : M (Option Int)) : Prop :=
  ∀ (L1 : List (V × D)) (H : Hp) (post : Option Int → Prop) (px : Exn → Prop) (Q : Option Int → Hp → Prop), (∀ x ∈ L, x ∈ L1) → Pt Z L1 O H → HX Z px → m post px →
    (∀ (a : Option Int) (H' : Hp), Pt Z L1 O H' → post a → Q a H') → t σ H Q
theorem EO.none : EO Z L O tNoPart σ (mr Option.none) := fun L1 H post px Q s hp hx hm k => k _ H hp hm
theorem EO.some {t : TE} {m : M Int} (e : EV Z L O t σ m) : EO Z L O (tPart t) σ (mb m fun i => mr (Option.some i)) := fun L1 H post px Q s hp hx hm k =>
  e L1 H _ px _ s hp hx hm fun a v H' hp' hb => by
    obtain rfl := is_int hp'.hd
    exact ⟨a, rfl, k _ H' hp'.tail hb⟩
theorem EO.someP {t : TE} {i : Int} (e : EV Z L O t σ (mr i)) : EO Z L O (tPart t) σ (mr (Option.some i)) := EO.some e
theorem EV.slL {te : TE} {tl th : TO} {m : M (List α)} {ml mh : M (Option Int)} (e : EV Z L O te σ m) (el : EO Z L O tl σ ml) (eh : EO Z L O th σ mh) : EV Z L O (tSl (rSlL Z.K) te tl th) σ (mb m fun a => mb ml fun l => mb mh fun h => mr (cutL a l h)) := fun L1 H post px Q s hp hx hm k =>
  e L1 H _ px _ s hp hx hm fun a x H1 hp1 hm1 => el _ H1 _ px _ (sub_cons s) hp1 hx hm1 fun lo H2 hp2 hm2 => eh _ H2 _ px _ (sub_cons s) hp2 hx hm2 fun hi H3 hp3 hm3 => by
    obtain ⟨G, F, W, h⟩ := hp3
    obtain ⟨p, xs, rfl, e, l, t⟩ := is_lst h.x0
    have n := t.len
    rw [List.length_map] at n
    refine ⟨p, xs, rfl, .inl (.inl (h.g _ _ e)), fun q hq => k _ _ _ (h.t1.new hq (.lst upd_same ?_ ?_)) hm3⟩
    · unfold cutV
      rw [List.length_take, List.length_drop]
      omega
    · unfold cutV cutL
      rw [List.map_take, List.map_drop, n]
      exact ((t.drop _).take _).mono (.self (h.g.free hq))
theorem EV.slLP {te : TE} {tl th : TO} {a : List α} {l h : Option Int} (e : EV Z L O te σ (mr a)) (el : EO Z L O tl σ (mr l)) (eh : EO Z L O th σ (mr h)) : EV Z L O (tSl (rSlL Z.K) te tl th) σ (mr (cutL a l h)) := EV.slL e el eh
theorem EV.slS {te : TE} {tl th : TO} {m : M Str} {ml mh : M (Option Int)} (e : EV Z L O te σ m) (el : EO Z L O tl σ ml) (eh : EO Z L O th σ mh) : EV Z L O (tSl rSlS te tl th) σ (mb m fun a => mb ml fun l => mb mh fun h => mreq (a.length ≤ sizeLine) (mr (cutS a l h))) := fun L1 H post px Q s hp hx hm k =>
  e L1 H _ px _ s hp hx hm fun a x H1 hp1 hm1 => el _ H1 _ px _ (sub_cons s) hp1 hx hm1 fun lo H2 hp2 hm2 => eh _ H2 _ px _ (sub_cons s) hp2 hx hm2 fun hi H3 hp3 hm3 => by
    obtain rfl := is_str hp3.hd
    exact ⟨a, rfl, hm3.1, k _ _ _ (hp3.tail.add fun G _ => .str _) hm3.2⟩
/-! ### built-ins -/
def OkB (Z : Zx) (r : List V → Hp → VK → Prop) (f : α → M γ) : Prop := Ok1 Z (fun x H Q => r [x] H Q) f
theorem EV.cb1 {r : List V → Hp → VK → Prop} {f : α → M γ} {ta : TE} {m1 : M α} (o : OkB Z r f) (e1 : EV Z L O ta σ m1) : EV Z L O (tCB r (tCons ta tNil)) σ (mb m1 f) := fun L1 H post px Q s hp hx hm k =>
  e1 L1 H _ px _ s hp hx hm fun a x H1 hp1 hm1 => o L1 O H1 a x post px Q hp1 hx hm1 k
theorem EV.cb1P {r : List V → Hp → VK → Prop} {f : α → M γ} {ta : TE} {a : α} (o : OkB Z r f) (e1 : EV Z L O ta σ (mr a)) : EV Z L O (tCB r (tCons ta tNil)) σ (f a) := EV.cb1 (m1 := mr a) o e1
def OkB2 (Z : Zx) (r : List V → Hp → VK → Prop) (f : α → β → M γ) : Prop := Ok2 Z (fun x y H Q => r [x, y] H Q) f
theorem EV.cb2 {r : List V → Hp → VK → Prop} {f : α → β → M γ} {ta tb : TE} {m1 : M α} {m2 : M β} (o : OkB2 Z r f) (e1 : EV Z L O ta σ m1) (e2 : EV Z L O tb σ m2) : EV Z L O (tCB r (tCons ta (tCons tb tNil))) σ (mb m1 fun a => mb m2 fun b => f a b) := fun L1 H post px Q s hp hx hm k =>
  e1 L1 H _ px _ s hp hx hm fun a x H1 hp1 hm1 => e2 _ H1 _ px _ (sub_cons s) hp1 hx hm1 fun b y H2 hp2 hm2 => o L1 O H2 a b x y post px Q hp2 hx hm2 k
theorem EV.cb2P {r : List V → Hp → VK → Prop} {f : α → β → M γ} {ta tb : TE} {a : α} {b : β} (o : OkB2 Z r f) (e1 : EV Z L O ta σ (mr a)) (e2 : EV Z L O tb σ (mr b)) : EV Z L O (tCB r (tCons ta (tCons tb tNil))) σ (f a b) := EV.cb2 (m1 := mr a) (m2 := mr b) o e1 e2
theorem ok_lenL : OkB Z (Cf.rLen Z.K) (fun a : List α => mr (a.length : Int)) := fun L O H a x post px Q hp hx hm k => by
  obtain ⟨G, F, W, h⟩ := hp
  obtain ⟨p, xs, rfl, e, l, t⟩ := is_lst h.x0
  have n := t.len
  rw [List.length_map] at n
  refine .inl ⟨p, xs, rfl, .inl (.inl (.inl (h.g _ _ e))), ?_⟩
  rw [n]
  exact k _ _ H (h.t1.add (.int _)) hm
theorem ok_lenT : OkB Z (Cf.rLen Z.K) (fun a : Tp α => mr (a.l.length : Int)) := fun L O H a x post px Q hp hx hm k => by
  obtain ⟨G, F, W, h⟩ := hp
  obtain ⟨p, xs, rfl, e, l, t⟩ := is_tup h.x0
  have n := t.len
  rw [List.length_map] at n
  refine .inl ⟨p, xs, rfl, .inr (sqT_mono h.g e), ?_⟩
  rw [n]
  exact k _ _ H (h.t1.add (.int _)) hm
def mlenS (a : Str) : M Int := mreq (a.length ≤ sizeLine) (mr (a.length : Int))
theorem ok_lenS : OkB Z (Cf.rLen Z.K) mlenS := fun L O H a x post px Q hp hx hm k => by
  obtain rfl := is_str hp.hd
  exact .inr ⟨a, rfl, hm.1, k _ _ H (hp.tail.add fun G _ => .int _) hm.2⟩
theorem ok_int : OkB Z rInt (fun a : Int => mr a) := fun L O H a x post px Q hp hx hm k => by
  obtain rfl := is_int hp.hd
  exact ⟨a, rfl, k _ _ H (hp.tail.add fun G _ => .int _) hm⟩
theorem ok_listL : OkB Z (rListOf Z.K) (fun a : List α => mr a) := fun L O H a x post px Q hp hx hm k => by
  obtain ⟨G, F, W, h⟩ := hp
  obtain ⟨p, xs, rfl, e, l, t⟩ := is_lst h.x0
  exact ⟨p, xs, rfl, .inl (.inl (.inl (h.g _ _ e))), fun q hq => k a _ _ (h.t1.new hq (.lst upd_same l (t.mono (.self (h.g.free hq))))) hm⟩
theorem ok_listT : OkB Z (rListOf Z.K) (fun a : Tp α => mr a.l) := fun L O H a x post px Q hp hx hm k => by
  obtain ⟨G, F, W, h⟩ := hp
  obtain ⟨p, xs, rfl, e, l, t⟩ := is_tup h.x0
  exact ⟨p, xs, rfl, .inr (sqT_mono h.g e), fun q hq => k a.l _ _ (h.t1.new hq (.lst upd_same l (t.mono (.self (h.g.free hq))))) hm⟩
theorem ok_tupL : OkB Z (rTupOf Z.K) (fun a : List α => mr (⟨a⟩ : Tp α)) := fun L O H a x post px Q hp hx hm k => by
  obtain ⟨G, F, W, h⟩ := hp
  obtain ⟨p, xs, rfl, e, l, t⟩ := is_lst h.x0
  exact ⟨p, xs, rfl, .inl ⟨.inl (.inl (h.g _ _ e)), fun q hq => k ⟨a⟩ _ _ (h.t1.new hq (.tup (.inl (.inl upd_same)) l (t.mono (.self (h.g.free hq))))) hm⟩⟩
theorem ok_tupT : OkB Z (rTupOf Z.K) (fun a : Tp α => mr a) := fun L O H a x post px Q hp hx hm k => by
  obtain ⟨G, F, W, h⟩ := hp
  obtain ⟨p, xs, rfl, e, l, t⟩ := is_tup h.x0
  exact ⟨p, xs, rfl, .inr ⟨sqT_mono h.g e, k a _ _ (h.t1.add (.tup e l t)) hm⟩⟩
theorem isL_bls {bs : List Bool} {xs : List V} (t : IsL K C G xs (bs.map enc)) : xs = bs.map V.bl := by
  induction bs generalizing xs with
  | nil => cases t; rfl
  | cons b bs ih =>
    cases t with
    | cons h t => rw [ih t, is_bl h]; rfl
theorem isL_ints {bs : List Int} {xs : List V} (t : IsL K C G xs (bs.map enc)) : xs = bs.map V.int := by
  induction bs generalizing xs with
  | nil => cases t; rfl
  | cons b bs ih =>
    cases t with
    | cons h t => rw [ih t, is_int h]; rfl
theorem isL_strs {bs : List Str} {xs : List V} (t : IsL K C G xs (bs.map enc)) : xs = bs.map V.str := by
  induction bs generalizing xs with
  | nil => cases t; rfl
  | cons b bs ih =>
    cases t with
    | cons h t => rw [ih t, is_str h]; rfl
theorem ok_any : OkB Z (rAny Z.K) (fun a : List Bool => mr (a.any id)) := fun L O H a x post px Q hp hx hm k => by
  obtain ⟨G, F, W, h⟩ := hp
  obtain ⟨p, xs, rfl, e, l, t⟩ := is_lst h.x0
  exact ⟨p, a, rfl, .inl (.inl (isL_bls t ▸ h.g _ _ e)), k _ _ H (h.t1.add (.bl _)) hm⟩
theorem ok_all : OkB Z (rAll Z.K) (fun a : List Bool => mr (a.all id)) := fun L O H a x post px Q hp hx hm k => by
  obtain ⟨G, F, W, h⟩ := hp
  obtain ⟨p, xs, rfl, e, l, t⟩ := is_lst h.x0
  exact ⟨p, a, rfl, .inl (.inl (isL_bls t ▸ h.g _ _ e)), k _ _ H (h.t1.add (.bl _)) hm⟩
theorem ok_sum : OkB Z (rSum Z.K) (fun a : List Int => mr a.sum) := fun L O H a x post px Q hp hx hm k => by
  obtain ⟨G, F, W, h⟩ := hp
  obtain ⟨p, xs, rfl, e, l, t⟩ := is_lst h.x0
  exact ⟨p, a, rfl, .inl (.inl (isL_ints t ▸ h.g _ _ e)), k _ _ H (h.t1.add (.int _)) hm⟩
/-- the greatest -/
def mmaxL (a : List Int) : M Int := fun post _ => 0 < a.length ∧ ∀ m, m ∈ a → (∀ y, y ∈ a → y ≤ m) → post m
def mminL (a : List Int) : M Int := fun post _ => 0 < a.length ∧ ∀ m, m ∈ a → (∀ y, y ∈ a → m ≤ y) → post m
theorem ok_maxL : OkB Z (rMax Z.K) mmaxL := fun L O H a x post px Q hp hx hm k => by
  obtain ⟨G, F, W, h⟩ := hp
  obtain ⟨p, xs, rfl, e, l, t⟩ := is_lst h.x0
  exact ⟨p, a, rfl, .inl (.inl (isL_ints t ▸ h.g _ _ e)), hm.1, fun m h1 h2 => k _ _ H (h.t1.add (.int _)) (hm.2 m h1 h2)⟩
theorem ok_minL : OkB Z (rMin Z.K) mminL := fun L O H a x post px Q hp hx hm k => by
  obtain ⟨G, F, W, h⟩ := hp
  obtain ⟨p, xs, rfl, e, l, t⟩ := is_lst h.x0
  exact ⟨p, a, rfl, .inl (.inl (isL_ints t ▸ h.g _ _ e)), hm.1, fun m h1 h2 => k _ _ H (h.t1.add (.int _)) (hm.2 m h1 h2)⟩
theorem ok_max2 : OkB2 Z (fun xs H Q => ∃ i j, xs = [.int i, .int j] ∧ Q (.int (if j > i then j else i)) H) (fun i j : Int => mr (if j > i then j else i)) := fun L O H a b x y post px Q hp hx hm k => by
  obtain rfl := is_int hp.hd
  obtain rfl := is_int hp.hd2
  exact ⟨a, b, rfl, k _ _ H (hp.tail.tail.add fun G _ => .int _) hm⟩
theorem ok_min2 : OkB2 Z (fun xs H Q => ∃ i j, xs = [.int i, .int j] ∧ Q (.int (if j < i then j else i)) H) (fun i j : Int => mr (if j < i then j else i)) := fun L O H a b x y post px Q hp hx hm k => by
  obtain rfl := is_int hp.hd
  obtain rfl := is_int hp.hd2
  exact ⟨a, b, rfl, k _ _ H (hp.tail.tail.add fun G _ => .int _) hm⟩
theorem ok_abs : OkB Z (fun xs H Q => ∃ i, xs = [.int i] ∧ Q (.int (if i < 0 then -i else i)) H) (fun i : Int => mr (if i < 0 then -i else i)) := fun L O H a x post px Q hp hx hm k => by
  obtain rfl := is_int hp.hd
  exact ⟨a, rfl, k _ _ H (hp.tail.add fun G _ => .int _) hm⟩
def mstrI (i : Int) : M Str := mreq (i.natAbs.log2 < 1920) (mr (Str.ofString (toString i)))
theorem ok_strI : OkB Z (fun xs H Q => ∃ i, xs = [.int i] ∧ i.natAbs.log2 < 1920 ∧ Q (.str (toString i)) H) mstrI := fun L O H a x post px Q hp hx hm k => by
  obtain rfl := is_int hp.hd
  exact ⟨a, rfl, hm.1, k _ _ H (hp.tail.add fun G _ => .str _) hm.2⟩
/-! ### in -/
theorem ints_flat {ns : List Int} : (ns.map V.int).all flatV = true := Cf.ints_flat
theorem ok_inI : Ok2 Z (rInn Z.K) (fun (a : Int) (b : List Int) => mr (decide (a ∈ b))) := fun L O H a b x y post px Q hp hx hm k => by
  obtain ⟨G, F, W, h⟩ := hp
  obtain ⟨p, xs, rfl, e, l, t⟩ := is_lst h.x0
  obtain rfl := is_int h.x1
  obtain rfl := isL_ints t
  exact Cf.kr_inI (h.g _ _ e) rfl Cf.ints_flat Cf.inV_ints (k _ _ H (h.t2.add (.bl _)) hm)
theorem ok_inS : Ok2 Z (rInn Z.K) (fun (a : Str) (b : List Str) => mr (decide (a ∈ b))) := fun L O H a b x y post px Q hp hx hm k => by
  obtain ⟨G, F, W, h⟩ := hp
  obtain ⟨p, xs, rfl, e, l, t⟩ := is_lst h.x0
  obtain rfl := is_str h.x1
  obtain rfl := isL_strs t
  exact Cf.kr_inI (h.g _ _ e) rfl Cf.strs_flat Cf.inV_strs (k _ _ H (h.t2.add (.bl _)) hm)
theorem ok_inST : Ok2 Z (rInn Z.K) (fun (a : Str) (b : Tp Str) => mr (decide (a ∈ b.l))) := fun L O H a b x y post px Q hp hx hm k => by
  obtain ⟨G, F, W, h⟩ := hp
  obtain ⟨p, xs, rfl, e, l, t⟩ := is_tup h.x0
  obtain rfl := is_str h.x1
  obtain rfl := isL_strs t
  exact Cf.kr_inS (sqT_mono h.g e) rfl Cf.strs_flat Cf.inV_strs (k _ _ H (h.t2.add (.bl _)) hm)
theorem ok_ninI : Ok2 Z (rNotInn Z.K) (fun (a : Int) (b : List Int) => mr (!decide (a ∈ b))) := fun L O H a b x y post px Q hp hx hm k => by
  obtain ⟨G, F, W, h⟩ := hp
  obtain ⟨p, xs, rfl, e, l, t⟩ := is_lst h.x0
  obtain rfl := is_int h.x1
  obtain rfl := isL_ints t
  exact Cf.kr_notInI (h.g _ _ e) rfl Cf.ints_flat Cf.inV_ints (k _ _ H (h.t2.add (.bl _)) hm)
theorem ok_ninS : Ok2 Z (rNotInn Z.K) (fun (a : Str) (b : List Str) => mr (!decide (a ∈ b))) := fun L O H a b x y post px Q hp hx hm k => by
  obtain ⟨G, F, W, h⟩ := hp
  obtain ⟨p, xs, rfl, e, l, t⟩ := is_lst h.x0
  obtain rfl := is_str h.x1
  obtain rfl := isL_strs t
  exact Cf.kr_notInI (h.g _ _ e) rfl Cf.strs_flat Cf.inV_strs (k _ _ H (h.t2.add (.bl _)) hm)
theorem ok_ninST : Ok2 Z (rNotInn Z.K) (fun (a : Str) (b : Tp Str) => mr (!decide (a ∈ b.l))) := fun L O H a b x y post px Q hp hx hm k => by
  obtain ⟨G, F, W, h⟩ := hp
  obtain ⟨p, xs, rfl, e, l, t⟩ := is_tup h.x0
  obtain rfl := is_str h.x1
  obtain rfl := isL_strs t
  exact Cf.kr_notInS (sqT_mono h.g e) rfl Cf.strs_flat Cf.inV_strs (k _ _ H (h.t2.add (.bl _)) hm)
/-! ### objects -/
theorem lookup_isL {f : Str} {d : D} : ∀ {fs : List (Str × V)} {ns : List Str} {ds : List D}, fs.map (·.1) = ns → IsL K C G (fs.map (·.2)) ds → (ns.zip ds).lookup f = Option.some d → ∃ v, fs.lookup f = Option.some v ∧ Is K C G v d
  | [], _, _, hn, t, h => by subst hn; cases h
  | (n, w) :: fs, _, _, hn, t, h => by
    subst hn
    cases t with
    | cons h1 t =>
      simp only [List.map_cons, List.zip_cons_cons, List.lookup] at h ⊢
      by_cases e : f == n
      · rw [e] at h ⊢
        cases h
        exact ⟨_, rfl, h1⟩
      · have e : (f == n) = false := by simpa using e
        rw [e] at h ⊢
        exact lookup_isL rfl t h
theorem EV.fld {ta : TE} {m : M α} {A : Addr} {f : Str} {c : Str} (e : EV Z L O ta σ m) (g : α → β) (ha : Z.C c = Option.some A) (cl : Cls Z.K A) (na : NoAttr Z.K A f) (h : ∀ a, ∃ ns ds, enc a = .obj c ns ds ∧ (ns.zip ds).lookup f = Option.some (enc (g a))) : EV Z L O (tFld Z.K ta f) σ (mb m fun a => mr (g a)) := fun L1 H post px Q s hp hx hm k =>
  e L1 H _ px _ s hp hx hm fun a x H1 hp1 hm1 => by
    obtain ⟨G, F, W, h1⟩ := hp1
    obtain ⟨ns, ds, he, hl⟩ := h a
    obtain ⟨p, A', dx, fs, rfl, e1, e2, e3, t⟩ := is_obj (he ▸ h1.x0)
    obtain rfl : A' = A := Option.some.inj (e2.symm.trans ha)
    obtain ⟨v, q1, q2⟩ := lookup_isL e3 t hl
    exact ⟨p, A', dx, fs, v, rfl, h1.g _ _ e1, cl, na, q1, k _ v H1 (h1.t1.add q2) hm1⟩
theorem EV.fldP {ta : TE} {a : α} {b : β} {A : Addr} {f : Str} {c : Str} (e : EV Z L O ta σ (mr a)) (ha : Z.C c = Option.some A) (cl : Cls Z.K A) (na : NoAttr Z.K A f) (h : ∃ ns ds, enc a = .obj c ns ds ∧ (ns.zip ds).lookup f = Option.some (enc b)) : EV Z L O (tFld Z.K ta f) σ (mr b) := fun L1 H post px Q s hp hx hm k =>
  e L1 H (fun a' => a' = a) px _ s hp hx rfl fun a' x H1 hp1 hm1 => by
    subst hm1
    obtain ⟨G, F, W, h1⟩ := hp1
    obtain ⟨ns, ds, he, hl⟩ := h
    obtain ⟨p, A', dx, fs, rfl, e1, e2, e3, t⟩ := is_obj (he ▸ h1.x0)
    obtain rfl : A' = A := Option.some.inj (e2.symm.trans ha)
    obtain ⟨v, q1, q2⟩ := lookup_isL e3 t hl
    exact ⟨p, A', dx, fs, v, rfl, h1.g _ _ e1, cl, na, q1, k _ v H1 (h1.t1.add q2) hm⟩
end
end Mi

/-! objects, statements -/
namespace Mi
open Enc (enc)
open PySem L2 PySem.Spec PyProof.Rows
open Cf (Fresh)
section
variable {Z : Zx} {L : List (V × D)} {O : List (Addr × D)} {σ : L2.St} {α β γ δ : Type} [Enc α] [Enc β] [Enc γ] [Enc δ]
theorem lookup_none {f : Str} : ∀ {fs : List (Str × V)}, (fs.map (·.1)).contains f = false → fs.lookup f = none
  | [], _ => rfl
  | (n, w) :: fs, h => by
    simp only [List.map_cons, List.contains_cons, Bool.or_eq_false_iff] at h
    simp only [List.lookup, h.1]
    exact lookup_none h.2
/-- an object of the class c, without an attribute named f -/
def ObjNo (c f : Str) (d : D) : Prop := ∃ ns ds, d = .obj c ns ds ∧ ns.contains f = false
theorem PtS.obj {c f : Str} {A : Addr} {x : V} {d : D} {H G F W : Hp} (h : PtS Z ((x, d) :: L) O H G F W) (ha : Z.C c = some A) (o : ObjNo c f d) : ∃ a dx fs, x = .ref a ∧ H a = some (.ins A dx fs) ∧ fs.lookup f = none := by
  obtain ⟨ns, ds, rfl, hn⟩ := o
  obtain ⟨p, A', dx, fs, rfl, e1, e2, e3, t⟩ := is_obj h.x0
  obtain rfl : A' = A := Option.some.inj (e2.symm.trans ha)
  exact ⟨p, dx, fs, rfl, h.g _ _ e1, lookup_none (by rw [e3]; exact hn)⟩
theorem EV.methN {c f : Str} {A : Addr} {sp : Sp} {dvs : List V} {E : XK} {to : TE} {t : TA} {mo : M α} {m : M γ} {ds : γ → List D} {k : α → γ → M β} (e0 : EV Z L O to σ mo) (e : EA Z L O t σ m ds) (ha : Z.C c = some A) (ho : ∀ a, ObjNo c f (enc (a : α)))
    (hc : ∀ a x g vs H Q, vs.length = (ds g).length → CallN Z.K Z.C R0 ((x, enc a) :: vs.zip (ds g)) (k a g) H Q → sp (x :: (vs ++ dvs)) H Q E) : EV Z L O (tMeth A f sp dvs E to t) σ (mb mo fun a => mb m fun g => k a g) := fun L1 H post px Q s hp hx hm kk =>
  e0 L1 H _ px _ s hp hx hm fun a x H1 hp1 hm1 => by
    obtain ⟨G, F, W, h1⟩ := hp1
    obtain ⟨p, dx, fs, rfl, e1, e2⟩ := h1.obj ha (ho a)
    exact ⟨p, dx, fs, rfl, e1, e2, e _ H1 _ px _ (sub_cons s) h1.pt hx hm1 fun g vs H2 hl hp2 hm2 => hc a _ g vs H2 Q hl (call_n (ps := (.ref p, enc a) :: vs.zip (ds g)) (L1 := L1) (hp2.less fun x hx => by
      rcases List.mem_cons.mp hx with e | e
      · rw [e]; exact List.mem_append_right _ List.mem_cons_self
      · rcases List.mem_append.mp e with e | e
        · exact List.mem_append_left _ e
        · exact List.mem_append_right _ (List.mem_cons_of_mem _ e)) hm2 kk)⟩
theorem EV.methNP {c f : Str} {A : Addr} {sp : Sp} {dvs : List V} {E : XK} {to : TE} {t : TA} {a : α} {g : γ} {ds : γ → List D} {m : M β} (e0 : EV Z L O to σ (mr a)) (e : EA Z L O t σ (mr g) ds) (ha : Z.C c = some A) (ho : ObjNo c f (enc a))
    (hc : ∀ x vs H Q, vs.length = (ds g).length → CallN Z.K Z.C R0 ((x, enc a) :: vs.zip (ds g)) m H Q → sp (x :: (vs ++ dvs)) H Q E) : EV Z L O (tMeth A f sp dvs E to t) σ m := fun L1 H post px Q s hp hx hm kk =>
  e0 L1 H (fun a' => a' = a) px _ s hp hx rfl fun a' x H1 hp1 hm1 => by
    subst hm1
    obtain ⟨G, F, W, h1⟩ := hp1
    obtain ⟨p, dx, fs, rfl, e1, e2⟩ := h1.obj ha ho
    exact ⟨p, dx, fs, rfl, e1, e2, e _ H1 (fun g' => g' = g) px _ (sub_cons s) h1.pt hx rfl fun g' vs H2 hl hp2 hm2 => by
      subst hm2
      exact hc _ vs H2 Q hl (call_n (ps := (.ref p, enc a') :: vs.zip (ds g')) (L1 := L1) (hp2.less fun x hx => by
        rcases List.mem_cons.mp hx with e | e
        · rw [e]; exact List.mem_append_right _ List.mem_cons_self
        · rcases List.mem_append.mp e with e | e
          · exact List.mem_append_left _ e
          · exact List.mem_append_right _ (List.mem_cons_of_mem _ e)) hm kk)⟩
theorem EV.prop {c f : Str} {A : Addr} {sp : Sp} {E : XK} {to : TE} {mo : M α} {k : α → M β} (e0 : EV Z L O to σ mo) (ha : Z.C c = some A) (ho : ∀ a, ObjNo c f (enc (a : α)))
    (hc : ∀ a x H Q, CallN Z.K Z.C R0 [(x, enc a)] (k a) H Q → sp [x] H Q E) : EV Z L O (tProp A sp [] E to) σ (mb mo k) := fun L1 H post px Q s hp hx hm kk =>
  e0 L1 H _ px _ s hp hx hm fun a x H1 hp1 hm1 => by
    obtain ⟨G, F, W, h1⟩ := hp1
    obtain ⟨p, dx, fs, rfl, e1, e2⟩ := h1.obj ha (ho a)
    exact ⟨p, dx, fs, rfl, e1, hc a _ H1 Q (call_n (ps := [(.ref p, enc a)]) (L1 := L1) h1.pt hm1 kk)⟩
theorem EV.propP {c f : Str} {A : Addr} {sp : Sp} {E : XK} {to : TE} {a : α} {m : M β} (e0 : EV Z L O to σ (mr a)) (ha : Z.C c = some A) (ho : ObjNo c f (enc a))
    (hc : ∀ x H Q, CallN Z.K Z.C R0 [(x, enc a)] m H Q → sp [x] H Q E) : EV Z L O (tProp A sp [] E to) σ m := fun L1 H post px Q s hp hx hm kk =>
  e0 L1 H (fun a' => a' = a) px _ s hp hx rfl fun a' x H1 hp1 hm1 => by
    subst hm1
    obtain ⟨G, F, W, h1⟩ := hp1
    obtain ⟨p, dx, fs, rfl, e1, e2⟩ := h1.obj ha ho
    exact ⟨p, dx, fs, rfl, e1, hc _ H1 Q (call_n (ps := [(.ref p, enc a')]) (L1 := L1) h1.pt hm kk)⟩
/-! ### an object is made -/
/-- an __init__'s promise: at x stands an empty object of the class c, behind it what m says -/
def CallI (K : PySem.W.Frag) (C : CT) (c : Str) (x : Addr) (L : List (V × D)) (m : M α) (H : Hp) (Q : VK) (E : XK) : Prop :=
  ∃ (G0 F0 : Hp) (post : α → Prop) (px : Exn → Prop), Pt ⟨K, C, R0, G0, F0, E⟩ L [(x, .obj c [] [])] H ∧ m post px ∧ HX ⟨K, C, R0, G0, F0, E⟩ px ∧ ∀ (r : α) (H' : Hp), Pt ⟨K, C, R0, G0, F0, E⟩ [] [(x, enc r)] H' → post r → Q .non H'
def CallIN (K : PySem.W.Frag) (C : CT) (c : Str) (x : Addr) (L : List (V × D)) (m : M α) (H : Hp) (Q : VK) : Prop :=
  ∃ (G0 F0 : Hp) (post : α → Prop) (px : Exn → Prop), Pt ⟨K, C, R0, G0, F0, ET0⟩ L [(x, .obj c [] [])] H ∧ m post px ∧ ∀ (r : α) (H' : Hp), Pt ⟨K, C, R0, G0, F0, ET0⟩ [] [(x, enc r)] H' → post r → Q .non H'
theorem PtS.enterI {L1 : List (V × D)} {H G F W : Hp} {ps : List (V × D)} {E : XK} {x dx A : Addr} {c : Str} (h : PtS Z (ps ++ L1) O H G F W) (ha : Z.C c = some A) (hx : Fresh H x) (hd : Fresh H dx) (ne : dx ≠ x) :
    Pt ⟨Z.K, Z.C, R0, G, join F W, E⟩ ps [(x, .obj c [] [])] (upd (upd H dx (.own x)) x (.ins A dx [])) := by
  have p0 : Pt ⟨Z.K, Z.C, R0, G, join F W, E⟩ ps [] H := h.enter
  have p1 : Pt ⟨Z.K, Z.C, R0, G, join F W, E⟩ ps [] (upd H dx (.own x)) := by
    obtain ⟨G1, F1, W1, q⟩ := p0
    exact ⟨G1, F1, W1, { q with g := q.g.new hd, f := q.f.new hd, w := q.w.new hd }⟩
  refine p1.own ?_ fun G' _ => .obj (fs := []) ha .nil
  show (upd H dx (.own x)) x = none
  rw [upd_ne (Ne.symm ne)]; exact hx
theorem EV.makeN {c : Str} {A : Addr} {sp : Sp} {dvs : List V} {E : XK} {t : TA} {m : M γ} {ds : γ → List D} {k : γ → M α} (e : EA Z L O t σ m ds) (ha : Z.C c = some A)
    (hc : ∀ x g vs H Q, vs.length = (ds g).length → CallIN Z.K Z.C c x (vs.zip (ds g)) (k g) H Q → sp (.ref x :: (vs ++ dvs)) H Q E) : EV Z L O (tMake A sp dvs E t) σ (mb m k) := fun L1 H post px Q s hp hx hm kk =>
  e L1 H _ px _ s hp hx hm fun g vs H1 hl hp1 hm1 x dx nx nd ne => by
    obtain ⟨G, F, W, h1⟩ := hp1
    exact hc x g vs _ _ hl ⟨G, join F W, post, px, h1.enterI ha nx nd ne, hm1, fun r H' q hr => ⟨rfl, kk r _ H' (h1.leave (q.freeze .hd)) hr⟩⟩
theorem EV.makeNP {c : Str} {A : Addr} {sp : Sp} {dvs : List V} {E : XK} {t : TA} {g : γ} {ds : γ → List D} {m : M α} (e : EA Z L O t σ (mr g) ds) (ha : Z.C c = some A)
    (hc : ∀ x vs H Q, vs.length = (ds g).length → CallIN Z.K Z.C c x (vs.zip (ds g)) m H Q → sp (.ref x :: (vs ++ dvs)) H Q E) : EV Z L O (tMake A sp dvs E t) σ m := fun L1 H post px Q s hp hx hm kk =>
  e L1 H (fun g' => g' = g) px _ s hp hx rfl fun g' vs H1 hl hp1 hm1 x dx nx nd ne => by
    subst hm1
    obtain ⟨G, F, W, h1⟩ := hp1
    exact hc x vs _ _ hl ⟨G, join F W, post, px, h1.enterI ha nx nd ne, hm, fun r H' q hr => ⟨rfl, kk r _ H' (h1.leave (q.freeze .hd)) hr⟩⟩
theorem EV.makeX {c : Str} {A : Addr} {sp : Sp} {dvs : List V} {t : TA} {m : M γ} {ds : γ → List D} {k : γ → M α} (e : EA Z L O t σ m ds) (ha : Z.C c = some A)
    (hc : ∀ x g vs H Q, vs.length = (ds g).length → CallI Z.K Z.C c x (vs.zip (ds g)) (k g) H Q Z.E → sp (.ref x :: (vs ++ dvs)) H Q Z.E) : EV Z L O (tMake A sp dvs Z.E t) σ (mb m k) := fun L1 H post px Q s hp hx hm kk =>
  e L1 H _ px _ s hp hx hm fun g vs H1 hl hp1 hm1 x dx nx nd ne => by
    obtain ⟨G, F, W, h1⟩ := hp1
    exact hc x g vs _ _ hl ⟨G, join F W, post, px, h1.enterI ha nx nd ne, hm1, fun e c d H' q hpx => hx e c d H' (h1.leaveX q) hpx, fun r H' q hr => ⟨rfl, kk r _ H' (h1.leave (q.freeze .hd)) hr⟩⟩
theorem EV.makeF {c : Str} {A : Addr} {sp : Sp} {dvs : List V} {E : XK} {t : TA} {m : M γ} {ds : γ → List D} {k : γ → M α} (e : EA Z L O t σ m ds) (ha : Z.C c = some A)
    (hc : ∀ x g vs H Q, vs.length = (ds g).length → CallI Z.K Z.C c x (vs.zip (ds g)) (k g) H Q E → sp (.ref x :: (vs ++ dvs)) H Q E) : EV Z L O (tMake A sp dvs E t) σ (mb m fun g => mno (k g)) := fun L1 H post px Q s hp hx hm kk =>
  e L1 H _ px _ s hp hx hm fun g vs H1 hl hp1 hm1 x dx nx nd ne => by
    obtain ⟨G, F, W, h1⟩ := hp1
    exact hc x g vs _ _ hl ⟨G, join F W, post, _, h1.enterI ha nx nd ne, hm1, fun e c d H' q hpx => hpx.elim, fun r H' q hr => ⟨rfl, kk r _ H' (h1.leave (q.freeze .hd)) hr⟩⟩
/-! ## statements -/
section
variable {ε : Type} {nx : L2.St → Hp → Prop} {rt : VK} {bk ct : L2.St → Hp → Prop} {H : Hp} {px : Exn → Prop} {ρ : Type} {post : ρ → Prop}
theorem s_asg {te : TE} {i : Nat} {m : M α} {k : α → M ρ} (hp : Pt Z L O H) (hx : HX Z px) (hm : mb m k post px) (e : EV Z L O te σ m) (c : ∀ a v H', Pt Z ((v, enc a) :: L) O H' → k a post px → nx (σ.set i (some v)) H') : tAsg te (gName i) ⟨nx, rt, bk, ct⟩ σ H :=
  e L H _ px _ sub_refl' hp hx hm fun a v H' hp' hm' => c a v H' hp' hm'
theorem s_asgP {te : TE} {i : Nat} {a : α} (hp : Pt Z L O H) (hx : HX Z px) (e : EV Z L O te σ (mr a)) (c : ∀ v H', Pt Z ((v, enc a) :: L) O H' → nx (σ.set i (some v)) H') : tAsg te (gName i) ⟨nx, rt, bk, ct⟩ σ H :=
  e L H (fun a' => a' = a) px _ sub_refl' hp hx rfl fun a' v H' hp' hm' => by subst hm'; exact c v H' hp'
/-- a new list of one's own -/
theorem s_asgL {t : TA} {i : Nat} {m : M ε} {ds : ε → List D} {k : ε → M ρ} (hp : Pt Z L O H) (hx : HX Z px) (hm : mb m k post px) (e : EA Z L O t σ m ds) (hl : ∀ g, (ds g).length ≤ 1000)
    (c : ∀ g p H', Pt Z L ((p, .lst (ds g)) :: O) H' → k g post px → nx (σ.set i (some (.ref p))) H') : tAsg (tLst t) (gName i) ⟨nx, rt, bk, ct⟩ σ H :=
  e L H _ px _ sub_refl' hp hx hm fun g vs H' h1 hp' hm' => ⟨by rw [h1]; exact Cf.size_ok (hl g), fun p np => c g p _ ((hp'.own (o := .lst vs) (d := .lst (ds g)) np fun G hG => .lst (by rw [h1]; exact Nat.le_trans (hl g) (by decide)) (zip_is h1 fun x hx => hG x (List.mem_append_left _ hx))).less fun x hx => List.mem_append_right _ hx) hm'⟩
theorem s_asgLP {t : TA} {i : Nat} {g : ε} {ds : ε → List D} (hp : Pt Z L O H) (hx : HX Z px) (e : EA Z L O t σ (mr g) ds) (hl : (ds g).length ≤ 1000)
    (c : ∀ p H', Pt Z L ((p, .lst (ds g)) :: O) H' → nx (σ.set i (some (.ref p))) H') : tAsg (tLst t) (gName i) ⟨nx, rt, bk, ct⟩ σ H :=
  e L H (fun g' => g' = g) px _ sub_refl' hp hx rfl fun g' vs H' h1 hp' hm' => by
    subst hm'
    exact ⟨by rw [h1]; exact Cf.size_ok hl, fun p np => c p _ ((hp'.own (o := .lst vs) (d := .lst (ds g')) np fun G hG => .lst (by rw [h1]; exact Nat.le_trans hl (by decide)) (zip_is h1 fun x hx => hG x (List.mem_append_left _ hx))).less fun x hx => List.mem_append_right _ hx)⟩
theorem s_drop {te : TE} {m : M α} {k : α → M ρ} (hp : Pt Z L O H) (hx : HX Z px) (hm : mb m k post px) (e : EV Z L O te σ m) (c : ∀ a H', Pt Z L O H' → k a post px → nx σ H') : tDrop te ⟨nx, rt, bk, ct⟩ σ H :=
  e L H _ px _ sub_refl' hp hx hm fun a v H' hp' hm' => c a H' hp'.tail hm'
theorem s_ret {te : TE} {m : M α} {k : α → M ρ} (hp : Pt Z L O H) (hx : HX Z px) (hm : mb m k post px) (e : EV Z L O te σ m) (c : ∀ a v H', Pt Z ((v, enc a) :: L) O H' → k a post px → rt v H') : tRet te ⟨nx, rt, bk, ct⟩ σ H :=
  e L H _ px _ sub_refl' hp hx hm fun a v H' hp' hm' => c a v H' hp' hm'
theorem s_retP {te : TE} {a : α} (hp : Pt Z L O H) (hx : HX Z px) (e : EV Z L O te σ (mr a)) (c : ∀ v H', Pt Z ((v, enc a) :: L) O H' → rt v H') : tRet te ⟨nx, rt, bk, ct⟩ σ H :=
  e L H (fun a' => a' = a) px _ sub_refl' hp hx rfl fun a' v H' hp' hm' => by subst hm'; exact c v H' hp'
theorem s_ret1 {te : TE} {m : M α} {post : α → Prop} (hp : Pt Z L O H) (hx : HX Z px) (hm : m post px) (e : EV Z L O te σ m) (c : ∀ a v H', Pt Z ((v, enc a) :: L) O H' → post a → rt v H') : tRet te ⟨nx, rt, bk, ct⟩ σ H :=
  e L H _ px _ sub_refl' hp hx hm fun a v H' hp' hm' => c a v H' hp' hm'
theorem s_if {t : TT} {a b : TS} {D : Ends} {mc : M Bool} {m1 m2 : M ρ} (hp : Pt Z L O H) (hx : HX Z px) (hm : mite mc m1 m2 post px) (e : ET Z L O t σ mc) (c1 : ∀ H', Pt Z L O H' → m1 post px → a D σ H') (c2 : ∀ H', Pt Z L O H' → m2 post px → b D σ H') : tIfS t a b D σ H :=
  e L H _ px _ sub_refl' hp hx hm fun c H' hp' hm' => by
    cases c with
    | true => rw [if_pos rfl] at hm' ⊢; exact c1 H' hp' hm'
    | false => rw [if_neg (by decide)] at hm' ⊢; exact c2 H' hp' hm'
theorem s_ifP {t : TT} {a b : TS} {D : Ends} {c : Bool} {m1 m2 : M ρ} (hp : Pt Z L O H) (hx : HX Z px) (hm : (if c = true then m1 else m2) post px) (e : ET Z L O t σ (mr c)) (c1 : ∀ H', Pt Z L O H' → c = true → m1 post px → a D σ H') (c2 : ∀ H', Pt Z L O H' → c = false → m2 post px → b D σ H') : tIfS t a b D σ H :=
  e L H (fun c' => c' = c) px _ sub_refl' hp hx rfl fun c' H' hp' hm' => by
    subst hm'
    cases c' with
    | true => rw [if_pos rfl] at hm ⊢; exact c1 H' hp' rfl hm
    | false => rw [if_neg (by decide)] at hm ⊢; exact c2 H' hp' rfl hm
theorem s_seq {a b : TS} (h : a ⟨b ⟨nx, rt, bk, ct⟩, rt, bk, ct⟩ σ H) : tSeq a b ⟨nx, rt, bk, ct⟩ σ H := h
/-- what holds behind a statement, once for all its ways -/
theorem s_cut {a b : TS} {R : L2.St → Hp → Prop} (h1 : a ⟨R, rt, bk, ct⟩ σ H) (mono : ∀ B : L2.St → Hp → Prop, (∀ σ' H', R σ' H' → B σ' H') → a ⟨R, rt, bk, ct⟩ σ H → a ⟨B, rt, bk, ct⟩ σ H) (h2 : ∀ σ' H', R σ' H' → b ⟨nx, rt, bk, ct⟩ σ' H') : tSeq a b ⟨nx, rt, bk, ct⟩ σ H := mono _ h2 h1
/-! ### one's own list -/
theorem is_cell {K : PySem.W.Frag} {C : CT} {G : Hp} {o : HO} {ds : List D} (h : Cell K C G o (.lst ds)) : ∃ xs, o = .lst xs ∧ xs.length ≤ 1000000 ∧ IsL K C G xs ds := by
  cases h with
  | lst l t => exact ⟨_, rfl, l, t⟩
def mpush {α : Type} (xs : List α) (a : α) : M (List α) := mreq (xs.length < 1000000) (mr (xs ++ [a]))
theorem enc_snoc {xs : List α} {a : α} : enc (xs ++ [a]) = D.lst (xs.map enc ++ [enc a]) := by
  show D.lst ((xs ++ [a]).map enc) = _
  rw [List.map_append]; rfl
theorem s_append {ta : TE} {p : Addr} {O' : α → List (Addr × D)} {i : Nat} {m : M α} {xs : List α} {k : List α → M ρ} (hi : σ[i]? = some (some (.ref p))) (hmem : (p, enc xs) ∈ O) (hp : Pt Z L O H) (hx : HX Z px) (hm : (mb m fun a => mb (mpush xs a) k) post px) (e : EV Z L O ta σ m)
    (u : ∀ a : α, Up p (enc xs) (enc (xs ++ [a])) O (O' a)) (c : ∀ a H', Pt Z L (O' a) H' → k (xs ++ [a]) post px → nx σ H') : tDrop (tBM Z.K "list" rAppend (tVar i) (tCons ta tNil)) ⟨nx, rt, bk, ct⟩ σ H := by
  refine ⟨_, hi, ?_, ?_⟩
  · obtain ⟨G, F, W, h⟩ := hp
    obtain ⟨ho, e1, e2, e3⟩ := h.o _ hmem
    obtain ⟨vs, rfl, l, t⟩ := is_cell e3
    exact .inl ⟨rfl, vs, .inl (.inl (h.f _ _ e1))⟩
  · refine e L H _ px _ sub_refl' hp hx hm fun a v H1 hp1 hm1 => ?_
    obtain ⟨hl, hm1⟩ := hm1
    obtain ⟨ho, G, e1, e2, e3, e4⟩ := hp1.at (u a).mem
    obtain ⟨vs, rfl, l, t⟩ := is_cell e2
    have n := t.len
    rw [List.length_map] at n
    refine ⟨p, vs, v, rfl, rfl, e1, by rw [n]; exact Nat.lt_of_lt_of_le hl (by rw [sizeLine_eq]; decide), c a _ ((hp1.put (u a) fun G' hG ho hh hc => ?_).tail) hm1⟩
    rw [e1] at hh
    cases hh
    obtain ⟨ws, e, l', t'⟩ := is_cell hc
    cases e
    have hv := hG _ List.mem_cons_self
    rw [enc_snoc]
    exact .lst (by rw [List.length_append]; show vs.length + 1 ≤ 1000000; omega) (t'.put hv)
/-! ### what is walked -/
/-- J gives xs, one by one; w: the thing that is walked -/
def ItOk (Z : Zx) (J : It) (w : V × D) (xs : List α) : Prop := xs.length ≤ 1000000 ∧ ∃ (G : Hp → Prop) (Y : Nat → Hp → V → Hp → Prop), Walk J xs.length G Y ∧ (∀ (L : List (V × D)) (O : List (Addr × D)) (H : Hp), w ∈ L → Pt Z L O H → G H) ∧
  ∀ (L : List (V × D)) (O : List (Addr × D)) (i : Nat) (H : Hp) (x : V) (H' : Hp), w ∈ L → Pt Z L O H → i < xs.length → Y i H x H' → ∃ a, xs[i]? = some a ∧ Pt Z ((x, enc a) :: L) O H'
def EI (Z : Zx) (L : List (V × D)) (O : List (Addr × D)) (t : TI) (σ : L2.St) (m : M (List α)) : Prop :=
  ∀ (L1 : List (V × D)) (H : Hp) (post : List α → Prop) (px : Exn → Prop) (R : It → Hp → Prop), (∀ x ∈ L, x ∈ L1) → Pt Z L1 O H → HX Z px → m post px →
    (∀ (xs : List α) (w : V × D) (J : It) (H' : Hp), Pt Z (w :: L1) O H' → ItOk Z J w xs → post xs → R J H') → t σ H R
theorem walkL {K : PySem.W.Frag} {p : Addr} {n : Nat} : Walk (Itl K p) n (fun H => ∃ vs, SqL K H p vs ∧ vs.length = n) (fun i H x H' => H' = H ∧ ∀ vs, SqL K H p vs → vs[i]? = some x) :=
  ⟨fun i H hi ⟨vs, h, e⟩ => ⟨vs, _, h, List.getElem?_eq_getElem (by omega)⟩, fun H ⟨vs, h, e⟩ => ⟨vs, h, by omega⟩, fun i H x H' hi _ y => y⟩
theorem walkT {K : PySem.W.Frag} {p : Addr} {n : Nat} : Walk (Itt K p) n (fun H => ∃ vs, SqT K H p vs ∧ vs.length = n) (fun i H x H' => H' = H ∧ ∀ vs, SqT K H p vs → vs[i]? = some x) :=
  ⟨fun i H hi ⟨vs, h, e⟩ => ⟨vs, _, h, List.getElem?_eq_getElem (by omega)⟩, fun H ⟨vs, h, e⟩ => ⟨vs, h, by omega⟩, fun i H x H' hi _ y => y⟩
theorem isL_at {K : PySem.W.Frag} {C : CT} {G : Hp} {xs : List α} {vs : List V} {i : Nat} {x : V} (t : IsL K C G vs (xs.map enc)) (e : vs[i]? = some x) : ∃ a, xs[i]? = some a ∧ Is K C G x (enc a) := by
  obtain ⟨d, e1, e2⟩ := t.get e
  rw [List.getElem?_map] at e1
  cases h : xs[i]? with
  | none => rw [h] at e1; cases e1
  | some a => rw [h] at e1; cases e1; exact ⟨a, rfl, e2⟩
theorem itOk_list {p : Addr} {xs : List α} (hl : xs.length ≤ 1000000) : ItOk Z (Itl Z.K p) (.ref p, enc xs) xs := by
  refine ⟨hl, _, _, walkL, fun L O H hw hp => ?_, fun L O i H x H' hw hp hi hy => ?_⟩
  · obtain ⟨G, F, W, h⟩ := hp
    obtain ⟨p', vs, e0, e1, l, t⟩ := is_lst (h.l _ hw)
    cases e0
    exact ⟨vs, .inl (.inl (h.g _ _ e1)), by rw [t.len, List.length_map]⟩
  · obtain ⟨rfl, hy⟩ := hy
    obtain ⟨G, F, W, h⟩ := hp
    obtain ⟨p', vs, e0, e1, l, t⟩ := is_lst (h.l _ hw)
    cases e0
    obtain ⟨a, q1, q2⟩ := isL_at t (hy vs (.inl (.inl (h.g _ _ e1))))
    exact ⟨a, q1, h.add q2⟩
theorem itOk_tup {p : Addr} {xs : Tp α} (hl : xs.l.length ≤ 1000000) : ItOk Z (Itt Z.K p) (.ref p, enc xs) xs.l := by
  refine ⟨hl, _, _, walkT, fun L O H hw hp => ?_, fun L O i H x H' hw hp hi hy => ?_⟩
  · obtain ⟨G, F, W, h⟩ := hp
    obtain ⟨p', vs, e0, e1, l, t⟩ := is_tup (h.l _ hw)
    cases e0
    exact ⟨vs, sqT_mono h.g e1, by rw [t.len, List.length_map]⟩
  · obtain ⟨rfl, hy⟩ := hy
    obtain ⟨G, F, W, h⟩ := hp
    obtain ⟨p', vs, e0, e1, l, t⟩ := is_tup (h.l _ hw)
    cases e0
    obtain ⟨a, q1, q2⟩ := isL_at t (hy vs (sqT_mono h.g e1))
    exact ⟨a, q1, h.add q2⟩
theorem EI.list {tl : TE} {m : M (List α)} (e : EV Z L O tl σ m) : EI Z L O (iList Z.K tl) σ m := fun L1 H post px R s hp hx hm k =>
  e L1 H _ px _ s hp hx hm fun xs v H' hp' hb => by
    obtain ⟨G, F, W, h⟩ := id hp'
    obtain ⟨p, vs, rfl, e1, l, t⟩ := is_lst h.x0
    exact ⟨p, rfl, ⟨vs, .inl (.inl (h.g _ _ e1))⟩, k xs _ _ H' hp' (itOk_list (by have := t.len; rw [List.length_map] at this; omega)) hb⟩
theorem EI.tup {tl : TE} {m : M (Tp α)} (e : EV Z L O tl σ m) : EI Z L O (iTup Z.K tl) σ (mb m fun a => mr a.l) := fun L1 H post px R s hp hx hm k =>
  e L1 H _ px _ s hp hx hm fun xs v H' hp' hb => by
    obtain ⟨G, F, W, h⟩ := id hp'
    obtain ⟨p, vs, rfl, e1, l, t⟩ := is_tup h.x0
    exact ⟨p, rfl, ⟨vs, sqT_mono h.g e1⟩, k xs.l _ _ H' hp' (itOk_tup (by have := t.len; rw [List.length_map] at this; omega)) hb⟩
theorem EI.tupP {tl : TE} {a : Tp α} (e : EV Z L O tl σ (mr a)) : EI Z L O (iTup Z.K tl) σ (mr a.l) := EI.tup e
/-- lo, lo + 1, .. -/
def mrange (lo hi : Int) : M (List Int) := mreq (-(2 ^ 62) ≤ lo ∧ lo < 2 ^ 62 ∧ -(2 ^ 62) ≤ hi ∧ hi < 2 ^ 62 ∧ hi - lo ≤ 1000000) (mr ((List.range (hi - lo).toNat).map fun (i : Nat) => lo + (i : Int)))
theorem itOk_range {lo : Int} {n : Nat} (hl : n ≤ 1000000) : ItOk Z (Itr lo n) (.non, .non) ((List.range n).map fun (i : Nat) => lo + (i : Int)) := by
  have hn : ((List.range n).map fun (i : Nat) => lo + (i : Int)).length = n := by simp
  have wk : Walk (Itr lo n) ((List.range n).map fun (i : Nat) => lo + (i : Int)).length (fun _ => True) (YFn fun i => .int (lo + i)) := by rw [hn]; exact walk_range
  refine ⟨by rw [hn]; exact hl, _, _, wk, fun L O H hw hp => trivial, fun L O i H x H' hw hp hi hy => ?_⟩
  obtain ⟨rfl, rfl⟩ := hy
  rw [hn] at hi
  exact ⟨lo + i, by simp [hi], hp.add fun G _ => .int _⟩
theorem EI.range1 {te : TE} {m : M Int} (e : EV Z L O te σ m) : EI Z L O (iRng1 (tCons te tNil)) σ (mb m fun n => mrange 0 n) := fun L1 H post px R s hp hx hm k =>
  e L1 H _ px _ s hp hx hm fun n v H' hp' hb => by
    obtain rfl := is_int hp'.hd
    obtain ⟨⟨_, _, h1, h2, h3⟩, hb⟩ := hb
    refine ⟨n, rfl, h1, h2, ?_⟩
    have e0 : (n - 0).toNat = n.toNat := by rw [Int.sub_zero]
    exact k _ (.non, .non) _ H' (hp'.tail.add fun G _ => .non) (itOk_range (by omega)) (e0 ▸ hb)
theorem EI.range1P {te : TE} {n : Int} (e : EV Z L O te σ (mr n)) : EI Z L O (iRng1 (tCons te tNil)) σ (mrange 0 n) := EI.range1 e
theorem EI.range2 {ta tb : TE} {m1 m2 : M Int} (e1 : EV Z L O ta σ m1) (e2 : EV Z L O tb σ m2) : EI Z L O (iRng2 (tCons ta (tCons tb tNil))) σ (mb m1 fun a => mb m2 fun b => mrange a b) := fun L1 H post px R s hp hx hm k =>
  e1 L1 H _ px _ s hp hx hm fun a v H1 hp1 hm1 => e2 _ H1 _ px _ (sub_cons s) hp1 hx hm1 fun b w H2 hp2 hb => by
    obtain rfl := is_int hp2.hd
    obtain rfl := is_int hp2.hd2
    obtain ⟨h1, hb⟩ := hb
    exact ⟨a, b, rfl, ⟨h1.1, h1.2.1, h1.2.2.1, h1.2.2.2.1⟩, k _ (.non, .non) _ H2 (hp2.tail.tail.add fun G _ => .non) (itOk_range (by have := h1.2.2.2.2; omega)) hb⟩
theorem EI.range2P {ta tb : TE} {a b : Int} (e1 : EV Z L O ta σ (mr a)) (e2 : EV Z L O tb σ (mr b)) : EI Z L O (iRng2 (tCons ta (tCons tb tNil))) σ (mrange a b) := EI.range2 e1 e2
/-- the signs of a text -/
def signs (z : Str) : List Str := z.cps.toList.map fun c => ⟨#[c]⟩
def msigns (z : Str) : M (List Str) := mreq (z.length ≤ 1000000) (mr (signs z))
theorem itOk_str {z : Str} (hl : z.length ≤ 1000000) : ItOk Z (Its z) (.non, .non) (signs z) := by
  have hn : (signs z).length = z.cps.size := by simp [signs]
  have wk : Walk (Its z) (signs z).length (fun _ => True) (fun i H v H' => H' = H ∧ ∃ c, z.cps[i]? = some c ∧ v = .str ⟨#[c]⟩) := by rw [hn]; exact walk_str
  refine ⟨by rw [hn]; exact hl, _, _, wk, fun L O H hw hp => trivial, fun L O i H x H' hw hp hi hy => ?_⟩
  obtain ⟨rfl, c, e1, rfl⟩ := hy
  refine ⟨⟨#[c]⟩, ?_, hp.add fun G _ => .str _⟩
  have e2 : z.cps.toList[i]? = some c := by rw [Array.getElem?_toList]; exact e1
  show (z.cps.toList.map _)[i]? = _
  rw [List.getElem?_map, e2]
  rfl
theorem EI.str {te : TE} {m : M Str} (e : EV Z L O te σ m) : EI Z L O (iStr te) σ (mb m msigns) := fun L1 H post px R s hp hx hm k =>
  e L1 H _ px _ s hp hx hm fun z v H' hp' hb => by
    obtain rfl := is_str hp'.hd
    exact ⟨z, rfl, k _ (.non, .non) _ H' (hp'.tail.add fun G _ => .non) (itOk_str hb.1) hb.2⟩
theorem EI.strP {te : TE} {z : Str} (e : EV Z L O te σ (mr z)) : EI Z L O (iStr te) σ (msigns z) := EI.str e
/-- place and item -/
def enumL {α : Type} (xs : List α) : List (Int × α) := xs.zipIdx.map fun p => ((p.2 : Int), p.1)
theorem EI.enum {tl : TE} {m : M (List α)} (e : EV Z L O tl σ m) : EI Z L O (iEnum Z.K (tCons tl tNil)) σ (mb m fun a => mr (enumL a)) := fun L1 H post px R s hp hx hm k =>
  e L1 H _ px _ s hp hx hm fun xs v H' hp' hb => by
    obtain ⟨G, F, W, h⟩ := id hp'
    obtain ⟨p, vs, rfl, e1, l, t⟩ := is_lst h.x0
    have hn : (enumL xs).length = xs.length := by simp [enumL]
    refine ⟨p, vs, rfl, .inl (.inl (h.g _ _ e1)), k _ _ _ H' hp' ⟨by have := t.len; rw [List.length_map] at this; omega, fun H => ∃ vs, SqL Z.K H p vs ∧ vs.length = xs.length, fun i H v H' => ∃ T x, v = .ref T ∧ H T = none ∧ H' = upd H T (.tup [.int (i : Nat), x]) ∧ ∀ xs, SqL Z.K H p xs → xs[i]? = some x, ?_, fun L O H hw hp => ?_, fun L O i H x H' hw hp hi hy => ?_⟩ hb⟩
    · rw [hn]
      exact ⟨fun i H hi ⟨vs, h, e⟩ => ⟨vs, _, h, List.getElem?_eq_getElem (by omega)⟩, fun H ⟨vs, h, e⟩ => ⟨vs, h, by omega⟩, fun i H x H' hi _ y => y⟩
    · obtain ⟨G, F, W, h⟩ := hp
      obtain ⟨p', vs, e0, e1, l, t⟩ := is_lst (h.l _ hw)
      cases e0
      exact ⟨vs, .inl (.inl (h.g _ _ e1)), by rw [t.len, List.length_map]⟩
    · obtain ⟨T, y, rfl, nT, rfl, hy⟩ := hy
      obtain ⟨G, F, W, h⟩ := hp
      obtain ⟨p', vs, e0, e1, l, t⟩ := is_lst (h.l _ hw)
      cases e0
      obtain ⟨a, q1, q2⟩ := isL_at t (hy vs (.inl (.inl (h.g _ _ e1))))
      refine ⟨((i : Int), a), by simp [enumL, q1], h.new nT ?_⟩
      exact .tup (.inl (.inl upd_same)) (by simp) (.cons (.int _) (.cons (q2.mono (.self (h.g.free nT))) .nil))
theorem EI.enumP {tl : TE} {a : List α} (e : EV Z L O tl σ (mr a)) : EI Z L O (iEnum Z.K (tCons tl tNil)) σ (mr (enumL a)) := EI.enum e
theorem PtS.adds {H G F W : Hp} (h : PtS Z L O H G F W) {v : V} {d : D} (hd : Is Z.K Z.C G v d) : PtS Z ((v, d) :: L) O H G F W :=
  { h with l := fun x hx => by rcases List.mem_cons.mp hx with e | e; (· rw [e]; exact hd); (· exact h.l x e) }
/-! ### targets -/
theorem g_name {i : Nat} {x : V} {σ' : L2.St} {Q : L2.St → Hp → Prop} (e : σ.set i (some x) = σ') (c : Q σ' H) : gName i x σ H Q := by subst e; exact c
theorem g_two {i j : Nat} {x : V} {a : α} {b : β} {Q : L2.St → Hp → Prop} (hp : Pt Z ((x, enc (a, b)) :: L) O H) (c : ∀ v w, Pt Z ((w, enc b) :: (v, enc a) :: L) O H → Q ((σ.set i (some v)).set j (some w)) H) : gTup Z.K 2 (gCons (gName i) (gCons (gName j) gNil)) x σ H Q := by
  obtain ⟨G, F, W, h⟩ := hp
  obtain ⟨p, xs, rfl, e1, l, t⟩ := is_tup h.x0
  cases t with
  | cons h1 t =>
    cases t with
    | cons h2 t =>
      cases t
      refine ⟨p, _, rfl, sqT_mono h.g e1, rfl, _, _, rfl, _, _, rfl, rfl, c _ _ ?_⟩
      exact ((h.t1.adds h1).adds h2).pt
theorem g_three {i j k : Nat} {x : V} {a : α} {b : β} {d : γ} {Q : L2.St → Hp → Prop} (hp : Pt Z ((x, enc (⟨a, b, d⟩ : T3 α β γ)) :: L) O H) (c : ∀ v w u, Pt Z ((u, enc d) :: (w, enc b) :: (v, enc a) :: L) O H → Q (((σ.set i (some v)).set j (some w)).set k (some u)) H) : gTup Z.K 3 (gCons (gName i) (gCons (gName j) (gCons (gName k) gNil))) x σ H Q := by
  obtain ⟨G, F, W, h⟩ := hp
  obtain ⟨p, xs, rfl, e1, l, t⟩ := is_tup h.x0
  cases t with
  | cons h1 t =>
    cases t with
    | cons h2 t =>
      cases t with
      | cons h3 t =>
        cases t
        refine ⟨p, _, rfl, sqT_mono h.g e1, rfl, _, _, rfl, _, _, rfl, _, _, rfl, rfl, c _ _ _ ?_⟩
        exact (((h.t1.adds h1).adds h2).adds h3).pt
/-! ### loops -/
/-- a for: S the slots, Lf, Of what stands, by r (the values of the slots) and c (what they mean) -/
theorem s_for {ι : Type} {ρ' : Type} {wi : TI} {g : TG} {tb : TS} {ml : M (List α)} {f : α → γ → M (Stp γ ρ')} {k : γ ⊕ ρ' → M ρ} {c0 : γ} (hp : Pt Z L O H) (hx : HX Z px) (hm : (mb ml fun xs => mb (forR xs c0 f) k) post px) (e : EI Z L O wi σ ml)
    (S : ι → γ → L2.St) (Lf : V × D → ι → γ → List (V × D)) (Of : ι → γ → List (Addr × D))
    (h0 : ∀ w H', Pt Z (w :: L) O H' → ∃ r, σ = S r c0 ∧ Pt Z (Lf w r c0) (Of r c0) H') (hw : ∀ w r c, w ∈ Lf w r c)
    (step : ∀ nx' : L2.St → Hp → Prop, (∀ w r c H', Pt Z (Lf w r c) (Of r c) H' → k (.inl c) post px → nx' (S r c) H') → ∀ w r c x a rest H', Pt Z ((x, enc a) :: Lf w r c) (Of r c) H' → f a c (fun s => (match s with | .next c' => mb (forR rest c' f) k | .brk c' => k (.inl c') | .ret q => k (.inr q)) post px) px →
      g x (S r c) H' fun σ2 H2 => tb ⟨fun σ3 H3 => ∃ r' c', σ3 = S r' c' ∧ Pt Z (Lf w r' c') (Of r' c') H3 ∧ (mb (forR rest c' f) k) post px, rt, nx', fun σ3 H3 => ∃ r' c', σ3 = S r' c' ∧ Pt Z (Lf w r' c') (Of r' c') H3 ∧ (mb (forR rest c' f) k) post px⟩ σ2 H2)
    (done : ∀ w r c H', Pt Z (Lf w r c) (Of r c) H' → k (.inl c) post px → nx (S r c) H') : tFor wi g tb ⟨nx, rt, bk, ct⟩ σ H := by
  refine e L H _ px _ sub_refl' hp hx hm fun xs w J H1 hp1 hJ hm1 => ?_
  obtain ⟨hsz, G, Y, wk, hG, hY⟩ := hJ
  obtain ⟨r0, e0, p0⟩ := h0 w H1 hp1
  refine for_it (D := ⟨nx, rt, bk, ct⟩) wk (fun i σ' H' => ∃ r c, σ' = S r c ∧ Pt Z (Lf w r c) (Of r c) H' ∧ (mb (forR (xs.drop i) c f) k) post px) ⟨r0, c0, e0, p0, hm1⟩ ?_ ?_ ?_
  · rintro i σ' H' _ ⟨r, c, _, p, _⟩
    exact hG _ _ _ (hw w r c) p
  · rintro i x σ' H' H'' hi ⟨r, c, rfl, p, q⟩ hy
    obtain ⟨a, ea, pa⟩ := hY _ _ i H' x H'' (hw w r c) p hi hy
    obtain ⟨hl, e2⟩ := List.getElem?_eq_some_iff.mp ea
    have ed : xs.drop i = a :: xs.drop (i + 1) := by rw [← e2]; exact List.drop_eq_getElem_cons hl
    rw [ed] at q
    refine step nx done w r c x a (xs.drop (i + 1)) H'' pa ?_
    have q' : f a c (fun s => (match s with | .next c' => forR (xs.drop (i + 1)) c' f | .brk c' => mr (.inl c') | .ret q => mr (.inr q)) (fun o => k o post px) px) px := q
    have fe : (fun s : Stp γ ρ' => (match s with | .next c' => forR (xs.drop (i + 1)) c' f | .brk c' => mr (.inl c') | .ret q => mr (.inr q)) (fun o => k o post px) px) = (fun s => (match s with | .next c' => mb (forR (xs.drop (i + 1)) c' f) k | .brk c' => k (.inl c') | .ret q => k (.inr q)) post px) := by
      funext s
      cases s <;> rfl
    rw [fe] at q'
    exact q'
  · rintro σ' H' ⟨r, c, rfl, p, q⟩
    rw [List.drop_length] at q
    exact done w r c H' p q
/-- a for that goes through -/
theorem s_forM {ι : Type} {wi : TI} {g : TG} {tb : TS} {ml : M (List α)} {f : α → γ → M γ} {k : γ → M ρ} {c0 : γ} (hp : Pt Z L O H) (hx : HX Z px) (hm : (mb ml fun xs => mb (forM xs c0 f) k) post px) (e : EI Z L O wi σ ml)
    (S : ι → γ → L2.St) (Lf : V × D → ι → γ → List (V × D)) (Of : ι → γ → List (Addr × D))
    (h0 : ∀ w H', Pt Z (w :: L) O H' → ∃ r, σ = S r c0 ∧ Pt Z (Lf w r c0) (Of r c0) H') (hw : ∀ w r c, w ∈ Lf w r c)
    (step : ∀ w r c x a rest H', Pt Z ((x, enc a) :: Lf w r c) (Of r c) H' → f a c (fun c' => (mb (forM rest c' f) k) post px) px →
      g x (S r c) H' fun σ2 H2 => tb ⟨fun σ3 H3 => ∃ r' c', σ3 = S r' c' ∧ Pt Z (Lf w r' c') (Of r' c') H3 ∧ (mb (forM rest c' f) k) post px, rt, nx, fun σ3 H3 => ∃ r' c', σ3 = S r' c' ∧ Pt Z (Lf w r' c') (Of r' c') H3 ∧ (mb (forM rest c' f) k) post px⟩ σ2 H2)
    (done : ∀ w r c H', Pt Z (Lf w r c) (Of r c) H' → k c post px → nx (S r c) H') : tFor wi g tb ⟨nx, rt, bk, ct⟩ σ H := by
  refine e L H _ px _ sub_refl' hp hx hm fun xs w J H1 hp1 hJ hm1 => ?_
  obtain ⟨hsz, G, Y, wk, hG, hY⟩ := hJ
  obtain ⟨r0, e0, p0⟩ := h0 w H1 hp1
  refine for_it (D := ⟨nx, rt, bk, ct⟩) wk (fun i σ' H' => ∃ r c, σ' = S r c ∧ Pt Z (Lf w r c) (Of r c) H' ∧ (mb (forM (xs.drop i) c f) k) post px) ⟨r0, c0, e0, p0, hm1⟩ ?_ ?_ ?_
  · rintro i σ' H' _ ⟨r, c, _, p, _⟩
    exact hG _ _ _ (hw w r c) p
  · rintro i x σ' H' H'' hi ⟨r, c, rfl, p, q⟩ hy
    obtain ⟨a, ea, pa⟩ := hY _ _ i H' x H'' (hw w r c) p hi hy
    obtain ⟨hl, e2⟩ := List.getElem?_eq_some_iff.mp ea
    have ed : xs.drop i = a :: xs.drop (i + 1) := by rw [← e2]; exact List.drop_eq_getElem_cons hl
    rw [ed] at q
    exact step w r c x a (xs.drop (i + 1)) H'' pa q
  · rintro σ' H' ⟨r, c, rfl, p, q⟩
    rw [List.drop_length] at q
    exact done w r c H' p q
/-! ### comprehensions -/
theorem ET.yes : ET Z L O tYes σ (mr true) := fun L1 H post px Q s hp hx hm k => k true H hp hm
def compM {α β : Type} (p : α → M Bool) (f : α → M β) : List α → M (List β)
  | [] => mr []
  | x :: xs => mb (p x) fun c => if c = true then mb (f x) fun y => mb (compM p f xs) fun ys => mr (y :: ys) else compM p f xs
theorem lc_core {wi : TI} {g : TG} {tt : TT} {te : TE} {vs : List Nat} {ml : M (List α)} {p : α → M Bool} {f : α → M β} {L1 : List (V × D)} {post : List β → Prop} {Q : VK} (s : ∀ x ∈ L, x ∈ L1) (hp : Pt Z L1 O H) (hx : HX Z px) (hm : (mb ml (compM p f)) post px) (e : EI Z L O wi σ ml)
    {ι : Type} (S : ι → L2.St) (Lb : ι → α → List (V × D)) (hb : ∀ (L : List (V × D)) (O : List (Addr × D)) (H : Hp) (x : V) (a : α) (Q : L2.St → Hp → Prop), Pt Z ((x, enc a) :: L) O H → (∀ r, Pt Z (Lb r a ++ L) O H → Q (S r) H) → g x (wipe σ vs) H Q) (hw : ∀ r, wipe (S r) vs = wipe σ vs)
    (ht : ∀ a r q, ET Z (Lb r a ++ L) (q :: O) tt (S r) (p a)) (he : ∀ a r q, EV Z (Lb r a ++ L) (q :: O) te (S r) (f a)) (k : ∀ acc Dp H', Pt Z L1 ((Dp, enc acc) :: O) H' → post acc → Q (.ref Dp) H') : tLc wi g tt te vs σ H Q := by
  refine e L1 H _ px _ s hp hx hm fun xs w J H1 hp1 hJ hm1 => ?_
  obtain ⟨hsz, G, Y, wk, hG, hY⟩ := hJ
  have sub2 : ∀ (r : ι) (a : α) (L' : List (V × D)), ∀ y ∈ Lb r a ++ L, y ∈ Lb r a ++ (w :: L1) := fun r a L' y hy => by
    rcases List.mem_append.mp hy with e | e
    · exact List.mem_append_left _ e
    · exact List.mem_append_right _ (List.mem_cons_of_mem _ (s y e))
  refine fun Dp hD => lc_it wk (fun i H' => ∃ acc : List β, Pt Z (w :: L1) ((Dp, enc acc) :: O) H' ∧ acc.length ≤ i ∧ compM p f (xs.drop i) (fun ys => post (acc ++ ys)) px) ?_ ?_ ?_ ?_
  · exact ⟨[], hp1.own hD fun G _ => .lst (by simp) .nil, Nat.le_refl _, hm1⟩
  · rintro i H' _ ⟨acc, hp', _⟩
    exact hG _ _ _ List.mem_cons_self hp'
  · rintro i x H' H'' hi ⟨acc, hp', hl, q⟩ hy
    obtain ⟨a, ea, pa⟩ := hY _ _ i H' x H'' List.mem_cons_self hp' hi hy
    obtain ⟨hl2, e2⟩ := List.getElem?_eq_some_iff.mp ea
    have ed : xs.drop i = a :: xs.drop (i + 1) := by rw [← e2]; exact List.drop_eq_getElem_cons hl2
    rw [ed] at q
    refine hb _ _ _ x a _ pa fun r pr => ⟨hw r, ?_⟩
    refine ht a r (Dp, enc acc) _ H'' _ px _ (sub2 r a L1) pr hx q fun c H3 hp3 q3 => ?_
    cases c with
    | false =>
      rw [if_neg (by decide)] at q3 ⊢
      exact ⟨acc, hp3.less fun y hy => List.mem_append_right _ hy, by omega, q3⟩
    | true =>
      rw [if_pos rfl] at q3 ⊢
      refine he a r (Dp, enc acc) _ H3 _ px _ (sub2 r a L1) hp3 hx q3 fun y v H4 hp4 q4 => ?_
      obtain ⟨ho, G', e1, e2, e3, e4⟩ := hp4.at List.mem_cons_self
      obtain ⟨us, rfl, l, t⟩ := is_cell e2
      have n := t.len
      rw [List.length_map] at n
      refine ⟨us, e1, by rw [n, sizeLine_eq]; omega, acc ++ [y], ?_, by rw [List.length_append]; simpa using by omega, ?_⟩
      · refine (hp4.put (O' := (Dp, enc (acc ++ [y])) :: O) .hd fun G'' hG'' ho hh hc => ?_).less fun z hz => List.mem_cons_of_mem _ (List.mem_append_right _ hz)
        rw [e1] at hh
        cases hh
        obtain ⟨ws, e, l', t'⟩ := is_cell hc
        cases e
        rw [enc_snoc]
        exact .lst (by rw [List.length_append]; show us.length + 1 ≤ 1000000; omega) (t'.put (hG'' _ List.mem_cons_self))
      · have fe : (fun ys => post (acc ++ [y] ++ ys)) = (fun ys => post (acc ++ (y :: ys))) := by funext ys; simp
        rw [fe]
        exact q4
  · rintro H' ⟨acc, hp', hl, q⟩
    rw [List.drop_length] at q
    have q : post (acc ++ []) := q
    rw [List.append_nil] at q
    exact k acc Dp H' (hp'.less fun y hy => List.mem_cons_of_mem _ hy) q
/-- the target is a name -/
theorem EV.lc1 {wi : TI} {j : Nat} {tt : TT} {te : TE} {vs : List Nat} {ml : M (List α)} {p : α → M Bool} {f : α → M β} (e : EI Z L O wi σ ml) (hw : ∀ v, wipe ((wipe σ vs).set j (some v)) vs = wipe σ vs)
    (ht : ∀ a x q, ET Z ((x, enc a) :: L) (q :: O) tt ((wipe σ vs).set j (some x)) (p a)) (he : ∀ a x q, EV Z ((x, enc a) :: L) (q :: O) te ((wipe σ vs).set j (some x)) (f a)) : EV Z L O (tLc wi (gName j) tt te vs) σ (mb ml (compM p f)) := fun L1 H post px Q s hp hx hm k =>
  lc_core s hp hx hm e (ι := V) (fun v => (wipe σ vs).set j (some v)) (fun v a => [(v, enc a)]) (fun L O H x a Q hp c => c x hp) hw ht he fun acc Dp H' hp' hq => k acc _ H' (hp'.freeze .hd) hq
theorem EV.lc2 {wi : TI} {i j : Nat} {tt : TT} {te : TE} {vs : List Nat} {ml : M (List (α × γ))} {p : α × γ → M Bool} {f : α × γ → M β} (e : EI Z L O wi σ ml) (hw : ∀ v w, wipe (((wipe σ vs).set i (some v)).set j (some w)) vs = wipe σ vs)
    (ht : ∀ a x y q, ET Z ((y, enc a.2) :: (x, enc a.1) :: L) (q :: O) tt (((wipe σ vs).set i (some x)).set j (some y)) (p a)) (he : ∀ a x y q, EV Z ((y, enc a.2) :: (x, enc a.1) :: L) (q :: O) te (((wipe σ vs).set i (some x)).set j (some y)) (f a)) : EV Z L O (tLc wi (gTup Z.K 2 (gCons (gName i) (gCons (gName j) gNil))) tt te vs) σ (mb ml (compM p f)) := fun L1 H post px Q s hp hx hm k =>
  lc_core s hp hx hm e (ι := V × V) (fun v => ((wipe σ vs).set i (some v.1)).set j (some v.2)) (fun v a => [(v.2, enc a.2), (v.1, enc a.1)]) (fun L O H x a Q hp c => g_two (a := a.1) (b := a.2) hp fun v w hp' => c (v, w) hp') (fun r => hw r.1 r.2) (fun a r q => ht a r.1 r.2 q) (fun a r q => he a r.1 r.2 q) fun acc Dp H' hp' hq => k acc _ H' (hp'.freeze .hd) hq
theorem s_lc1 {wi : TI} {n j : Nat} {tt : TT} {te : TE} {vs : List Nat} {ml : M (List α)} {p : α → M Bool} {f : α → M β} {k : List β → M ρ} (hp : Pt Z L O H) (hx : HX Z px) (hm : (mb (mb ml (compM p f)) k) post px) (e : EI Z L O wi σ ml) (hw : ∀ v, wipe ((wipe σ vs).set j (some v)) vs = wipe σ vs)
    (ht : ∀ a x q, ET Z ((x, enc a) :: L) (q :: O) tt ((wipe σ vs).set j (some x)) (p a)) (he : ∀ a x q, EV Z ((x, enc a) :: L) (q :: O) te ((wipe σ vs).set j (some x)) (f a)) (c : ∀ acc d H', Pt Z L ((d, enc acc) :: O) H' → k acc post px → nx (σ.set n (some (.ref d))) H') : tAsg (tLc wi (gName j) tt te vs) (gName n) ⟨nx, rt, bk, ct⟩ σ H :=
  lc_core (fun _ h => h) hp hx hm e (ι := V) (fun v => (wipe σ vs).set j (some v)) (fun v a => [(v, enc a)]) (fun L O H x a Q hp c => c x hp) hw ht he fun acc Dp H' hp' hq => c acc Dp H' hp' hq
theorem s_lc2 {wi : TI} {n i j : Nat} {tt : TT} {te : TE} {vs : List Nat} {ml : M (List (α × γ))} {p : α × γ → M Bool} {f : α × γ → M β} {k : List β → M ρ} (hp : Pt Z L O H) (hx : HX Z px) (hm : (mb (mb ml (compM p f)) k) post px) (e : EI Z L O wi σ ml) (hw : ∀ v w, wipe (((wipe σ vs).set i (some v)).set j (some w)) vs = wipe σ vs)
    (ht : ∀ a x y q, ET Z ((y, enc a.2) :: (x, enc a.1) :: L) (q :: O) tt (((wipe σ vs).set i (some x)).set j (some y)) (p a)) (he : ∀ a x y q, EV Z ((y, enc a.2) :: (x, enc a.1) :: L) (q :: O) te (((wipe σ vs).set i (some x)).set j (some y)) (f a)) (c : ∀ acc d H', Pt Z L ((d, enc acc) :: O) H' → k acc post px → nx (σ.set n (some (.ref d))) H') : tAsg (tLc wi (gTup Z.K 2 (gCons (gName i) (gCons (gName j) gNil))) tt te vs) (gName n) ⟨nx, rt, bk, ct⟩ σ H :=
  lc_core (fun _ h => h) hp hx hm e (ι := V × V) (fun v => ((wipe σ vs).set i (some v.1)).set j (some v.2)) (fun v a => [(v.2, enc a.2), (v.1, enc a.1)]) (fun L O H x a Q hp c => g_two (a := a.1) (b := a.2) hp fun v w hp' => c (v, w) hp') (fun r => hw r.1 r.2) (fun a r q => ht a r.1 r.2 q) (fun a r q => he a r.1 r.2 q) fun acc Dp H' hp' hq => c acc Dp H' hp' hq
theorem compM_pure {α β : Type} (p : α → Bool) (f : α → β) : ∀ xs : List α, compM (fun a => mr (p a)) (fun a => mr (f a)) xs = mr ((xs.filter p).map f)
  | [] => rfl
  | x :: xs => by
    funext post px
    have z : compM (fun a => mr (p a)) (fun a => mr (f a)) (x :: xs) post px = (if p x = true then mb (mr (f x)) fun y => mb (compM (fun a => mr (p a)) (fun a => mr (f a)) xs) fun ys => mr (y :: ys) else compM (fun a => mr (p a)) (fun a => mr (f a)) xs) post px := rfl
    rw [z, compM_pure p f xs]
    cases e : p x with
    | true => rw [if_pos rfl, List.filter_cons_of_pos (by simp [e])]; rfl
    | false => rw [if_neg (by decide), List.filter_cons_of_neg (by simp [e])]
theorem compM_map {α β : Type} (f : α → β) (xs : List α) : compM (fun _ => mr true) (fun a => mr (f a)) xs = mr (xs.map f) := by
  rw [compM_pure (fun _ => true) f xs, List.filter_eq_self.mpr fun _ _ => rfl]
end
end
end Mi

/-! one's own things, errors, whiles, kinds -/
namespace Mi
open Enc (enc)
open PySem L2 PySem.Spec PyProof.Rows
open Cf (Fresh)
section
variable {Z : Zx} {L : List (V × D)} {O : List (Addr × D)} {σ : L2.St} {α β γ δ : Type} [Enc α] [Enc β] [Enc γ] [Enc δ]
/-- values that need no heap -/
class Flat (α : Type) [Enc α] where
  go : ∀ {K : PySem.W.Frag} {C : CT} {G G' : Hp} {a : α} {v : V}, Is K C G v (enc a) → Is K C G' v (enc a)
instance : Flat Int := ⟨fun h => by rw [is_int h]; exact .int _⟩
instance : Flat Bool := ⟨fun h => by rw [is_bl h]; exact .bl _⟩
instance : Flat Str := ⟨fun h => by rw [is_str h]; exact .str _⟩
instance : Flat Unit := ⟨fun h => by cases h; exact .non⟩
instance {α : Type} [Enc α] [f : Flat α] : Flat (Option α) := ⟨fun {K C G G' a v} h => by
  cases a with
  | none => cases h; exact .non
  | some a => exact f.go (a := a) h⟩
/-- one's own things as things that stand -/
def asL (O : List (Addr × D)) : List (V × D) := O.map fun x => (.ref x.1, x.2)
theorem view (hp : Pt Z L O H) (hx : HX Z px) : ∃ G0 F0, Pt ⟨Z.K, Z.C, Z.R, G0, F0, Z.E⟩ (asL O ++ L) [] H ∧ HX ⟨Z.K, Z.C, Z.R, G0, F0, Z.E⟩ px ∧
    ∀ {v : V} {d : D} {H' : Hp}, (∀ G G', Is Z.K Z.C G v d → Is Z.K Z.C G' v d) → Pt ⟨Z.K, Z.C, Z.R, G0, F0, Z.E⟩ [(v, d)] [] H' → Pt Z ((v, d) :: L) O H' := by
  obtain ⟨G, F, W, h⟩ := hp
  -- one's own cells
  let mine : Addr → Prop := fun b => ∃ x ∈ O, x.1 = b
  have dec : ∀ b, Decidable (mine b) := fun b => Classical.propDecidable _
  let FO : Hp := fun b => @ite _ (mine b) (dec b) (F b) none
  let FR : Hp := fun b => @ite _ (mine b) (dec b) none (F b)
  have fo : Sub FO F := fun b o e => by
    by_cases m : mine b
    · simp only [FO, if_pos m] at e; exact e
    · simp only [FO, if_neg m] at e; cases e
  have fr : Sub FR F := fun b o e => by
    by_cases m : mine b
    · simp only [FR, if_pos m] at e; cases e
    · simp only [FR, if_neg m] at e; exact e
  have gfo : Dis G FO := (h.gf.symm.less fo).symm
  have dd : Dis FO FR := fun b => by
    by_cases m : mine b
    · right; simp only [FR, if_pos m]
    · left; simp only [FO, if_neg m]
  have f0 : Sub Z.F0 FR := fun b o e => by
    have n : ¬ mine b := fun ⟨x, hx, ex⟩ => by
      obtain ⟨ho, _, e2, _⟩ := h.o x hx
      rw [ex, e] at e2; cases e2
    simp only [FR, if_neg n]
    exact h.f0 b o e
  refine ⟨join G FO, FR, ⟨join G FO, FR, W, ⟨.refl _, .refl _, join_sub h.g (fo.trans h.f), fr.trans h.f, h.w, (join_dis (h.gf.symm.less fr) dd.symm).symm, (join_dis h.gw.symm (h.fw.less fo).symm).symm, h.fw.less fr, h.r, fun x hx => ?_, (fun x hx => by cases hx), List.nodup_nil⟩⟩, ?_, ?_⟩
  · rcases List.mem_append.mp hx with e | e
    · obtain ⟨y, hy, rfl⟩ := List.mem_map.mp e
      obtain ⟨ho, e1, e2, e3⟩ := h.o y hy
      refine (e3.mono join_l).is (join_r gfo _ _ ?_)
      have m : mine y.1 := ⟨y, hy, rfl⟩
      simp only [FO, if_pos m]
      exact e1
    · exact (h.l x e).mono join_l
  · rintro e c d H' ⟨G', F', W', h', q⟩ hpx
    exact hx e c d H' ⟨G', F', W', ⟨(h.g0.trans join_l).trans h'.g0, f0.trans h'.f0, h'.g, h'.f, h'.w, h'.gf, h'.gw, h'.fw, h'.r, (by intro x hx; cases hx), (by intro x hx; cases hx), List.nodup_nil⟩, q⟩ hpx
  · rintro v d H' flat ⟨G', F', W', h'⟩
    have s1 : Sub G H' := (join_l.trans h'.g0).trans h'.g
    have s2 : Sub FO H' := ((join_r gfo).trans h'.g0).trans h'.g
    have s3 : Sub FO G' := (join_r gfo).trans h'.g0
    have fr' : Sub FR F' := h'.f0
    have j : Dis FO F' := h'.gf.less s3
    refine ⟨G, join FO F', W', ⟨h.g0, f0.trans (fr'.trans (join_r j)), s1, join_sub s2 h'.f, h'.w, join_dis gfo ((h'.gf.less (join_l.trans h'.g0))), h'.gw.less (join_l.trans h'.g0), (join_dis (h'.gw.less s3).symm h'.fw.symm).symm, h'.r, fun x hx => ?_, fun x hx => ?_, h.nd⟩⟩
    · rcases List.mem_cons.mp hx with e | e
      · rw [e]; exact flat _ _ (h'.l _ List.mem_cons_self)
      · exact h.l x e
    · obtain ⟨ho, e1, e2, e3⟩ := h.o x hx
      refine ⟨ho, join_l _ _ ?_, e2, e3⟩
      have m : mine x.1 := ⟨x, hx, rfl⟩
      simp only [FO, if_pos m]
      exact e1
/-- an expression whose value needs no heap: one's own things may be read in it -/
theorem EV.scal [f : Flat α] {t : TE} {m : M α} (e : ∀ G0 F0, EV ⟨Z.K, Z.C, Z.R, G0, F0, Z.E⟩ (asL O ++ L) [] t σ m) : EV Z L O t σ m := fun L1 H post px Q s hp hx hm k => by
  obtain ⟨G0, F0, h1, h2, h3⟩ := view hp hx
  refine e G0 F0 (asL O ++ L1) H post px Q (fun x hx => ?_) h1 h2 hm fun a v H' hp' hq => ?_
  · rcases List.mem_append.mp hx with e | e
    · exact List.mem_append_left _ e
    · exact List.mem_append_right _ (s x e)
  · exact k a v H' (h3 (fun G G' h => f.go h) (hp'.less fun x hx => by rcases List.mem_cons.mp hx with e | e; (· rw [e]; exact List.mem_cons_self); (· cases e))) hq
theorem ET.scal {t : TT} {m : M Bool} (e : ∀ G0 F0, ET ⟨Z.K, Z.C, Z.R, G0, F0, Z.E⟩ (asL O ++ L) [] t σ m) : ET Z L O t σ m := fun L1 H post px Q s hp hx hm k => by
  obtain ⟨G0, F0, h1, h2, h3⟩ := view hp hx
  refine e G0 F0 (asL O ++ L1) H post px Q (fun x hx => ?_) h1 h2 hm fun a H' hp' hq => ?_
  · rcases List.mem_append.mp hx with e | e
    · exact List.mem_append_left _ e
    · exact List.mem_append_right _ (s x e)
  · exact k a H' (h3 (v := .non) (d := .non) (fun G G' h => .non) ((hp'.less (L' := []) (fun x hx => by cases hx)).add fun _ _ => .non)).tail hq
section
variable {nx : L2.St → Hp → Prop} {rt : VK} {bk ct : L2.St → Hp → Prop} {H : Hp} {px : Exn → Prop} {ρ : Type} {post : ρ → Prop}
/-! ### errors -/
theorem s_raise {A : Addr} {fld : Str} {W : WX} {ta : TE} {D' : Ends} {c : Str} {m : M α} (hp : Pt Z L O H) (hx : HX Z px) (ha : Z.C c = some A) (hm : (mb m fun a => (mx ⟨c, [fld], [enc a]⟩ : M ρ)) post px) (e : EV Z L O ta σ m) (hW : ∀ cl d H', Z.E cl d H' → W cl d σ H') : tRaise1 A fld W (tCons ta tNil) D' σ H :=
  e L H _ px _ sub_refl' hp hx hm fun a v H' hp' hq => ⟨v, rfl, fun d hd => hW _ _ _ (hx _ _ _ _ (by
    obtain ⟨G, F, W, h⟩ := hp'
    have hG := h.g.free hd
    exact ⟨upd G d (.xd [(fld, v)]), F, W, ⟨h.g0.trans (.self hG), h.f0, h.g.upd, h.f.new hd, h.w.new hd, h.gf.new (h.f.free hd), h.gw.new (h.w.free hd), h.fw, h.r, (by intro x hx; cases hx), (by intro x hx; cases hx), List.nodup_nil⟩, A, rfl, ha, (fun z => nomatch z), .xd (fs := [(fld, v)]) upd_same (.cons (h.x0.mono (.self hG)) .nil)⟩) hq)⟩
/-- an error without fields -/
theorem s_raise0 {A : Addr} {W : WX} {c : Str} (hp : Pt Z L O H) (hx : HX Z px) (ha : Z.C c = some A) (hm : (mx ⟨c, [], []⟩ : M ρ) post px) (hW : ∀ cl d H', Z.E cl d H' → W cl d σ H') : W (.ref A) none σ H :=
  hW _ _ _ (hx _ _ _ _ (by
    obtain ⟨G, F, W, h⟩ := hp
    exact ⟨G, F, W, { h with l := (by intro x hx; cases hx), o := (by intro x hx; cases hx), nd := List.nodup_nil }, A, rfl, ha, fun _ => rfl, .non⟩) hm)
/-! ### while -/
def whileR {γ ρ : Type} (c : γ → M Bool) (f : γ → M (Stp γ ρ)) : Nat → γ → M (γ ⊕ ρ)
  | 0, _ => mstuck
  | n + 1, s => mb (c s) fun b => if b = true then mb (f s) fun o => (match o with
    | .next s' => whileR c f n s'
    | .brk s' => mr (.inl s')
    | .ret r => mr (.inr r)) else mr (.inl s)
theorem s_while {ι : Type} {ρ' : Type} {tc : TT} {tb : TS} {mc : γ → M Bool} {f : γ → M (Stp γ ρ')} {k : γ ⊕ ρ' → M ρ} {c0 : γ} {n : Nat} (hp : Pt Z L O H) (hx : HX Z px) (hm : (mb (whileR mc f n c0) k) post px)
    (S : ι → γ → L2.St) (Lf : ι → γ → List (V × D)) (Of : ι → γ → List (Addr × D))
    (h0 : ∃ r, σ = S r c0 ∧ Pt Z (Lf r c0) (Of r c0) H) (test : ∀ r c, ET Z (Lf r c) (Of r c) tc (S r c) (mc c))
    (step : ∀ nx' : L2.St → Hp → Prop, (∀ r c H', Pt Z (Lf r c) (Of r c) H' → k (.inl c) post px → nx' (S r c) H') → ∀ n r c H', Pt Z (Lf r c) (Of r c) H' → f c (fun s => (match s with | .next c' => mb (whileR mc f n c') k | .brk c' => k (.inl c') | .ret q => k (.inr q)) post px) px →
      tb ⟨fun σ3 H3 => ∃ r' c', σ3 = S r' c' ∧ Pt Z (Lf r' c') (Of r' c') H3 ∧ (mb (whileR mc f n c') k) post px, rt, nx', fun σ3 H3 => ∃ r' c', σ3 = S r' c' ∧ Pt Z (Lf r' c') (Of r' c') H3 ∧ (mb (whileR mc f n c') k) post px⟩ (S r c) H')
    (done : ∀ r c H', Pt Z (Lf r c) (Of r c) H' → k (.inl c) post px → nx (S r c) H') : tWhile tc tb ⟨nx, rt, bk, ct⟩ σ H := by
  obtain ⟨r0, e0, p0⟩ := h0
  refine ⟨fun n σ' H' => ∃ r c, σ' = S r c ∧ Pt Z (Lf r c) (Of r c) H' ∧ (mb (whileR mc f n c) k) post px, ⟨n, r0, c0, e0, p0, hm⟩, ?_⟩
  rintro n σ' H' ⟨r, c, rfl, p, q⟩
  cases n with
  | zero => exact q.elim
  | succ n =>
    refine test r c _ H' _ px _ (fun _ h => h) p hx q fun b H1 hp1 hb => ?_
    cases b with
    | false => rw [if_neg (by decide)] at hb ⊢; exact done r c H1 hp1 hb
    | true =>
      rw [if_pos rfl] at hb ⊢
      refine ⟨fun σ3 H3 => ∃ r' c', σ3 = S r' c' ∧ Pt Z (Lf r' c') (Of r' c') H3 ∧ (mb (whileR mc f n c') k) post px, fun σ3 H3 h3 => ⟨n, Nat.lt_succ_self n, h3⟩, step nx done n r c H1 hp1 ?_⟩
      have hb : f c (fun o => (match o with | .next s' => whileR mc f n s' | .brk s' => mr (.inl s') | .ret r => mr (.inr r)) (fun o => k o post px) px) px := hb
      have fe : (fun o : Stp γ ρ' => (match o with | .next s' => whileR mc f n s' | .brk s' => mr (.inl s') | .ret r => mr (.inr r)) (fun o => k o post px) px) = (fun s => (match s with | .next c' => mb (whileR mc f n c') k | .brk c' => k (.inl c') | .ret q => k (.inr q)) post px) := by
        funext s
        cases s <;> rfl
      rw [fe] at hb
      exact hb
/-! ### a field of one's own object -/
theorem putF_new {f : Str} {y : V} : ∀ {fs : List (Str × V)}, (fs.map (·.1)).contains f = false → putF f y fs = fs ++ [(f, y)]
  | [], _ => rfl
  | (g, x) :: fs, h => by
    simp only [List.map_cons, List.contains_cons, Bool.or_eq_false_iff] at h
    have ne : ¬ g = f := by
      intro e; rw [e] at h; simp at h
    show (if g = f then _ else _) = _
    rw [if_neg ne, putF_new h.2]
    rfl
theorem s_fldNew {tv : TE} {f c : Str} {A p : Addr} {i : Nat} {ns : List Str} {ds : List D} {O' : α → List (Addr × D)} {m : M α} {k : α → M ρ} (hi : σ[i]? = some (some (.ref p))) (hp : Pt Z L O H) (hx : HX Z px) (hm : (mb m k) post px) (e : EV Z L O tv σ m) (ha : Z.C c = some A) (cl : Cls Z.K A) (na : NoAttr Z.K A f)
    (hn : ns.contains f = false) (hl : ns.length < 1000) (u : ∀ a : α, Up p (.obj c ns ds) (.obj c (ns ++ [f]) (ds ++ [enc a])) O (O' a)) (cc : ∀ a H', Pt Z L (O' a) H' → k a post px → nx σ H') : sFld Z.K (tVar i) tv f ⟨nx, rt, bk, ct⟩ σ H :=
  e L H _ px _ sub_refl' hp hx hm fun a v H1 hp1 hm1 => by
    obtain ⟨ho, G, e1, e2, e3, e4⟩ := hp1.at (u a).mem
    obtain ⟨B, dx, fs, rfl, e5, e6, t⟩ : ∃ B dx fs, ho = .ins B dx fs ∧ Z.C c = some B ∧ fs.map (·.1) = ns ∧ IsL Z.K Z.C G (fs.map (·.2)) ds := by
      generalize hq : (D.obj c ns ds) = q at e2
      cases e2 with
      | lst l t => cases hq
      | dic n t => cases hq
      | obj hc t => cases hq; exact ⟨_, _, _, rfl, hc, rfl, t⟩
    obtain rfl : B = A := Option.some.inj (e5.symm.trans ha)
    have hf : (fs.map (·.1)).contains f = false := by rw [e6]; exact hn
    refine ⟨_, hi, p, B, dx, fs, rfl, e1, cl, na, by rw [← List.length_map (f := (·.1)), e6]; exact hl, ?_⟩
    rw [putF_new hf]
    refine cc a _ ((hp1.put (u a) fun G' hG ho hh hc => ?_).tail) hm1
    rw [e1] at hh
    cases hh
    have hv := hG _ List.mem_cons_self
    generalize hq : (D.obj c ns ds) = q at hc
    cases hc with
    | obj hc t' =>
      cases hq
      have z : D.obj c (fs.map (·.1) ++ [f]) (ds ++ [enc a]) = D.obj c ((fs ++ [(f, v)]).map (·.1)) (ds ++ [enc a]) := by rw [List.map_append]; rfl
      rw [z]
      refine .obj hc ?_
      rw [List.map_append]
      exact t'.put hv
/-- a field of one's own object is read -/
theorem EV.fldO {i : Nat} {p A : Addr} {f c : Str} {ns : List Str} {ds : List D} {b : β} (hi : σ[i]? = some (some (.ref p))) (hm : (p, D.obj c ns ds) ∈ O) (ha : Z.C c = some A) (cl : Cls Z.K A) (na : NoAttr Z.K A f) (h : (ns.zip ds).lookup f = some (enc b)) : EV Z L O (tFld Z.K (tVar i) f) σ (mr b) := fun L1 H post px Q s hp hx hq k => by
  obtain ⟨G, F, W, h1⟩ := hp
  obtain ⟨ho, e1, e2, e3⟩ := h1.o _ hm
  obtain ⟨B, dx, fs, rfl, e5, e6, t⟩ : ∃ B dx fs, ho = .ins B dx fs ∧ Z.C c = some B ∧ fs.map (·.1) = ns ∧ IsL Z.K Z.C G (fs.map (·.2)) ds := by
    generalize hz : (p, D.obj c ns ds).2 = q at e3
    cases e3 with
    | lst l t => cases hz
    | dic n t => cases hz
    | obj hc t => cases hz; exact ⟨_, _, _, rfl, hc, rfl, t⟩
  obtain rfl : B = A := Option.some.inj (e5.symm.trans ha)
  obtain ⟨v, q1, q2⟩ := lookup_isL e6 t h
  exact ⟨_, hi, p, B, dx, fs, v, rfl, h1.f _ _ e1, cl, na, q1, k _ v H (h1.add q2) hq⟩
/-- an item of one's own list -/
theorem EV.ixO {i : Nat} {p : Addr} {xs : List α} {tb : TE} {m : M Int} (hi : σ[i]? = some (some (.ref p))) (hmem : (p, enc xs) ∈ O) (e : EV Z L O tb σ m) : EV Z L O (tOp (Cf.rIxx Z.K) (tVar i) tb) σ (mb m fun j => mix xs j) := fun L1 H post px Q s hp hx hm k =>
  ⟨_, hi, e L1 H _ px _ s hp hx hm fun j x H1 hp1 hm1 => by
    obtain ⟨G, F, W, h⟩ := hp1
    obtain rfl := is_int h.x0
    obtain ⟨ho, e1, e2, e3⟩ := h.o _ hmem
    obtain ⟨vs, rfl, l, t⟩ := is_cell e3
    have hm1 : mix xs j post px := hm1
    unfold mix at hm1
    cases q : atI xs j with
    | none => rw [q] at hm1; exact hm1.elim
    | some c =>
      rw [q] at hm1
      obtain ⟨v, e1', e2'⟩ := atI_isL (d := enc c) t (by rw [atI_map, q]; rfl)
      exact .inl (.inl ⟨p, vs, j, v, rfl, rfl, .inl (.inl (h.f _ _ e1)), e1', k c v H1 (h.t1.add e2') hm1⟩)⟩
end
end
end Mi

/-! helpers by arity; joins; the law's own defs -/
namespace Mi
open Enc (enc)
open PySem L2 PySem.Spec PyProof.Rows
open Cf (Fresh)
section
variable {Z : Zx} {L : List (V × D)} {O : List (Addr × D)} {σ : L2.St} {α β γ δ ε : Type} [Enc α] [Enc β] [Enc γ] [Enc δ] {K : PySem.W.Frag} {C : CT} {R : Hp → Prop} {sp : Sp} {dvs : List V} {E : XK} {m : M α} {c : Str}
theorem pk0 {β : Type} {m : List β} : ∀ x ∈ ([] : List β), x ∈ m := fun x h => by cases h
theorem pk {β : Type} {a : β} {l m : List β} (h : a ∈ m) (t : ∀ x ∈ l, x ∈ m) : ∀ x ∈ a :: l, x ∈ m := fun x hx => by
  rcases List.mem_cons.mp hx with e | e
  · rw [e]; exact h
  · exact t x e
theorem Pt.fin {x : V × D} {H : Hp} (h : Pt Z (x :: L) O H) : Pt Z [x] [] H := (h.less (pk List.mem_cons_self (fun x h => by cases h))).lessO (List.nil_sublist _)
theorem Pt.finN {H : Hp} (h : Pt Z L O H) : Pt Z [(.non, .non)] [] H := (h.add fun _ _ => .non).fin
theorem hcN0 (k : ∀ (H : Hp) (Q : VK), CallN K C R [] m H Q → sp ([] ++ dvs) H Q E) : ∀ (vs : List V) (H : Hp) (Q : VK), vs.length = ([] : List D).length → CallN K C R (vs.zip []) m H Q → sp (vs ++ dvs) H Q E := fun vs H Q hl h => by
  match vs, hl with
  | [], _ => exact k  H Q h
theorem hcX0 (k : ∀ (H : Hp) (Q : VK), Call K C R [] m H Q E → sp ([] ++ dvs) H Q E) : ∀ (vs : List V) (H : Hp) (Q : VK), vs.length = ([] : List D).length → Call K C R (vs.zip []) m H Q E → sp (vs ++ dvs) H Q E := fun vs H Q hl h => by
  match vs, hl with
  | [], _ => exact k  H Q h
theorem hcS0 (k : ∀ (H : Hp) (Q : VK), Call K C R [] m H Q E → sp [] H Q E) : ∀ (vs : List V) (H : Hp) (Q : VK), vs.length = ([] : List D).length → Call K C R (vs.zip []) m H Q E → sp vs H Q E := fun vs H Q hl h => by
  match vs, hl with
  | [], _ => exact k  H Q h
theorem hcW0 {p : Addr} (k : ∀ (H : Hp) (Q : VK), CallN K C R [] m H Q → sp (.ref p :: [] ++ dvs) H Q E) : ∀ (vs : List V) (H : Hp) (Q : VK), vs.length = ([] : List D).length → CallN K C R (vs.zip []) m H Q → sp (.ref p :: vs ++ dvs) H Q E := fun vs H Q hl h => by
  match vs, hl with
  | [], _ => exact k  H Q h
theorem hcM0 {dx : D} (k : ∀ (x : V) (H : Hp) (Q : VK), CallN K C R ((x, dx) :: []) m H Q → sp (x :: ([] ++ dvs)) H Q E) : ∀ (x : V) (vs : List V) (H : Hp) (Q : VK), vs.length = ([] : List D).length → CallN K C R ((x, dx) :: vs.zip []) m H Q → sp (x :: (vs ++ dvs)) H Q E := fun x vs H Q hl h => by
  match vs, hl with
  | [], _ => exact k x  H Q h
theorem hcI0 (k : ∀ (x : Addr) (H : Hp) (Q : VK), CallIN K C c x [] m H Q → sp (.ref x :: ([] ++ dvs)) H Q E) : ∀ (x : Addr) (vs : List V) (H : Hp) (Q : VK), vs.length = ([] : List D).length → CallIN K C c x (vs.zip []) m H Q → sp (.ref x :: (vs ++ dvs)) H Q E := fun x vs H Q hl h => by
  match vs, hl with
  | [], _ => exact k x  H Q h
theorem hcJ0 (k : ∀ (x : Addr) (H : Hp) (Q : VK), CallI K C c x [] m H Q E → sp (.ref x :: ([] ++ dvs)) H Q E) : ∀ (x : Addr) (vs : List V) (H : Hp) (Q : VK), vs.length = ([] : List D).length → CallI K C c x (vs.zip []) m H Q E → sp (.ref x :: (vs ++ dvs)) H Q E := fun x vs H Q hl h => by
  match vs, hl with
  | [], _ => exact k x  H Q h
theorem hcN1 {d0 : D} (k : ∀ (v0 : V) (H : Hp) (Q : VK), CallN K C R [(v0, d0)] m H Q → sp ([v0] ++ dvs) H Q E) : ∀ (vs : List V) (H : Hp) (Q : VK), vs.length = ([d0] : List D).length → CallN K C R (vs.zip [d0]) m H Q → sp (vs ++ dvs) H Q E := fun vs H Q hl h => by
  match vs, hl with
  | [v0], _ => exact k v0 H Q h
theorem hcX1 {d0 : D} (k : ∀ (v0 : V) (H : Hp) (Q : VK), Call K C R [(v0, d0)] m H Q E → sp ([v0] ++ dvs) H Q E) : ∀ (vs : List V) (H : Hp) (Q : VK), vs.length = ([d0] : List D).length → Call K C R (vs.zip [d0]) m H Q E → sp (vs ++ dvs) H Q E := fun vs H Q hl h => by
  match vs, hl with
  | [v0], _ => exact k v0 H Q h
theorem hcS1 {d0 : D} (k : ∀ (v0 : V) (H : Hp) (Q : VK), Call K C R [(v0, d0)] m H Q E → sp [v0] H Q E) : ∀ (vs : List V) (H : Hp) (Q : VK), vs.length = ([d0] : List D).length → Call K C R (vs.zip [d0]) m H Q E → sp vs H Q E := fun vs H Q hl h => by
  match vs, hl with
  | [v0], _ => exact k v0 H Q h
theorem hcW1 {p : Addr} {d0 : D} (k : ∀ (v0 : V) (H : Hp) (Q : VK), CallN K C R [(v0, d0)] m H Q → sp (.ref p :: [v0] ++ dvs) H Q E) : ∀ (vs : List V) (H : Hp) (Q : VK), vs.length = ([d0] : List D).length → CallN K C R (vs.zip [d0]) m H Q → sp (.ref p :: vs ++ dvs) H Q E := fun vs H Q hl h => by
  match vs, hl with
  | [v0], _ => exact k v0 H Q h
theorem hcM1 {dx : D} {d0 : D} (k : ∀ (x : V) (v0 : V) (H : Hp) (Q : VK), CallN K C R ((x, dx) :: [(v0, d0)]) m H Q → sp (x :: ([v0] ++ dvs)) H Q E) : ∀ (x : V) (vs : List V) (H : Hp) (Q : VK), vs.length = ([d0] : List D).length → CallN K C R ((x, dx) :: vs.zip [d0]) m H Q → sp (x :: (vs ++ dvs)) H Q E := fun x vs H Q hl h => by
  match vs, hl with
  | [v0], _ => exact k x v0 H Q h
theorem hcI1 {d0 : D} (k : ∀ (x : Addr) (v0 : V) (H : Hp) (Q : VK), CallIN K C c x [(v0, d0)] m H Q → sp (.ref x :: ([v0] ++ dvs)) H Q E) : ∀ (x : Addr) (vs : List V) (H : Hp) (Q : VK), vs.length = ([d0] : List D).length → CallIN K C c x (vs.zip [d0]) m H Q → sp (.ref x :: (vs ++ dvs)) H Q E := fun x vs H Q hl h => by
  match vs, hl with
  | [v0], _ => exact k x v0 H Q h
theorem hcJ1 {d0 : D} (k : ∀ (x : Addr) (v0 : V) (H : Hp) (Q : VK), CallI K C c x [(v0, d0)] m H Q E → sp (.ref x :: ([v0] ++ dvs)) H Q E) : ∀ (x : Addr) (vs : List V) (H : Hp) (Q : VK), vs.length = ([d0] : List D).length → CallI K C c x (vs.zip [d0]) m H Q E → sp (.ref x :: (vs ++ dvs)) H Q E := fun x vs H Q hl h => by
  match vs, hl with
  | [v0], _ => exact k x v0 H Q h
theorem hcN2 {d0 d1 : D} (k : ∀ (v0 v1 : V) (H : Hp) (Q : VK), CallN K C R [(v0, d0), (v1, d1)] m H Q → sp ([v0, v1] ++ dvs) H Q E) : ∀ (vs : List V) (H : Hp) (Q : VK), vs.length = ([d0, d1] : List D).length → CallN K C R (vs.zip [d0, d1]) m H Q → sp (vs ++ dvs) H Q E := fun vs H Q hl h => by
  match vs, hl with
  | [v0, v1], _ => exact k v0 v1 H Q h
theorem hcX2 {d0 d1 : D} (k : ∀ (v0 v1 : V) (H : Hp) (Q : VK), Call K C R [(v0, d0), (v1, d1)] m H Q E → sp ([v0, v1] ++ dvs) H Q E) : ∀ (vs : List V) (H : Hp) (Q : VK), vs.length = ([d0, d1] : List D).length → Call K C R (vs.zip [d0, d1]) m H Q E → sp (vs ++ dvs) H Q E := fun vs H Q hl h => by
  match vs, hl with
  | [v0, v1], _ => exact k v0 v1 H Q h
theorem hcS2 {d0 d1 : D} (k : ∀ (v0 v1 : V) (H : Hp) (Q : VK), Call K C R [(v0, d0), (v1, d1)] m H Q E → sp [v0, v1] H Q E) : ∀ (vs : List V) (H : Hp) (Q : VK), vs.length = ([d0, d1] : List D).length → Call K C R (vs.zip [d0, d1]) m H Q E → sp vs H Q E := fun vs H Q hl h => by
  match vs, hl with
  | [v0, v1], _ => exact k v0 v1 H Q h
theorem hcW2 {p : Addr} {d0 d1 : D} (k : ∀ (v0 v1 : V) (H : Hp) (Q : VK), CallN K C R [(v0, d0), (v1, d1)] m H Q → sp (.ref p :: [v0, v1] ++ dvs) H Q E) : ∀ (vs : List V) (H : Hp) (Q : VK), vs.length = ([d0, d1] : List D).length → CallN K C R (vs.zip [d0, d1]) m H Q → sp (.ref p :: vs ++ dvs) H Q E := fun vs H Q hl h => by
  match vs, hl with
  | [v0, v1], _ => exact k v0 v1 H Q h
theorem hcM2 {dx : D} {d0 d1 : D} (k : ∀ (x : V) (v0 v1 : V) (H : Hp) (Q : VK), CallN K C R ((x, dx) :: [(v0, d0), (v1, d1)]) m H Q → sp (x :: ([v0, v1] ++ dvs)) H Q E) : ∀ (x : V) (vs : List V) (H : Hp) (Q : VK), vs.length = ([d0, d1] : List D).length → CallN K C R ((x, dx) :: vs.zip [d0, d1]) m H Q → sp (x :: (vs ++ dvs)) H Q E := fun x vs H Q hl h => by
  match vs, hl with
  | [v0, v1], _ => exact k x v0 v1 H Q h
theorem hcI2 {d0 d1 : D} (k : ∀ (x : Addr) (v0 v1 : V) (H : Hp) (Q : VK), CallIN K C c x [(v0, d0), (v1, d1)] m H Q → sp (.ref x :: ([v0, v1] ++ dvs)) H Q E) : ∀ (x : Addr) (vs : List V) (H : Hp) (Q : VK), vs.length = ([d0, d1] : List D).length → CallIN K C c x (vs.zip [d0, d1]) m H Q → sp (.ref x :: (vs ++ dvs)) H Q E := fun x vs H Q hl h => by
  match vs, hl with
  | [v0, v1], _ => exact k x v0 v1 H Q h
theorem hcJ2 {d0 d1 : D} (k : ∀ (x : Addr) (v0 v1 : V) (H : Hp) (Q : VK), CallI K C c x [(v0, d0), (v1, d1)] m H Q E → sp (.ref x :: ([v0, v1] ++ dvs)) H Q E) : ∀ (x : Addr) (vs : List V) (H : Hp) (Q : VK), vs.length = ([d0, d1] : List D).length → CallI K C c x (vs.zip [d0, d1]) m H Q E → sp (.ref x :: (vs ++ dvs)) H Q E := fun x vs H Q hl h => by
  match vs, hl with
  | [v0, v1], _ => exact k x v0 v1 H Q h
theorem hcN3 {d0 d1 d2 : D} (k : ∀ (v0 v1 v2 : V) (H : Hp) (Q : VK), CallN K C R [(v0, d0), (v1, d1), (v2, d2)] m H Q → sp ([v0, v1, v2] ++ dvs) H Q E) : ∀ (vs : List V) (H : Hp) (Q : VK), vs.length = ([d0, d1, d2] : List D).length → CallN K C R (vs.zip [d0, d1, d2]) m H Q → sp (vs ++ dvs) H Q E := fun vs H Q hl h => by
  match vs, hl with
  | [v0, v1, v2], _ => exact k v0 v1 v2 H Q h
theorem hcX3 {d0 d1 d2 : D} (k : ∀ (v0 v1 v2 : V) (H : Hp) (Q : VK), Call K C R [(v0, d0), (v1, d1), (v2, d2)] m H Q E → sp ([v0, v1, v2] ++ dvs) H Q E) : ∀ (vs : List V) (H : Hp) (Q : VK), vs.length = ([d0, d1, d2] : List D).length → Call K C R (vs.zip [d0, d1, d2]) m H Q E → sp (vs ++ dvs) H Q E := fun vs H Q hl h => by
  match vs, hl with
  | [v0, v1, v2], _ => exact k v0 v1 v2 H Q h
theorem hcS3 {d0 d1 d2 : D} (k : ∀ (v0 v1 v2 : V) (H : Hp) (Q : VK), Call K C R [(v0, d0), (v1, d1), (v2, d2)] m H Q E → sp [v0, v1, v2] H Q E) : ∀ (vs : List V) (H : Hp) (Q : VK), vs.length = ([d0, d1, d2] : List D).length → Call K C R (vs.zip [d0, d1, d2]) m H Q E → sp vs H Q E := fun vs H Q hl h => by
  match vs, hl with
  | [v0, v1, v2], _ => exact k v0 v1 v2 H Q h
theorem hcW3 {p : Addr} {d0 d1 d2 : D} (k : ∀ (v0 v1 v2 : V) (H : Hp) (Q : VK), CallN K C R [(v0, d0), (v1, d1), (v2, d2)] m H Q → sp (.ref p :: [v0, v1, v2] ++ dvs) H Q E) : ∀ (vs : List V) (H : Hp) (Q : VK), vs.length = ([d0, d1, d2] : List D).length → CallN K C R (vs.zip [d0, d1, d2]) m H Q → sp (.ref p :: vs ++ dvs) H Q E := fun vs H Q hl h => by
  match vs, hl with
  | [v0, v1, v2], _ => exact k v0 v1 v2 H Q h
theorem hcM3 {dx : D} {d0 d1 d2 : D} (k : ∀ (x : V) (v0 v1 v2 : V) (H : Hp) (Q : VK), CallN K C R ((x, dx) :: [(v0, d0), (v1, d1), (v2, d2)]) m H Q → sp (x :: ([v0, v1, v2] ++ dvs)) H Q E) : ∀ (x : V) (vs : List V) (H : Hp) (Q : VK), vs.length = ([d0, d1, d2] : List D).length → CallN K C R ((x, dx) :: vs.zip [d0, d1, d2]) m H Q → sp (x :: (vs ++ dvs)) H Q E := fun x vs H Q hl h => by
  match vs, hl with
  | [v0, v1, v2], _ => exact k x v0 v1 v2 H Q h
theorem hcI3 {d0 d1 d2 : D} (k : ∀ (x : Addr) (v0 v1 v2 : V) (H : Hp) (Q : VK), CallIN K C c x [(v0, d0), (v1, d1), (v2, d2)] m H Q → sp (.ref x :: ([v0, v1, v2] ++ dvs)) H Q E) : ∀ (x : Addr) (vs : List V) (H : Hp) (Q : VK), vs.length = ([d0, d1, d2] : List D).length → CallIN K C c x (vs.zip [d0, d1, d2]) m H Q → sp (.ref x :: (vs ++ dvs)) H Q E := fun x vs H Q hl h => by
  match vs, hl with
  | [v0, v1, v2], _ => exact k x v0 v1 v2 H Q h
theorem hcJ3 {d0 d1 d2 : D} (k : ∀ (x : Addr) (v0 v1 v2 : V) (H : Hp) (Q : VK), CallI K C c x [(v0, d0), (v1, d1), (v2, d2)] m H Q E → sp (.ref x :: ([v0, v1, v2] ++ dvs)) H Q E) : ∀ (x : Addr) (vs : List V) (H : Hp) (Q : VK), vs.length = ([d0, d1, d2] : List D).length → CallI K C c x (vs.zip [d0, d1, d2]) m H Q E → sp (.ref x :: (vs ++ dvs)) H Q E := fun x vs H Q hl h => by
  match vs, hl with
  | [v0, v1, v2], _ => exact k x v0 v1 v2 H Q h
theorem hcN4 {d0 d1 d2 d3 : D} (k : ∀ (v0 v1 v2 v3 : V) (H : Hp) (Q : VK), CallN K C R [(v0, d0), (v1, d1), (v2, d2), (v3, d3)] m H Q → sp ([v0, v1, v2, v3] ++ dvs) H Q E) : ∀ (vs : List V) (H : Hp) (Q : VK), vs.length = ([d0, d1, d2, d3] : List D).length → CallN K C R (vs.zip [d0, d1, d2, d3]) m H Q → sp (vs ++ dvs) H Q E := fun vs H Q hl h => by
  match vs, hl with
  | [v0, v1, v2, v3], _ => exact k v0 v1 v2 v3 H Q h
theorem hcX4 {d0 d1 d2 d3 : D} (k : ∀ (v0 v1 v2 v3 : V) (H : Hp) (Q : VK), Call K C R [(v0, d0), (v1, d1), (v2, d2), (v3, d3)] m H Q E → sp ([v0, v1, v2, v3] ++ dvs) H Q E) : ∀ (vs : List V) (H : Hp) (Q : VK), vs.length = ([d0, d1, d2, d3] : List D).length → Call K C R (vs.zip [d0, d1, d2, d3]) m H Q E → sp (vs ++ dvs) H Q E := fun vs H Q hl h => by
  match vs, hl with
  | [v0, v1, v2, v3], _ => exact k v0 v1 v2 v3 H Q h
theorem hcS4 {d0 d1 d2 d3 : D} (k : ∀ (v0 v1 v2 v3 : V) (H : Hp) (Q : VK), Call K C R [(v0, d0), (v1, d1), (v2, d2), (v3, d3)] m H Q E → sp [v0, v1, v2, v3] H Q E) : ∀ (vs : List V) (H : Hp) (Q : VK), vs.length = ([d0, d1, d2, d3] : List D).length → Call K C R (vs.zip [d0, d1, d2, d3]) m H Q E → sp vs H Q E := fun vs H Q hl h => by
  match vs, hl with
  | [v0, v1, v2, v3], _ => exact k v0 v1 v2 v3 H Q h
theorem hcW4 {p : Addr} {d0 d1 d2 d3 : D} (k : ∀ (v0 v1 v2 v3 : V) (H : Hp) (Q : VK), CallN K C R [(v0, d0), (v1, d1), (v2, d2), (v3, d3)] m H Q → sp (.ref p :: [v0, v1, v2, v3] ++ dvs) H Q E) : ∀ (vs : List V) (H : Hp) (Q : VK), vs.length = ([d0, d1, d2, d3] : List D).length → CallN K C R (vs.zip [d0, d1, d2, d3]) m H Q → sp (.ref p :: vs ++ dvs) H Q E := fun vs H Q hl h => by
  match vs, hl with
  | [v0, v1, v2, v3], _ => exact k v0 v1 v2 v3 H Q h
theorem hcM4 {dx : D} {d0 d1 d2 d3 : D} (k : ∀ (x : V) (v0 v1 v2 v3 : V) (H : Hp) (Q : VK), CallN K C R ((x, dx) :: [(v0, d0), (v1, d1), (v2, d2), (v3, d3)]) m H Q → sp (x :: ([v0, v1, v2, v3] ++ dvs)) H Q E) : ∀ (x : V) (vs : List V) (H : Hp) (Q : VK), vs.length = ([d0, d1, d2, d3] : List D).length → CallN K C R ((x, dx) :: vs.zip [d0, d1, d2, d3]) m H Q → sp (x :: (vs ++ dvs)) H Q E := fun x vs H Q hl h => by
  match vs, hl with
  | [v0, v1, v2, v3], _ => exact k x v0 v1 v2 v3 H Q h
theorem hcI4 {d0 d1 d2 d3 : D} (k : ∀ (x : Addr) (v0 v1 v2 v3 : V) (H : Hp) (Q : VK), CallIN K C c x [(v0, d0), (v1, d1), (v2, d2), (v3, d3)] m H Q → sp (.ref x :: ([v0, v1, v2, v3] ++ dvs)) H Q E) : ∀ (x : Addr) (vs : List V) (H : Hp) (Q : VK), vs.length = ([d0, d1, d2, d3] : List D).length → CallIN K C c x (vs.zip [d0, d1, d2, d3]) m H Q → sp (.ref x :: (vs ++ dvs)) H Q E := fun x vs H Q hl h => by
  match vs, hl with
  | [v0, v1, v2, v3], _ => exact k x v0 v1 v2 v3 H Q h
theorem hcJ4 {d0 d1 d2 d3 : D} (k : ∀ (x : Addr) (v0 v1 v2 v3 : V) (H : Hp) (Q : VK), CallI K C c x [(v0, d0), (v1, d1), (v2, d2), (v3, d3)] m H Q E → sp (.ref x :: ([v0, v1, v2, v3] ++ dvs)) H Q E) : ∀ (x : Addr) (vs : List V) (H : Hp) (Q : VK), vs.length = ([d0, d1, d2, d3] : List D).length → CallI K C c x (vs.zip [d0, d1, d2, d3]) m H Q E → sp (.ref x :: (vs ++ dvs)) H Q E := fun x vs H Q hl h => by
  match vs, hl with
  | [v0, v1, v2, v3], _ => exact k x v0 v1 v2 v3 H Q h
theorem hcN5 {d0 d1 d2 d3 d4 : D} (k : ∀ (v0 v1 v2 v3 v4 : V) (H : Hp) (Q : VK), CallN K C R [(v0, d0), (v1, d1), (v2, d2), (v3, d3), (v4, d4)] m H Q → sp ([v0, v1, v2, v3, v4] ++ dvs) H Q E) : ∀ (vs : List V) (H : Hp) (Q : VK), vs.length = ([d0, d1, d2, d3, d4] : List D).length → CallN K C R (vs.zip [d0, d1, d2, d3, d4]) m H Q → sp (vs ++ dvs) H Q E := fun vs H Q hl h => by
  match vs, hl with
  | [v0, v1, v2, v3, v4], _ => exact k v0 v1 v2 v3 v4 H Q h
theorem hcX5 {d0 d1 d2 d3 d4 : D} (k : ∀ (v0 v1 v2 v3 v4 : V) (H : Hp) (Q : VK), Call K C R [(v0, d0), (v1, d1), (v2, d2), (v3, d3), (v4, d4)] m H Q E → sp ([v0, v1, v2, v3, v4] ++ dvs) H Q E) : ∀ (vs : List V) (H : Hp) (Q : VK), vs.length = ([d0, d1, d2, d3, d4] : List D).length → Call K C R (vs.zip [d0, d1, d2, d3, d4]) m H Q E → sp (vs ++ dvs) H Q E := fun vs H Q hl h => by
  match vs, hl with
  | [v0, v1, v2, v3, v4], _ => exact k v0 v1 v2 v3 v4 H Q h
theorem hcS5 {d0 d1 d2 d3 d4 : D} (k : ∀ (v0 v1 v2 v3 v4 : V) (H : Hp) (Q : VK), Call K C R [(v0, d0), (v1, d1), (v2, d2), (v3, d3), (v4, d4)] m H Q E → sp [v0, v1, v2, v3, v4] H Q E) : ∀ (vs : List V) (H : Hp) (Q : VK), vs.length = ([d0, d1, d2, d3, d4] : List D).length → Call K C R (vs.zip [d0, d1, d2, d3, d4]) m H Q E → sp vs H Q E := fun vs H Q hl h => by
  match vs, hl with
  | [v0, v1, v2, v3, v4], _ => exact k v0 v1 v2 v3 v4 H Q h
theorem hcW5 {p : Addr} {d0 d1 d2 d3 d4 : D} (k : ∀ (v0 v1 v2 v3 v4 : V) (H : Hp) (Q : VK), CallN K C R [(v0, d0), (v1, d1), (v2, d2), (v3, d3), (v4, d4)] m H Q → sp (.ref p :: [v0, v1, v2, v3, v4] ++ dvs) H Q E) : ∀ (vs : List V) (H : Hp) (Q : VK), vs.length = ([d0, d1, d2, d3, d4] : List D).length → CallN K C R (vs.zip [d0, d1, d2, d3, d4]) m H Q → sp (.ref p :: vs ++ dvs) H Q E := fun vs H Q hl h => by
  match vs, hl with
  | [v0, v1, v2, v3, v4], _ => exact k v0 v1 v2 v3 v4 H Q h
theorem hcM5 {dx : D} {d0 d1 d2 d3 d4 : D} (k : ∀ (x : V) (v0 v1 v2 v3 v4 : V) (H : Hp) (Q : VK), CallN K C R ((x, dx) :: [(v0, d0), (v1, d1), (v2, d2), (v3, d3), (v4, d4)]) m H Q → sp (x :: ([v0, v1, v2, v3, v4] ++ dvs)) H Q E) : ∀ (x : V) (vs : List V) (H : Hp) (Q : VK), vs.length = ([d0, d1, d2, d3, d4] : List D).length → CallN K C R ((x, dx) :: vs.zip [d0, d1, d2, d3, d4]) m H Q → sp (x :: (vs ++ dvs)) H Q E := fun x vs H Q hl h => by
  match vs, hl with
  | [v0, v1, v2, v3, v4], _ => exact k x v0 v1 v2 v3 v4 H Q h
theorem hcI5 {d0 d1 d2 d3 d4 : D} (k : ∀ (x : Addr) (v0 v1 v2 v3 v4 : V) (H : Hp) (Q : VK), CallIN K C c x [(v0, d0), (v1, d1), (v2, d2), (v3, d3), (v4, d4)] m H Q → sp (.ref x :: ([v0, v1, v2, v3, v4] ++ dvs)) H Q E) : ∀ (x : Addr) (vs : List V) (H : Hp) (Q : VK), vs.length = ([d0, d1, d2, d3, d4] : List D).length → CallIN K C c x (vs.zip [d0, d1, d2, d3, d4]) m H Q → sp (.ref x :: (vs ++ dvs)) H Q E := fun x vs H Q hl h => by
  match vs, hl with
  | [v0, v1, v2, v3, v4], _ => exact k x v0 v1 v2 v3 v4 H Q h
theorem hcJ5 {d0 d1 d2 d3 d4 : D} (k : ∀ (x : Addr) (v0 v1 v2 v3 v4 : V) (H : Hp) (Q : VK), CallI K C c x [(v0, d0), (v1, d1), (v2, d2), (v3, d3), (v4, d4)] m H Q E → sp (.ref x :: ([v0, v1, v2, v3, v4] ++ dvs)) H Q E) : ∀ (x : Addr) (vs : List V) (H : Hp) (Q : VK), vs.length = ([d0, d1, d2, d3, d4] : List D).length → CallI K C c x (vs.zip [d0, d1, d2, d3, d4]) m H Q E → sp (.ref x :: (vs ++ dvs)) H Q E := fun x vs H Q hl h => by
  match vs, hl with
  | [v0, v1, v2, v3, v4], _ => exact k x v0 v1 v2 v3 v4 H Q h
theorem hcN6 {d0 d1 d2 d3 d4 d5 : D} (k : ∀ (v0 v1 v2 v3 v4 v5 : V) (H : Hp) (Q : VK), CallN K C R [(v0, d0), (v1, d1), (v2, d2), (v3, d3), (v4, d4), (v5, d5)] m H Q → sp ([v0, v1, v2, v3, v4, v5] ++ dvs) H Q E) : ∀ (vs : List V) (H : Hp) (Q : VK), vs.length = ([d0, d1, d2, d3, d4, d5] : List D).length → CallN K C R (vs.zip [d0, d1, d2, d3, d4, d5]) m H Q → sp (vs ++ dvs) H Q E := fun vs H Q hl h => by
  match vs, hl with
  | [v0, v1, v2, v3, v4, v5], _ => exact k v0 v1 v2 v3 v4 v5 H Q h
theorem hcX6 {d0 d1 d2 d3 d4 d5 : D} (k : ∀ (v0 v1 v2 v3 v4 v5 : V) (H : Hp) (Q : VK), Call K C R [(v0, d0), (v1, d1), (v2, d2), (v3, d3), (v4, d4), (v5, d5)] m H Q E → sp ([v0, v1, v2, v3, v4, v5] ++ dvs) H Q E) : ∀ (vs : List V) (H : Hp) (Q : VK), vs.length = ([d0, d1, d2, d3, d4, d5] : List D).length → Call K C R (vs.zip [d0, d1, d2, d3, d4, d5]) m H Q E → sp (vs ++ dvs) H Q E := fun vs H Q hl h => by
  match vs, hl with
  | [v0, v1, v2, v3, v4, v5], _ => exact k v0 v1 v2 v3 v4 v5 H Q h
theorem hcS6 {d0 d1 d2 d3 d4 d5 : D} (k : ∀ (v0 v1 v2 v3 v4 v5 : V) (H : Hp) (Q : VK), Call K C R [(v0, d0), (v1, d1), (v2, d2), (v3, d3), (v4, d4), (v5, d5)] m H Q E → sp [v0, v1, v2, v3, v4, v5] H Q E) : ∀ (vs : List V) (H : Hp) (Q : VK), vs.length = ([d0, d1, d2, d3, d4, d5] : List D).length → Call K C R (vs.zip [d0, d1, d2, d3, d4, d5]) m H Q E → sp vs H Q E := fun vs H Q hl h => by
  match vs, hl with
  | [v0, v1, v2, v3, v4, v5], _ => exact k v0 v1 v2 v3 v4 v5 H Q h
theorem hcW6 {p : Addr} {d0 d1 d2 d3 d4 d5 : D} (k : ∀ (v0 v1 v2 v3 v4 v5 : V) (H : Hp) (Q : VK), CallN K C R [(v0, d0), (v1, d1), (v2, d2), (v3, d3), (v4, d4), (v5, d5)] m H Q → sp (.ref p :: [v0, v1, v2, v3, v4, v5] ++ dvs) H Q E) : ∀ (vs : List V) (H : Hp) (Q : VK), vs.length = ([d0, d1, d2, d3, d4, d5] : List D).length → CallN K C R (vs.zip [d0, d1, d2, d3, d4, d5]) m H Q → sp (.ref p :: vs ++ dvs) H Q E := fun vs H Q hl h => by
  match vs, hl with
  | [v0, v1, v2, v3, v4, v5], _ => exact k v0 v1 v2 v3 v4 v5 H Q h
theorem hcM6 {dx : D} {d0 d1 d2 d3 d4 d5 : D} (k : ∀ (x : V) (v0 v1 v2 v3 v4 v5 : V) (H : Hp) (Q : VK), CallN K C R ((x, dx) :: [(v0, d0), (v1, d1), (v2, d2), (v3, d3), (v4, d4), (v5, d5)]) m H Q → sp (x :: ([v0, v1, v2, v3, v4, v5] ++ dvs)) H Q E) : ∀ (x : V) (vs : List V) (H : Hp) (Q : VK), vs.length = ([d0, d1, d2, d3, d4, d5] : List D).length → CallN K C R ((x, dx) :: vs.zip [d0, d1, d2, d3, d4, d5]) m H Q → sp (x :: (vs ++ dvs)) H Q E := fun x vs H Q hl h => by
  match vs, hl with
  | [v0, v1, v2, v3, v4, v5], _ => exact k x v0 v1 v2 v3 v4 v5 H Q h
theorem hcI6 {d0 d1 d2 d3 d4 d5 : D} (k : ∀ (x : Addr) (v0 v1 v2 v3 v4 v5 : V) (H : Hp) (Q : VK), CallIN K C c x [(v0, d0), (v1, d1), (v2, d2), (v3, d3), (v4, d4), (v5, d5)] m H Q → sp (.ref x :: ([v0, v1, v2, v3, v4, v5] ++ dvs)) H Q E) : ∀ (x : Addr) (vs : List V) (H : Hp) (Q : VK), vs.length = ([d0, d1, d2, d3, d4, d5] : List D).length → CallIN K C c x (vs.zip [d0, d1, d2, d3, d4, d5]) m H Q → sp (.ref x :: (vs ++ dvs)) H Q E := fun x vs H Q hl h => by
  match vs, hl with
  | [v0, v1, v2, v3, v4, v5], _ => exact k x v0 v1 v2 v3 v4 v5 H Q h
theorem hcJ6 {d0 d1 d2 d3 d4 d5 : D} (k : ∀ (x : Addr) (v0 v1 v2 v3 v4 v5 : V) (H : Hp) (Q : VK), CallI K C c x [(v0, d0), (v1, d1), (v2, d2), (v3, d3), (v4, d4), (v5, d5)] m H Q E → sp (.ref x :: ([v0, v1, v2, v3, v4, v5] ++ dvs)) H Q E) : ∀ (x : Addr) (vs : List V) (H : Hp) (Q : VK), vs.length = ([d0, d1, d2, d3, d4, d5] : List D).length → CallI K C c x (vs.zip [d0, d1, d2, d3, d4, d5]) m H Q E → sp (.ref x :: (vs ++ dvs)) H Q E := fun x vs H Q hl h => by
  match vs, hl with
  | [v0, v1, v2, v3, v4, v5], _ => exact k x v0 v1 v2 v3 v4 v5 H Q h
section
variable {nx : L2.St → Hp → Prop} {rt : VK} {bk ct : L2.St → Hp → Prop} {H : Hp} {px : Exn → Prop} {ρ : Type} {post : ρ → Prop}
/-- ways that meet again -/
theorem s_join {ι : Type} {τ : Type} {a rest : TS} {m : M γ} {k : γ → M ρ} (hp : Pt Z L O H) (hm : (mb m k) post px) (S : ι → γ → L2.St) (Lf : ι → γ → List (V × D)) (Of : ι → γ → List (Addr × D))
    (h : ∀ nx' : L2.St → Hp → Prop, (∀ r c H', Pt Z (Lf r c) (Of r c) H' → k c post px → nx' (S r c) H') → m (fun c => k c post px) px → a ⟨nx', rt, bk, ct⟩ σ H)
    (j : ∀ r c H', Pt Z (Lf r c) (Of r c) H' → k c post px → rest ⟨nx, rt, bk, ct⟩ (S r c) H') : tSeq a rest ⟨nx, rt, bk, ct⟩ σ H := h _ j hm
theorem s_joinS {ι : Type} {τ : Type} {a rest : TS} {m : M (γ ⊕ τ)} {k : γ ⊕ τ → M ρ} (hp : Pt Z L O H) (hm : (mb m k) post px) (S : ι → γ → L2.St) (Lf : ι → γ → List (V × D)) (Of : ι → γ → List (Addr × D))
    (h : ∀ nx' : L2.St → Hp → Prop, (∀ r c H', Pt Z (Lf r c) (Of r c) H' → k (.inl c) post px → nx' (S r c) H') → m (fun c => k c post px) px → a ⟨nx', rt, bk, ct⟩ σ H)
    (j : ∀ r c H', Pt Z (Lf r c) (Of r c) H' → k (.inl c) post px → rest ⟨nx, rt, bk, ct⟩ (S r c) H') : tSeq a rest ⟨nx, rt, bk, ct⟩ σ H := h _ j hm
/-- an assignment, the slots behind it written out -/
theorem s_set {te : TE} {i : Nat} {m : M α} {k : α → M ρ} (S : V → L2.St) (hS : ∀ v, σ.set i (some v) = S v) (hp : Pt Z L O H) (hx : HX Z px) (hm : mb m k post px) (e : EV Z L O te σ m) (c : ∀ a v H', Pt Z ((v, enc a) :: L) O H' → k a post px → nx (S v) H') : tAsg te (gName i) ⟨nx, rt, bk, ct⟩ σ H :=
  s_asg hp hx hm e fun a v H' hp hm => by rw [hS v]; exact c a v H' hp hm
theorem s_setL {t : TA} {i : Nat} {m : M ε} {ds : ε → List D} {k : List α → M ρ} (f : ε → List α) (S : Addr → L2.St) (hS : ∀ p, σ.set i (some (.ref p)) = S p) (hp : Pt Z L O H) (hx : HX Z px) (hm : mb (mb m fun g => mr (f g)) k post px) (e : EA Z L O t σ m ds) (hf : ∀ g, enc (f g) = .lst (ds g)) (hl : ∀ g, (ds g).length ≤ 1000)
    (c : ∀ a p H', Pt Z L ((p, enc a) :: O) H' → k a post px → nx (S p) H') : tAsg (tLst t) (gName i) ⟨nx, rt, bk, ct⟩ σ H :=
  s_asgL (m := m) (k := fun g => k (f g)) hp hx hm e hl fun g p H' hp hm => by rw [hS p]; exact c (f g) p H' (by rw [hf g]; exact hp) hm
theorem s_setC1 {wi : TI} {n j : Nat} {tt : TT} {te : TE} {vs : List Nat} {ml : M (List α)} {p : α → M Bool} {f : α → M β} {k : List β → M ρ} (S : Addr → L2.St) (hS : ∀ p, σ.set n (some (.ref p)) = S p) (hp : Pt Z L O H) (hx : HX Z px) (hm : (mb (mb ml (compM p f)) k) post px) (e : EI Z L O wi σ ml) (hw : ∀ v, wipe ((wipe σ vs).set j (some v)) vs = wipe σ vs)
    (ht : ∀ a x q, ET Z ((x, enc a) :: L) (q :: O) tt ((wipe σ vs).set j (some x)) (p a)) (he : ∀ a x q, EV Z ((x, enc a) :: L) (q :: O) te ((wipe σ vs).set j (some x)) (f a)) (c : ∀ acc d H', Pt Z L ((d, enc acc) :: O) H' → k acc post px → nx (S d) H') : tAsg (tLc wi (gName j) tt te vs) (gName n) ⟨nx, rt, bk, ct⟩ σ H :=
  s_lc1 hp hx hm e hw ht he fun acc d H' hp hm => by rw [hS d]; exact c acc d H' hp hm
theorem s_setC2 {wi : TI} {n i j : Nat} {tt : TT} {te : TE} {vs : List Nat} {ml : M (List (α × γ))} {p : α × γ → M Bool} {f : α × γ → M β} {k : List β → M ρ} (S : Addr → L2.St) (hS : ∀ p, σ.set n (some (.ref p)) = S p) (hp : Pt Z L O H) (hx : HX Z px) (hm : (mb (mb ml (compM p f)) k) post px) (e : EI Z L O wi σ ml) (hw : ∀ v w, wipe (((wipe σ vs).set i (some v)).set j (some w)) vs = wipe σ vs)
    (ht : ∀ a x y q, ET Z ((y, enc a.2) :: (x, enc a.1) :: L) (q :: O) tt (((wipe σ vs).set i (some x)).set j (some y)) (p a)) (he : ∀ a x y q, EV Z ((y, enc a.2) :: (x, enc a.1) :: L) (q :: O) te (((wipe σ vs).set i (some x)).set j (some y)) (f a)) (c : ∀ acc d H', Pt Z L ((d, enc acc) :: O) H' → k acc post px → nx (S d) H') : tAsg (tLc wi (gTup Z.K 2 (gCons (gName i) (gCons (gName j) gNil))) tt te vs) (gName n) ⟨nx, rt, bk, ct⟩ σ H :=
  s_lc2 hp hx hm e hw ht he fun acc d H' hp hm => by rw [hS d]; exact c acc d H' hp hm
/-- name, name = a pair -/
theorem s_set2 {te : TE} {i j : Nat} {m : M (α × β)} {k : α × β → M ρ} (S : V → V → L2.St) (hS : ∀ v w, (σ.set i (some v)).set j (some w) = S v w) (hp : Pt Z L O H) (hx : HX Z px) (hm : mb m k post px) (e : EV Z L O te σ m) (c : ∀ a b v w H', Pt Z ((w, enc b) :: (v, enc a) :: L) O H' → k (a, b) post px → nx (S v w) H') : tAsg te (gTup Z.K 2 (gCons (gName i) (gCons (gName j) gNil))) ⟨nx, rt, bk, ct⟩ σ H :=
  e L H _ px _ sub_refl' hp hx hm fun a x H' hp' hm' => g_two (a := a.1) (b := a.2) hp' fun v w hp2 => by rw [hS v w]; exact c a.1 a.2 v w H' hp2 hm'
theorem g_one' {i : Nat} {x : V} {a : α} {Q : L2.St → Hp → Prop} (S : V → L2.St) (hS : ∀ v, σ.set i (some v) = S v) (hp : Pt Z ((x, enc a) :: L) O H) (c : Pt Z ((x, enc a) :: L) O H → Q (S x) H) : gName i x σ H Q := by
  show Q (σ.set i (some x)) H
  rw [hS x]; exact c hp
theorem g_two' {i j : Nat} {x : V} {a : α} {b : β} {Q : L2.St → Hp → Prop} (S : V → V → L2.St) (hS : ∀ v w, (σ.set i (some v)).set j (some w) = S v w) (hp : Pt Z ((x, enc (a, b)) :: L) O H) (c : ∀ v w, Pt Z ((w, enc b) :: (v, enc a) :: L) O H → Q (S v w) H) : gTup Z.K 2 (gCons (gName i) (gCons (gName j) gNil)) x σ H Q :=
  g_two hp fun v w hp => by rw [hS v w]; exact c v w hp
theorem g_three' {i j k : Nat} {x : V} {a : α} {b : β} {d : γ} {Q : L2.St → Hp → Prop} (S : V → V → V → L2.St) (hS : ∀ v w u, ((σ.set i (some v)).set j (some w)).set k (some u) = S v w u) (hp : Pt Z ((x, enc (⟨a, b, d⟩ : T3 α β γ)) :: L) O H) (c : ∀ v w u, Pt Z ((u, enc d) :: (w, enc b) :: (v, enc a) :: L) O H → Q (S v w u) H) : gTup Z.K 3 (gCons (gName i) (gCons (gName j) (gCons (gName k) gNil))) x σ H Q :=
  g_three hp fun v w u hp => by rw [hS v w u]; exact c v w u hp
end
/-! ## the state of the draws -/
def RS (p : Addr) : Hp → Prop := fun W => ∃ q, Cf.StAt W p q
def spDrawM (K : PySem.W.Frag) (C : CT) : Sp := fun vs H Q E => ∃ (p : Addr) (n : Int) (v0 : V), vs = [.ref p, v0] ∧ CallN K C (RS p) [(v0, enc n)] (mdraw n) H Q
theorem stAt_sub {W H : Hp} {p q : Addr} (s : Sub W H) (h : Cf.StAt W p q) : Cf.StAt H p q := by
  obtain ⟨ne, ns, i, b, c, m, t, h1, h2, h3⟩ := h
  exact ⟨ne, ns, i, b, c, m, t, s _ _ h1, s _ _ h2, h3⟩
/-- p and q alone -/
def two (H : Hp) (p q : Addr) : Hp := fun b => if b = p ∨ b = q then H b else none
theorem two_sub {H : Hp} {p q : Addr} : Sub (two H p q) H := fun b o e => by
  unfold two at e
  by_cases h : b = p ∨ b = q
  · rw [if_pos h] at e; exact e
  · rw [if_neg h] at e; cases e
theorem two_st {H : Hp} {p q : Addr} (h : Cf.StAt H p q) : Cf.StAt (two H p q) p q := by
  obtain ⟨ne, ns, i, b, c, m, t, h1, h2, h3⟩ := h
  exact ⟨ne, ns, i, b, c, m, t, by unfold two; rw [if_pos (.inl rfl)]; exact h1, by unfold two; rw [if_pos (.inr rfl)]; exact h2, h3⟩
theorem two_dis {A W H : Hp} {p q : Addr} (d : Dis A W) (h : Cf.StAt W p q) : Dis A (two H p q) := fun b => by
  unfold two
  by_cases e : b = p ∨ b = q
  · left
    rcases d b with z | z
    · exact z
    · exfalso
      obtain ⟨_, _, _, _, _, _, _, h1, h2, _⟩ := h
      rcases e with e | e
      · rw [e, h1] at z; cases z
      · rw [e, h2] at z; cases z
  · right; rw [if_neg e]
theorem draw_ok {P : Program} {w : World} {mg : Str → Option Value} {base : Heap} {n : Nat} {f : Addr} {fd : FuncData} {ps : List Str} (F : FnOk P w K mg base CX0 n f fd ps Cf.spDraw) : FnOk P w K mg base CX0 n f fd ps (spDrawM K C) := F.imp fun vs H Q E h => by
  obtain ⟨p, n, v0, rfl, G0, F0, post, px, ⟨G, F, W, h⟩, hm, k⟩ := h
  obtain rfl := is_int h.x0
  obtain ⟨q, hs⟩ := h.r
  obtain ⟨h1, h2, h3⟩ := hm
  refine ⟨p, q, n, rfl, stAt_sub h.w hs, h1, h2, fun d H' d0 d1 s' kp => k d _ H' ?_ (h3 d d0 d1)⟩
  have out : ∀ {A : Hp}, Dis A W → Sub A H → Sub A H' := fun {A} dA sA b o e => kp b o (fun z => by
    have z : b = p := by simpa using z
    obtain ⟨_, _, _, _, _, _, _, h1, _, _⟩ := hs
    rcases dA b with y | y
    · rw [y] at e; cases e
    · rw [z, h1] at y; cases y) (sA b o e)
  exact ⟨G, F, two H' p q, ⟨h.g0, h.f0, out h.gw h.g, out h.fw h.f, two_sub, h.gf, two_dis h.gw hs, two_dis h.fw hs, ⟨q, two_st s'⟩, (fun x hx => by
    rcases List.mem_cons.mp hx with e | e
    · rw [e]; exact .int _
    · cases e), (fun x hx => by cases hx), List.nodup_nil⟩⟩
/-- the first point of a law that draws -/
theorem pt_start {H : Hp} {p q : Addr} (h : Cf.StAt H p q) : Pt ⟨K, C, RS p, fun _ => none, fun _ => none, ET0⟩ [] [] H :=
  ⟨fun _ => none, fun _ => none, two H p q, ⟨.refl _, .refl _, sub_none, sub_none, two_sub, fun b => .inl rfl, fun b => .inl rfl, fun b => .inl rfl, ⟨q, two_st h⟩, (fun x hx => by cases hx), (fun x hx => by cases hx), List.nodup_nil⟩⟩
end
end Mi

/-! one lemma an operator -/
namespace Mi
open Enc (enc)
open PySem L2 PySem.Spec PyProof.Rows
open Cf (Fresh rPlus rTimes rEqq rNeq rInn rNotInn rIxx rIsN rNotN rInt rListOf rTupOf)
section
variable {Z : Zx} {L : List (V × D)} {O : List (Addr × D)} {σ : L2.St} {α β γ δ : Type} [Enc α] [Enc β] [Enc γ] [Enc δ]
theorem EV.addIP  {ta tb : TE} {a : Int} {b : Int} (e1 : EV Z L O ta σ (mr a)) (e2 : EV Z L O tb σ (mr b)) : EV Z L O (tOp rPlus ta tb) σ (mr (a + b)) := EV.op2P (f := fun a b => mr (a + b)) ok_addI e1 e2
theorem EV.addI  {ta tb : TE} {m1 : M (Int)} {m2 : M (Int)} (e1 : EV Z L O ta σ m1) (e2 : EV Z L O tb σ m2) : EV Z L O (tOp rPlus ta tb) σ (mb m1 fun a => mb m2 fun b => mr (a + b)) := EV.op2 (f := fun a b => mr (a + b)) ok_addI e1 e2
theorem EV.addSP  {ta tb : TE} {a : Str} {b : Str} (e1 : EV Z L O ta σ (mr a)) (e2 : EV Z L O tb σ (mr b)) : EV Z L O (tOp rPlus ta tb) σ (maddS a b) := EV.op2P (f := fun a b => maddS a b) ok_addS e1 e2
theorem EV.addS  {ta tb : TE} {m1 : M (Str)} {m2 : M (Str)} (e1 : EV Z L O ta σ m1) (e2 : EV Z L O tb σ m2) : EV Z L O (tOp rPlus ta tb) σ (mb m1 fun a => mb m2 fun b => maddS a b) := EV.op2 (f := fun a b => maddS a b) ok_addS e1 e2
theorem EV.addLP  {ta tb : TE} {a : List α} {b : List α} (e1 : EV Z L O ta σ (mr a)) (e2 : EV Z L O tb σ (mr b)) : EV Z L O (tOp rPlus ta tb) σ (maddL a b) := EV.op2P (f := fun a b => maddL a b) ok_addL e1 e2
theorem EV.addL  {ta tb : TE} {m1 : M (List α)} {m2 : M (List α)} (e1 : EV Z L O ta σ m1) (e2 : EV Z L O tb σ m2) : EV Z L O (tOp rPlus ta tb) σ (mb m1 fun a => mb m2 fun b => maddL a b) := EV.op2 (f := fun a b => maddL a b) ok_addL e1 e2
theorem EV.subIP  {ta tb : TE} {a : Int} {b : Int} (e1 : EV Z L O ta σ (mr a)) (e2 : EV Z L O tb σ (mr b)) : EV Z L O (tOp (rI0 fun i j => .int (i - j)) ta tb) σ (mr (a - b)) := EV.op2P (f := fun a b => mr (a - b)) ok_subI e1 e2
theorem EV.subI  {ta tb : TE} {m1 : M (Int)} {m2 : M (Int)} (e1 : EV Z L O ta σ m1) (e2 : EV Z L O tb σ m2) : EV Z L O (tOp (rI0 fun i j => .int (i - j)) ta tb) σ (mb m1 fun a => mb m2 fun b => mr (a - b)) := EV.op2 (f := fun a b => mr (a - b)) ok_subI e1 e2
theorem EV.mulIP  {ta tb : TE} {a : Int} {b : Int} (e1 : EV Z L O ta σ (mr a)) (e2 : EV Z L O tb σ (mr b)) : EV Z L O (tOp rTimes ta tb) σ (mmulI a b) := EV.op2P (f := fun a b => mmulI a b) ok_mulI e1 e2
theorem EV.mulI  {ta tb : TE} {m1 : M (Int)} {m2 : M (Int)} (e1 : EV Z L O ta σ m1) (e2 : EV Z L O tb σ m2) : EV Z L O (tOp rTimes ta tb) σ (mb m1 fun a => mb m2 fun b => mmulI a b) := EV.op2 (f := fun a b => mmulI a b) ok_mulI e1 e2
theorem EV.modIP  {ta tb : TE} {a : Int} {b : Int} (e1 : EV Z L O ta σ (mr a)) (e2 : EV Z L O tb σ (mr b)) : EV Z L O (tOp (rI (fun _ j => 0 < j) fun i j => .int (i % j)) ta tb) σ (mmodI a b) := EV.op2P (f := fun a b => mmodI a b) ok_modI e1 e2
theorem EV.modI  {ta tb : TE} {m1 : M (Int)} {m2 : M (Int)} (e1 : EV Z L O ta σ m1) (e2 : EV Z L O tb σ m2) : EV Z L O (tOp (rI (fun _ j => 0 < j) fun i j => .int (i % j)) ta tb) σ (mb m1 fun a => mb m2 fun b => mmodI a b) := EV.op2 (f := fun a b => mmodI a b) ok_modI e1 e2
theorem EV.divIP  {ta tb : TE} {a : Int} {b : Int} (e1 : EV Z L O ta σ (mr a)) (e2 : EV Z L O tb σ (mr b)) : EV Z L O (tOp (rI CDivW fun i j => .int (i / j)) ta tb) σ (mdivI a b) := EV.op2P (f := fun a b => mdivI a b) ok_divI e1 e2
theorem EV.divI  {ta tb : TE} {m1 : M (Int)} {m2 : M (Int)} (e1 : EV Z L O ta σ m1) (e2 : EV Z L O tb σ m2) : EV Z L O (tOp (rI CDivW fun i j => .int (i / j)) ta tb) σ (mb m1 fun a => mb m2 fun b => mdivI a b) := EV.op2 (f := fun a b => mdivI a b) ok_divI e1 e2
theorem EV.ltIP  {ta tb : TE} {a : Int} {b : Int} (e1 : EV Z L O ta σ (mr a)) (e2 : EV Z L O tb σ (mr b)) : EV Z L O (tOp (rI0 fun i j => .bl (decide (i < j))) ta tb) σ (mr (decide (a < b))) := EV.op2P (f := fun a b => mr (decide (a < b))) ok_lt e1 e2
theorem EV.ltI  {ta tb : TE} {m1 : M (Int)} {m2 : M (Int)} (e1 : EV Z L O ta σ m1) (e2 : EV Z L O tb σ m2) : EV Z L O (tOp (rI0 fun i j => .bl (decide (i < j))) ta tb) σ (mb m1 fun a => mb m2 fun b => mr (decide (a < b))) := EV.op2 (f := fun a b => mr (decide (a < b))) ok_lt e1 e2
theorem EV.leIP  {ta tb : TE} {a : Int} {b : Int} (e1 : EV Z L O ta σ (mr a)) (e2 : EV Z L O tb σ (mr b)) : EV Z L O (tOp (rI0 fun i j => .bl (decide (i ≤ j))) ta tb) σ (mr (decide (a ≤ b))) := EV.op2P (f := fun a b => mr (decide (a ≤ b))) ok_le e1 e2
theorem EV.leI  {ta tb : TE} {m1 : M (Int)} {m2 : M (Int)} (e1 : EV Z L O ta σ m1) (e2 : EV Z L O tb σ m2) : EV Z L O (tOp (rI0 fun i j => .bl (decide (i ≤ j))) ta tb) σ (mb m1 fun a => mb m2 fun b => mr (decide (a ≤ b))) := EV.op2 (f := fun a b => mr (decide (a ≤ b))) ok_le e1 e2
theorem EV.gtIP  {ta tb : TE} {a : Int} {b : Int} (e1 : EV Z L O ta σ (mr a)) (e2 : EV Z L O tb σ (mr b)) : EV Z L O (tOp (rI0 fun i j => .bl (decide (j < i))) ta tb) σ (mr (decide (b < a))) := EV.op2P (f := fun a b => mr (decide (b < a))) ok_gt e1 e2
theorem EV.gtI  {ta tb : TE} {m1 : M (Int)} {m2 : M (Int)} (e1 : EV Z L O ta σ m1) (e2 : EV Z L O tb σ m2) : EV Z L O (tOp (rI0 fun i j => .bl (decide (j < i))) ta tb) σ (mb m1 fun a => mb m2 fun b => mr (decide (b < a))) := EV.op2 (f := fun a b => mr (decide (b < a))) ok_gt e1 e2
theorem EV.geIP  {ta tb : TE} {a : Int} {b : Int} (e1 : EV Z L O ta σ (mr a)) (e2 : EV Z L O tb σ (mr b)) : EV Z L O (tOp (rI0 fun i j => .bl (decide (j ≤ i))) ta tb) σ (mr (decide (b ≤ a))) := EV.op2P (f := fun a b => mr (decide (b ≤ a))) ok_ge e1 e2
theorem EV.geI  {ta tb : TE} {m1 : M (Int)} {m2 : M (Int)} (e1 : EV Z L O ta σ m1) (e2 : EV Z L O tb σ m2) : EV Z L O (tOp (rI0 fun i j => .bl (decide (j ≤ i))) ta tb) σ (mb m1 fun a => mb m2 fun b => mr (decide (b ≤ a))) := EV.op2 (f := fun a b => mr (decide (b ≤ a))) ok_ge e1 e2
theorem EV.eqSP [DecidableEq α] [Scal α] {ta tb : TE} {a : α} {b : α} (e1 : EV Z L O ta σ (mr a)) (e2 : EV Z L O tb σ (mr b)) : EV Z L O (tOp (rEqq Z.K) ta tb) σ (mr (decide (a = b))) := EV.op2P (f := fun a b => mr (decide (a = b))) ok_eqS e1 e2
theorem EV.eqS [DecidableEq α] [Scal α] {ta tb : TE} {m1 : M (α)} {m2 : M (α)} (e1 : EV Z L O ta σ m1) (e2 : EV Z L O tb σ m2) : EV Z L O (tOp (rEqq Z.K) ta tb) σ (mb m1 fun a => mb m2 fun b => mr (decide (a = b))) := EV.op2 (f := fun a b => mr (decide (a = b))) ok_eqS e1 e2
theorem EV.neSP [DecidableEq α] [Scal α] {ta tb : TE} {a : α} {b : α} (e1 : EV Z L O ta σ (mr a)) (e2 : EV Z L O tb σ (mr b)) : EV Z L O (tOp (rNeq Z.K) ta tb) σ (mr (!decide (a = b))) := EV.op2P (f := fun a b => mr (!decide (a = b))) ok_neS e1 e2
theorem EV.neS [DecidableEq α] [Scal α] {ta tb : TE} {m1 : M (α)} {m2 : M (α)} (e1 : EV Z L O ta σ m1) (e2 : EV Z L O tb σ m2) : EV Z L O (tOp (rNeq Z.K) ta tb) σ (mb m1 fun a => mb m2 fun b => mr (!decide (a = b))) := EV.op2 (f := fun a b => mr (!decide (a = b))) ok_neS e1 e2
theorem EV.isNP [NotNon α] {ta tb : TE} {a : Option α} {b : Unit} (e1 : EV Z L O ta σ (mr a)) (e2 : EV Z L O tb σ (mr b)) : EV Z L O (tOp Cf.rIsN ta tb) σ (mr a.isNone) := EV.op2P (f := fun a b => mr a.isNone) ok_isN e1 e2
theorem EV.isN [NotNon α] {ta tb : TE} {m1 : M (Option α)} {m2 : M (Unit)} (e1 : EV Z L O ta σ m1) (e2 : EV Z L O tb σ m2) : EV Z L O (tOp Cf.rIsN ta tb) σ (mb m1 fun a => mb m2 fun b => mr a.isNone) := EV.op2 (f := fun a b => mr a.isNone) ok_isN e1 e2
theorem EV.notNP [NotNon α] {ta tb : TE} {a : Option α} {b : Unit} (e1 : EV Z L O ta σ (mr a)) (e2 : EV Z L O tb σ (mr b)) : EV Z L O (tOp Cf.rNotN ta tb) σ (mr a.isSome) := EV.op2P (f := fun a b => mr a.isSome) ok_notN e1 e2
theorem EV.notN [NotNon α] {ta tb : TE} {m1 : M (Option α)} {m2 : M (Unit)} (e1 : EV Z L O ta σ m1) (e2 : EV Z L O tb σ m2) : EV Z L O (tOp Cf.rNotN ta tb) σ (mb m1 fun a => mb m2 fun b => mr a.isSome) := EV.op2 (f := fun a b => mr a.isSome) ok_notN e1 e2
theorem EV.isNnP [NotNon α] {ta tb : TE} {a : α} {b : Unit} (e1 : EV Z L O ta σ (mr a)) (e2 : EV Z L O tb σ (mr b)) : EV Z L O (tOp Cf.rIsN ta tb) σ (mr false) := EV.op2P (f := fun a b => mr false) ok_isNn e1 e2
theorem EV.isNn [NotNon α] {ta tb : TE} {m1 : M (α)} {m2 : M (Unit)} (e1 : EV Z L O ta σ m1) (e2 : EV Z L O tb σ m2) : EV Z L O (tOp Cf.rIsN ta tb) σ (mb m1 fun a => mb m2 fun b => mr false) := EV.op2 (f := fun a b => mr false) ok_isNn e1 e2
theorem EV.ixLP  {ta tb : TE} {a : List α} {b : Int} (e1 : EV Z L O ta σ (mr a)) (e2 : EV Z L O tb σ (mr b)) : EV Z L O (tOp (rIxx Z.K) ta tb) σ (mix a b) := EV.op2P (f := fun a b => mix a b) ok_ixL e1 e2
theorem EV.ixL  {ta tb : TE} {m1 : M (List α)} {m2 : M (Int)} (e1 : EV Z L O ta σ m1) (e2 : EV Z L O tb σ m2) : EV Z L O (tOp (rIxx Z.K) ta tb) σ (mb m1 fun a => mb m2 fun b => mix a b) := EV.op2 (f := fun a b => mix a b) ok_ixL e1 e2
theorem EV.ixTP  {ta tb : TE} {a : Tp α} {b : Int} (e1 : EV Z L O ta σ (mr a)) (e2 : EV Z L O tb σ (mr b)) : EV Z L O (tOp (rIxx Z.K) ta tb) σ (mix a.l b) := EV.op2P (f := fun a b => mix a.l b) ok_ixT e1 e2
theorem EV.ixT  {ta tb : TE} {m1 : M (Tp α)} {m2 : M (Int)} (e1 : EV Z L O ta σ m1) (e2 : EV Z L O tb σ m2) : EV Z L O (tOp (rIxx Z.K) ta tb) σ (mb m1 fun a => mb m2 fun b => mix a.l b) := EV.op2 (f := fun a b => mix a.l b) ok_ixT e1 e2
theorem EV.ixSP  {ta tb : TE} {a : Str} {b : Int} (e1 : EV Z L O ta σ (mr a)) (e2 : EV Z L O tb σ (mr b)) : EV Z L O (tOp (rIxx Z.K) ta tb) σ (mixS a b) := EV.op2P (f := fun a b => mixS a b) ok_ixS e1 e2
theorem EV.ixS  {ta tb : TE} {m1 : M (Str)} {m2 : M (Int)} (e1 : EV Z L O ta σ m1) (e2 : EV Z L O tb σ m2) : EV Z L O (tOp (rIxx Z.K) ta tb) σ (mb m1 fun a => mb m2 fun b => mixS a b) := EV.op2 (f := fun a b => mixS a b) ok_ixS e1 e2
theorem EV.inIP  {ta tb : TE} {a : Int} {b : List Int} (e1 : EV Z L O ta σ (mr a)) (e2 : EV Z L O tb σ (mr b)) : EV Z L O (tOp (rInn Z.K) ta tb) σ (mr (decide (a ∈ b))) := EV.op2P (f := fun a b => mr (decide (a ∈ b))) ok_inI e1 e2
theorem EV.inI  {ta tb : TE} {m1 : M (Int)} {m2 : M (List Int)} (e1 : EV Z L O ta σ m1) (e2 : EV Z L O tb σ m2) : EV Z L O (tOp (rInn Z.K) ta tb) σ (mb m1 fun a => mb m2 fun b => mr (decide (a ∈ b))) := EV.op2 (f := fun a b => mr (decide (a ∈ b))) ok_inI e1 e2
theorem EV.inSP  {ta tb : TE} {a : Str} {b : List Str} (e1 : EV Z L O ta σ (mr a)) (e2 : EV Z L O tb σ (mr b)) : EV Z L O (tOp (rInn Z.K) ta tb) σ (mr (decide (a ∈ b))) := EV.op2P (f := fun a b => mr (decide (a ∈ b))) ok_inS e1 e2
theorem EV.inS  {ta tb : TE} {m1 : M (Str)} {m2 : M (List Str)} (e1 : EV Z L O ta σ m1) (e2 : EV Z L O tb σ m2) : EV Z L O (tOp (rInn Z.K) ta tb) σ (mb m1 fun a => mb m2 fun b => mr (decide (a ∈ b))) := EV.op2 (f := fun a b => mr (decide (a ∈ b))) ok_inS e1 e2
theorem EV.inSTP  {ta tb : TE} {a : Str} {b : Tp Str} (e1 : EV Z L O ta σ (mr a)) (e2 : EV Z L O tb σ (mr b)) : EV Z L O (tOp (rInn Z.K) ta tb) σ (mr (decide (a ∈ b.l))) := EV.op2P (f := fun a b => mr (decide (a ∈ b.l))) ok_inST e1 e2
theorem EV.inST  {ta tb : TE} {m1 : M (Str)} {m2 : M (Tp Str)} (e1 : EV Z L O ta σ m1) (e2 : EV Z L O tb σ m2) : EV Z L O (tOp (rInn Z.K) ta tb) σ (mb m1 fun a => mb m2 fun b => mr (decide (a ∈ b.l))) := EV.op2 (f := fun a b => mr (decide (a ∈ b.l))) ok_inST e1 e2
theorem EV.ninIP  {ta tb : TE} {a : Int} {b : List Int} (e1 : EV Z L O ta σ (mr a)) (e2 : EV Z L O tb σ (mr b)) : EV Z L O (tOp (rNotInn Z.K) ta tb) σ (mr (!decide (a ∈ b))) := EV.op2P (f := fun a b => mr (!decide (a ∈ b))) ok_ninI e1 e2
theorem EV.ninI  {ta tb : TE} {m1 : M (Int)} {m2 : M (List Int)} (e1 : EV Z L O ta σ m1) (e2 : EV Z L O tb σ m2) : EV Z L O (tOp (rNotInn Z.K) ta tb) σ (mb m1 fun a => mb m2 fun b => mr (!decide (a ∈ b))) := EV.op2 (f := fun a b => mr (!decide (a ∈ b))) ok_ninI e1 e2
theorem EV.ninSP  {ta tb : TE} {a : Str} {b : List Str} (e1 : EV Z L O ta σ (mr a)) (e2 : EV Z L O tb σ (mr b)) : EV Z L O (tOp (rNotInn Z.K) ta tb) σ (mr (!decide (a ∈ b))) := EV.op2P (f := fun a b => mr (!decide (a ∈ b))) ok_ninS e1 e2
theorem EV.ninS  {ta tb : TE} {m1 : M (Str)} {m2 : M (List Str)} (e1 : EV Z L O ta σ m1) (e2 : EV Z L O tb σ m2) : EV Z L O (tOp (rNotInn Z.K) ta tb) σ (mb m1 fun a => mb m2 fun b => mr (!decide (a ∈ b))) := EV.op2 (f := fun a b => mr (!decide (a ∈ b))) ok_ninS e1 e2
theorem EV.ninSTP  {ta tb : TE} {a : Str} {b : Tp Str} (e1 : EV Z L O ta σ (mr a)) (e2 : EV Z L O tb σ (mr b)) : EV Z L O (tOp (rNotInn Z.K) ta tb) σ (mr (!decide (a ∈ b.l))) := EV.op2P (f := fun a b => mr (!decide (a ∈ b.l))) ok_ninST e1 e2
theorem EV.ninST  {ta tb : TE} {m1 : M (Str)} {m2 : M (Tp Str)} (e1 : EV Z L O ta σ m1) (e2 : EV Z L O tb σ m2) : EV Z L O (tOp (rNotInn Z.K) ta tb) σ (mb m1 fun a => mb m2 fun b => mr (!decide (a ∈ b.l))) := EV.op2 (f := fun a b => mr (!decide (a ∈ b.l))) ok_ninST e1 e2
theorem EV.negIP {ta : TE} {a : Int} (e1 : EV Z L O ta σ (mr a)) : EV Z L O (tUn (rU fun i => .int (-i)) ta) σ (mr (-a)) := EV.unP (f := fun a => mr (-a)) ok_negI e1
theorem EV.negI {ta : TE} {m1 : M Int} (e1 : EV Z L O ta σ m1) : EV Z L O (tUn (rU fun i => .int (-i)) ta) σ (mb m1 fun a => mr (-a)) := EV.un (f := fun a => mr (-a)) ok_negI e1
theorem EV.lenLP {ta : TE} {a : List α} (e1 : EV Z L O ta σ (mr a)) : EV Z L O (tCB (Cf.rLen Z.K) (tCons ta tNil)) σ (mr (a.length : Int)) := EV.cb1P (f := fun a => mr (a.length : Int)) ok_lenL e1
theorem EV.lenL {ta : TE} {m1 : M (List α)} (e1 : EV Z L O ta σ m1) : EV Z L O (tCB (Cf.rLen Z.K) (tCons ta tNil)) σ (mb m1 fun a => mr (a.length : Int)) := EV.cb1 (f := fun a => mr (a.length : Int)) ok_lenL e1
theorem EV.lenTP {ta : TE} {a : Tp α} (e1 : EV Z L O ta σ (mr a)) : EV Z L O (tCB (Cf.rLen Z.K) (tCons ta tNil)) σ (mr (a.l.length : Int)) := EV.cb1P (f := fun a => mr (a.l.length : Int)) ok_lenT e1
theorem EV.lenT {ta : TE} {m1 : M (Tp α)} (e1 : EV Z L O ta σ m1) : EV Z L O (tCB (Cf.rLen Z.K) (tCons ta tNil)) σ (mb m1 fun a => mr (a.l.length : Int)) := EV.cb1 (f := fun a => mr (a.l.length : Int)) ok_lenT e1
theorem EV.lenSP {ta : TE} {a : Str} (e1 : EV Z L O ta σ (mr a)) : EV Z L O (tCB (Cf.rLen Z.K) (tCons ta tNil)) σ (mlenS a) := EV.cb1P (f := fun a => mlenS a) ok_lenS e1
theorem EV.lenS {ta : TE} {m1 : M (Str)} (e1 : EV Z L O ta σ m1) : EV Z L O (tCB (Cf.rLen Z.K) (tCons ta tNil)) σ (mb m1 fun a => mlenS a) := EV.cb1 (f := fun a => mlenS a) ok_lenS e1
theorem EV.intIP {ta : TE} {a : Int} (e1 : EV Z L O ta σ (mr a)) : EV Z L O (tCB rInt (tCons ta tNil)) σ (mr a) := EV.cb1P (f := fun a => mr a) ok_int e1
theorem EV.intI {ta : TE} {m1 : M (Int)} (e1 : EV Z L O ta σ m1) : EV Z L O (tCB rInt (tCons ta tNil)) σ (mb m1 fun a => mr a) := EV.cb1 (f := fun a => mr a) ok_int e1
theorem EV.listLP {ta : TE} {a : List α} (e1 : EV Z L O ta σ (mr a)) : EV Z L O (tCB (rListOf Z.K) (tCons ta tNil)) σ (mr a) := EV.cb1P (f := fun a => mr a) ok_listL e1
theorem EV.listL {ta : TE} {m1 : M (List α)} (e1 : EV Z L O ta σ m1) : EV Z L O (tCB (rListOf Z.K) (tCons ta tNil)) σ (mb m1 fun a => mr a) := EV.cb1 (f := fun a => mr a) ok_listL e1
theorem EV.listTP {ta : TE} {a : Tp α} (e1 : EV Z L O ta σ (mr a)) : EV Z L O (tCB (rListOf Z.K) (tCons ta tNil)) σ (mr a.l) := EV.cb1P (f := fun a => mr a.l) ok_listT e1
theorem EV.listT {ta : TE} {m1 : M (Tp α)} (e1 : EV Z L O ta σ m1) : EV Z L O (tCB (rListOf Z.K) (tCons ta tNil)) σ (mb m1 fun a => mr a.l) := EV.cb1 (f := fun a => mr a.l) ok_listT e1
theorem EV.tupLP {ta : TE} {a : List α} (e1 : EV Z L O ta σ (mr a)) : EV Z L O (tCB (rTupOf Z.K) (tCons ta tNil)) σ (mr (⟨a⟩ : Tp α)) := EV.cb1P (f := fun a => mr (⟨a⟩ : Tp α)) ok_tupL e1
theorem EV.tupL {ta : TE} {m1 : M (List α)} (e1 : EV Z L O ta σ m1) : EV Z L O (tCB (rTupOf Z.K) (tCons ta tNil)) σ (mb m1 fun a => mr (⟨a⟩ : Tp α)) := EV.cb1 (f := fun a => mr (⟨a⟩ : Tp α)) ok_tupL e1
theorem EV.tupTP {ta : TE} {a : Tp α} (e1 : EV Z L O ta σ (mr a)) : EV Z L O (tCB (rTupOf Z.K) (tCons ta tNil)) σ (mr a) := EV.cb1P (f := fun a => mr a) ok_tupT e1
theorem EV.tupT {ta : TE} {m1 : M (Tp α)} (e1 : EV Z L O ta σ m1) : EV Z L O (tCB (rTupOf Z.K) (tCons ta tNil)) σ (mb m1 fun a => mr a) := EV.cb1 (f := fun a => mr a) ok_tupT e1
theorem EV.anyP {ta : TE} {a : List Bool} (e1 : EV Z L O ta σ (mr a)) : EV Z L O (tCB (rAny Z.K) (tCons ta tNil)) σ (mr (a.any id)) := EV.cb1P (f := fun a => mr (a.any id)) ok_any e1
theorem EV.any {ta : TE} {m1 : M (List Bool)} (e1 : EV Z L O ta σ m1) : EV Z L O (tCB (rAny Z.K) (tCons ta tNil)) σ (mb m1 fun a => mr (a.any id)) := EV.cb1 (f := fun a => mr (a.any id)) ok_any e1
theorem EV.allP {ta : TE} {a : List Bool} (e1 : EV Z L O ta σ (mr a)) : EV Z L O (tCB (rAll Z.K) (tCons ta tNil)) σ (mr (a.all id)) := EV.cb1P (f := fun a => mr (a.all id)) ok_all e1
theorem EV.all {ta : TE} {m1 : M (List Bool)} (e1 : EV Z L O ta σ m1) : EV Z L O (tCB (rAll Z.K) (tCons ta tNil)) σ (mb m1 fun a => mr (a.all id)) := EV.cb1 (f := fun a => mr (a.all id)) ok_all e1
theorem EV.sumP {ta : TE} {a : List Int} (e1 : EV Z L O ta σ (mr a)) : EV Z L O (tCB (rSum Z.K) (tCons ta tNil)) σ (mr a.sum) := EV.cb1P (f := fun a => mr a.sum) ok_sum e1
theorem EV.sum {ta : TE} {m1 : M (List Int)} (e1 : EV Z L O ta σ m1) : EV Z L O (tCB (rSum Z.K) (tCons ta tNil)) σ (mb m1 fun a => mr a.sum) := EV.cb1 (f := fun a => mr a.sum) ok_sum e1
theorem EV.maxLP {ta : TE} {a : List Int} (e1 : EV Z L O ta σ (mr a)) : EV Z L O (tCB (rMax Z.K) (tCons ta tNil)) σ (mmaxL a) := EV.cb1P (f := fun a => mmaxL a) ok_maxL e1
theorem EV.maxL {ta : TE} {m1 : M (List Int)} (e1 : EV Z L O ta σ m1) : EV Z L O (tCB (rMax Z.K) (tCons ta tNil)) σ (mb m1 fun a => mmaxL a) := EV.cb1 (f := fun a => mmaxL a) ok_maxL e1
theorem EV.minLP {ta : TE} {a : List Int} (e1 : EV Z L O ta σ (mr a)) : EV Z L O (tCB (rMin Z.K) (tCons ta tNil)) σ (mminL a) := EV.cb1P (f := fun a => mminL a) ok_minL e1
theorem EV.minL {ta : TE} {m1 : M (List Int)} (e1 : EV Z L O ta σ m1) : EV Z L O (tCB (rMin Z.K) (tCons ta tNil)) σ (mb m1 fun a => mminL a) := EV.cb1 (f := fun a => mminL a) ok_minL e1
theorem EV.absP {ta : TE} {a : Int} (e1 : EV Z L O ta σ (mr a)) : EV Z L O (tCB (fun xs H Q => ∃ i, xs = [.int i] ∧ Q (.int (if i < 0 then -i else i)) H) (tCons ta tNil)) σ (mr (if a < 0 then -a else a)) := EV.cb1P (f := fun a => mr (if a < 0 then -a else a)) ok_abs e1
theorem EV.abs {ta : TE} {m1 : M (Int)} (e1 : EV Z L O ta σ m1) : EV Z L O (tCB (fun xs H Q => ∃ i, xs = [.int i] ∧ Q (.int (if i < 0 then -i else i)) H) (tCons ta tNil)) σ (mb m1 fun a => mr (if a < 0 then -a else a)) := EV.cb1 (f := fun a => mr (if a < 0 then -a else a)) ok_abs e1
theorem EV.strIP {ta : TE} {a : Int} (e1 : EV Z L O ta σ (mr a)) : EV Z L O (tCB (fun xs H Q => ∃ i, xs = [.int i] ∧ i.natAbs.log2 < 1920 ∧ Q (.str (toString i)) H) (tCons ta tNil)) σ (mstrI a) := EV.cb1P (f := fun a => mstrI a) ok_strI e1
theorem EV.strI {ta : TE} {m1 : M (Int)} (e1 : EV Z L O ta σ m1) : EV Z L O (tCB (fun xs H Q => ∃ i, xs = [.int i] ∧ i.natAbs.log2 < 1920 ∧ Q (.str (toString i)) H) (tCons ta tNil)) σ (mb m1 fun a => mstrI a) := EV.cb1 (f := fun a => mstrI a) ok_strI e1
theorem EV.max2P {ta tb : TE} {a b : Int} (e1 : EV Z L O ta σ (mr a)) (e2 : EV Z L O tb σ (mr b)) : EV Z L O (tCB (fun xs H Q => ∃ i j, xs = [.int i, .int j] ∧ Q (.int (if j > i then j else i)) H) (tCons ta (tCons tb tNil))) σ (mr (if b > a then b else a)) := EV.cb2P (f := fun a b => mr (if b > a then b else a)) ok_max2 e1 e2
theorem EV.max2 {ta tb : TE} {m1 m2 : M Int} (e1 : EV Z L O ta σ m1) (e2 : EV Z L O tb σ m2) : EV Z L O (tCB (fun xs H Q => ∃ i j, xs = [.int i, .int j] ∧ Q (.int (if j > i then j else i)) H) (tCons ta (tCons tb tNil))) σ (mb m1 fun a => mb m2 fun b => mr (if b > a then b else a)) := EV.cb2 (f := fun a b => mr (if b > a then b else a)) ok_max2 e1 e2
theorem EV.min2P {ta tb : TE} {a b : Int} (e1 : EV Z L O ta σ (mr a)) (e2 : EV Z L O tb σ (mr b)) : EV Z L O (tCB (fun xs H Q => ∃ i j, xs = [.int i, .int j] ∧ Q (.int (if j < i then j else i)) H) (tCons ta (tCons tb tNil))) σ (mr (if b < a then b else a)) := EV.cb2P (f := fun a b => mr (if b < a then b else a)) ok_min2 e1 e2
theorem EV.min2 {ta tb : TE} {m1 m2 : M Int} (e1 : EV Z L O ta σ m1) (e2 : EV Z L O tb σ m2) : EV Z L O (tCB (fun xs H Q => ∃ i j, xs = [.int i, .int j] ∧ Q (.int (if j < i then j else i)) H) (tCons ta (tCons tb tNil))) σ (mb m1 fun a => mb m2 fun b => mr (if b < a then b else a)) := EV.cb2 (f := fun a b => mr (if b < a then b else a)) ok_min2 e1 e2
/-- a < b < c and its like -/
theorem EV.chain {g1 g2 : Int → Int → Bool} {ta tb tc : TE} {m1 m2 m3 : M Int} (e1 : EV Z L O ta σ m1) (e2 : EV Z L O tb σ m2) (e3 : EV Z L O tc σ m3) : EV Z L O (tChain (rI0 fun i j => .bl (g1 i j)) (rI0 fun i j => .bl (g2 i j)) ta tb tc) σ (mb m1 fun a => mb m2 fun b => if g1 a b = true then mb m3 fun c => mr (g2 b c) else mr false) := fun L1 H post px Q s hp hx hm k =>
  e1 L1 H _ px _ s hp hx hm fun a x H1 hp1 hm1 => e2 _ H1 _ px _ (sub_cons s) hp1 hx hm1 fun b y H2 hp2 hm2 => by
    obtain rfl := is_int hp2.hd
    obtain rfl := is_int hp2.hd2
    refine ⟨a, b, rfl, rfl, g1 a b, rfl, ?_⟩
    have hm2 : (if g1 a b = true then mb m3 (fun c => mr (g2 b c)) else mr false) post px := hm2
    cases h : g1 a b with
    | true =>
      rw [h, if_pos rfl] at hm2
      rw [if_pos rfl]
      refine e3 _ H2 _ px _ (sub_cons (sub_cons s)) hp2 hx hm2 fun c z H3 hp3 hm3 => ?_
      obtain rfl := is_int hp3.hd
      exact ⟨b, c, rfl, rfl, k _ _ H3 (hp3.tail.tail.tail.add fun G _ => .bl _) hm3⟩
    | false =>
      rw [h, if_neg (by decide)] at hm2
      rw [if_neg (by decide)]
      exact k _ _ H2 (hp2.tail.tail.add fun G _ => .bl _) hm2
theorem EV.chainP {g1 g2 : Int → Int → Bool} {ta tb tc : TE} {a b c : Int} (e1 : EV Z L O ta σ (mr a)) (e2 : EV Z L O tb σ (mr b)) (e3 : EV Z L O tc σ (mr c)) : EV Z L O (tChain (rI0 fun i j => .bl (g1 i j)) (rI0 fun i j => .bl (g2 i j)) ta tb tc) σ (mr (g1 a b && g2 b c)) := fun L1 H post px Q s hp hx hm k =>
  EV.chain e1 e2 e3 L1 H post px Q s hp hx (by
    show (if g1 a b = true then mr (g2 b c) else mr false) post px
    have hm : post (g1 a b && g2 b c) := hm
    cases h : g1 a b with
    | true => rw [h] at hm; rw [if_pos rfl]; exact hm
    | false => rw [h] at hm; rw [if_neg (by decide)]; exact hm) k
theorem EV.lc1P {wi : TI} {j : Nat} {tt : TT} {te : TE} {vs : List Nat} {xs : List α} {p : α → Bool} {f : α → β} (e : EI Z L O wi σ (mr xs)) (hw : ∀ v, wipe ((wipe σ vs).set j (some v)) vs = wipe σ vs)
    (ht : ∀ a x q, ET Z ((x, enc a) :: L) (q :: O) tt ((wipe σ vs).set j (some x)) (mr (p a))) (he : ∀ a x q, EV Z ((x, enc a) :: L) (q :: O) te ((wipe σ vs).set j (some x)) (mr (f a))) : EV Z L O (tLc wi (gName j) tt te vs) σ (mr ((xs.filter p).map f)) := fun L1 H post px Q s hp hx hm k =>
  EV.lc1 e hw ht he L1 H post px Q s hp hx (by show compM _ _ xs post px; rw [compM_pure]; exact hm) k
theorem EV.lc1m {wi : TI} {j : Nat} {te : TE} {vs : List Nat} {xs : List α} {f : α → β} (e : EI Z L O wi σ (mr xs)) (hw : ∀ v, wipe ((wipe σ vs).set j (some v)) vs = wipe σ vs)
    (he : ∀ a x q, EV Z ((x, enc a) :: L) (q :: O) te ((wipe σ vs).set j (some x)) (mr (f a))) : EV Z L O (tLc wi (gName j) tYes te vs) σ (mr (xs.map f)) := fun L1 H post px Q s hp hx hm k =>
  EV.lc1 e hw (fun a x q => ET.yes) he L1 H post px Q s hp hx (by show compM _ _ xs post px; rw [compM_map]; exact hm) k
theorem EV.lc2P {wi : TI} {i j : Nat} {tt : TT} {te : TE} {vs : List Nat} {xs : List (α × γ)} {p : α × γ → Bool} {f : α × γ → β} (e : EI Z L O wi σ (mr xs)) (hw : ∀ v w, wipe (((wipe σ vs).set i (some v)).set j (some w)) vs = wipe σ vs)
    (ht : ∀ a x y q, ET Z ((y, enc a.2) :: (x, enc a.1) :: L) (q :: O) tt (((wipe σ vs).set i (some x)).set j (some y)) (mr (p a))) (he : ∀ a x y q, EV Z ((y, enc a.2) :: (x, enc a.1) :: L) (q :: O) te (((wipe σ vs).set i (some x)).set j (some y)) (mr (f a))) : EV Z L O (tLc wi (gTup Z.K 2 (gCons (gName i) (gCons (gName j) gNil))) tt te vs) σ (mr ((xs.filter p).map f)) := fun L1 H post px Q s hp hx hm k =>
  EV.lc2 e hw ht he L1 H post px Q s hp hx (by show compM _ _ xs post px; rw [compM_pure]; exact hm) k
theorem EV.lc2m {wi : TI} {i j : Nat} {te : TE} {vs : List Nat} {xs : List (α × γ)} {f : α × γ → β} (e : EI Z L O wi σ (mr xs)) (hw : ∀ v w, wipe (((wipe σ vs).set i (some v)).set j (some w)) vs = wipe σ vs)
    (he : ∀ a x y q, EV Z ((y, enc a.2) :: (x, enc a.1) :: L) (q :: O) te (((wipe σ vs).set i (some x)).set j (some y)) (mr (f a))) : EV Z L O (tLc wi (gTup Z.K 2 (gCons (gName i) (gCons (gName j) gNil))) tYes te vs) σ (mr (xs.map f)) := fun L1 H post px Q s hp hx hm k =>
  EV.lc2 e hw (fun a x y q => ET.yes) he L1 H post px Q s hp hx (by show compM _ _ xs post px; rw [compM_map]; exact hm) k
theorem EV.powC {a b n : Int} (h : CPow a b) (e : a ^ b.toNat = n) : EV Z L O (tOp (rI CPow fun i j => .int (i ^ j.toNat)) (tC (.int a)) (tC (.int b))) σ (mr n) := fun L1 H post px Q s hp hx hm k =>
  ⟨a, b, rfl, rfl, h, by show Q (.int (a ^ b.toNat)) H; rw [e]; exact k n _ H (hp.add fun G _ => .int _) hm⟩
/-- a written tuple of texts -/
theorem EV.tconst {k : Addr} {xs : List Str} (h : ∀ H, SqT Z.K H k (xs.map V.str)) (hl : xs.length ≤ 1000000) : EV Z L O (tC (.ref k)) σ (mr (⟨xs⟩ : Tp Str)) := fun L1 H post px Q s hp hx hm kk =>
  kk _ _ H (hp.add fun G _ => .tup (h G) (by rw [List.length_map]; exact hl) (by
    show IsL Z.K Z.C G (xs.map V.str) (xs.map enc)
    clear h hl hm kk
    induction xs with
    | nil => exact .nil
    | cons x xs ih => exact .cons (.str x) ih)) hm
theorem s_next {nx : L2.St → Hp → Prop} {rt : VK} {bk ct : L2.St → Hp → Prop} {H : Hp} (h : nx σ H) : tNext ⟨nx, rt, bk, ct⟩ σ H := h
theorem s_brk {nx : L2.St → Hp → Prop} {rt : VK} {bk ct : L2.St → Hp → Prop} {H : Hp} (h : bk σ H) : tBreak ⟨nx, rt, bk, ct⟩ σ H := h
theorem s_cont {nx : L2.St → Hp → Prop} {rt : VK} {bk ct : L2.St → Hp → Prop} {H : Hp} (h : ct σ H) : tCont ⟨nx, rt, bk, ct⟩ σ H := h
theorem s_retN {nx : L2.St → Hp → Prop} {rt : VK} {bk ct : L2.St → Hp → Prop} {H : Hp} (h : rt .non H) : tRetN ⟨nx, rt, bk, ct⟩ σ H := h
/-! ### kinds -/
def kdD : D → Option Cf.Kd
  | .non => some .non | .bl _ => some .bl | .int _ => some .int | .str _ => some .str | .lst _ => some .lst | .tup _ => some .tup | .dic _ _ => some .dic | .obj _ _ _ => none | .xd _ _ => none | .own _ => none
def isD (b : Cf.Kd) (d : D) : Bool := match kdD d with
  | some a => Cf.isk a b
  | none => false
theorem sqT_ty {K : PySem.W.Frag} {H : Hp} {p : Addr} {xs : List V} (h : SqT K H p xs) : TyX K H (.ref p) (.type Cf.Kd.tup.name) := Cf.sqT_ty h
def NoObj : D → Prop
  | .obj _ _ _ => False
  | .xd _ _ => False
  | .own _ => False
  | _ => True
theorem kd_ty {K : PySem.W.Frag} {C : CT} {G H : Hp} {v : V} {d : D} (s : Sub G H) (h : Is K C G v d) (n : NoObj d) : ∃ a : Cf.Kd, kdD d = some a ∧ TyX K H v (.type a.name) := by
  cases h with
  | non => exact ⟨.non, rfl, .base .non⟩
  | bl b => exact ⟨.bl, rfl, .base (.bl b)⟩
  | int b => exact ⟨.int, rfl, .base (.int b)⟩
  | str b => exact ⟨.str, rfl, .base (.str b)⟩
  | lst h l t => exact ⟨.lst, rfl, .base (.lst (s _ _ h))⟩
  | tup h l t => exact ⟨.tup, rfl, sqT_ty (sqT_mono s h)⟩
  | dic h n t => exact ⟨.dic, rfl, .base (.dK (s _ _ h))⟩
  | obj h hc t => exact n.elim
  | xd h t => exact n.elim
  | own a => exact n.elim
theorem EV.isi {ta : TE} {m : M α} (b : Cf.Kd) (e : EV Z L O ta σ m) (n : ∀ a : α, NoObj (enc a)) : EV Z L O (tCB (rIsi Z.K) (tCons ta (tCons (tC (.ty b.name)) tNil))) σ (mb m fun a => mr (isD b (enc a))) := fun L1 H post px Q s hp hx hm k =>
  e L1 H _ px _ s hp hx hm fun a v H1 hp1 hm1 => by
    obtain ⟨G, F, W, h⟩ := hp1
    obtain ⟨kd, e1, e2⟩ := kd_ty h.g h.x0 (n a)
    refine ⟨v, .ty b.name, _, _, _, rfl, .ty _, e2, kit_ty (Cf.kit_isk kd b), ?_⟩
    have e3 : isD b (enc a) = Cf.isk kd b := by unfold isD; rw [e1]
    rw [← e3]
    exact k _ _ H1 (h.t1.add (.bl _)) hm1
theorem EV.isiP {ta : TE} {a : α} (b : Cf.Kd) (e : EV Z L O ta σ (mr a)) (n : NoObj (enc a)) : EV Z L O (tCB (rIsi Z.K) (tCons ta (tCons (tC (.ty b.name)) tNil))) σ (mr (isD b (enc a))) := fun L1 H post px Q s hp hx hm k =>
  e L1 H (fun a' => a' = a) px _ s hp hx rfl fun a v H1 hp1 hm1 => by
    subst hm1
    obtain ⟨G, F, W, h⟩ := hp1
    obtain ⟨kd, e1, e2⟩ := kd_ty h.g h.x0 n
    refine ⟨v, .ty b.name, _, _, _, rfl, .ty _, e2, kit_ty (Cf.kit_isk kd b), ?_⟩
    have e3 : isD b (enc a) = Cf.isk kd b := by unfold isD; rw [e1]
    rw [← e3]
    exact k _ _ H1 (h.t1.add (.bl _)) hm
end
end Mi

/-! operators, calls, built-ins by an own class's special methods -/
namespace L2
open PySem PySem.Spec PyProof.Rows
section
variable {X : Cx} {pins : List (Addr × Obj)} {σ : St} {H : Hp} {s : Shared} {CX : CXT} {k : Nat} {C f a dx : Addr} {fs : List (Str × V)} {fd : FuncData} {ps : List Str} {sp : Sp} {E : St → XK}
theorem relV_ni {v : V} {u : Value} (h : RelV v u) : u ≠ .notImplemented := by
  intro e
  subst e
  cases v <;> simp [RelV] at h
theorem cmpBack_of {Q : VK} {u : Value} {s' : Shared} (h : EP X pins σ Q u s') : PySem.W.CmpBack (EP X pins σ Q) u s' := by
  have n : u ≠ .notImplemented := by
    obtain ⟨v, H', _, r, _⟩ := h
    exact relV_ni r
  cases u <;> first | exact h | exact absurd rfl n
theorem rel_ref {a : Addr} : RelV (.ref a) (.ref a) := rfl
/-- a run one step further in -/
theorem run_in {A : Around} {Q : VK} {us : List Value} {vs : List V} (F : FnOk X.prog X.w X.K X.mg X.base CX k f fd ps sp) (hr : Room k A) (hA : A.frames = X.A.frames) (hb : Binds X.K fd ps []) (hx : ∀ σ, PassesAt CX X σ (E σ)) (I : Inv X pins σ H s) (r : Vals vs us) (h : sp vs H Q (E σ)) :
    wpAny (model X.prog X.w) A (call (.ref f) us) (EP X pins σ Q) X.xe s := by
  have hl : us.length = ps.length := by rw [← r.length]; exact F.len _ _ _ _ h
  have e0 : Env0 X.prog X.w X.K X.mg X.base A X.stack s H := by
    have e := I.env0
    exact ⟨by rw [hA]; exact e.frames, e.mod, e.bs, e.bsz, e.funs, e.frf, e.hok, e.bare⟩
  have hb' := hb s us I.kIn (by rw [List.append_nil]; exact hl)
  rw [List.append_nil] at hb'
  refine wpAny_call (codeAny_mono (F.run A X.stack s H ⟨us, []⟩ us vs Q (E σ) hr e0 hb' r h) fun r s' hq => ?_)
  cases r with
  | error e => exact hx σ pins H s e s' I hq
  | ok fl =>
    cases fl with
    | ret u => exact I.after hq
    | next => exact False.elim hq
    | brk => exact False.elim hq
    | cont => exact False.elim hq
/-- an own special method runs -/
theorem run_own {Q : VK} {us : List Value} {vs : List V} (F : FnOk X.prog X.w X.K X.mg X.base CX k f fd ps sp) (hr : Room k X.A) (hb : Binds X.K fd ps []) (hx : ∀ σ, PassesAt CX X σ (E σ)) (I : Inv X pins σ H s) (r : Vals vs us) (h : sp vs H Q (E σ)) :
    wpAny (model X.prog X.w) X.A (call (.ref f) us) (EP X pins σ Q) X.xe s := run_in F hr rfl hb hx I r h
/-- what the class says of one of its special methods -/
structure OwnM (K : PySem.W.Frag) (C : Addr) (m : Str) (f : Addr) : Prop where
  at_ : PySem.W.findIn K (.ref C) m = some (some (.ref f))
  fn : PySem.W.isFn K (.ref f) = true
/-- an operator, what is asked by the slots, too -/
def OpRS (X : Cx) (op : Value → Value → Sem Value) (r : St → R2) : Prop := ∀ (pins : List (Addr × Obj)) (s : Shared) (σ : St) (H : Hp) (x y : V) (u v : Value) (Q : VK), Inv X pins σ H s → RelV x u → RelV y v → r σ x y H Q → wpAny (model X.prog X.w) X.A (op u v) (EP X pins σ Q) X.xe s
def tOpS (r : St → R2) (ta tb : TE) : TE := fun σ H Q => ta σ H fun x H1 => tb σ H1 fun y H2 => r σ x y H2 Q
theorem pe_opS {op : Operator} {r : St → R2} {ea eb : Expr} {ta tb : TE} {pos : Pos} (ho : OpRS X (binaryOp op) r) (ha : PE X ea ta) (hb : PE X eb tb) : PE X (.BinOp ea op eb pos) (tOpS r ta tb) :=
  ⟨fun pins s σ H Q I h => wpAny_BinOp (thn (ha.run pins s σ H _ I h) fun v s1 ⟨x, H1, I1, r1, q1⟩ => thn (hb.run pins s1 σ H1 _ I1 q1) fun u s2 ⟨y, H2, I2, r2, q2⟩ => ho pins s2 σ H2 x y v u Q I2 r1 r2 q2)⟩
theorem pe_cmpS {op : CmpOp} {r : St → R2} {ea eb : Expr} {ta tb : TE} {pos : Pos} (ho : OpRS X (compareOp op) r) (ha : PE X ea ta) (hb : PE X eb tb) (hm : behindInMarks op eb = false) : PE X (.Compare ea [op] [eb] pos) (tOpS r ta tb) :=
  ⟨fun pins s σ H Q I h => wpAny_Compare1 (thn (ha.run pins s σ H _ I h) fun v s1 ⟨x, H1, I1, r1, q1⟩ => thn (hb.run pins s1 σ H1 _ I1 q1) fun u s2 ⟨y, H2, I2, r2, q2⟩ => ho pins s2 σ H2 x y v u Q I2 r1 r2 q2) hm⟩
theorem pt_cmpS {op : CmpOp} {r : St → R2} {ea eb : Expr} {ta tb : TE} {pos : Pos} (ho : OpRS X (compareOp op) r) (ha : PE X ea ta) (hb : PE X eb tb) (hm : behindInMarks op eb = false) : PT X (.Compare ea [op] [eb] pos) (tTest (tOpS r ta tb)) := by
  refine ⟨fun pins s σ H Q I h => ?_⟩
  refine wpAny_isTrue_Compare1 (thn (ha.run pins s σ H _ I h) fun v s1 ⟨x, H1, I1, r1, q1⟩ => thn (hb.run pins s1 σ H1 _ I1 q1) fun u s2 ⟨y, H2, I2, r2, q2⟩ => thn (ho pins s2 σ H2 x y v u _ I2 r1 r2 q2) fun c s3 ⟨z, H3, I3, r3, k, e, q3⟩ => ?_) hm
  subst e
  cases r3
  exact wpAny_truthy_bool ⟨H3, I3, q3⟩
theorem passAll {E : XK} (h : Passes CX X E) : ∀ σ, PassesAt CX X σ ((fun _ => E) σ) := fun σ pins H s e s' I c => h pins σ H s e s' I c
def rOwnI (C : Addr) (sp : Sp) (E : St → XK) : St → R2 := fun σ x y H Q => ∃ a dx fs i, x = .ref a ∧ y = .int i ∧ H a = some (.ins C dx fs) ∧ sp [x, y] H Q (E σ)
/-- what is asked of the class for an operator with a right operand of the built-in class T -/
structure OwnT (K : PySem.W.Frag) (C : Addr) (op : Operator) (T : String) (f : Addr) : Prop where
  m : OwnM K C (PySem.dunder op.info.2) f
  first : PySem.W.selfFirst K C = true
  rc : ∃ rc, PySem.W.findIn K (.ref C) (dunderR op.info.2) = some rc ∧ (rc = none ∨ ∃ g : Addr, rc = some (.ref g))
  t1 : ∃ fo, PySem.W.findIn K (.type T) (PySem.dunder op.info.2) = some fo
  t2 : ∃ ro, PySem.W.findIn K (.type T) (dunderR op.info.2) = some ro
  sub : PySem.W.subIn K (.type T) (.ref C) = some false
theorem op_ownI {op : Operator} (o : OwnT X.K C op "int" f) (F : FnOk X.prog X.w X.K X.mg X.base CX k f fd ps sp) (hr : Room k X.A) (hb : Binds X.K fd ps []) (hx : ∀ σ, PassesAt CX X σ (E σ)) : OpRS X (binaryOp op) (rOwnI C sp E) := by
  intro pins s σ H x y u v Q I rx ry h
  obtain ⟨a, dx, fs, i, rfl, rfl, ea, q⟩ := h
  obtain rfl : u = Value.ref a := rx
  obtain ⟨t, rfl⟩ := id ry
  obtain ⟨mA, M, _⟩ := ins_get I.hok ea
  obtain ⟨od, J, _⟩ := M.look
  obtain ⟨m, hF⟩ := I.fr
  obtain ⟨rc, h1, h2⟩ := o.rc
  obtain ⟨fo, h3⟩ := o.t1
  obtain ⟨ro, h4⟩ := o.t2
  exact PySem.W.ksp_binT (T := "int") hF I.ok.mod.kin J rfl o.first o.m.at_ o.m.fn h1 h2 h3 h4 o.sub (wpAny_mono (run_own F hr hb hx I (.cons rel_ref (.cons ry .nil)) q) (fun _ _ hq => cmpBack_of hq) fun _ _ z => z)
def rOwnC (C : Addr) (sp : Sp) (E : St → XK) : St → R2 := fun σ x y H Q => ∃ a dx fs b dy gs, x = .ref a ∧ y = .ref b ∧ H a = some (.ins C dx fs) ∧ H b = some (.ins C dy gs) ∧ sp [x, y] H Q (E σ)
theorem op_ownC {op : Operator} (o : OwnM X.K C (PySem.dunder op.info.2) f) (hc : PySem.W.selfFirst X.K C = true) (F : FnOk X.prog X.w X.K X.mg X.base CX k f fd ps sp) (hr : Room k X.A) (hb : Binds X.K fd ps []) (hx : ∀ σ, PassesAt CX X σ (E σ)) : OpRS X (binaryOp op) (rOwnC C sp E) := by
  intro pins s σ H x y u v Q I rx ry h
  obtain ⟨a, dx, fs, b, dy, gs, rfl, rfl, ea, eb, q⟩ := h
  obtain rfl : u = Value.ref a := rx
  obtain rfl : v = Value.ref b := ry
  obtain ⟨mA, M, _⟩ := ins_get I.hok ea
  obtain ⟨od, J, _⟩ := M.look
  obtain ⟨mB, M2, _⟩ := ins_get I.hok eb
  obtain ⟨od2, J2, _⟩ := M2.look
  obtain ⟨m, hF⟩ := I.fr
  exact PySem.W.binop_K hF I.ok.mod.kin J J2.type hc o.at_ o.fn (wpAny_mono (run_own F hr hb hx I (.cons rel_ref (.cons rel_ref .nil)) q) (fun _ _ hq => cmpBack_of hq) fun _ _ z => z)
/-- ==, <, <= .. of two of one class -/
theorem op_ownCmp {op : CmpOp} (hop : compareOp op = richCompare op) (hu : X.A.units < cLine) (o : OwnM X.K C (cmpInfo op).2.1 f) (hn : PySem.W.notFirst X.K C (.ref C) = true) (F : FnOk X.prog X.w X.K X.mg X.base CX k f fd ps sp) (hr : Room k X.A) (hb : Binds X.K fd ps []) (hx : ∀ σ, PassesAt CX X σ (E σ)) : OpRS X (compareOp op) (rOwnC C sp E) := by
  intro pins s σ H x y u v Q I rx ry h
  obtain ⟨a, dx, fs, b, dy, gs, rfl, rfl, ea, eb, q⟩ := h
  obtain rfl : u = Value.ref a := rx
  obtain rfl : v = Value.ref b := ry
  obtain ⟨mA, M, _⟩ := ins_get I.hok ea
  obtain ⟨od, J, _⟩ := M.look
  obtain ⟨mB, M2, _⟩ := ins_get I.hok eb
  obtain ⟨od2, J2, _⟩ := M2.look
  obtain ⟨m, hF⟩ := I.fr
  rw [hop]
  exact PySem.W.cmp_K hu hF I.ok.mod.kin J J2.type hn o.at_ o.fn (wpAny_mono (run_own F hr hb hx I (.cons rel_ref (.cons rel_ref .nil)) q) (fun _ _ hq => cmpBack_of hq) fun _ _ z => z)
/-- x in o -/
def rOwnIn (C : Addr) (sp : Sp) (E : St → XK) : St → R2 := fun σ x y H Q => ∃ a dx fs, y = .ref a ∧ H a = some (.ins C dx fs) ∧ sp [y, x] H (fun r H' => ∃ b, r = .bl b ∧ Q (.bl b) H') (E σ)
theorem op_ownIn (o : OwnM X.K C "__contains__" f) (F : FnOk X.prog X.w X.K X.mg X.base CX k f fd ps sp) (hr : Room k X.A) (hb : Binds X.K fd ps []) (hx : ∀ σ, PassesAt CX X σ (E σ)) : OpRS X (compareOp .In) (rOwnIn C sp E) := by
  intro pins s σ H x y u v Q I rx ry h
  obtain ⟨a, dx, fs, rfl, ea, q⟩ := h
  obtain rfl : v = Value.ref a := ry
  obtain ⟨mA, M, _⟩ := ins_get I.hok ea
  obtain ⟨od, J, _⟩ := M.look
  obtain ⟨m, hF⟩ := I.fr
  refine PySem.W.in_K hF I.ok.mod.kin J o.at_ o.fn (wpAny_mono (run_own F hr hb hx I (.cons rel_ref (.cons rx .nil)) q) (fun r s' hq => ?_) fun _ _ z => z)
  obtain ⟨v, H', I', rv, b, rfl, hq⟩ := hq
  cases rv
  exact wpAny_truthy_bool ⟨.bl b, H', I', rfl, hq⟩
theorem op_ownNotIn (o : OwnM X.K C "__contains__" f) (F : FnOk X.prog X.w X.K X.mg X.base CX k f fd ps sp) (hr : Room k X.A) (hb : Binds X.K fd ps []) (hx : ∀ σ, PassesAt CX X σ (E σ)) :
    OpRS X (compareOp .NotIn) (fun σ x y H Q => ∃ a dx fs, y = .ref a ∧ H a = some (.ins C dx fs) ∧ sp [y, x] H (fun r H' => ∃ b, r = .bl b ∧ Q (.bl (!b)) H') (E σ)) := by
  intro pins s σ H x y u v Q I rx ry h
  obtain ⟨a, dx, fs, rfl, ea, q⟩ := h
  obtain rfl : v = Value.ref a := ry
  obtain ⟨mA, M, _⟩ := ins_get I.hok ea
  obtain ⟨od, J, _⟩ := M.look
  obtain ⟨m, hF⟩ := I.fr
  refine PySem.W.notIn_K hF I.ok.mod.kin J o.at_ o.fn (wpAny_mono (run_own F hr hb hx I (.cons rel_ref (.cons rx .nil)) q) (fun r s' hq => ?_) fun _ _ z => z)
  obtain ⟨v, H', I', rv, b, rfl, hq⟩ := hq
  cases rv
  exact wpAny_truthy_bool ⟨.bl (!b), H', I', rfl, hq⟩
/-- len(o) -/
theorem cr_ownLen (o : OwnM X.K C "__len__" f) (F : FnOk X.prog X.w X.K X.mg X.base CX k f fd ps sp) (hr : Room (k + 1) X.A) (hb : Binds X.K fd ps []) (hx : ∀ σ, PassesAt CX X σ E0) :
    CallR X (.builtin "len") (fun xs H Q => ∃ a dx fs, xs = [.ref a] ∧ H a = some (.ins C dx fs) ∧ sp xs H (fun r H' => ∃ n, r = .int n ∧ 0 ≤ n ∧ n < 2 ^ 63 ∧ Q (.int n) H') (E0 : XK)) := by
  intro pins s σ H xs us Q I r h
  obtain ⟨a, dx, fs, rfl, ea, q⟩ := h
  cases r with
  | cons rx rr =>
    cases rr
    rename_i u
    obtain rfl : u = Value.ref a := rx
    obtain ⟨mA, M, _⟩ := ins_get I.hok ea
    obtain ⟨od, J, _⟩ := M.look
    obtain ⟨m, hF⟩ := I.fr
    refine PySem.W.len_K hF I.ok.mod.kin J o.at_ o.fn (wpAny_mono (run_in (E := fun _ => E0) F hr.in1 rfl hb hx I (.cons rel_ref .nil) q) (fun r s' hq => ?_) fun _ _ z => z)
    obtain ⟨v, H', I', rv, n, rfl, h0, h1, hq⟩ := hq
    obtain ⟨t, rfl⟩ := id rv
    exact ⟨⟨h0, h1⟩, .int n, H', I'.tok _, ⟨_, rfl⟩, hq⟩
/-- str(o) -/
theorem cr_ownStr (hu : X.A.units + 2 < cLine) (o : OwnM X.K C "__str__" f) (F : FnOk X.prog X.w X.K X.mg X.base CX k f fd ps sp) (hr : Room (k + 2) X.A) (hb : Binds X.K fd ps []) (hx : ∀ σ, PassesAt CX X σ E0) :
    CallR X (.type "str") (fun xs H Q => ∃ a dx fs, xs = [.ref a] ∧ H a = some (.ins C dx fs) ∧ sp xs H (fun r H' => ∃ z, r = .str z ∧ Q (.str z) H') (E0 : XK)) := by
  intro pins s σ H xs us Q I r h
  obtain ⟨a, dx, fs, rfl, ea, q⟩ := h
  cases r with
  | cons rx rr =>
    cases rr
    rename_i u
    obtain rfl : u = Value.ref a := rx
    obtain ⟨mA, M, _⟩ := ins_get I.hok ea
    obtain ⟨od, J, _⟩ := M.look
    refine PySem.W.kso_call (by simpa [Around.in1] using hu) I.kIn J o.at_ o.fn (wpAny_mono (run_in (E := fun _ => E0) F hr.in1.in1 rfl hb hx I (.cons rel_ref .nil) q) (fun r s' hq => ?_) fun _ _ z => z)
    obtain ⟨v, H', I', rv, z, rfl, hq⟩ := hq
    obtain ⟨t, rfl⟩ := id rv
    exact ⟨.str z, H', I', ⟨_, rfl⟩, hq⟩
/-- o(..), o a local name -/
def tCallO (C : Addr) (sp : Sp) (E : St → XK) (i : Nat) (t : TA) : TE := fun σ H Q => ∃ a, σ[i]? = some (some (.ref a)) ∧ t σ H fun vs H1 => (∃ dx fs, H1 a = some (.ins C dx fs)) ∧ sp (.ref a :: vs) H1 Q (E σ)
/-- an object is called, as it stands behind its arguments -/
theorem callWith_ins {M : Model} {A : Around} {E : Value → Shared → Prop} {K : PySem.W.Frag} {x : Addr} {pos : Pos} {Q : Value → Shared → Prop} {args : List (Bool × Sem Value)} (hpl : (args.any (·.1) || ([] : List (Option Str × Sem Value)).any (·.1.isNone)) = false)
    (h : wpAny M A (evalArgs (.ref x) true args []) (fun g s1 => (∃ ox od, PySem.W.InstAt s1.heap x ox C od ∧ ox.data = .plain) ∧ wpAny M A (call (.ref x) ([] ++ g.pos) g.kw) Q E s1) E s) : wpAny M A (callWith pos (.ref x) [] args []) Q E s := by
  unfold callWith
  refine wpAny_bind (wpAny_holding (wpAny_mono h (fun g s1 hg => ?_) fun _ _ z => z))
  obtain ⟨⟨ox, od, J, hd⟩, hq⟩ := hg
  refine wpAny_bind (wpAny_standAt ?_)
  simp only [hpl]
  refine wpAny_bind ((PySem.W.kco_keeper J hd).here ?_)
  exact wpAny_bind (wpAny_mono (wpAny_operateT hq) (fun r s2 hr => wpAny_bind (wpAny_holding (wpAny_point (wpAny_pure hr)))) fun _ _ z => z)
theorem call_ins {Q : VK} {us : List Value} {vs : List V} (o : OwnM X.K C "__call__" f) (hfn : PySem.W.fnIn X.K f = true) (F : FnOk X.prog X.w X.K X.mg X.base CX k f fd ps sp) (hr : Room k X.A) (hb : Binds X.K fd ps []) (hx : ∀ σ, PassesAt CX X σ (E σ)) (I : Inv X pins σ H s) (ea : H a = some (.ins C dx fs)) (r : Vals vs us) (h : sp (.ref a :: vs) H Q (E σ)) :
    wpAny (model X.prog X.w) X.A (call (.ref a) us) (EP X pins σ Q) X.xe s := by
  obtain ⟨mA, M, _⟩ := ins_get I.hok ea
  obtain ⟨od, J, _⟩ := M.look
  have r2 : Vals (V.ref a :: vs) (Value.ref a :: us) := .cons rel_ref r
  have hl : (Value.ref a :: us).length = ps.length := by rw [← r2.length]; exact F.len _ _ _ _ h
  have hb' := hb s (Value.ref a :: us) I.kIn (by rw [List.append_nil]; exact hl)
  rw [List.append_nil] at hb'
  refine wpAny_call (PySem.W.kco_code I.kIn J rfl o.at_ o.fn hfn (codeAny_mono (F.run X.A X.stack s H ⟨.ref a :: us, []⟩ (.ref a :: us) (.ref a :: vs) Q (E σ) hr I.env0 hb' r2 h) fun r s' hq => ?_))
  cases r with
  | error e => exact hx σ pins H s e s' I hq
  | ok fl =>
    cases fl with
    | ret u => exact I.after hq
    | next => exact False.elim hq
    | brk => exact False.elim hq
    | cont => exact False.elim hq
theorem pe_callO {i : Nat} {x : Str} {p pos : Pos} {e : Expr} {es : List Expr} {t : TA} (hN : X.N[i]? = some x) (hv : Vis X.env.scope x) (o : OwnM X.K C "__call__" f) (hfn : PySem.W.fnIn X.K f = true) (F : FnOk X.prog X.w X.K X.mg X.base CX k f fd ps sp) (hr : Room k X.A) (hb : Binds X.K fd ps []) (hx : ∀ σ, PassesAt CX X σ (E σ))
    (ha : PA X (e :: es) t) (hdb : (x == ("__debug__" : Str)) = false := by decide) (hcd : (x == ("__classdict__" : Str)) = false := by decide) (he : starEach (e :: es) X.env = (false, eval e X.env) :: starEach es X.env := by rfl) (hpl : (backTo pos (starEach es X.env)).any (·.1) = false := by rfl) :
    PE X (.Call (.Name x p) (e :: es) [] pos) (tCallO C sp E i t) := by
  refine ⟨fun pins s σ H Q I h => ?_⟩
  obtain ⟨a, hs, q⟩ := h
  refine wpAny_Call_Name_kw (thn ((pe_var (pos := p) hN hv hdb hcd).run pins s σ H (fun v H' => v = .ref a ∧ t σ H' fun vs H1 => (∃ dx fs, H1 a = some (.ins C dx fs)) ∧ sp (.ref a :: vs) H1 Q (E σ)) I ⟨_, hs, rfl, q⟩) fun u s1 ⟨v, H1, I1, rv, ev, q1⟩ => ?_)
  subst ev
  obtain rfl : u = Value.ref a := rv
  show wpAny _ _ (callWith pos (.ref a) [] (backTo pos (starEach (e :: es) X.env)) []) _ _ _
  refine callWith_ins (C := C) (K := X.K) ?_ ?_
  · rw [he]
    show ((false || (backTo pos (starEach es X.env)).any (·.1)) || false) = false
    rw [hpl]; rfl
  · rw [he]
    refine PySem.Calls.evalArgs_plain ?_
    show wpAny _ _ (spliced (backTo pos ((false, eval e X.env) :: starEach es X.env))) _ _ _
    rw [← he]
    refine thn (ha.run pos pins s1 σ H1 _ I1 q1) fun us s2 ⟨vs, H2, I2, r, ⟨dx, fs, ea⟩, q2⟩ => ?_
    obtain ⟨mA, M, _⟩ := ins_get I2.hok ea
    obtain ⟨od, J, _⟩ := M.look
    exact ⟨⟨_, _, J, rfl⟩, call_ins o hfn F hr hb hx I2 ea r q2⟩
end
end L2

/-! special methods; == of data; errors caught -/
namespace Mi
open Enc (enc)
open PySem L2 PySem.Spec PyProof.Rows
open Cf (Fresh)
section
variable {Z : Zx} {L : List (V × D)} {O : List (Addr × D)} {σ : L2.St} {α β γ δ : Type} [Enc α] [Enc β] [Enc γ] [Enc δ]
def ObjIs (c : Str) (d : D) : Prop := ∃ ns ds, d = .obj c ns ds
theorem PtS.ins {c : Str} {A : Addr} {x : V} {d : D} {H G F W : Hp} (h : PtS Z L O H G F W) (m : (x, d) ∈ L) (ha : Z.C c = some A) (o : ObjIs c d) : ∃ a dx fs, x = .ref a ∧ H a = some (.ins A dx fs) := by
  obtain ⟨ns, ds, rfl⟩ := o
  obtain ⟨p, A', dx, fs, rfl, e1, e2, e3, t⟩ := is_obj (h.l _ m)
  obtain rfl : A' = A := Option.some.inj (e2.symm.trans ha)
  exact ⟨p, dx, fs, rfl, h.g _ _ e1⟩
theorem EV.ownIN {c : Str} {A : Addr} {sp : Sp} {E : L2.St → XK} {to ti : TE} {mo : M α} {mi : M Int} {k : α → Int → M β} (e0 : EV Z L O to σ mo) (e1 : EV Z L O ti σ mi) (ha : Z.C c = some A) (ho : ∀ a : α, ObjIs c (enc a))
    (hc : ∀ (a : α) (i : Int) (x y : V) (H : Hp) (Q : VK), CallN Z.K Z.C R0 [(x, enc a), (y, enc i)] (k a i) H Q → sp [x, y] H Q (E σ)) : EV Z L O (tOpS (rOwnI A sp E) to ti) σ (mb mo fun a => mb mi fun i => k a i) := fun L1 H post px Q s hp hx hm kk =>
  e0 L1 H _ px _ s hp hx hm fun a x H1 hp1 hm1 => e1 _ H1 _ px _ (sub_cons s) hp1 hx hm1 fun i y H2 hp2 hm2 => by
    obtain ⟨G, F, W, h2⟩ := hp2
    obtain rfl := is_int h2.x0
    obtain ⟨p, dx, fs, rfl, ea⟩ := h2.ins (List.mem_cons_of_mem _ List.mem_cons_self) ha (ho a)
    have sw : ∀ z ∈ [(V.ref p, enc a), (V.int i, enc i)] ++ L1, z ∈ (V.int i, enc i) :: (V.ref p, enc a) :: L1 := pk (.tail _ (.head _)) (pk (.head _) fun z hz => .tail _ (.tail _ hz))
    refine ⟨p, dx, fs, i, rfl, rfl, ea, ?_⟩
    exact hc a i _ _ H2 Q (call_n (ps := [(.ref p, enc a), (.int i, enc i)]) (L1 := L1) (h2.pt.less sw) hm2 kk)
theorem EV.ownCN {c : Str} {A : Addr} {sp : Sp} {E : L2.St → XK} {to ti : TE} {mo : M α} {mi : M δ} {k : α → δ → M β} (e0 : EV Z L O to σ mo) (e1 : EV Z L O ti σ mi) (ha : Z.C c = some A) (ho : ∀ a : α, ObjIs c (enc a)) (ho2 : ∀ a : δ, ObjIs c (enc a))
    (hc : ∀ (a : α) (b : δ) (x y : V) (H : Hp) (Q : VK), CallN Z.K Z.C R0 [(x, enc a), (y, enc b)] (k a b) H Q → sp [x, y] H Q (E σ)) : EV Z L O (tOpS (rOwnC A sp E) to ti) σ (mb mo fun a => mb mi fun b => k a b) := fun L1 H post px Q s hp hx hm kk =>
  e0 L1 H _ px _ s hp hx hm fun a x H1 hp1 hm1 => e1 _ H1 _ px _ (sub_cons s) hp1 hx hm1 fun b y H2 hp2 hm2 => by
    obtain ⟨G, F, W, h2⟩ := hp2
    obtain ⟨q, dy, gs, rfl, eb⟩ := h2.ins List.mem_cons_self ha (ho2 b)
    obtain ⟨p, dx, fs, rfl, ea⟩ := h2.ins (List.mem_cons_of_mem _ List.mem_cons_self) ha (ho a)
    have sw : ∀ z ∈ [(V.ref p, enc a), (V.ref q, enc b)] ++ L1, z ∈ (V.ref q, enc b) :: (V.ref p, enc a) :: L1 := pk (.tail _ (.head _)) (pk (.head _) fun z hz => .tail _ (.tail _ hz))
    refine ⟨p, dx, fs, q, dy, gs, rfl, rfl, ea, eb, ?_⟩
    exact hc a b _ _ H2 Q (call_n (ps := [(.ref p, enc a), (.ref q, enc b)]) (L1 := L1) (h2.pt.less sw) hm2 kk)
theorem EV.callON {c : Str} {A : Addr} {sp : Sp} {E : L2.St → XK} {i : Nat} {v : V} {a : α} {t : TA} {m : M γ} {ds : γ → List D} {k : α → γ → M β} (hi : σ[i]? = some (some v)) (hv : (v, enc a) ∈ L) (e : EA Z L O t σ m ds) (ha : Z.C c = some A) (ho : ObjIs c (enc a))
    (hc : ∀ (x : V) (g : γ) (vs : List V) (H : Hp) (Q : VK), vs.length = (ds g).length → CallN Z.K Z.C R0 ((x, enc a) :: vs.zip (ds g)) (k a g) H Q → sp (x :: vs) H Q (E σ)) : EV Z L O (tCallO A sp E i t) σ (mb m fun g => k a g) := fun L1 H post px Q s hp hx hm kk => by
  obtain ⟨G0, F0, W0, h0⟩ := id hp
  obtain ⟨p, dx0, fs0, rfl, _⟩ := h0.ins (s _ hv) ha ho
  refine ⟨p, hi, e L1 H _ px _ s hp hx hm fun g vs H2 hl hp2 hm2 => ?_⟩
  obtain ⟨G, F, W, h2⟩ := hp2
  obtain ⟨p', dx, fs, ep, ea⟩ := h2.ins (List.mem_append_right _ (s _ hv)) ha ho
  cases ep
  have sw : ∀ z ∈ ((V.ref p, enc a) :: vs.zip (ds g)) ++ L1, z ∈ vs.zip (ds g) ++ L1 := fun z hz => by
    rcases List.mem_cons.mp hz with e | e
    · rw [e]; exact List.mem_append_right _ (s _ hv)
    · exact e
  refine ⟨⟨dx, fs, ea⟩, ?_⟩
  exact hc _ g vs H2 Q hl (call_n (ps := (.ref p, enc a) :: vs.zip (ds g)) (L1 := L1) (h2.pt.less sw) hm2 kk)
theorem EV.ownIF {c : Str} {A : Addr} {sp : Sp} {E : L2.St → XK} {to ti : TE} {mo : M α} {mi : M Int} {k : α → Int → M β} (e0 : EV Z L O to σ mo) (e1 : EV Z L O ti σ mi) (ha : Z.C c = some A) (ho : ∀ a : α, ObjIs c (enc a))
    (hc : ∀ (a : α) (i : Int) (x y : V) (H : Hp) (Q : VK), Call Z.K Z.C R0 [(x, enc a), (y, enc i)] (k a i) H Q (E σ) → sp [x, y] H Q (E σ)) : EV Z L O (tOpS (rOwnI A sp E) to ti) σ (mb mo fun a => mb mi fun i => mno (k a i)) := fun L1 H post px Q s hp hx hm kk =>
  e0 L1 H _ px _ s hp hx hm fun a x H1 hp1 hm1 => e1 _ H1 _ px _ (sub_cons s) hp1 hx hm1 fun i y H2 hp2 hm2 => by
    obtain ⟨G, F, W, h2⟩ := hp2
    obtain rfl := is_int h2.x0
    obtain ⟨p, dx, fs, rfl, ea⟩ := h2.ins (List.mem_cons_of_mem _ List.mem_cons_self) ha (ho a)
    have sw : ∀ z ∈ [(V.ref p, enc a), (V.int i, enc i)] ++ L1, z ∈ (V.int i, enc i) :: (V.ref p, enc a) :: L1 := pk (.tail _ (.head _)) (pk (.head _) fun z hz => .tail _ (.tail _ hz))
    refine ⟨p, dx, fs, i, rfl, rfl, ea, ?_⟩
    exact hc a i _ _ H2 Q (call_f (px := px) (ps := [(.ref p, enc a), (.int i, enc i)]) (L1 := L1) (h2.pt.less sw) hm2 kk)
theorem EV.ownCF {c : Str} {A : Addr} {sp : Sp} {E : L2.St → XK} {to ti : TE} {mo : M α} {mi : M δ} {k : α → δ → M β} (e0 : EV Z L O to σ mo) (e1 : EV Z L O ti σ mi) (ha : Z.C c = some A) (ho : ∀ a : α, ObjIs c (enc a)) (ho2 : ∀ a : δ, ObjIs c (enc a))
    (hc : ∀ (a : α) (b : δ) (x y : V) (H : Hp) (Q : VK), Call Z.K Z.C R0 [(x, enc a), (y, enc b)] (k a b) H Q (E σ) → sp [x, y] H Q (E σ)) : EV Z L O (tOpS (rOwnC A sp E) to ti) σ (mb mo fun a => mb mi fun b => mno (k a b)) := fun L1 H post px Q s hp hx hm kk =>
  e0 L1 H _ px _ s hp hx hm fun a x H1 hp1 hm1 => e1 _ H1 _ px _ (sub_cons s) hp1 hx hm1 fun b y H2 hp2 hm2 => by
    obtain ⟨G, F, W, h2⟩ := hp2
    obtain ⟨q, dy, gs, rfl, eb⟩ := h2.ins List.mem_cons_self ha (ho2 b)
    obtain ⟨p, dx, fs, rfl, ea⟩ := h2.ins (List.mem_cons_of_mem _ List.mem_cons_self) ha (ho a)
    have sw : ∀ z ∈ [(V.ref p, enc a), (V.ref q, enc b)] ++ L1, z ∈ (V.ref q, enc b) :: (V.ref p, enc a) :: L1 := pk (.tail _ (.head _)) (pk (.head _) fun z hz => .tail _ (.tail _ hz))
    refine ⟨p, dx, fs, q, dy, gs, rfl, rfl, ea, eb, ?_⟩
    exact hc a b _ _ H2 Q (call_f (px := px) (ps := [(.ref p, enc a), (.ref q, enc b)]) (L1 := L1) (h2.pt.less sw) hm2 kk)
theorem EV.callOF {c : Str} {A : Addr} {sp : Sp} {E : L2.St → XK} {i : Nat} {v : V} {a : α} {t : TA} {m : M γ} {ds : γ → List D} {k : α → γ → M β} (hi : σ[i]? = some (some v)) (hv : (v, enc a) ∈ L) (e : EA Z L O t σ m ds) (ha : Z.C c = some A) (ho : ObjIs c (enc a))
    (hc : ∀ (x : V) (g : γ) (vs : List V) (H : Hp) (Q : VK), vs.length = (ds g).length → Call Z.K Z.C R0 ((x, enc a) :: vs.zip (ds g)) (k a g) H Q (E σ) → sp (x :: vs) H Q (E σ)) : EV Z L O (tCallO A sp E i t) σ (mb m fun g => mno (k a g)) := fun L1 H post px Q s hp hx hm kk => by
  obtain ⟨G0, F0, W0, h0⟩ := id hp
  obtain ⟨p, dx0, fs0, rfl, _⟩ := h0.ins (s _ hv) ha ho
  refine ⟨p, hi, e L1 H _ px _ s hp hx hm fun g vs H2 hl hp2 hm2 => ?_⟩
  obtain ⟨G, F, W, h2⟩ := hp2
  obtain ⟨p', dx, fs, ep, ea⟩ := h2.ins (List.mem_append_right _ (s _ hv)) ha ho
  cases ep
  have sw : ∀ z ∈ ((V.ref p, enc a) :: vs.zip (ds g)) ++ L1, z ∈ vs.zip (ds g) ++ L1 := fun z hz => by
    rcases List.mem_cons.mp hz with e | e
    · rw [e]; exact List.mem_append_right _ (s _ hv)
    · exact e
  refine ⟨⟨dx, fs, ea⟩, ?_⟩
  exact hc _ g vs H2 Q hl (call_f (px := px) (ps := (.ref p, enc a) :: vs.zip (ds g)) (L1 := L1) (h2.pt.less sw) hm2 kk)
theorem EV.ownIX {c : Str} {A : Addr} {sp : Sp} {E : L2.St → XK} {to ti : TE} {mo : M α} {mi : M Int} {k : α → Int → M β} (hE : E σ = Z.E) (e0 : EV Z L O to σ mo) (e1 : EV Z L O ti σ mi) (ha : Z.C c = some A) (ho : ∀ a : α, ObjIs c (enc a))
    (hc : ∀ (a : α) (i : Int) (x y : V) (H : Hp) (Q : VK), Call Z.K Z.C R0 [(x, enc a), (y, enc i)] (k a i) H Q Z.E → sp [x, y] H Q Z.E) : EV Z L O (tOpS (rOwnI A sp E) to ti) σ (mb mo fun a => mb mi fun i => k a i) := fun L1 H post px Q s hp hx hm kk =>
  e0 L1 H _ px _ s hp hx hm fun a x H1 hp1 hm1 => e1 _ H1 _ px _ (sub_cons s) hp1 hx hm1 fun i y H2 hp2 hm2 => by
    obtain ⟨G, F, W, h2⟩ := hp2
    obtain rfl := is_int h2.x0
    obtain ⟨p, dx, fs, rfl, ea⟩ := h2.ins (List.mem_cons_of_mem _ List.mem_cons_self) ha (ho a)
    have sw : ∀ z ∈ [(V.ref p, enc a), (V.int i, enc i)] ++ L1, z ∈ (V.int i, enc i) :: (V.ref p, enc a) :: L1 := pk (.tail _ (.head _)) (pk (.head _) fun z hz => .tail _ (.tail _ hz))
    refine ⟨p, dx, fs, i, rfl, rfl, ea, ?_⟩
    rw [hE]; exact hc a i _ _ H2 Q (call_x (ps := [(.ref p, enc a), (.int i, enc i)]) (L1 := L1) (h2.pt.less sw) hx hm2 kk)
theorem EV.ownCX {c : Str} {A : Addr} {sp : Sp} {E : L2.St → XK} {to ti : TE} {mo : M α} {mi : M δ} {k : α → δ → M β} (hE : E σ = Z.E) (e0 : EV Z L O to σ mo) (e1 : EV Z L O ti σ mi) (ha : Z.C c = some A) (ho : ∀ a : α, ObjIs c (enc a)) (ho2 : ∀ a : δ, ObjIs c (enc a))
    (hc : ∀ (a : α) (b : δ) (x y : V) (H : Hp) (Q : VK), Call Z.K Z.C R0 [(x, enc a), (y, enc b)] (k a b) H Q Z.E → sp [x, y] H Q Z.E) : EV Z L O (tOpS (rOwnC A sp E) to ti) σ (mb mo fun a => mb mi fun b => k a b) := fun L1 H post px Q s hp hx hm kk =>
  e0 L1 H _ px _ s hp hx hm fun a x H1 hp1 hm1 => e1 _ H1 _ px _ (sub_cons s) hp1 hx hm1 fun b y H2 hp2 hm2 => by
    obtain ⟨G, F, W, h2⟩ := hp2
    obtain ⟨q, dy, gs, rfl, eb⟩ := h2.ins List.mem_cons_self ha (ho2 b)
    obtain ⟨p, dx, fs, rfl, ea⟩ := h2.ins (List.mem_cons_of_mem _ List.mem_cons_self) ha (ho a)
    have sw : ∀ z ∈ [(V.ref p, enc a), (V.ref q, enc b)] ++ L1, z ∈ (V.ref q, enc b) :: (V.ref p, enc a) :: L1 := pk (.tail _ (.head _)) (pk (.head _) fun z hz => .tail _ (.tail _ hz))
    refine ⟨p, dx, fs, q, dy, gs, rfl, rfl, ea, eb, ?_⟩
    rw [hE]; exact hc a b _ _ H2 Q (call_x (ps := [(.ref p, enc a), (.ref q, enc b)]) (L1 := L1) (h2.pt.less sw) hx hm2 kk)
theorem EV.callOX {c : Str} {A : Addr} {sp : Sp} {E : L2.St → XK} {i : Nat} {v : V} {a : α} {t : TA} {m : M γ} {ds : γ → List D} {k : α → γ → M β} (hE : E σ = Z.E) (hi : σ[i]? = some (some v)) (hv : (v, enc a) ∈ L) (e : EA Z L O t σ m ds) (ha : Z.C c = some A) (ho : ObjIs c (enc a))
    (hc : ∀ (x : V) (g : γ) (vs : List V) (H : Hp) (Q : VK), vs.length = (ds g).length → Call Z.K Z.C R0 ((x, enc a) :: vs.zip (ds g)) (k a g) H Q Z.E → sp (x :: vs) H Q Z.E) : EV Z L O (tCallO A sp E i t) σ (mb m fun g => k a g) := fun L1 H post px Q s hp hx hm kk => by
  obtain ⟨G0, F0, W0, h0⟩ := id hp
  obtain ⟨p, dx0, fs0, rfl, _⟩ := h0.ins (s _ hv) ha ho
  refine ⟨p, hi, e L1 H _ px _ s hp hx hm fun g vs H2 hl hp2 hm2 => ?_⟩
  obtain ⟨G, F, W, h2⟩ := hp2
  obtain ⟨p', dx, fs, ep, ea⟩ := h2.ins (List.mem_append_right _ (s _ hv)) ha ho
  cases ep
  have sw : ∀ z ∈ ((V.ref p, enc a) :: vs.zip (ds g)) ++ L1, z ∈ vs.zip (ds g) ++ L1 := fun z hz => by
    rcases List.mem_cons.mp hz with e | e
    · rw [e]; exact List.mem_append_right _ (s _ hv)
    · exact e
  refine ⟨⟨dx, fs, ea⟩, ?_⟩
  rw [hE]; exact hc _ g vs H2 Q hl (call_x (ps := (.ref p, enc a) :: vs.zip (ds g)) (L1 := L1) (h2.pt.less sw) hx hm2 kk)
/-- x in o -/
theorem EV.ownIn {c : Str} {A : Addr} {sp : Sp} {E : L2.St → XK} {to ti : TE} {mo : M α} {mi : M δ} {k : α → δ → M Bool} (e1 : EV Z L O ti σ mi) (e0 : EV Z L O to σ mo) (ha : Z.C c = some A) (ho : ∀ a : α, ObjIs c (enc a))
    (hc : ∀ (a : α) (b : δ) (x y : V) (H : Hp) (Q : VK), CallN Z.K Z.C R0 [(x, enc a), (y, enc b)] (k a b) H Q → sp [x, y] H Q (E σ)) : EV Z L O (tOpS (rOwnIn A sp E) ti to) σ (mb mi fun b => mb mo fun a => k a b) := fun L1 H post px Q s hp hx hm kk =>
  e1 L1 H _ px _ s hp hx hm fun b y H1 hp1 hm1 => e0 _ H1 _ px _ (sub_cons s) hp1 hx hm1 fun a x H2 hp2 hm2 => by
    obtain ⟨G, F, W, h2⟩ := hp2
    obtain ⟨p, dx, fs, rfl, ea⟩ := h2.ins List.mem_cons_self ha (ho a)
    refine ⟨p, dx, fs, rfl, ea, hc a b _ _ H2 _ (call_n (ps := [(.ref p, enc a), (y, enc b)]) (L1 := L1) (h2.pt.less (pk (.head _) (pk (.tail _ (.head _)) fun z hz => .tail _ (.tail _ hz)))) hm2 fun r v H' hp' hr => ?_)⟩
    obtain rfl := is_bl hp'.hd
    exact ⟨r, rfl, kk r _ H' hp' hr⟩
/-! ### == of data -/
mutual
def toPy : D → PyData
  | .non => .none | .bl b => .bool b | .int i => .int i | .str x => .str x | .lst ds => .list (toPys ds) | .tup ds => .tuple (toPys ds)
  | .dic _ _ => .none | .obj _ _ _ => .none | .xd _ _ => .none | .own _ => .none
def toPys : List D → List PyData
  | [] => []
  | d :: ds => toPy d :: toPys ds
end
mutual
/-- no dict, no object in it -/
def datD : D → Bool
  | .lst ds => datDs ds | .tup ds => datDs ds | .dic _ _ => false | .obj _ _ _ => false | .xd _ _ => false | .own _ => false
  | _ => true
def datDs : List D → Bool
  | [] => true
  | d :: ds => datD d && datDs ds
end
mutual
theorem dp_of {K : PySem.W.Frag} {C : CT} {G H : Hp} (s : Sub G H) : ∀ {d : D} {v : V}, datD d = true → Is K C G v d → Dp K H v (toPy d)
  | .non, _, _, .non => .non
  | .bl b, _, _, .bl _ => .bl b
  | .int b, _, _, .int _ => .int b
  | .str b, _, _, .str _ => .str b
  | .lst ds, _, hd, .lst h l t => .lst (.inl (.inl (s _ _ h))) (dps_of s (by simpa [datD] using hd) t)
  | .tup ds, _, hd, .tup h l t => .tup (sqT_mono s h) (dps_of s (by simpa [datD] using hd) t)
  | .dic _ _, _, hd, _ => by simp [datD] at hd
  | .obj _ _ _, _, hd, _ => by simp [datD] at hd
  | .xd _ _, _, hd, _ => by simp [datD] at hd
  | .own _, _, hd, _ => by simp [datD] at hd
theorem dps_of {K : PySem.W.Frag} {C : CT} {G H : Hp} (s : Sub G H) : ∀ {ds : List D} {vs : List V}, datDs ds = true → IsL K C G vs ds → DpAll K H vs (toPys ds)
  | [], _, _, .nil => .nil
  | d :: ds, _, hd, .cons h t => by
    have hd : datD d = true ∧ datDs ds = true := by simpa [datDs] using hd
    exact .cons (dp_of s hd.1 h) (dps_of s hd.2 t)
end
def meqD (x y : D) : M Bool := mreq (datD x = true ∧ datD y = true ∧ SeqAt.shaped (toPy x) = true ∧ SeqAt.shaped (toPy y) = true) (mr (PyData.eqv (toPy x) (toPy y)))
def mneD (x y : D) : M Bool := mreq (datD x = true ∧ datD y = true ∧ SeqAt.shaped (toPy x) = true ∧ SeqAt.shaped (toPy y) = true) (mr (!PyData.eqv (toPy x) (toPy y)))
theorem ok_eqD : Ok2 Z (Cf.rEqq Z.K) (fun (a : α) (b : β) => meqD (enc a) (enc b)) := fun L O H a b x y post px Q hp hx hm k => by
  obtain ⟨G, F, W, h⟩ := hp
  obtain ⟨⟨h1, h2, h3, h4⟩, hm⟩ := hm
  exact .inr ⟨_, _, dp_of h.g h1 h.x1, dp_of h.g h2 h.x0, h3, h4, k _ _ H (h.t2.add (.bl _)) hm⟩
theorem ok_neD : Ok2 Z (Cf.rNeq Z.K) (fun (a : α) (b : β) => mneD (enc a) (enc b)) := fun L O H a b x y post px Q hp hx hm k => by
  obtain ⟨G, F, W, h⟩ := hp
  obtain ⟨⟨h1, h2, h3, h4⟩, hm⟩ := hm
  exact .inr ⟨_, _, dp_of h.g h1 h.x1, dp_of h.g h2 h.x0, h3, h4, k _ _ H (h.t2.add (.bl _)) hm⟩
theorem EV.eqDP {ta tb : TE} {a : α} {b : β} (e1 : EV Z L O ta σ (mr a)) (e2 : EV Z L O tb σ (mr b)) : EV Z L O (tOp (Cf.rEqq Z.K) ta tb) σ (meqD (enc a) (enc b)) := EV.op2P (f := fun (a : α) (b : β) => meqD (enc a) (enc b)) ok_eqD e1 e2
theorem EV.eqD {ta tb : TE} {m1 : M α} {m2 : M β} (e1 : EV Z L O ta σ m1) (e2 : EV Z L O tb σ m2) : EV Z L O (tOp (Cf.rEqq Z.K) ta tb) σ (mb m1 fun a => mb m2 fun b => meqD (enc a) (enc b)) := EV.op2 (f := fun (a : α) (b : β) => meqD (enc a) (enc b)) ok_eqD e1 e2
theorem EV.neDP {ta tb : TE} {a : α} {b : β} (e1 : EV Z L O ta σ (mr a)) (e2 : EV Z L O tb σ (mr b)) : EV Z L O (tOp (Cf.rNeq Z.K) ta tb) σ (mneD (enc a) (enc b)) := EV.op2P (f := fun (a : α) (b : β) => mneD (enc a) (enc b)) ok_neD e1 e2
theorem EV.neD {ta tb : TE} {m1 : M α} {m2 : M β} (e1 : EV Z L O ta σ m1) (e2 : EV Z L O tb σ m2) : EV Z L O (tOp (Cf.rNeq Z.K) ta tb) σ (mb m1 fun a => mb m2 fun b => mneD (enc a) (enc b)) := EV.op2 (f := fun (a : α) (b : β) => mneD (enc a) (enc b)) ok_neD e1 e2
/-! ### data of open kind -/
def mint : D → M Int
  | .int i => mr i
  | _ => mstuck
def mstr : D → M Str
  | .str i => mr i
  | _ => mstuck
def mbl : D → M Bool
  | .bl i => mr i
  | _ => mstuck
theorem EV.asI {t : TE} {m : M D} (e : EV Z L O t σ m) : EV Z L O t σ (mb m mint) := fun L1 H post px Q s hp hx hm k => e L1 H _ px Q s hp hx hm fun d v H' hp' hb => by
  cases d <;> first | exact hb.elim | exact k _ v H' hp' hb
theorem EV.asIP {t : TE} {d : D} (e : EV Z L O t σ (mr d)) : EV Z L O t σ (mint d) := EV.asI e
theorem EV.asS {t : TE} {m : M D} (e : EV Z L O t σ m) : EV Z L O t σ (mb m mstr) := fun L1 H post px Q s hp hx hm k => e L1 H _ px Q s hp hx hm fun d v H' hp' hb => by
  cases d <;> first | exact hb.elim | exact k _ v H' hp' hb
theorem EV.asSP {t : TE} {d : D} (e : EV Z L O t σ (mr d)) : EV Z L O t σ (mstr d) := EV.asS e
theorem EV.asB {t : TE} {m : M D} (e : EV Z L O t σ m) : EV Z L O t σ (mb m mbl) := fun L1 H post px Q s hp hx hm k => e L1 H _ px Q s hp hx hm fun d v H' hp' hb => by
  cases d <;> first | exact hb.elim | exact k _ v H' hp' hb
theorem EV.asBP {t : TE} {d : D} (e : EV Z L O t σ (mr d)) : EV Z L O t σ (mbl d) := EV.asB e
def mlenD : D → M Int
  | .lst ds => mr (ds.length : Int)
  | .tup ds => mr (ds.length : Int)
  | .str z => mlenS z
  | _ => mstuck
theorem ok_lenD : OkB Z (Cf.rLen Z.K) mlenD := fun L O H a x post px Q hp hx hm k => by
  cases a with
  | lst ds =>
    obtain ⟨G, F, W, h⟩ := hp
    obtain ⟨p, xs, rfl, e, l, t⟩ := is_lst h.x0
    refine .inl ⟨p, xs, rfl, .inl (.inl (.inl (h.g _ _ e))), ?_⟩
    rw [t.len]
    exact k _ _ H (h.t1.add (.int _)) hm
  | tup ds =>
    obtain ⟨G, F, W, h⟩ := hp
    obtain ⟨p, xs, rfl, e, l, t⟩ := is_tup h.x0
    refine .inl ⟨p, xs, rfl, .inr (sqT_mono h.g e), ?_⟩
    rw [t.len]
    exact k _ _ H (h.t1.add (.int _)) hm
  | str z => exact ok_lenS L O H z x post px Q hp hx hm k
  | _ => exact hm.elim
theorem EV.lenDP {ta : TE} {a : D} (e1 : EV Z L O ta σ (mr a)) : EV Z L O (tCB (Cf.rLen Z.K) (tCons ta tNil)) σ (mlenD a) := EV.cb1P (f := mlenD) ok_lenD e1
theorem EV.lenD {ta : TE} {m1 : M D} (e1 : EV Z L O ta σ m1) : EV Z L O (tCB (Cf.rLen Z.K) (tCons ta tNil)) σ (mb m1 mlenD) := EV.cb1 (f := mlenD) ok_lenD e1
def mixD (d : D) (i : Int) : M D := match d with
  | .lst ds => mix ds i
  | .tup ds => mix ds i
  | _ => mstuck
theorem ok_ixD : Ok2 Z (Cf.rIxx Z.K) mixD := fun L O H a b x y post px Q hp hx hm k => by
  obtain ⟨G, F, W, h⟩ := hp
  obtain rfl := is_int h.x0
  cases a with
  | lst ds =>
    obtain ⟨p, xs, rfl, e, l, t⟩ := is_lst h.x1
    have hm : mix ds b post px := hm
    unfold mix at hm
    cases q : atI ds b with
    | none => rw [q] at hm; exact hm.elim
    | some c =>
      rw [q] at hm
      obtain ⟨v, e1, e2⟩ := atI_isL t q
      exact .inl (.inl ⟨p, xs, b, v, rfl, rfl, .inl (.inl (h.g _ _ e)), e1, k c v H (h.t2.add e2) hm⟩)
  | tup ds =>
    obtain ⟨p, xs, rfl, e, l, t⟩ := is_tup h.x1
    have hm : mix ds b post px := hm
    unfold mix at hm
    cases q : atI ds b with
    | none => rw [q] at hm; exact hm.elim
    | some c =>
      rw [q] at hm
      obtain ⟨v, e1, e2⟩ := atI_isL t q
      exact .inl (.inr (.inl ⟨p, xs, b, v, rfl, rfl, sqT_mono h.g e, e1, k c v H (h.t2.add e2) hm⟩))
  | _ => exact hm.elim
theorem EV.ixDP {ta tb : TE} {a : D} {b : Int} (e1 : EV Z L O ta σ (mr a)) (e2 : EV Z L O tb σ (mr b)) : EV Z L O (tOp (Cf.rIxx Z.K) ta tb) σ (mixD a b) := EV.op2P (f := mixD) ok_ixD e1 e2
theorem EV.ixD {ta tb : TE} {m1 : M D} {m2 : M Int} (e1 : EV Z L O ta σ m1) (e2 : EV Z L O tb σ m2) : EV Z L O (tOp (Cf.rIxx Z.K) ta tb) σ (mb m1 fun a => mb m2 fun b => mixD a b) := EV.op2 (f := mixD) ok_ixD e1 e2
def misD (b : Cf.Kd) (d : D) : M Bool := mreq (NoObj d) (mr (isD b d))
theorem EV.isiD {ta : TE} {m : M D} (b : Cf.Kd) (e : EV Z L O ta σ m) : EV Z L O (tCB (rIsi Z.K) (tCons ta (tCons (tC (.ty b.name)) tNil))) σ (mb m fun a => misD b a) := fun L1 H post px Q s hp hx hm k =>
  e L1 H _ px _ s hp hx hm fun a v H1 hp1 hm1 => by
    obtain ⟨G, F, W, h⟩ := hp1
    obtain ⟨n, hm1⟩ := hm1
    obtain ⟨kd, e1, e2⟩ := kd_ty h.g h.x0 (show NoObj (enc a) from n)
    refine ⟨v, .ty b.name, _, _, _, rfl, .ty _, e2, kit_ty (Cf.kit_isk kd b), ?_⟩
    have e3 : isD b a = Cf.isk kd b := by unfold isD; rw [show kdD a = some kd from e1]
    rw [← e3]
    exact k _ _ H1 (h.t1.add (.bl _)) hm1
theorem EV.isiDP {ta : TE} {d : D} (b : Cf.Kd) (e : EV Z L O ta σ (mr d)) : EV Z L O (tCB (rIsi Z.K) (tCons ta (tCons (tC (.ty b.name)) tNil))) σ (misD b d) := EV.isiD b e
def isNonD : D → Bool
  | .non => true
  | _ => false
theorem isNonD_iff (d : D) : d = .non ↔ isNonD d = true := by cases d <;> simp [isNonD]
theorem EV.isNDP {ta tb : TE} {a : D} {b : Unit} (e1 : EV Z L O ta σ (mr a)) (e2 : EV Z L O tb σ (mr b)) : EV Z L O (tOp Cf.rIsN ta tb) σ (mr (isNonD a)) := EV.op2P (f := fun (a : D) (_ : Unit) => mr (isNonD a)) (fun L O H a b x y post px Q hp hx hm k => by
  have h2 := hp.hd
  cases h2
  refine ⟨rfl, ?_⟩
  rw [dec_non hp.hd2 (isNonD_iff a)]
  exact k _ _ H (hp.tail.tail.add fun G _ => .bl _) hm) e1 e2
/-- a text in a text: a sign among signs -/
def minSS (a b : Str) : M Bool := mr (!(Builtin.Str.occurrences b a 0 b.length 1).isEmpty)
theorem EV.ninSSP {ta tb : TE} {a b : Str} (e1 : EV Z L O ta σ (mr a)) (e2 : EV Z L O tb σ (mr b)) : EV Z L O (tOp (fun x y H Q => ∃ i j, x = .str i ∧ y = .str j ∧ Q (.bl (!(!(Builtin.Str.occurrences j i 0 j.length 1).isEmpty))) H) ta tb) σ (mr (!(!(Builtin.Str.occurrences b a 0 b.length 1).isEmpty))) := EV.op2P (f := fun (a b : Str) => mr (!(!(Builtin.Str.occurrences b a 0 b.length 1).isEmpty))) (fun L O H a b x y post px Q hp hx hm k => by
  obtain rfl := is_str hp.hd
  obtain rfl := is_str hp.hd2
  exact ⟨a, b, rfl, rfl, k _ _ H (hp.tail.tail.add fun G _ => .bl _) hm⟩) e1 e2
/-! ### errors caught -/
def mtryN {τ ρ : Type} (known : List Str) (m : M τ) (h : Exn → M ρ) (k : τ → M ρ) : M ρ := fun post px => m (fun a => k a post px) (fun e => e.cls ∈ known ∧ h e post px)
theorem PtS.back {L' : List (V × D)} {H H' G F W : Hp} {E : XK} (h : PtS Z L O H G F W) (q : Pt ⟨Z.K, Z.C, Z.R, G, F, E⟩ L' [] H') : Pt Z (L' ++ L) O H' := by
  obtain ⟨G', F', W', h'⟩ := q
  refine ⟨G', F', W', ⟨h.g0.trans h'.g0, h.f0.trans h'.f0, h'.g, h'.f, h'.w, h'.gf, h'.gw, h'.fw, h'.r, fun x hx => ?_, fun x hx => ?_, h.nd⟩⟩
  · rcases List.mem_append.mp hx with e | e
    · exact h'.l _ e
    · exact (h.l x e).mono h'.g0
  · obtain ⟨ho, e1, e2, e3⟩ := h.o x hx
    exact ⟨ho, h'.f0 _ _ e1, e2, e3.mono h'.g0⟩
section
variable {nx : L2.St → Hp → Prop} {rt : VK} {bk ct : L2.St → Hp → Prop} {H : Hp} {px : Exn → Prop} {ρ : Type} {post : ρ → Prop}
def mexf (ns : List Str) (ds : List D) (f : Str) : M D := match (ns.zip ds).lookup f with
  | some d => mr d
  | none => mstuck
end
theorem is_xd {K : PySem.W.Frag} {C : CT} {G : Hp} {a : Addr} {ns : List Str} {ds : List D} (h : Is K C G (.ref a) (.xd ns ds)) : ∃ fs, G a = some (.xd fs) ∧ fs.map (·.1) = ns ∧ IsL K C G (fs.map (·.2)) ds := by
  cases h with
  | xd h t => exact ⟨_, h, rfl, t⟩
theorem EV.fldE {i : Nat} {a A : Addr} {d : Option Addr} {e : Exn} {fld : Str} (hi : σ[i]? = some (some (.ref a))) (hn : d = none → e.ns = []) (ex : ExcF Z.K A fld) (hm : (dvV d, dvD d e) ∈ L) : EV Z L O (tFldE Z.K fld a (.ref A) d (tVar i)) σ (mexf e.ns e.ds fld) := fun L1 H post px Q s hp hx hq k => by
  obtain ⟨G, F, W, h⟩ := hp
  have hq : mexf e.ns e.ds fld post px := hq
  unfold mexf at hq
  cases q : (e.ns.zip e.ds).lookup fld with
  | none => rw [q] at hq; exact hq.elim
  | some z =>
    rw [q] at hq
    cases d with
    | none => rw [hn rfl] at q; cases q
    | some dd =>
      obtain ⟨fs, e1, e2, t⟩ := is_xd (h.l _ (s _ hm))
      obtain ⟨v, q1, q2⟩ := lookup_isL e2 t q
      exact ⟨_, hi, rfl, A, dd, fs, v, rfl, ex, rfl, h.g _ _ e1, q1, k z v H (h.add q2) hq⟩
theorem EV.isE {i : Nat} {a A : Addr} {d : Option Addr} {e : Exn} {c : V} {cv : Value} {b : Bool} (hi : σ[i]? = some (some (.ref a))) (xc : ExcC Z.K A) (hm : (dvV d, dvD d e) ∈ L) (hc : ∀ u, RelV c u → u = cv) (kt : PySem.W.kitOne Z.K (.ref A) cv = some b) : EV Z L O (tCB (rIsD Z.K a (.ref A) d) (tCons (tVar i) (tCons (tC c) tNil))) σ (mr b) := fun L1 H post px Q s hp hx hq k => by
  obtain ⟨G, F, W, h⟩ := hp
  refine ⟨_, hi, c, cv, b, A, rfl, hc, rfl, xc, ?_, kt, k b _ H (h.add (.bl _)) hq⟩
  cases d with
  | none => exact .inl rfl
  | some dd =>
    obtain ⟨fs, e1, e2, t⟩ := is_xd (h.l _ (s _ hm))
    exact .inr ⟨dd, fs, rfl, h.g _ _ e1⟩
end
end Mi

/-! the laws' own equality -/
namespace Mi
open Enc (enc)
open PySem L2 PySem.Spec PyProof.Rows
open Cf (Fresh Keep)
theorem keep_sub {H H' : Hp} (k : Keep [] H H') : Sub H H' := fun b o e => k b o (by simp) e
mutual
def D.depth : D → Nat
  | .lst ds => D.depths ds + 1
  | .tup ds => D.depths ds + 1
  | .dic _ ds => D.depths ds + 2
  | _ => 0
def D.depths : List D → Nat
  | [] => 0
  | d :: ds => max d.depth (D.depths ds)
end
theorem depth_mem : ∀ {ds : List D} {d : D}, d ∈ ds → d.depth ≤ D.depths ds
  | e :: r, d, h => by
    unfold D.depths
    rcases List.mem_cons.mp h with h | h
    · subst h; omega
    · have := depth_mem h; omega
mutual
/-- no object in it -/
def plainD : D → Bool
  | .lst ds => plainDs ds | .tup ds => plainDs ds | .dic _ ds => decide (ds.length ≤ 900) && plainDs ds | .obj _ _ _ => false | .xd _ _ => false | .own _ => false
  | _ => true
def plainDs : List D → Bool
  | [] => true
  | d :: ds => plainD d && plainDs ds
end
theorem plain_mem : ∀ {ds : List D} {d : D}, plainDs ds = true → d ∈ ds → plainD d = true
  | e :: r, d, p, h => by
    have p : plainD e = true ∧ plainDs r = true := by simpa [plainDs] using p
    rcases List.mem_cons.mp h with h | h
    · rw [h]; exact p.1
    · exact plain_mem p.2 h
noncomputable def dsame (x y : D) : Bool := @decide (x = y) (Classical.propDecidable _)
theorem dsame_iff {x y : D} : dsame x y = true ↔ x = y := by unfold dsame; simp
theorem dsame_self (x : D) : dsame x x = true := dsame_iff.mpr rfl
noncomputable def msameN (n : Nat) (x y : D) : M Bool := mreq (plainD x = true ∧ plainD y = true ∧ x.depth < n) (mr (dsame x y))
noncomputable abbrev msame (x y : D) : M Bool := msameN 8 x y
/-- .. by hand -/
def spSameG (K : PySem.W.Frag) (C : CT) (n : Nat) : Sp := fun vs H Q _ => ∃ (x y : V) (d e : D), vs = [x, y] ∧ Is K C H x d ∧ Is K C H y e ∧ plainD d = true ∧ plainD e = true ∧ d.depth < n ∧ ∀ (b : Bool) H', (b = true ↔ d = e) → Sub H H' → Q (.bl b) H'
def spSameM (K : PySem.W.Frag) (C : CT) (n : Nat) : Sp := fun vs H Q E => ∃ (x y : D) (v0 v1 : V), vs = [v0, v1] ∧ CallN K C R0 [(v0, enc x), (v1, enc y)] (msameN n x y) H Q
theorem same_ok {K : PySem.W.Frag} {C : CT} {P : Program} {w : World} {mg : Str → Option Value} {base : Heap} {n m : Nat} {f : Addr} {fd : FuncData} {ps : List Str} (F : FnOk P w K mg base CX0 m f fd ps (spSameG K C n)) : FnOk P w K mg base CX0 m f fd ps (spSameM K C n) := F.imp fun vs H Q E h => by
  obtain ⟨x, y, v0, v1, rfl, G0, F0, post, px, hp, ⟨⟨h1, h2, h3⟩, hm⟩, k⟩ := h
  refine ⟨v0, v1, x, y, rfl, hp.is (.head _), hp.is (.tail _ (.head _)), h1, h2, h3, fun b H' hb s => ?_⟩
  have e : b = dsame x y := by rw [Bool.eq_iff_iff, hb, dsame_iff]
  subst e
  obtain ⟨G, F, W, h⟩ := hp
  exact k _ _ H' ⟨G, F, W, ⟨h.g0, h.f0, h.g.trans s, h.f.trans s, h.w.trans s, h.gf, h.gw, h.fw, h.r, (fun z hz => by rcases List.mem_cons.mp hz with e | e; (· rw [e]; exact .bl _); (· cases e)), (fun z hz => by cases hz), List.nodup_nil⟩⟩ hm
theorem use_sameG {K : PySem.W.Frag} {C : CT} {n : Nat} {H : Hp} {x y : V} {d e : D} {Q : VK} {E : XK} (h1 : Is K C H x d) (h2 : Is K C H y e) (p1 : plainD d = true) (p2 : plainD e = true) (h3 : d.depth < n) (k : ∀ (b : Bool) H', (b = true ↔ d = e) → Sub H H' → Q (.bl b) H') : spSameG K C n ([x, y] ++ []) H Q E :=
  ⟨x, y, d, e, rfl, h1, h2, p1, p2, h3, k⟩
theorem sameG_none {P : Program} {w : World} {K : PySem.W.Frag} {C : CT} {mg : Str → Option Value} {base : Heap} {f : Addr} {fd : FuncData} : FnOk P w K mg base CX0 0 f fd ["here", "there"] (spSameG K C 0) := by
  have no : ∀ vs H Q E, ¬ spSameG K C 0 vs H Q E := fun vs H Q E h => by
    obtain ⟨_, _, _, _, _, _, _, _, _, h, _⟩ := h
    omega
  exact ⟨fun vs H Q E h => absurd h (no vs H Q E), fun A outer s H args us vs Q E _ _ _ _ h => absurd h (no vs H Q E)⟩
def D.key : Key → D
  | .inl i => .int i
  | .inr s => .str s
section
variable {K : PySem.W.Frag} {C : CT} {H : Hp}
theorem is_key : ∀ k : Key, Is K C H (kV k) (D.key k)
  | .inl i => .int i
  | .inr s => .str s
theorem is_keys : ∀ kvs : List (Key × V), IsL K C H (kvs.map fun kv => kV kv.1) (kvs.map fun kv => D.key kv.1)
  | [] => .nil
  | kv :: r => .cons (is_key kv.1) (is_keys r)
theorem key_inj : ∀ {a b : Key}, D.key a = D.key b → a = b
  | .inl _, .inl _, h => by cases h; rfl
  | .inr _, .inr _, h => by cases h; rfl
  | .inl _, .inr _, h => by cases h
  | .inr _, .inl _, h => by cases h
theorem keys_inj : ∀ {a b : List (Key × V)}, (a.map fun kv => D.key kv.1) = (b.map fun kv => D.key kv.1) ↔ a.map (·.1) = b.map (·.1)
  | [], [] => by simp
  | [], _ :: _ => by simp
  | _ :: _, [] => by simp
  | x :: a, y :: b => by
    simp only [List.map_cons, List.cons.injEq, keys_inj (a := a) (b := b)]
    exact ⟨fun h => ⟨key_inj h.1, h.2⟩, fun h => ⟨congrArg _ h.1, h.2⟩⟩
theorem keys_depth : ∀ kvs : List (Key × V), D.depths (kvs.map fun kv => D.key kv.1) = 0
  | [] => rfl
  | (.inl _, _) :: r => by show max 0 (D.depths (r.map fun kv => D.key kv.1)) = 0; rw [keys_depth r]; rfl
  | (.inr _, _) :: r => by show max 0 (D.depths (r.map fun kv => D.key kv.1)) = 0; rw [keys_depth r]; rfl
theorem keys_plain : ∀ kvs : List (Key × V), plainDs (kvs.map fun kv => D.key kv.1) = true
  | [] => rfl
  | (.inl _, _) :: r => by show (true && plainDs (r.map fun kv => D.key kv.1)) = true; rw [keys_plain r]; rfl
  | (.inr _, _) :: r => by show (true && plainDs (r.map fun kv => D.key kv.1)) = true; rw [keys_plain r]; rfl
theorem vals_nodup {kvs : List (Key × V)} (n : (kvs.map (·.1)).Nodup) : ∀ (i : Nat) (k : Key) (v : V), kvs[i]? = some (k, v) → valV kvs k = some v := by
  induction kvs with
  | nil => intro i k v e; simp at e
  | cons x r ih =>
    obtain ⟨n1, n2⟩ := List.nodup_cons.mp n
    intro i k v e
    cases i with
    | zero =>
      have e : x = (k, v) := by simpa using e
      rw [e]
      exact valV_pos rfl
    | succ i =>
      have e : r[i]? = some (k, v) := by simpa using e
      have hk : k ∈ r.map (·.1) := List.mem_map.mpr ⟨(k, v), List.mem_of_getElem? e, rfl⟩
      rw [valV_neg (fun z => n1 (by show x.1 ∈ _; rw [z]; exact hk))]
      exact ih n2 i k v e
end
end Mi

/-! displays of dicts; own lists by +; data of open kind -/
namespace Mi
open Enc (enc)
open PySem L2 PySem.Spec PyProof.Rows
open Cf (Fresh rPlus)
section
variable {Z : Zx} {L : List (V × D)} {O : List (Addr × D)} {σ : L2.St} {α β γ δ : Type} [Enc α] [Enc β] [Enc δ]
theorem EV.disp0 : EV Z L O tDNewK σ (mr (D.dic [] [])) := fun L1 H post px Q s hp hx hm k p np =>
  k _ _ _ (hp.new (o := .dK []) (d := .dic [] []) np fun G hG nG => Is.dic (kvs := []) upd_same List.nodup_nil .nil) hm
def EP (Z : Zx) (L : List (V × D)) (O : List (Addr × D)) (trs : List (TE × TE)) (σ : L2.St) (m : M γ) (ks : List Str) (ds : γ → List D) : Prop :=
  ∀ (L1 : List (V × D)) (H : Hp) (post : γ → Prop) (px : Exn → Prop) (Q : List (V × V) → Hp → Prop), (∀ x ∈ L, x ∈ L1) → Pt Z L1 O H → HX Z px → m post px →
    (∀ (g : γ) (vs : List V) (H' : Hp), vs.length = (ds g).length → Pt Z (vs.zip (ds g) ++ L1) O H' → post g → Q ((ks.map V.str).zip vs) H') → tPairs trs σ H Q
theorem EP.nil : EP Z L O [] σ (mr ()) [] (fun _ => []) := fun L1 H post px Q s hp hx hm k => k () [] H rfl hp hm
theorem EP.cons {z : Str} {ta : TE} {tr : List (TE × TE)} {m1 : M α} {m2 : M γ} {ks : List Str} {ds : γ → List D} (e : EV Z L O ta σ m1) (r : EP Z L O tr σ m2 ks ds) : EP Z L O ((tC (.str z), ta) :: tr) σ (mb m1 fun a => mb m2 fun g => mr (a, g)) (z :: ks) (fun g => enc g.1 :: ds g.2) := fun L1 H post px Q s hp hx hm k =>
  e L1 H _ px _ s hp hx hm fun a v H1 hp1 hm1 => r _ H1 _ px _ (sub_cons s) hp1 hx hm1 fun g vs H2 hl hp2 hm2 => k (a, g) (v :: vs) H2 (by simp [hl]) (hp2.less fun x hx => by
    rcases List.mem_cons.mp hx with e | e
    · rw [e]; exact List.mem_append_right _ List.mem_cons_self
    · rcases List.mem_append.mp e with e | e
      · exact List.mem_append_left _ e
      · exact List.mem_append_right _ (List.mem_cons_of_mem _ e)) hm2
theorem EP.consP {z : Str} {ta : TE} {tr : List (TE × TE)} {a : α} {g : γ} {ks : List Str} {ds : γ → List D} (e : EV Z L O ta σ (mr a)) (r : EP Z L O tr σ (mr g) ks ds) : EP Z L O ((tC (.str z), ta) :: tr) σ (mr (a, g)) (z :: ks) (fun g => enc g.1 :: ds g.2) := EP.cons e r
theorem valV_none {kvs : List (Key × V)} {k : Key} (h : k ∉ kvs.map (·.1)) : valV kvs k = none := by
  unfold valV
  rw [List.find?_eq_none.mpr]
  · rfl
  · intro x hx z
    have z : x.1 = k := by simpa using z
    exact h (List.mem_map.mpr ⟨x, hx, z⟩)
theorem merge_app : ∀ (more kvs : List (Key × V)), (more.map (·.1)).Nodup → (∀ k ∈ more.map (·.1), k ∉ kvs.map (·.1)) → mergeK kvs more = kvs ++ more
  | [], kvs, _, _ => by simp [mergeK]
  | p :: r, kvs, n, d => by
    have e : mergeK kvs (p :: r) = mergeK (putK kvs p.1 p.2) r := rfl
    have n1 : p.1 ∉ r.map (·.1) := (List.nodup_cons.mp n).1
    have n2 : (r.map (·.1)).Nodup := (List.nodup_cons.mp n).2
    rw [e, putK_new p.2 (valV_none (d p.1 List.mem_cons_self)), merge_app r _ n2]
    · simp
    · intro k hk z
      rw [List.map_append] at z
      rcases List.mem_append.mp z with z | z
      · exact d k (List.mem_cons_of_mem _ hk) z
      · have z : k = p.1 := by simpa using z
        exact n1 (z ▸ hk)
theorem EV.disp {trs : List (TE × TE)} {m : M γ} {ks : List Str} {ds : γ → List D} (e : ∀ q, EP Z L ((q, .dic [] []) :: O) trs σ m ks ds) (hk : ks.Nodup) (hl : ks.length ≤ 15) (hd : ∀ g, (ds g).length = ks.length) : EV Z L O (tDisp trs) σ (mb m fun g => mr (D.dic (ks.map .inr) (ds g))) := fun L1 H post px Q s hp hx hm k p np => by
  refine e p L1 _ _ px _ s (hp.own (o := .dK []) (d := .dic [] []) np fun G hG => Cell.dic (kvs := []) List.nodup_nil .nil) hx hm fun g vs H' h1 hp' hm' => ?_
  have h0 : H' p = some (.dK []) := by
    obtain ⟨G, F, W, h⟩ := id hp'
    obtain ⟨ho, e1, e2, e3⟩ := h.o _ List.mem_cons_self
    have e4 : ∀ d, Cell Z.K Z.C G ho d → d = .dic [] [] → ho = .dK [] := by
      intro d c z
      cases c with
      | lst l t => cases z
      | @dic kvs ds n t =>
        injection z with z1 z2
        cases kvs with
        | nil => rfl
        | cons a b => cases z1
      | obj a b => cases z
    rw [h.f _ _ e1, e4 _ e3 rfl]
  have hl2 : vs.length = ks.length := by rw [h1, hd g]
  have k1 : ((ks.map (Sum.inr : Str → Key)).zip vs).map (·.1) = ks.map (Sum.inr : Str → Key) := List.map_fst_zip (by simp [hl2])
  have k2 : ((ks.map (Sum.inr : Str → Key)).zip vs).map (·.2) = vs := List.map_snd_zip (by simp [hl2])
  have nd : (ks.map (Sum.inr : Str → Key)).Nodup := List.pairwise_map.mpr (hk.imp fun h z => h (by injection z))
  refine ⟨h0, (ks.map (Sum.inr : Str → Key)).zip vs, ?_, by rw [List.length_zip, List.length_map, hl2]; omega, ?_⟩
  · rw [List.zip_map_left, List.zip_map_left, List.map_map]
    rfl
  rw [merge_app _ [] (by rw [k1]; exact nd) (by intro _ _ z; cases z), List.nil_append]
  have q := (hp'.put (o := .dK ((ks.map (Sum.inr : Str → Key)).zip vs)) (d' := .dic (ks.map .inr) (ds g)) .hd fun G hG ho _ _ => by
    have c := Cell.dic (K := Z.K) (C := Z.C) (G := G) (kvs := (ks.map (Sum.inr : Str → Key)).zip vs) (ds := ds g) (by rw [k1]; exact nd) (by rw [k2]; exact zip_is h1 fun x hx => hG x (List.mem_append_left _ hx))
    rw [k1] at c
    exact c).freeze .hd
  exact k _ _ _ (q.less fun x hx => by
    rcases List.mem_cons.mp hx with e | e
    · rw [e]; exact List.mem_cons_self
    · exact List.mem_cons_of_mem _ (List.mem_append_right _ e)) hm'
theorem EV.dispP {trs : List (TE × TE)} {g : γ} {ks : List Str} {ds : γ → List D} (e : ∀ q, EP Z L ((q, .dic [] []) :: O) trs σ (mr g) ks ds) (hk : ks.Nodup) (hl : ks.length ≤ 15) (hd : ∀ g, (ds g).length = ks.length) : EV Z L O (tDisp trs) σ (mr (D.dic (ks.map .inr) (ds g))) := EV.disp e hk hl hd
/-! ### data of open kind -/
def mlst : D → M (List D)
  | .lst i => mr i
  | _ => mstuck
def mtup : D → M (Tp D)
  | .tup i => mr ⟨i⟩
  | _ => mstuck
theorem enc_ds (ds : List D) : (enc ds : D) = .lst ds := by
  show D.lst (ds.map id) = _
  rw [List.map_id]
theorem EV.asL {t : TE} {m : M D} (e : EV Z L O t σ m) : EV Z L O t σ (mb m mlst) := fun L1 H post px Q s hp hx hm k => e L1 H _ px Q s hp hx hm fun d v H' hp' hb => by
  cases d <;> first | exact hb.elim | exact k _ v H' (by rw [enc_ds]; exact hp') hb
theorem EV.asLP {t : TE} {d : D} (e : EV Z L O t σ (mr d)) : EV Z L O t σ (mlst d) := EV.asL e
theorem EV.asT {t : TE} {m : M D} (e : EV Z L O t σ m) : EV Z L O t σ (mb m mtup) := fun L1 H post px Q s hp hx hm k => e L1 H _ px Q s hp hx hm fun d v H' hp' hb => by
  cases d <;> first | exact hb.elim | exact k _ v H' (by show Pt Z ((v, D.tup (List.map id _)) :: L1) O H'; rw [List.map_id]; exact hp') hb
theorem EV.asTP {t : TE} {d : D} (e : EV Z L O t σ (mr d)) : EV Z L O t σ (mtup d) := EV.asT e
theorem ok_isND : Ok2 Z Cf.rIsN (fun (a : D) (_ : Unit) => mr (isNonD a)) := fun L O H a b x y post px Q hp hx hm k => by
  have h2 := hp.hd
  cases h2
  refine ⟨rfl, ?_⟩
  rw [dec_non hp.hd2 (isNonD_iff a)]
  exact k _ _ H (hp.tail.tail.add fun G _ => .bl _) hm
theorem ok_notND : Ok2 Z Cf.rNotN (fun (a : D) (_ : Unit) => mr (!isNonD a)) := fun L O H a b x y post px Q hp hx hm k => by
  have h2 := hp.hd
  cases h2
  refine ⟨rfl, ?_⟩
  rw [dec_non hp.hd2 (isNonD_iff a)]
  exact k _ _ H (hp.tail.tail.add fun G _ => .bl _) hm
theorem EV.isND {ta tb : TE} {m1 : M D} {m2 : M Unit} (e1 : EV Z L O ta σ m1) (e2 : EV Z L O tb σ m2) : EV Z L O (tOp Cf.rIsN ta tb) σ (mb m1 fun a => mb m2 fun b => mr (isNonD a)) := EV.op2 ok_isND e1 e2
theorem EV.notND {ta tb : TE} {m1 : M D} {m2 : M Unit} (e1 : EV Z L O ta σ m1) (e2 : EV Z L O tb σ m2) : EV Z L O (tOp Cf.rNotN ta tb) σ (mb m1 fun a => mb m2 fun b => mr (!isNonD a)) := EV.op2 ok_notND e1 e2
theorem EV.notNDP {ta tb : TE} {a : D} {b : Unit} (e1 : EV Z L O ta σ (mr a)) (e2 : EV Z L O tb σ (mr b)) : EV Z L O (tOp Cf.rNotN ta tb) σ (mr (!isNonD a)) := EV.notND e1 e2
theorem EV.ninSS {ta tb : TE} {m1 m2 : M Str} (e1 : EV Z L O ta σ m1) (e2 : EV Z L O tb σ m2) : EV Z L O (tOp (fun x y H Q => ∃ i j, x = .str i ∧ y = .str j ∧ Q (.bl (!(!(Builtin.Str.occurrences j i 0 j.length 1).isEmpty))) H) ta tb) σ (mb m1 fun a => mb m2 fun b => mr (!(!(Builtin.Str.occurrences b a 0 b.length 1).isEmpty))) := EV.op2 (f := fun (a b : Str) => mr (!(!(Builtin.Str.occurrences b a 0 b.length 1).isEmpty))) (fun L O H a b x y post px Q hp hx hm k => by
  obtain rfl := is_str hp.hd
  obtain rfl := is_str hp.hd2
  exact ⟨a, b, rfl, rfl, k _ _ H (hp.tail.tail.add fun G _ => .bl _) hm⟩) e1 e2
/-- a sign among signs -/
def minSg (a b : Str) : M Bool := match a.cps.toList with
  | [c] => mr (decide (c ∈ b.cps.toList))
  | _ => mstuck
def mninSg (a b : Str) : M Bool := match a.cps.toList with
  | [c] => mr (!decide (c ∈ b.cps.toList))
  | _ => mstuck
theorem str_one {a : Str} {c : Nat} (h : a.cps.toList = [c]) : a = ⟨#[c]⟩ := by
  cases a with
  | mk xs =>
    cases xs with
    | mk l =>
      have h : l = [c] := h
      rw [h]
theorem ok_inSg : Ok2 Z rInS minSg := fun L O H a b x y post px Q hp hx hm k => by
  obtain rfl := is_str hp.hd
  obtain rfl := is_str hp.hd2
  have hm : minSg a b post px := hm
  unfold minSg at hm
  cases e : a.cps.toList with
  | nil => rw [e] at hm; exact hm.elim
  | cons c r =>
    cases r with
    | nil =>
      rw [e] at hm
      obtain rfl := str_one e
      exact ⟨c, b, rfl, rfl, k _ _ H (hp.tail.tail.add fun G _ => .bl _) hm⟩
    | cons _ _ => rw [e] at hm; exact hm.elim
theorem ok_ninSg : Ok2 Z rNotInS mninSg := fun L O H a b x y post px Q hp hx hm k => by
  obtain rfl := is_str hp.hd
  obtain rfl := is_str hp.hd2
  have hm : mninSg a b post px := hm
  unfold mninSg at hm
  cases e : a.cps.toList with
  | nil => rw [e] at hm; exact hm.elim
  | cons c r =>
    cases r with
    | nil =>
      rw [e] at hm
      obtain rfl := str_one e
      exact ⟨c, b, rfl, rfl, k _ _ H (hp.tail.tail.add fun G _ => .bl _) hm⟩
    | cons _ _ => rw [e] at hm; exact hm.elim
theorem EV.inSg {ta tb : TE} {m1 m2 : M Str} (e1 : EV Z L O ta σ m1) (e2 : EV Z L O tb σ m2) : EV Z L O (tOp rInS ta tb) σ (mb m1 fun a => mb m2 fun b => minSg a b) := EV.op2 ok_inSg e1 e2
theorem EV.inSgP {ta tb : TE} {a b : Str} (e1 : EV Z L O ta σ (mr a)) (e2 : EV Z L O tb σ (mr b)) : EV Z L O (tOp rInS ta tb) σ (minSg a b) := EV.op2P ok_inSg e1 e2
theorem EV.ninSg {ta tb : TE} {m1 m2 : M Str} (e1 : EV Z L O ta σ m1) (e2 : EV Z L O tb σ m2) : EV Z L O (tOp rNotInS ta tb) σ (mb m1 fun a => mb m2 fun b => mninSg a b) := EV.op2 ok_ninSg e1 e2
theorem EV.ninSgP {ta tb : TE} {a b : Str} (e1 : EV Z L O ta σ (mr a)) (e2 : EV Z L O tb σ (mr b)) : EV Z L O (tOp rNotInS ta tb) σ (mninSg a b) := EV.op2P ok_ninSg e1 e2
theorem ET.truIP {t : TE} {a : Int} (e : EV Z L O t σ (mr a)) : ET Z L O (Cf.tTru Z.K t) σ (mr (a != 0)) := ET.truI e
end
theorem PtS.own' {Z : Zx} {L : List (V × D)} {O : List (Addr × D)} {H G F W : Hp} (h : PtS Z L O H G F W) {p : Addr} {o : HO} {d : D} (hp : Fresh H p) (hd : Cell Z.K Z.C G o d) : Pt Z L ((p, d) :: O) (upd H p o) := by
  have hF := h.f.free hp
  refine ⟨G, upd F p o, W, ⟨h.g0, h.f0.trans (.self hF), h.g.new hp, h.f.upd, h.w.new hp, (h.gf.symm.new (h.g.free hp)).symm, h.gw, h.fw.new (h.w.free hp), h.r, h.l, fun x hx => ?_, ?_⟩⟩
  · rcases List.mem_cons.mp hx with e | e
    · rw [e]; exact ⟨o, upd_same, h.f0.free hF, hd⟩
    · obtain ⟨ho, e1, e2, e3⟩ := h.o x e
      refine ⟨ho, ?_, e2, e3⟩
      have n : x.1 ≠ p := fun z => by rw [z, hF] at e1; cases e1
      show upd F p o x.1 = some ho
      rw [upd_ne n]; exact e1
  · refine List.nodup_cons.mpr ⟨fun z => ?_, h.nd⟩
    obtain ⟨x, hx, e⟩ := List.mem_map.mp z
    obtain ⟨ho, e1, _, _⟩ := h.o x hx
    rw [show x.1 = p from e, hF] at e1
    cases e1
section
variable {Z : Zx} {L : List (V × D)} {O : List (Addr × D)} {σ : L2.St} {α β γ δ : Type} [Enc α] [Enc β] [Enc δ] {nx : L2.St → Hp → Prop} {rt : VK} {bk ct : L2.St → Hp → Prop} {H : Hp} {px : Exn → Prop} {ρ : Type} {post : ρ → Prop}
/-- an own list, made by + -/
theorem s_setAdd {ta tb : TE} {i : Nat} {m1 m2 : M (List α)} {k : List α → M ρ} (S : Addr → L2.St) (hS : ∀ p, σ.set i (some (.ref p)) = S p) (hp : Pt Z L O H) (hx : HX Z px) (hm : mb (mb m1 fun a => mb m2 fun b => maddL a b) k post px) (e1 : EV Z L O ta σ m1) (e2 : EV Z L O tb σ m2)
    (c : ∀ a p H', Pt Z L ((p, enc a) :: O) H' → k a post px → nx (S p) H') : tAsg (tOp rPlus ta tb) (gName i) ⟨nx, rt, bk, ct⟩ σ H :=
  e1 L H _ px _ sub_refl' hp hx hm fun a x H1 hp1 hm1 => e2 _ H1 _ px _ (sub_cons sub_refl') hp1 hx hm1 fun b y H2 hp2 hm2 => by
    have hp3 := hp2
    obtain ⟨G, F, W, h⟩ := hp2
    obtain ⟨q, ys, rfl, e1, l1, t1⟩ := is_lst h.x0
    obtain ⟨p, xs, rfl, e2, l2, t2⟩ := is_lst h.x1
    have n1 := t1.len
    have n2 := t2.len
    rw [List.length_map] at n1 n2
    have hl : (xs ++ ys).length ≤ 1000000 := by rw [List.length_append, n1, n2]; exact hm2.1
    refine .inr (.inr ⟨p, q, xs, ys, rfl, rfl, h.g _ _ e2, h.g _ _ e1, by rw [n1, n2]; exact le_size hm2.1, fun r hr => ?_⟩)
    show nx (σ.set i (some (.ref r))) _
    rw [hS r]
    have z : Pt Z L ((r, enc (a ++ b)) :: O) (upd H2 r (.lst (xs ++ ys))) := by
      have q := PtS.own' h hr (o := .lst (xs ++ ys)) (d := .lst ((a ++ b).map enc)) (.lst hl (by rw [List.map_append]; exact t2.app t1))
      exact q.less fun x hx => .tail _ (.tail _ hx)
    exact c (a ++ b) r _ z hm2.2
end
def tTry (K : PySem.W.Frag) (c : Value) (i : Nat) (tb : WX → TS) (ts : Addr → Value → Option Addr → TS) (Wout : WX) : TS := fun D σ H => tb (wAs K c i ts Wout D) D σ H
def tTryO (K : PySem.W.Frag) (c : Value) (tb : WX → TS) (ts : Addr → Value → Option Addr → TS) (Wout : WX) : TS := fun D σ H => tb (wOnly K c ts Wout D) D σ H
section
variable {X : Cx} {x n : Str} {c : Value} {i : Nat} {body suite : List Stmt} {b₀ : Stmt} {np pos pos' : Pos} {Wout : WX}
theorem ps_try_asM (hs : X.stack = X.env :: X.outer) (hf : X.env.frame = some X.env.locals) (hN : X.N.Nodup) (hi : X.N[i]? = some n) (hln : X.env.kindOf n = some .local) (hc : Names X x c) (tk : Takes X Wout)
    (kb : ∀ W : WX, {t : TS // ∀ (pn : List (Addr × Obj)) (xe : Value → Shared → Prop), Takes (X.tr pn xe) W → PassesOwn (model X.prog X.w) X.A X.env xe → PSs (X.tr pn xe) body t})
    (ks : ∀ (a : Addr) (cls : Value) (d : Option Addr), {t : TS // ∀ (oe : Obj) (pn : List (Addr × Obj)), Zc cls d oe → (∃ vs, oe.data = .fields vs) → PSs (X.suite a ((a, oe) :: pn)) (b₀ :: suite) t}) {t : TS} (ht : tTry X.K c i (fun W => (kb W).1) (fun a cls d => (ks a cls d).1) Wout = t) :
    PS X (.Try body [.ExceptHandler (some (.Name x np)) (some n) (b₀ :: suite) pos'] [] [] pos) t := ps_try_as1 hs hf hN hi hln hc tk kb ks ht
theorem ps_try_onlyM (hs : X.stack = X.env :: X.outer) (hf : X.env.frame = some X.env.locals) (hc : Names X x c) (tk : Takes X Wout)
    (kb : ∀ W : WX, {t : TS // ∀ (pn : List (Addr × Obj)) (xe : Value → Shared → Prop), Takes (X.tr pn xe) W → PassesOwn (model X.prog X.w) X.A X.env xe → PSs (X.tr pn xe) body t})
    (ks : ∀ (a : Addr) (cls : Value) (d : Option Addr), {t : TS // ∀ (oe : Obj) (pn : List (Addr × Obj)), Zc cls d oe → (∃ vs, oe.data = .fields vs) → PSs (X.suite a ((a, oe) :: pn)) (b₀ :: suite) t}) {t : TS} (ht : tTryO X.K c (fun W => (kb W).1) (fun a cls d => (ks a cls d).1) Wout = t) :
    PS X (.Try body [.ExceptHandler (some (.Name x np)) none (b₀ :: suite) pos'] [] [] pos) t := ps_try_only1 hs hf hc tk kb ks ht
end
section
variable {Z : Zx} {L : List (V × D)} {O : List (Addr × D)} {σ : L2.St} {α β γ δ : Type} [Enc α] [Enc β] [Enc δ] {nx : L2.St → Hp → Prop} {rt : VK} {bk ct : L2.St → Hp → Prop} {H : Hp} {px : Exn → Prop} {ρ : Type} {post : ρ → Prop}
/-- the state of the draws is made -/
theorem s_start {K : PySem.W.Frag} {E : XK} {i : Nat} {a : Addr} {ns : List Int} (S : Addr → L2.St) (hS : ∀ p, σ.set i (some (.ref p)) = S p) (h0 : σ[0]? = some (some (.ref a))) (hs : SqL K H a (ns.map V.int)) (c : ∀ p q H', Cf.StAt H' p q → nx (S p) H') : tAsg (tCall (Cf.spStart K) [] E (tCons (tVar 0) tNil)) (gName i) ⟨nx, rt, bk, ct⟩ σ H := by
  refine ⟨.ref a, h0, a, ns, rfl, hs, fun p q H' _ _ s _ => ?_⟩
  show nx (σ.set i (some (.ref p))) H'
  rw [hS p]; exact c p q H' s
theorem law_end {Z : Zx} {Q : VK} (k : ∀ H', Q (.bl true) H') : ∀ (a : Bool) (v : V) (H : Hp), Pt Z [(v, enc a)] [] H → a = true → Q v H := fun a v H hp e => by
  obtain rfl := is_bl hp.hd
  rw [e]; exact k H
/-- errors of the classes known, caught -/
def mtry0 {τ : Type} (known : List Str) (m : M τ) (h : Exn → M τ) : M τ := fun post px => m post (fun e => e.cls ∈ known ∧ h e post px)
theorem if_here {τ : Type} {c : Prop} [Decidable c] {a b : M τ} {k : τ → M ρ} (h : c) (hm : mb (if c then a else b) k post px) : mb a k post px := by rw [if_pos h] at hm; exact hm
theorem if_there {τ : Type} {c : Prop} [Decidable c] {a b : M τ} {k : τ → M ρ} (h : ¬ c) (hm : mb (if c then a else b) k post px) : mb b k post px := by rw [if_neg h] at hm; exact hm
theorem s_tryJ {ι γ τ : Type} {tb : WX → TS} {ts : Addr → Value → Option Addr → TS} {i : Nat} {cv : Value} {Wout : WX} {known : List Str} {m : M τ} {h : Exn → M τ} {k : τ → M ρ} (inj : γ → τ) (S : ι → γ → L2.St) (Lf : ι → γ → List (V × D)) (hp : Pt Z L O H) (hm : mb (mtry0 known m h) k post px)
    (hcl : ∀ c ∈ known, ∀ A, Z.C c = some A → PySem.W.exmOne Z.K (.ref A) cv = some true)
    (body : ∀ (nx' : L2.St → Hp → Prop) (G F : Hp) (px' : Exn → Prop), (∀ r c H', Pt ⟨Z.K, Z.C, Z.R, G, F, fun c d H' => wAs Z.K cv i ts Wout ⟨nx', rt, bk, ct⟩ c d σ H'⟩ (Lf r c) [] H' → k (inj c) post px → nx' (S r c) H') →
      (∀ x H', Pt ⟨Z.K, Z.C, Z.R, G, F, fun c d H' => wAs Z.K cv i ts Wout ⟨nx', rt, bk, ct⟩ c d σ H'⟩ [x] [] H' → Pt Z [x] [] H') →
      Pt ⟨Z.K, Z.C, Z.R, G, F, fun c d H' => wAs Z.K cv i ts Wout ⟨nx', rt, bk, ct⟩ c d σ H'⟩ L [] H → HX ⟨Z.K, Z.C, Z.R, G, F, fun c d H' => wAs Z.K cv i ts Wout ⟨nx', rt, bk, ct⟩ c d σ H'⟩ px' → m (fun a => k a post px) px' → tb (wAs Z.K cv i ts Wout ⟨nx', rt, bk, ct⟩) ⟨nx', rt, bk, ct⟩ σ H)
    (suite : ∀ (nx' : L2.St → Hp → Prop), (∀ r c H', Pt Z (Lf r c) O H' → k (inj c) post px → nx' (S r c) H') → ∀ (e : Exn) (a A : Addr) (dd : Option Addr) (H' : Hp), e.cls ∈ known → Z.C e.cls = some A → Fresh H' a → (dd = none → e.ns = []) → Pt Z ((dvV dd, dvD dd e) :: L) O H' → mb (h e) k post px →
      ts a (.ref A) dd ⟨fun σ' H' => nx' (σ'.set i none) H', rt, fun σ' H' => bk (σ'.set i none) H', fun σ' H' => ct (σ'.set i none) H'⟩ (σ.set i (some (.ref a))) H')
    (j : ∀ r c H', Pt Z (Lf r c) O H' → k (inj c) post px → nx (S r c) H') : tTry Z.K cv i tb ts Wout ⟨nx, rt, bk, ct⟩ σ H := by
  show tb (wAs Z.K cv i ts Wout ⟨nx, rt, bk, ct⟩) ⟨nx, rt, bk, ct⟩ σ H
  obtain ⟨G, F, W, h0⟩ := hp
  refine body nx G F (fun e => e.cls ∈ known ∧ mb (h e) k post px) (fun r c H' q hk => j r c H' ((h0.back q).less fun x hx => List.mem_append_left _ hx) hk) (fun x H' q => ((h0.back q).less fun y hy => List.mem_append_left _ hy).lessO (List.nil_sublist _)) ⟨G, F, W, { h0 with g0 := .refl _, f0 := .refl _, o := (fun x hx => by cases hx), nd := List.nodup_nil }⟩ ?_ hm
  rintro e c d H' ⟨G', F', W', q, A, rfl, hA, hn, z⟩ ⟨hk, hh⟩
  refine ⟨true, hcl e.cls hk A hA, fun _ a fa => ?_, fun z => by cases z⟩
  refine suite nx j e a A d H' hk hA fa hn ?_ hh
  exact (h0.back (L' := [(dvV d, dvD d e)]) (PtS.add q z))
theorem s_tryO {ι γ τ : Type} {tb : WX → TS} {ts : Addr → Value → Option Addr → TS} {cv : Value} {Wout : WX} {known : List Str} {m : M τ} {h : Exn → M τ} {k : τ → M ρ} (inj : γ → τ) (S : ι → γ → L2.St) (Lf : ι → γ → List (V × D)) (hp : Pt Z L O H) (hm : mb (mtry0 known m h) k post px)
    (hcl : ∀ c ∈ known, ∀ A, Z.C c = some A → PySem.W.exmOne Z.K (.ref A) cv = some true)
    (body : ∀ (nx' : L2.St → Hp → Prop) (G F : Hp) (px' : Exn → Prop), (∀ r c H', Pt ⟨Z.K, Z.C, Z.R, G, F, fun c d H' => wOnly Z.K cv ts Wout ⟨nx', rt, bk, ct⟩ c d σ H'⟩ (Lf r c) [] H' → k (inj c) post px → nx' (S r c) H') →
      (∀ x H', Pt ⟨Z.K, Z.C, Z.R, G, F, fun c d H' => wOnly Z.K cv ts Wout ⟨nx', rt, bk, ct⟩ c d σ H'⟩ [x] [] H' → Pt Z [x] [] H') →
      Pt ⟨Z.K, Z.C, Z.R, G, F, fun c d H' => wOnly Z.K cv ts Wout ⟨nx', rt, bk, ct⟩ c d σ H'⟩ L [] H → HX ⟨Z.K, Z.C, Z.R, G, F, fun c d H' => wOnly Z.K cv ts Wout ⟨nx', rt, bk, ct⟩ c d σ H'⟩ px' → m (fun a => k a post px) px' → tb (wOnly Z.K cv ts Wout ⟨nx', rt, bk, ct⟩) ⟨nx', rt, bk, ct⟩ σ H)
    (suite : ∀ (nx' : L2.St → Hp → Prop), (∀ r c H', Pt Z (Lf r c) O H' → k (inj c) post px → nx' (S r c) H') → ∀ (e : Exn) (a A : Addr) (dd : Option Addr) (H' : Hp), e.cls ∈ known → Z.C e.cls = some A → Fresh H' a → (dd = none → e.ns = []) → Pt Z ((dvV dd, dvD dd e) :: L) O H' → mb (h e) k post px →
      ts a (.ref A) dd ⟨nx', rt, bk, ct⟩ σ H')
    (j : ∀ r c H', Pt Z (Lf r c) O H' → k (inj c) post px → nx (S r c) H') : tTryO Z.K cv tb ts Wout ⟨nx, rt, bk, ct⟩ σ H := by
  show tb (wOnly Z.K cv ts Wout ⟨nx, rt, bk, ct⟩) ⟨nx, rt, bk, ct⟩ σ H
  obtain ⟨G, F, W, h0⟩ := hp
  refine body nx G F (fun e => e.cls ∈ known ∧ mb (h e) k post px) (fun r c H' q hk => j r c H' ((h0.back q).less fun x hx => List.mem_append_left _ hx) hk) (fun x H' q => ((h0.back q).less fun y hy => List.mem_append_left _ hy).lessO (List.nil_sublist _)) ⟨G, F, W, { h0 with g0 := .refl _, f0 := .refl _, o := (fun x hx => by cases hx), nd := List.nodup_nil }⟩ ?_ hm
  rintro e c d H' ⟨G', F', W', q, A, rfl, hA, hn, z⟩ ⟨hk, hh⟩
  refine ⟨true, hcl e.cls hk A hA, fun _ a fa => ?_, fun z => by cases z⟩
  refine suite nx j e a A d H' hk hA fa hn ?_ hh
  exact (h0.back (L' := [(dvV d, dvD d e)]) (PtS.add q z))
end
end Mi

/-! the wishes, read -/
namespace Mi
open Enc (enc)
open PySem L2 PySem.Spec PyProof.Rows
/-- what a loop of plain turns comes to -/
def go {α γ ρ : Type} (g : α → γ → Stp γ ρ) : List α → γ → γ ⊕ ρ
  | [], c => .inl c
  | x :: xs, c => match g x c with
    | .next c' => go g xs c'
    | .brk c' => .inl c'
    | .ret r => .inr r
section
variable {α β γ ρ : Type} {post : α → Prop} {px : Exn → Prop}
theorem mb_ap {m : M β} {k : β → M α} : mb m k post px = m (fun a => k a post px) px := Eq.trans rfl rfl
theorem mr_ap {a : α} : mr a post px = post a := Eq.trans rfl rfl
theorem mx_ap {e : Exn} : mx (α := α) e post px = px e := Eq.trans rfl rfl
theorem mreq_ap {c : Prop} {m : M α} : mreq c m post px = (c ∧ m post px) := Eq.trans rfl rfl
theorem mite_ap {m : M Bool} {a b : M α} : mite m a b post px = m (fun c => (if c = true then a else b) post px) px := Eq.trans rfl rfl
theorem ite_ap {c : Prop} [Decidable c] {a b : M α} : (if c then a else b) post px = if c then a post px else b post px := by split <;> rfl
theorem mand_ap {m1 m2 : M Bool} {post : Bool → Prop} : mand m1 m2 post px = m1 (fun a => if a = true then m2 post px else post false) px := by
  show m1 (fun a => (if a = true then m2 else mr false) post px) px = _
  congr; funext a; rw [ite_ap]; rfl
theorem mor_ap {m1 m2 : M Bool} {post : Bool → Prop} : mor m1 m2 post px = m1 (fun a => if a = true then post true else m2 post px) px := by
  show m1 (fun a => (if a = true then mr true else m2) post px) px = _
  congr; funext a; rw [ite_ap]; rfl
theorem mno_ap {m : M α} : mno m post px = m post (fun _ => False) := Eq.trans rfl rfl
theorem mget_ap {a : α} : mget (some a) post px = post a := Eq.trans rfl rfl
theorem mint_ap {i : Int} {post : Int → Prop} : mint (.int i) post px = post i := Eq.trans rfl rfl
theorem mstr_ap {i : Str} {post : Str → Prop} : mstr (.str i) post px = post i := Eq.trans rfl rfl
theorem mbl_ap {i : Bool} {post : Bool → Prop} : mbl (.bl i) post px = post i := Eq.trans rfl rfl
theorem mtry0_ap {known : List Str} {m : M α} {h : Exn → M α} : mtry0 known m h post px = m post (fun e => e.cls ∈ known ∧ h e post px) := Eq.trans rfl rfl
theorem mlenT_ap {ds : List D} {post : Int → Prop} : mlenD (.tup ds) post px = post ds.length := Eq.trans rfl rfl
theorem mlenL_ap {ds : List D} {post : Int → Prop} : mlenD (.lst ds) post px = post ds.length := Eq.trans rfl rfl
theorem mlenDS_ap {z : Str} {post : Int → Prop} : mlenD (.str z) post px = (z.length ≤ sizeLine ∧ post z.length) := Eq.trans rfl rfl
theorem mlenS_ap {z : Str} {post : Int → Prop} : mlenS z post px = (z.length ≤ sizeLine ∧ post z.length) := Eq.trans rfl rfl
theorem mpush_ap {xs : List β} {a : β} {post : List β → Prop} : mpush xs a post px = (xs.length < 1000000 ∧ post (xs ++ [a])) := Eq.trans rfl rfl
theorem maddL_ap {xs ys : List β} {post : List β → Prop} : maddL xs ys post px = (xs.length + ys.length ≤ 1000000 ∧ post (xs ++ ys)) := Eq.trans rfl rfl
theorem maddS_ap {xs ys : Str} {post : Str → Prop} : maddS xs ys post px = (xs.length + ys.length ≤ sizeLine ∧ post (xs ++ ys)) := Eq.trans rfl rfl
theorem mmulI_ap {a b : Int} {post : Int → Prop} : mmulI a b post px = (CMul a b ∧ post (a * b)) := Eq.trans rfl rfl
theorem misD_ap {k : Cf.Kd} {d : D} {post : Bool → Prop} : misD k d post px = (NoObj d ∧ post (isD k d)) := Eq.trans rfl rfl
theorem msame_ap {x y : D} {post : Bool → Prop} : msame x y post px = ((plainD x = true ∧ plainD y = true ∧ x.depth < 8) ∧ post (dsame x y)) := Eq.trans rfl rfl
theorem mixT_ap {ds : List D} {i : Int} {d : D} {post : D → Prop} (h : atI ds i = some d) : mixD (.tup ds) i post px = post d := by
  have e : mixD (.tup ds) i = mix ds i := rfl
  rw [e]
  unfold mix
  rw [h]; rfl
theorem mixT0_ap {d : D} {ds : List D} {post : D → Prop} : mixD (.tup (d :: ds)) 0 post px = post d := mixT_ap (Cf.atI_zero)
theorem mixT1_ap {d e : D} {ds : List D} {post : D → Prop} : mixD (.tup (d :: e :: ds)) 1 post px = post e := mixT_ap (L2.atI_nat (j := 1) rfl)
theorem mixT2_ap {d e f : D} {ds : List D} {post : D → Prop} : mixD (.tup (d :: e :: f :: ds)) 2 post px = post f := mixT_ap (L2.atI_nat (j := 2) rfl)
theorem mixT3_ap {d e f g : D} {ds : List D} {post : D → Prop} : mixD (.tup (d :: e :: f :: g :: ds)) 3 post px = post g := mixT_ap (L2.atI_nat (j := 3) rfl)
theorem draw_i {n : Int} {post : Int → Prop} (h : 0 < n) (l : n.natAbs.log2 < 9000) (k : ∀ d, 0 ≤ d → d < n → post d) : mdraw n post (fun _ => True) := ⟨h, l, k⟩
/-- a loop with nothing that breaks it -/
theorem forM_n {xs : List α} {c0 : γ} {f : α → γ → M γ} {post : γ → Prop} (I : Nat → γ → Prop) (h0 : I 0 c0) (hs : ∀ i x c, xs[i]? = some x → I i c → ∀ Q : γ → Prop, (∀ c', I (i + 1) c' → Q c') → f x c Q px) (hk : ∀ c, I xs.length c → post c) : forM xs c0 f post px := by
  induction xs generalizing c0 I with
  | nil => exact hk c0 h0
  | cons x xs ih =>
    refine hs 0 x c0 rfl h0 _ fun c' h' => ?_
    exact ih (fun i => I (i + 1)) h' (fun i y c e h Q q => hs (i + 1) y c (by simpa using e) h Q q) (fun c h => hk c h)
/-- a loop, its turns all alike -/
theorem forR_i {xs : List α} {c0 : γ} {f : α → γ → M (Stp γ ρ)} {post : γ ⊕ ρ → Prop} (I : γ → Prop) (h0 : I c0) (hs : ∀ x c, x ∈ xs → I c → ∀ Q : Stp γ ρ → Prop, (∀ c', I c' → Q (.next c')) → f x c Q px) (hk : ∀ c, I c → post (.inl c)) : forR xs c0 f post px := by
  induction xs generalizing c0 with
  | nil => exact hk c0 h0
  | cons x xs ih =>
    refine hs x c0 List.mem_cons_self h0 _ fun c' h' => ?_
    exact ih h' (fun y c e h Q q => hs y c (List.mem_cons_of_mem _ e) h Q q)
/-- a loop over plain turns, given as a value -/
theorem forR_v {xs : List α} {c0 : γ} {f : α → γ → M (Stp γ ρ)} {g : α → γ → Stp γ ρ} {post : γ ⊕ ρ → Prop} (hf : ∀ x ∈ xs, ∀ c (Q : Stp γ ρ → Prop), Q (g x c) → f x c Q px) (hk : post ((go g xs c0))) : forR xs c0 f post px := by
  induction xs generalizing c0 with
  | nil => exact hk
  | cons x xs ih =>
    refine hf x List.mem_cons_self c0 _ ?_
    unfold go at hk
    split at hk <;> rename_i e <;> simp only [e]
    · exact ih (fun y h => hf y (List.mem_cons_of_mem _ h)) hk
    · exact hk
    · exact hk
end
/-- it comes to a -/
def Ret {α : Type} (m : M α) (a : α) : Prop := ∀ (post : α → Prop) (px : Exn → Prop), post a → m post px
section
variable {α β γ ρ : Type}
theorem Ret.use {m : M α} {a : α} (h : Ret m a) {post : α → Prop} {px : Exn → Prop} (k : post a) : m post px := h _ _ k
theorem Ret.of {m : M α} {a b : α} (h : Ret m a) (e : a = b) : Ret m b := e ▸ h
theorem Ret.r {a : α} : Ret (mr a) a := fun _ _ k => k
theorem Ret.b {m : M β} {k : β → M α} {b : β} {a : α} (h1 : Ret m b) (h2 : Ret (k b) a) : Ret (mb m k) a := fun _ _ q => h1 _ _ (h2 _ _ q)
theorem Ret.no {m : M α} {a : α} (h : Ret m a) : Ret (mno m) a := fun _ _ q => h _ _ q
theorem Ret.req {c : Prop} {m : M α} {a : α} (h : c) (h2 : Ret m a) : Ret (mreq c m) a := fun _ _ q => ⟨h, h2 _ _ q⟩
theorem Ret.ite {m : M Bool} {A B : M α} {c : Bool} {a : α} (h : Ret m c) (h1 : c = true → Ret A a) (h2 : c = false → Ret B a) : Ret (mite m A B) a := fun post px q => h _ _ (by
  cases c with
  | true => exact h1 rfl post px q
  | false => exact h2 rfl post px q)
/-- the branch is known -/
theorem Ret.iteT {m : M Bool} {A B : M α} {a : α} (h : Ret m true) (h1 : Ret A a) : Ret (mite m A B) a := .ite h (fun _ => h1) (fun z => by cases z)
theorem Ret.iteF {m : M Bool} {A B : M α} {a : α} (h : Ret m false) (h1 : Ret B a) : Ret (mite m A B) a := .ite h (fun z => by cases z) (fun _ => h1)
theorem Ret.ite' {m : M Bool} {A B : M α} {c : Bool} {a b : α} (h : Ret m c) (h1 : c = true → Ret A a) (h2 : c = false → Ret B b) : Ret (mite m A B) (if c = true then a else b) := .ite h (fun z => by rw [if_pos z]; exact h1 z) (fun z => by rw [if_neg (by rw [z]; decide)]; exact h2 z)
theorem Ret.if' {c : Prop} [Decidable c] {A B : M α} {a b : α} (h1 : c → Ret A a) (h2 : ¬ c → Ret B b) : Ret (if c then A else B) (if c then a else b) := by
  by_cases h : c
  · rw [if_pos h, if_pos h]; exact h1 h
  · rw [if_neg h, if_neg h]; exact h2 h
theorem Ret.and {m1 m2 : M Bool} {a b : Bool} (h1 : Ret m1 a) (h2 : a = true → Ret m2 b) : Ret (mand m1 m2) (a && b) := fun post px q => h1 _ _ (by
  cases a with
  | true => exact h2 rfl post px q
  | false => exact q)
theorem Ret.or {m1 m2 : M Bool} {a b : Bool} (h1 : Ret m1 a) (h2 : a = false → Ret m2 b) : Ret (mor m1 m2) (a || b) := fun post px q => h1 _ _ (by
  cases a with
  | false => exact h2 rfl post px q
  | true => exact q)
theorem Ret.isD {k : Cf.Kd} {d : D} (h : NoObj d) : Ret (misD k d) (isD k d) := fun _ _ q => ⟨h, q⟩
theorem Ret.int {i : Int} : Ret (mint (.int i)) i := fun _ _ q => q
theorem Ret.str {i : Str} : Ret (mstr (.str i)) i := fun _ _ q => q
theorem Ret.lenT {ds : List D} : Ret (mlenD (.tup ds)) (ds.length : Int) := fun _ _ q => q
theorem Ret.lenL {ds : List D} : Ret (mlenD (.lst ds)) (ds.length : Int) := fun _ _ q => q
theorem Ret.lenDS {z : Str} (h : z.length ≤ 1000) : Ret (mlenD (.str z)) (z.length : Int) := fun _ _ q => ⟨Cf.size_ok h, q⟩
theorem Ret.lenS {z : Str} (h : z.length ≤ 1000) : Ret (mlenS z) (z.length : Int) := fun _ _ q => ⟨Cf.size_ok h, q⟩
theorem Ret.ixT {ds : List D} {i : Int} {d : D} (h : atI ds i = some d) : Ret (mixD (.tup ds) i) d := fun _ _ q => by rw [mixT_ap h]; exact q
theorem Ret.ixT0 {d : D} {ds : List D} : Ret (mixD (.tup (d :: ds)) 0) d := .ixT Cf.atI_zero
theorem Ret.ixT1 {d e : D} {ds : List D} : Ret (mixD (.tup (d :: e :: ds)) 1) e := .ixT (L2.atI_nat (j := 1) rfl)
theorem Ret.ixT2 {d e f : D} {ds : List D} : Ret (mixD (.tup (d :: e :: f :: ds)) 2) f := .ixT (L2.atI_nat (j := 2) rfl)
theorem Ret.ixT3 {d e f g : D} {ds : List D} : Ret (mixD (.tup (d :: e :: f :: g :: ds)) 3) g := .ixT (L2.atI_nat (j := 3) rfl)
theorem Ret.ninSg {c : Nat} {b : Str} : Ret (mninSg ⟨#[c]⟩ b) (!decide (c ∈ b.cps.toList)) := fun _ _ q => q
theorem Ret.inSg {c : Nat} {b : Str} : Ret (minSg ⟨#[c]⟩ b) (decide (c ∈ b.cps.toList)) := fun _ _ q => q
theorem Ret.signs {z : Str} (h : z.length ≤ 1000000) : Ret (msigns z) (signs z) := fun _ _ q => ⟨h, q⟩
theorem Ret.forR {xs : List α} {c0 : γ} {f : α → γ → M (Stp γ ρ)} (g : α → γ → Stp γ ρ) (hf : ∀ x ∈ xs, ∀ c, Ret (f x c) (g x c)) : Ret (forR xs c0 f) (go g xs c0) := fun post px q => forR_v (g := g) (fun x hx c Q q => hf x hx c Q px q) q
/-- nothing breaks the loop -/
theorem Ret.forRn {xs : List α} {f : α → Unit → M (Stp Unit ρ)} (hf : ∀ x ∈ xs, Ret (f x ()) (.next ())) : Ret (Mi.forR xs () f) (.inl ()) := fun post px q =>
  forR_i (fun _ => True) trivial (fun x c hx _ Q q => hf x hx Q px (q () trivial)) (fun _ _ => q)
theorem Ret.forM {xs : List α} {c0 : γ} {f : α → γ → M γ} (g : α → γ → γ) (hf : ∀ x ∈ xs, ∀ c, Ret (f x c) (g x c)) : Ret (Mi.forM xs c0 f) (xs.foldl (fun c x => g x c) c0) := by
  induction xs generalizing c0 with
  | nil => exact .r
  | cons x xs ih => exact .b (hf x List.mem_cons_self c0) (ih fun y h => hf y (List.mem_cons_of_mem _ h))
theorem mite_i {b : Bool} {A B : M α} {post : α → Prop} {px : Exn → Prop} (h1 : b = true → A post px) (h2 : b = false → B post px) : mite (mr b) A B post px := by
  show (if b = true then A else B) post px
  cases b with
  | true => exact h1 rfl
  | false => exact h2 rfl
/-- the test comes to b -/
theorem mite_r {m : M Bool} {b : Bool} {A B : M α} {post : α → Prop} {px : Exn → Prop} (h : Ret m b) (h1 : b = true → A post px) (h2 : b = false → B post px) : mite m A B post px := by
  rw [mite_ap]
  refine h _ _ ?_
  cases b with
  | true => exact h1 rfl
  | false => exact h2 rfl
theorem Ret.ixS {z : Str} {i : Int} {c : Nat} (l : z.length ≤ sizeLine) (h : atI z.cps.toList i = some c) : Ret (mixS z i) (⟨#[c]⟩ : Str) := fun post px q => by
  refine ⟨l, ?_⟩
  rw [h]
  exact q
theorem Ret.ix {xs : List α} {i : Int} {a : α} (h : atI xs i = some a) : Ret (mix xs i) a := fun post px q => by
  unfold mix
  rw [h]
  exact q
theorem Ret.addS {a b : Str} (l : a.length + b.length ≤ 1000) : Ret (maddS a b) (a ++ b) := fun _ _ q => ⟨Cf.size_ok l, q⟩
theorem Ret.addL {a b : List α} (l : a.length + b.length ≤ 1000000) : Ret (maddL a b) (a ++ b) := fun _ _ q => ⟨l, q⟩
theorem Ret.push {a : List α} {b : α} (l : a.length < 1000000) : Ret (mpush a b) (a ++ [b]) := fun _ _ q => ⟨l, q⟩
theorem Ret.mulI {a b : Int} (l : CMul a b) : Ret (mmulI a b) (a * b) := fun _ _ q => ⟨l, q⟩
theorem Ret.range {lo hi : Int} (l : -1000000 ≤ lo ∧ lo ≤ 1000000 ∧ -1000000 ≤ hi ∧ hi ≤ 1000000 ∧ hi - lo ≤ 1000000) : Ret (mrange lo hi) ((List.range (hi - lo).toNat).map fun (i : Nat) => lo + (i : Int)) := fun _ _ q => ⟨by omega, q⟩
theorem Ret.strI {i : Int} (l : i.natAbs.log2 < 1920) : Ret (mstrI i) (Str.ofString (toString i)) := fun _ _ q => ⟨l, q⟩
theorem Ret.same {x y : D} (h1 : plainD x = true) (h2 : plainD y = true) (h3 : x.depth < 8) : Ret (msame x y) (dsame x y) := fun _ _ q => ⟨⟨h1, h2, h3⟩, q⟩
end
end Mi

/-! texts joined; parts of a tuple; the text of an int or a text -/
namespace Mi
open Enc (enc)
open PySem L2 PySem.Spec PyProof.Rows
open Cf (Fresh)
section
variable {Z : Zx} {L : List (V × D)} {O : List (Addr × D)} {σ : L2.St} {α β γ δ : Type} [Enc α] [Enc β] [Enc δ]
def rJoinT (K : PySem.W.Frag) : V → List V → Hp → VK → Prop := fun x xs H Q => ∃ a p, ∃ ys : List Str, x = .str a ∧ xs = [.ref p] ∧ (SqL K H p (ys.map V.str) ∨ SqT K H p (ys.map V.str)) ∧
    (ys.map (·.length)).sum + ys.length * a.length ≤ 16777216 ∧ Q (.str (Txt.join a ys)) H
theorem mt_joinM {X : Cx} : MtR X "str.join" (rJoinT X.K) := mt_join
def mjoin (a : Str) (ys : List Str) : M Str := mreq ((ys.map (·.length)).sum + ys.length * a.length ≤ 16777216) (mr (Txt.join a ys))
theorem EV.join {to ta : TE} {m1 : M Str} {m2 : M (List Str)} (e1 : EV Z L O to σ m1) (e2 : EV Z L O ta σ m2) : EV Z L O (tBM Z.K "str" (rJoinT Z.K) to (tCons ta tNil)) σ (mb m1 fun a => mb m2 fun b => mjoin a b) := fun L1 H post px Q s hp hx hm k =>
  e1 L1 H _ px _ s hp hx hm fun a x H1 hp1 hm1 => by
    obtain rfl := is_str hp1.hd
    refine ⟨rfl, e2 _ H1 _ px _ (sub_cons s) hp1 hx hm1 fun b y H2 hp2 hm2 => ?_⟩
    obtain ⟨hz, hm2⟩ := hm2
    have hp3 := hp2.tail.tail.add (v := .str (Txt.join a b)) (d := .str (Txt.join a b)) fun G _ => .str _
    obtain ⟨G, F, W, h⟩ := hp2
    obtain ⟨q, ys, rfl, f1, l1, t1⟩ := is_lst h.x0
    obtain rfl := isL_strs t1
    exact ⟨a, q, b, rfl, rfl, .inl (.inl (.inl (h.g _ _ f1))), hz, k _ _ H2 hp3 hm2⟩
theorem EV.joinP {to ta : TE} {a : Str} {b : List Str} (e1 : EV Z L O to σ (mr a)) (e2 : EV Z L O ta σ (mr b)) : EV Z L O (tBM Z.K "str" (rJoinT Z.K) to (tCons ta tNil)) σ (mjoin a b) := EV.join e1 e2
/-- str of an int or of a text -/
def rStrIS : List V → Hp → VK → Prop := fun xs H Q => (∃ i, xs = [.int i] ∧ i.natAbs.log2 < 1920 ∧ Q (.str (toString i)) H) ∨ ∃ a, xs = [.str a] ∧ Q (.str a) H
theorem call_strIS {X : Cx} : CallR X (.type "str") rStrIS := CallR.or call_str_int SkE.call_str_str
def mstrD : D → M Str
  | .int i => mstrI i
  | .str z => mr z
  | _ => mstuck
theorem ok_strD : OkB Z rStrIS mstrD := fun L O H a x post px Q hp hx hm k => by
  cases a with
  | int i =>
    obtain rfl := is_int hp.hd
    exact .inl ⟨i, rfl, hm.1, k _ _ H (hp.tail.add fun G _ => .str _) hm.2⟩
  | str z =>
    obtain rfl := is_str hp.hd
    exact .inr ⟨z, rfl, k _ _ H (hp.tail.add fun G _ => .str _) hm⟩
  | _ => exact hm.elim
theorem EV.strD {ta : TE} {m1 : M D} (e1 : EV Z L O ta σ m1) : EV Z L O (tCB rStrIS (tCons ta tNil)) σ (mb m1 mstrD) := EV.cb1 (f := mstrD) ok_strD e1
theorem EV.strDP {ta : TE} {a : D} (e1 : EV Z L O ta σ (mr a)) : EV Z L O (tCB rStrIS (tCons ta tNil)) σ (mstrD a) := EV.cb1P (f := mstrD) ok_strD e1
/-- a part of a tuple, not the whole of it -/
def mcutT (d : D) (lo hi : Option Int) : M D := match d with
  | .tup ds => mreq (¬ (HT.sIx ds.length 0 lo = 0 ∧ HT.sIx ds.length ds.length hi = ds.length)) (mr (.tup (cutL ds lo hi)))
  | _ => mstuck
theorem EV.slT {te : TE} {tl th : TO} {m : M D} {ml mh : M (Option Int)} (e : EV Z L O te σ m) (el : EO Z L O tl σ ml) (eh : EO Z L O th σ mh) : EV Z L O (tSl (rSlT Z.K) te tl th) σ (mb m fun a => mb ml fun l => mb mh fun h => mcutT a l h) := fun L1 H post px Q s hp hx hm k =>
  e L1 H _ px _ s hp hx hm fun a x H1 hp1 hm1 => el _ H1 _ px _ (sub_cons s) hp1 hx hm1 fun lo H2 hp2 hm2 => eh _ H2 _ px _ (sub_cons s) hp2 hx hm2 fun hi H3 hp3 hm3 => by
    cases a with
    | tup ds =>
      obtain ⟨hw, hm3⟩ := hm3
      obtain ⟨G, F, W, h⟩ := hp3
      obtain ⟨p, xs, rfl, e, l, t⟩ := is_tup h.x0
      have n := t.len
      refine ⟨p, xs, rfl, sqT_mono h.g e, by rw [n]; exact hw, fun q hq => k _ _ _ (h.t1.new hq (.tup (.inl (.inl upd_same)) ?_ ?_)) hm3⟩
      · exact Nat.le_trans (cutV_length _ _ _) l
      · unfold cutV cutL
        rw [n]
        exact ((t.drop _).take _).mono (.self (h.g.free hq))
    | _ => exact hm3.elim
theorem EV.slTP {te : TE} {tl th : TO} {a : D} {lo hi : Option Int} (e : EV Z L O te σ (mr a)) (el : EO Z L O tl σ (mr lo)) (eh : EO Z L O th σ (mr hi)) : EV Z L O (tSl (rSlT Z.K) te tl th) σ (mcutT a lo hi) := EV.slT e el eh
end
end Mi

/-! texts cut at a sign; the int of a text -/
namespace Mi
open Enc (enc)
open PySem L2 PySem.Spec PyProof.Rows
open Cf (Fresh)
section
variable {Z : Zx} {L : List (V × D)} {O : List (Addr × D)} {σ : L2.St} {α β γ δ : Type} [Enc α] [Enc β] [Enc δ]
def rSplitT : V → List V → Hp → VK → Prop := fun x xs H Q => ∃ a b, x = .str a ∧ xs = [.str b] ∧ (b.length == 0) = false ∧ a.length + 2 ≤ sizeLine ∧ rNewStrs (Txt.split a b) H Q
theorem mt_splitM {X : Cx} : MtR X "str.split" rSplitT := mt_split
def msplit (a b : Str) : M (List Str) := mreq ((b.length == 0) = false ∧ a.length + 2 ≤ 1000000) (mr (Txt.split a b))
theorem isL_of_strs {K : PySem.W.Frag} {C : CT} {G : Hp} : ∀ ys : List Str, IsL K C G (ys.map V.str) (ys.map enc)
  | [] => .nil
  | y :: ys => .cons (.str y) (isL_of_strs ys)
theorem EV.split {to ta : TE} {m1 : M Str} {m2 : M Str} (e1 : EV Z L O to σ m1) (e2 : EV Z L O ta σ m2) : EV Z L O (tBM Z.K "str" rSplitT to (tCons ta tNil)) σ (mb m1 fun a => mb m2 fun b => msplit a b) := fun L1 H post px Q s hp hx hm k =>
  e1 L1 H _ px _ s hp hx hm fun a x H1 hp1 hm1 => by
    obtain rfl := is_str hp1.hd
    refine ⟨rfl, e2 _ H1 _ px _ (sub_cons s) hp1 hx hm1 fun b y H2 hp2 hm2 => ?_⟩
    obtain rfl := is_str hp2.hd
    obtain ⟨⟨h1, h2⟩, hm2⟩ := hm2
    have hl : a.length + 2 ≤ sizeLine := le_size h2
    refine ⟨a, b, rfl, rfl, h1, hl, fun p np => k (Txt.split a b) _ _ ?_ hm2⟩
    refine hp2.tail.tail.new np fun G hG nG => .lst upd_same ?_ (isL_of_strs _)
    rw [List.length_map]
    have := PyProof.Rows.split_le a b
    omega
theorem EV.splitP {to ta : TE} {a b : Str} (e1 : EV Z L O to σ (mr a)) (e2 : EV Z L O ta σ (mr b)) : EV Z L O (tBM Z.K "str" rSplitT to (tCons ta tNil)) σ (msplit a b) := EV.split e1 e2
def rIntS : List V → Hp → VK → Prop := fun xs H Q => ∃ a n, xs = [.str a] ∧ PySem.intText? a = some n ∧ a.length ≤ 640 ∧ Q (.int n) H
theorem call_intS {X : Cx} : CallR X (.type "int") rIntS := call_int_str
def mintS (a : Str) : M Int := match PySem.intText? a with
  | some n => mreq (a.length ≤ 640) (mr n)
  | none => mstuck
theorem ok_intS : OkB Z rIntS mintS := fun L O H a x post px Q hp hx hm k => by
  obtain rfl := is_str hp.hd
  unfold mintS at hm
  cases e : PySem.intText? a with
  | none => rw [e] at hm; exact hm.elim
  | some n =>
    rw [e] at hm
    exact ⟨a, n, rfl, e, hm.1, k n _ H (hp.tail.add fun G _ => .int n) hm.2⟩
theorem EV.intS {ta : TE} {m1 : M Str} (e1 : EV Z L O ta σ m1) : EV Z L O (tCB rIntS (tCons ta tNil)) σ (mb m1 mintS) := EV.cb1 (f := mintS) ok_intS e1
theorem EV.intSP {ta : TE} {a : Str} (e1 : EV Z L O ta σ (mr a)) : EV Z L O (tCB rIntS (tCons ta tNil)) σ (mintS a) := EV.cb1P (f := mintS) ok_intS e1
end
/-- a walk over a text's signs that ends at the first one that is none of some -/
def goS {ρ : Type} (p : Nat → Bool) (r : ρ) (x : Str) (_ : Unit) : Stp Unit ρ := match x.cps.toList with
  | [c] => if (!p c) = true then .ret r else .next ()
  | _ => .ret r
theorem go_goS {ρ : Type} (p : Nat → Bool) (r : ρ) (l : List Nat) : go (goS p r) (l.map fun c => (⟨#[c]⟩ : Str)) () = if l.all p = true then .inl () else .inr r := by
  induction l with
  | nil => rfl
  | cons c l ih =>
    rw [List.map_cons, List.all_cons]
    have e0 : goS p r (⟨#[c]⟩ : Str) () = if (!p c) = true then .ret r else .next () := rfl
    unfold go
    rw [e0]
    cases e : p c with
    | true => exact ih
    | false => rfl
theorem allS_ret {ρ : Type} {r : ρ} {z chars : Str} : Ret (Mi.forR (signs z) () (fun x_sign c_ => mite (mninSg x_sign chars) (mb (mr r) fun a => mr (Stp.ret a)) (mr (Stp.next ())))) (if z.cps.toList.all (fun c => decide (c ∈ chars.cps.toList)) = true then .inl () else .inr r) := by
  refine Ret.of (.forR (goS (fun c => decide (c ∈ chars.cps.toList)) r) ?_) (go_goS _ _ _)
  intro x hx c
  obtain ⟨a, ha, rfl⟩ := List.mem_map.mp hx
  exact .ite' .ninSg (fun _ => .b .r .r) (fun _ => .r)
section
variable {α : Type}
theorem Ret.split {a b : Str} (h : (b.length == 0) = false) (l : a.length ≤ 1000) : Ret (msplit a b) (Txt.split a b) := fun _ _ q => ⟨⟨h, by omega⟩, q⟩
theorem Ret.intS {a : Str} {n : Int} (h : PySem.intText? a = some n) (l : a.length ≤ 640) : Ret (mintS a) n := fun _ _ q => by
  unfold mintS; rw [h]; exact ⟨l, q⟩
theorem Ret.slS {a : Str} {l h : Option Int} (z : a.length ≤ 1000) : Ret (mreq (a.length ≤ sizeLine) (mr (cutS a l h))) (cutS a l h) := fun _ _ q => ⟨Cf.size_ok z, q⟩
theorem Ret.comp {β : Type} {xs : List α} {f : α → M β} {g : α → β} (h : ∀ x ∈ xs, Ret (f x) (g x)) : Ret (compM (fun _ => mr true) f xs) (xs.map g) := by
  induction xs with
  | nil => exact .r
  | cons x xs ih =>
    have e : compM (fun _ => mr true) f (x :: xs) = mb (f x) fun y => mb (compM (fun _ => mr true) f xs) fun ys => mr (y :: ys) := by
      funext post px
      rfl
    rw [e]
    exact .b (h x List.mem_cons_self) (.b (ih fun y hy => h y (List.mem_cons_of_mem _ hy)) .r)
end
/-! a loop whose turns are plain -/
section
variable {α γ : Type} {px : Exn → Prop}
theorem forM_g {xs : List α} {c0 : γ} {f : α → γ → M γ} {post : γ → Prop} (g : α → γ → γ) (B : Nat → γ → Prop) (h0 : B 0 c0) (hs : ∀ i x c, xs[i]? = some x → B i c → ∀ Q : γ → Prop, Q (g x c) → f x c Q px) (hB : ∀ i x c, xs[i]? = some x → B i c → B (i + 1) (g x c)) (hk : post (xs.foldl (fun c x => g x c) c0)) : forM xs c0 f post px := by
  induction xs generalizing c0 B with
  | nil => exact hk
  | cons x xs ih => exact hs 0 x c0 rfl h0 _ (ih (fun i => B (i + 1)) (hB 0 x c0 rfl h0) (fun i y c e h Q q => hs (i + 1) y c (by simpa using e) h Q q) (fun i y c e h => hB (i + 1) y c (by simpa using e) h) hk)
theorem Ret.forMg {xs : List α} {c0 : γ} {f : α → γ → M γ} (g : α → γ → γ) (B : Nat → γ → Prop) (h0 : B 0 c0) (hs : ∀ i x c, xs[i]? = some x → B i c → Ret (f x c) (g x c)) (hB : ∀ i x c, xs[i]? = some x → B i c → B (i + 1) (g x c)) : Ret (Mi.forM xs c0 f) (xs.foldl (fun c x => g x c) c0) := fun post px q =>
  forM_g g B h0 (fun i x c e h Q k => hs i x c e h Q px k) hB q
/-- a walk that ends with r at the first thing that p does not hold of -/
theorem Ret.forAll {ρ : Type} {xs : List α} {f : α → Unit → M (Stp Unit ρ)} (p : α → Bool) (r : ρ) (h : ∀ x ∈ xs, Ret (f x ()) (if p x = true then .next () else .ret r)) : Ret (Mi.forR xs () f) (if xs.all p = true then .inl () else .inr r) := by
  induction xs with
  | nil => exact .r
  | cons x xs ih =>
    have h1 := h x List.mem_cons_self
    have ih := ih fun y hy => h y (List.mem_cons_of_mem _ hy)
    show Ret (mb (f x ()) _) _
    refine .b h1 ?_
    rw [List.all_cons]
    cases e : p x with
    | true => rw [Bool.true_and]; exact ih
    | false => exact .r
end
theorem mdraw_g {n : Int} {post : Int → Prop} {px : Exn → Prop} (h : 0 < n ∧ n < 1000000000000000000000000000000000000000000000000000000000000) (k : ∀ d, 0 ≤ d → d < n → post d) : mdraw n post px :=
  ⟨h.1, Nat.lt_of_lt_of_le (PySem.Flt.log2_lt_of (k := 200) (by decide) (by omega)) (by decide), k⟩
theorem mulS {a b : Int} {post : Int → Prop} {px : Exn → Prop} (h : -1000000000000000000 < a ∧ a < 1000000000000000000) (k : post (a * b)) : mmulI a b post px := ⟨.inl ⟨by omega, by omega⟩, k⟩
theorem mulT {a b : Int} {post : Int → Prop} {px : Exn → Prop} (h : -1000000000000000000 < b ∧ b < 1000000000000000000) (k : post (a * b)) : mmulI a b post px := ⟨.inr ⟨by omega, by omega⟩, k⟩
theorem mix_b' {α : Type} {xs : List α} {i : Int} {post : α → Prop} {px : Exn → Prop} (h0 : 0 ≤ i) (h1 : i < xs.length) (k : ∀ a ∈ xs, post a) : mix xs i post px := by
  obtain ⟨j, rfl⟩ := Int.eq_ofNat_of_zero_le h0
  have hj : j < xs.length := by omega
  exact Ret.ix (L2.atI_nat (List.getElem?_eq_getElem hj)) _ _ (k _ (List.getElem_mem hj))
/-! bounds of texts, kept while one walks on -/
section
variable {px : Exn → Prop}
theorem addS_b {a b : Str} {n m : Nat} {post : Str → Prop} (ha : a.length ≤ n) (hb : b.length ≤ m) (l : n + m ≤ 1000000) (k : ∀ z : Str, z.length ≤ n + m → post z) : maddS a b post px := by
  have e : (a ++ b).length = a.length + b.length := by
    show (a.cps ++ b.cps).size = _
    rw [Array.size_append]; rfl
  exact ⟨by have := sizeLine_eq; omega, k _ (by omega)⟩
theorem cutS_len (a : Str) (l h : Option Int) : (cutS a l h).length ≤ a.length := by
  show (List.toArray _).size ≤ _
  rw [List.size_toArray, List.length_take, List.length_drop]
  have : a.cps.toList.length = a.length := Array.length_toList
  omega
theorem cut_b {a : Str} {l h : Option Int} {n : Nat} {post : Str → Prop} (ha : a.length ≤ n) (hn : n ≤ 1000000) (k : ∀ z : Str, z.length ≤ n → post z) : mreq (a.length ≤ sizeLine) (mr (cutS a l h)) post px :=
  ⟨by have := sizeLine_eq; omega, k _ (Nat.le_trans (cutS_len a l h) ha)⟩
theorem lenS_b {a : Str} {n : Nat} {post : Int → Prop} (ha : a.length ≤ n) (hn : n ≤ 1000000) (k : post (a.length : Int)) : mlenS a post px := ⟨by have := sizeLine_eq; omega, k⟩
structure LB (n B : Nat) (c : List Str) : Prop where
  l : c.length ≤ n
  b : ∀ z ∈ c, z.length ≤ B
theorem LB.nil {B : Nat} : LB 0 B [] := ⟨Nat.le_refl _, fun z h => by cases h⟩
theorem LB.cons {n B : Nat} {z : Str} {c : List Str} (h : z.length ≤ B) (t : LB n B c) : LB (n + 1) B (z :: c) := ⟨Nat.succ_le_succ t.l, fun y hy => by
  rcases List.mem_cons.mp hy with rfl | hy
  · exact h
  · exact t.b y hy⟩
theorem LB.app {n m B : Nat} {c e : List Str} (h : LB n B c) (t : LB m B e) : LB (n + m) B (c ++ e) := ⟨by rw [List.length_append]; have := h.l; have := t.l; omega, fun y hy => by
  rcases List.mem_append.mp hy with hy | hy
  · exact h.b y hy
  · exact t.b y hy⟩
theorem LB.mono {n m B D : Nat} {c : List Str} (h : LB n B c) (l : n ≤ m) (b : B ≤ D) : LB m D c := ⟨Nat.le_trans h.l l, fun z hz => Nat.le_trans (h.b z hz) b⟩
theorem addL_b {n m B : Nat} {c e : List Str} {post : List Str → Prop} (h : LB n B c) (t : LB m B e) (l : n + m ≤ 1000000) (k : ∀ x, LB (n + m) B x → post x) : maddL c e post px := ⟨by have := h.l; have := t.l; omega, k _ (h.app t)⟩
theorem push_b {n B : Nat} {c : List Str} {z : Str} {post : List Str → Prop} (h : LB n B c) (t : z.length ≤ B) (l : n < 1000000) (k : ∀ x, LB (n + 1) B x → post x) : mpush c z post px := ⟨Nat.lt_of_le_of_lt h.l l, k _ (h.app (.cons t .nil))⟩
end
end Mi

/-! list(o) where o's own __iter__ gives an iterator over a list -/
namespace PySem
section
variable {prog : Program} {w : World} {A : Around} {E : Value → Shared → Prop} {s : Shared}
theorem pyNext_end2 {it l : Addr} {i : Nat} {items : Array Value} {Q : Option Value → Shared → Prop} (hh : A.handled = none)
    (hit : s.heap.get? it = some (GNX.itObj l i)) (hl : s.heap.IsList l items) (hx : items[i]? = none)
    (hQ : ∀ h', Heap.ExtBut it s.heap h' → (∃ u, h'.get? it = some u) → Q none { s with heap := h' }) : wpAny (model prog w) A (pyNext (.ref it)) Q E s := by
  obtain ⟨ol, hol, _, nl, hdl⟩ := hl
  unfold pyNext
  refine wpAny_bind (wpAny_attempt (wpAny_callSpecial?_slot (name := Str.ofString "__next__") ⟨_, hit, rfl⟩ slot_listiter_next
    (wpAny_call_entry slot_listiter_next ⟨_, hit, rfl⟩ entry_listiter_next ?_ (args_listiter_next _))))
  show wpAny _ _ (field (.ref it) 0 >>= _) _ _ s
  refine wpAny_bind (wpAny_field hit rfl (x := .ref l) rfl ?_)
  show wpAny _ _ (if (Value.ref l == Value.none) = true then _ else _) _ _ s
  rw [if_neg (show ¬ ((Value.ref l == Value.none) = true) from Bool.false_ne_true)]
  show wpAny _ _ (field (.ref it) 1 >>= _) _ _ s
  refine wpAny_bind (wpAny_field hit rfl (x := .int i 0) rfl ?_)
  show wpAny _ _ (seqItems? (.ref l) >>= _) _ _ s
  refine wpAny_bind (wpAny_seqItems hol hdl ?_)
  simp only [Int.toNat_natCast, hx]
  refine wpAny_bind (wpAny_rule (wpAny_bind (wpAny_setField hit rfl (by simp) ?_)))
  show wpAny _ _ (newExc (.type "StopIteration") [] >>= _) _ _ _
  refine wpAny_bind ?_
  simp only [newExc, newTuple]
  refine wpAny_bind (wpAny_newObj_type ?_ (by size_fits))
  refine wpAny_bind (m := firstArgMember _ _) (wpAny_of_eq (a := Value.none) (by first | rfl | (simp only [firstArgMember]; rfl)) ?_)
  refine wpAny_newObj_type ?_ (by size_fits)
  simp only [raiseNew]
  refine wpAny_bind (wpAny_handled ?_)
  rw [show A.in1.handled = none from hh]
  refine wpAny_bind (wpAny_pure (wpAny_throw ?_))
  refine wpAny_bind (wpAny_isInstance (T := "StopIteration") (b := true) ⟨_, Heap.get?_push_size _ rfl, rfl⟩ isSubtype_stop ?_)
  exact wpAny_pure (hQ _ (((Heap.SameBut.update ..).extBut.push _).push _) ⟨_, Heap.get?_push_of_some _ (Heap.get?_push_of_some _ (Heap.get?_update_self _ hit (by rfl)))⟩)
theorem pyNext_item2 {it l : Addr} {i : Nat} {items : Array Value} {x : Value} {Q : Option Value → Shared → Prop} (hit : s.heap.get? it = some (GNX.itObj l i)) (hl : s.heap.IsList l items) (hx : items[i]? = some x)
    (hQ : ∀ h', h'.get? it = some (GNX.itObj l (i + 1)) → Heap.SameBut it s.heap h' → Q (some x) { s with heap := h' }) : wpAny (model prog w) A (pyNext (.ref it)) Q E s := by
  obtain ⟨ol, hol, _, nl, hdl⟩ := hl
  unfold pyNext
  refine wpAny_bind (wpAny_attempt (wpAny_callSpecial?_slot (name := Str.ofString "__next__") ⟨_, hit, rfl⟩ slot_listiter_next
    (wpAny_call_entry slot_listiter_next ⟨_, hit, rfl⟩ entry_listiter_next ?_ (args_listiter_next _))))
  show wpAny _ _ (field (.ref it) 0 >>= _) _ _ s
  refine wpAny_bind (wpAny_field hit rfl (x := .ref l) rfl ?_)
  show wpAny _ _ (if (Value.ref l == Value.none) = true then _ else _) _ _ s
  rw [if_neg (show ¬ ((Value.ref l == Value.none) = true) from Bool.false_ne_true)]
  show wpAny _ _ (field (.ref it) 1 >>= _) _ _ s
  refine wpAny_bind (wpAny_field hit rfl (x := .int i 0) rfl ?_)
  show wpAny _ _ (seqItems? (.ref l) >>= _) _ _ s
  refine wpAny_bind (wpAny_seqItems hol hdl ?_)
  simp only [Int.toNat_natCast, hx]
  refine wpAny_bind (wpAny_setField hit rfl (by simp) (wpAny_pure ⟨x, rfl, wpAny_pure (hQ _ ?_ (Heap.SameBut.update ..))⟩))
  rw [Heap.get?_update_self _ hit (by rfl)]
  exact congrArg some (GNX.next_obj l i)
end
end PySem
namespace L2
open PySem PySem.Spec PyProof.Rows
/-- a class with an own __iter__, without __len__ and __length_hint__ -/
structure ItF (K : PySem.W.Frag) (C fi : Addr) : Prop where
  it : PySem.W.findIn K (.ref C) "__iter__" = some (some (.ref fi))
  itF : PySem.W.isFn K (.ref fi) = true
  nolen : PySem.W.findIn K (.ref C) "__len__" = some none
  nohint : PySem.W.findIn K (.ref C) "__length_hint__" = some none
def AnyO (it : Addr) : HO := .ext fun h => ∃ u, h.get? it = some u
theorem anyO_ok {P : Program} {w : World} {H : Hp} {h : Heap} {it : Addr} {u : Obj} (e : h.get? it = some u) : ObjOk P w H h it (AnyO it) := ⟨⟨u, e⟩, ⟨_, e⟩, fun h1 h2 q k => by
  obtain ⟨u, q⟩ := q
  exact ⟨u, k _ q⟩⟩
section
variable {X : Cx} {pins : List (Addr × Obj)} {σ : St} {H : Hp} {s : Shared} {n : Nat} {C fi : Addr} {fdI : FuncData} {psI : List Str} {spI : Sp} {CI : CXT} {EI : XK} {A1 : Around} {q it l a : Addr}
theorem it_loop {zs : List V} {Rs : Result → Shared → Prop} (hh : A1.in1.handled = none) (hz : zs.length ≤ 1000000)
    :
    ∀ (k i : Nat) (H : Hp) (s : Shared), i + k = zs.length → Inv X pins σ H s → H q = some (.lst (zs.take i)) → H l = some (.lst zs) → H it = some (ItO l it i) → q ≠ l → q ≠ it → l ≠ it →
      (∀ H' s', Inv X pins σ H' s' → (∀ b, b ≠ it → H' b = upd H q (.lst zs) b) → Rs (.ok (.ret .none)) s') →
      codeAny (model X.prog X.w) A1 (.builtin "list.extend.loop" ⟨[.ref q, .ref it, .none], []⟩) Rs s := by
  intro k
  induction k with
  | zero =>
    intro i H s hk I hq hl hi n1 n2 n3 hd
    refine codeAny_builtin PySem.F.entry_extend_loop ?_
    rw [Around.under_plainId PySem.F.plain_extend_loop _]
    show wpAny _ A1.in1 (pyNext (.ref it) >>= _) _ _ s
    obtain ⟨its, rv, pl, hz'⟩ := I.list (.inl (.inl hl))
    refine wpAny_bind (pyNext_end2 hh (itO_get I hi) pl.isList (by rw [List.getElem?_toArray]; exact rv.none_of (List.getElem?_eq_none (by omega))) fun h' e he => ?_)
    obtain ⟨u, hu⟩ := he
    refine wpAny_pure ?_
    refine hd (upd H it (AnyO it)) _ (I.write (x := it) (e := it) (t' := s.toks) (by rw [hi]; exact True.intro) (.inl rfl) (fun b o nb z => e b o nb z) ⟨u, hu⟩ (anyO_ok hu)) fun b nb => ?_
    rw [upd_ne nb]
    by_cases hb : b = q
    · rw [hb, hq, upd_same, List.take_of_length_le (by omega)]
    · rw [upd_ne hb]
  | succ k ih =>
    intro i H s hk I hq hl hi n1 n2 n3 hd
    refine codeAny_builtin PySem.F.entry_extend_loop ?_
    rw [Around.under_plainId PySem.F.plain_extend_loop _]
    show wpAny _ A1.in1 (pyNext (.ref it) >>= _) _ _ s
    obtain ⟨its, rv, pl, hz'⟩ := I.list (.inl (.inl hl))
    have hv : zs[i]? = some zs[i] := List.getElem?_eq_getElem (by omega)
    obtain ⟨u, hu, ru⟩ := rv.get hv
    refine wpAny_bind (pyNext_item2 (itO_get I hi) pl.isList (by rw [List.getElem?_toArray]; exact hu) fun h' e' sb => ?_)
    have I1 : Inv X pins σ (upd H it (ItO l it (i + 1))) { s with heap := h' } := I.write (x := it) (e := it) (t' := s.toks) (by rw [hi]; exact True.intro) (.inl rfl) (fun b o nb z => (sb.2 b nb).trans z) ⟨_, e'⟩ (itO_ok e')
    have hq1 : upd H it (ItO l it (i + 1)) q = some (.lst (zs.take i)) := by rw [upd_ne n2]; exact hq
    show wpAny _ A1.in1 (updateSeq q (·.push u) >>= _) _ _ _
    obtain ⟨z, its2, k2, r2, hl2, e2⟩ := I1.lstM hq1
    have hlen : (zs.take i).length ≤ 1000000 := by rw [List.length_take]; omega
    have hsz := sizeLine_eq
    have r2l : its2.length = (zs.take i).length := r2.length.symm
    refine wpAny_bind (wpAny_updateSeq e2 rfl (wpAny_pure ⟨plainId_quiet PySem.F.plain_extend_loop _, ?_⟩) (by rw [List.size_toArray]; omega) (by show (its2.toArray.push u).size ≤ sizeLine + 1; rw [Array.size_push, List.size_toArray]; omega))
    have I2 := I1.lset (f := (·.push u)) (its' := its2 ++ [u]) (t' := s.toks) (ys := zs.take i ++ [zs[i]]) hq1 e2 (by simp) (r2.append (.cons ru .nil)) (by rw [List.length_append, List.length_singleton]; omega)
    have et : zs.take i ++ [zs[i]] = zs.take (i + 1) := by rw [List.take_succ, hv]; rfl
    rw [et] at I2
    refine ih (i + 1) _ _ (by omega) I2 upd_same (by rw [upd_ne (Ne.symm n1), upd_ne n3]; exact hl) (by rw [upd_ne (Ne.symm n2), upd_same]) n1 n2 n3 fun H' s' I' h' => hd H' s' I' fun b nb => ?_
    rw [h' b nb]
    by_cases hb : b = q
    · rw [hb, upd_same, upd_same]
    · rw [upd_ne hb, upd_ne hb, upd_ne hb, upd_ne nb]
theorem it_hint {M : Model} {A : Around} {E : Value → Shared → Prop} {Q : Bool → Shared → Prop} {K : PySem.W.Frag} {ox : Obj} {od : Option Obj} (hc : ItF K C fi) (hK : K.In s.heap) (J : PySem.W.InstAt s.heap a ox C od) (h : Q true s) :
    wpAny M A (Builtin.List.listLengthHint (.ref a)) Q E s := by
  unfold Builtin.List.listLengthHint
  refine wpAny_bind (wpAny_bind (J.type.here ((PySem.W.looks_findIn hK hc.nolen).here ?_)))
  refine PySem.W.KFB.if_not rfl ?_
  refine PySem.W.KFB.if_not rfl ?_
  refine wpAny_bind (wpAny_bind (J.type.here ((PySem.W.looks_findIn hK hc.nohint).here ?_)))
  exact wpAny_pure h
/-- what is asked of the def __iter__ -/
def itWish (C a q dx : Addr) (fs : List (Str × V)) (QQ : Hp → Prop) : VK := fun v H' => ∃ it l zs, v = .ref it ∧ H' it = some (ItO l it 0) ∧ H' l = some (.lst zs) ∧ zs.length ≤ 1000000 ∧ H' q = some (.lst []) ∧ H' a = some (.ins C dx fs) ∧ q ≠ l ∧ q ≠ it ∧ l ≠ it ∧
    ∀ H'', (∀ b, b ≠ it → H'' b = upd H' q (.lst zs) b) → QQ H''
theorem it_extend {Rs : Result → Shared → Prop} {dx : Addr} {fs : List (Str × V)} {QQ : Hp → Prop} (hcalm : A1.in1.handled = none) (sb : Sub X n A1.in1) (hc : ItF X.K C fi)
    (FI : FnOk X.prog X.w X.K X.mg X.base CI n fi fdI psI spI) (bI : Binds X.K fdI psI []) (xI : Passes CI X EI) (hsp : spI [.ref a] H (itWish C a q dx fs QQ) EI)
    (hdone : ∀ H s, Inv X pins σ H s → QQ H → Rs (.ok (.ret .none)) s) (herr : ∀ e s, X.xe e s → Rs (.error e) s)
    (I : Inv X pins σ H s) (ha : H a = some (.ins C dx fs)) (hq : H q = some (.lst [])) :
    wpAny (model X.prog X.w) A1.in1 (Builtin.List.listExtendWith (.ref q) (.ref a) .none)
      (fun fin s' => match fin with | .done f => Rs (.ok f) s' | .again c' => c'.quiet = true ∧ codeAny (model X.prog X.w) A1 c' Rs s') (fun e s' => Rs (.error e) s') s := by
  have hne : q ≠ a := ne_of hq ha (fun z => nomatch z)
  obtain ⟨mA, J, _⟩ := ins_get I.hok ha
  obtain ⟨od, J, _⟩ := J.look
  obtain ⟨m0, hF⟩ := I.fr
  unfold Builtin.List.listExtendWith
  refine wpAny_bind (J.type.here ?_)
  have h1 : Builtin.List.listSameRef (.ref q) (.ref a) = false := by simp [Builtin.List.listSameRef, hne]
  have h2 : (Value.ref C == Value.type "list") = false := rfl
  have h3 : (Value.ref C == Value.type "tuple") = false := rfl
  simp only [h1, h2, h3, Bool.or_false, Bool.false_eq_true, if_false]
  refine wpAny_bind (PySem.W.owit_iter hF I.ok.mod.kin J hc.it hc.itF ?_)
  have e0 : Env0 X.prog X.w X.K X.mg X.base A1.in1 X.stack s H := by
    have e := I.env0
    exact ⟨by rw [sb.fr]; exact e.frames, e.mod, e.bs, e.bsz, e.funs, e.frf, e.hok, e.bare⟩
  have hl := FI.len _ _ _ _ hsp
  have r2 : Vals [V.ref a] [Value.ref a] := .cons rfl .nil
  refine wpAny_call (codeAny_mono (FI.run A1.in1 X.stack s H ⟨[.ref a], []⟩ [.ref a] [.ref a] _ EI sb.room e0 (by
    have := bI s [.ref a] I.kIn (by simpa using hl)
    simpa using this) r2 hsp) fun r s' hq' => ?_)
  cases r with
  | error e => exact herr e s' (xI pins σ H s e s' I hq')
  | ok fl =>
    cases fl with
    | next => exact False.elim hq'
    | brk => exact False.elim hq'
    | cont => exact False.elim hq'
    | ret u =>
      obtain ⟨v, H', I', rv, it, l, zs, rfl, hi, hl, hz, hq2, ha2, n1, n2, n3, fin⟩ := I.after hq'
      cases rv
      obtain ⟨mA', J', _⟩ := ins_get I'.hok ha2
      obtain ⟨od', J', _⟩ := J'.look
      have hit := itO_get I' hi
      unfold PySem.W.OwitIt
      refine wpAny_specialOf (T := "list_iterator") ⟨_, hit, rfl⟩ slot_listiter_next.lookup ?_
      refine wpAny_bind (wpAny_holding (it_hint hc I'.kIn J' ?_))
      obtain ⟨z, its, k, r3, hl3, e3⟩ := I'.lstM hq2
      cases r3
      have loop : ∀ s'', Inv X pins σ H' s'' → codeAny (model X.prog X.w) A1 (.builtin "list.extend.loop" ⟨[.ref q, .ref it, .none], []⟩) Rs s'' := fun s'' I'' =>
        it_loop hcalm hz zs.length 0 H' s'' (by omega) I'' (by rw [List.take_zero]; exact hq2) hl hi n1 n2 n3 fun H3 s3 I3 h3 => hdone H3 s3 I3 (fin H3 h3)
      refine wpAny_ite_split (fun _ => ?_) (fun _ => wpAny_pure ⟨plainId_quiet PySem.F.plain_extend_loop _, loop s' I'⟩)
      refine wpAny_bind (wpAny_rule ?_)
      refine wpAny_bind ?_
      show wpAny _ _ (updateSeq q (·.push .none) >>= fun _ => updateSeq q (·.pop)) _ _ _
      refine wpAny_bind (wpAny_updateSeq e3 rfl ?_)
      have I2 := I'.lset (f := (·.push Value.none)) (its' := [Value.none]) (ys := [.non]) (t' := s'.toks) hq2 e3 (by simp) (.cons rfl .nil) (by rw [List.length_singleton, sizeLine_eq]; decide)
      obtain ⟨z4, its4, k4, r4, hl4, e4⟩ := I2.lstM upd_same
      obtain ⟨u4, rfl, ru4⟩ := r4.one
      refine wpAny_updateSeq e4 rfl ?_ (by show 1 ≤ sizeLine; rw [sizeLine_eq]; decide) (by show 0 ≤ sizeLine + 1; exact Nat.zero_le _)
      refine wpAny_pure ⟨plainId_quiet PySem.F.plain_extend_loop _, loop _ ?_⟩
      have I3 := I2.lset (f := (·.pop)) (its := [u4]) (its' := []) (ys := []) (t' := s'.toks) upd_same e4 (by rfl) .nil (Nat.zero_le _)
      rw [upd_upd] at I3
      have hH : upd H' q (.lst []) = H' := by
        funext b
        by_cases hb : b = q
        · rw [hb, upd_same, hq2]
        · rw [upd_ne hb]
      rw [hH] at I3
      exact I3
def rOwnIt (C : Addr) (spI : Sp) (EI : XK) : List V → Hp → VK → Prop := fun xs H Q => ∃ a dx fs, xs = [.ref a] ∧ H a = some (.ins C dx fs) ∧
  ∀ q, H q = none → spI [.ref a] (upd H q (.lst [])) (itWish C a q dx fs fun H'' => Q (.ref q) H'') EI
theorem call_listIt (hcalm : X.calm = true) (hc : ItF X.K C fi) (FI : FnOk X.prog X.w X.K X.mg X.base CI n fi fdI psI spI) (bI : Binds X.K fdI psI []) (xI : Passes CI X EI) (hr : Room (n + 2) X.A) : CallR X (.type "list") (rOwnIt C spI EI) := by
  intro pins s σ H xs us Q I rv h
  obtain ⟨a, dx, fs, rfl, ha, hq⟩ := h
  obtain ⟨u, rfl, ru⟩ := rv.one
  cases ru
  have sb : Sub X n X.A.in1.in1 := (Sub.in1 (Sub.in1 (⟨hr, rfl⟩ : Sub X (n + 2) X.A)))
  refine callType_codes (Q₁ := fun obj s₁ => obj = .ref s.heap.objs.size ∧ s₁ = { s with heap := s.heap.push { cls := .type "list", data := .seq #[] } }) PySem.F.called_list (PySem.F.typeCall_list_1 _) PySem.F.entry_list_init
    (code_list_new _ ⟨rfl, rfl⟩) fun obj s₁ h₁ => ?_
  obtain ⟨rfl, rfl⟩ := h₁
  have hS : (s.heap.push { cls := .type "list", data := .seq #[] }).get? s.heap.objs.size = some { cls := .type "list", data := .seq #[] } := Heap.get?_push_size _ rfl
  refine ⟨⟨_, hS, rfl⟩, PySem.F.args_list_init_2 _ _, ?_⟩
  have fr : H s.heap.objs.size = none := I.hok.fresh (Nat.le_refl _)
  have hsp := hq _ fr
  have I1 : Inv X pins σ (upd H s.heap.objs.size (.lst [])) { s with heap := s.heap.push { cls := .type "list", data := .seq #[] } } := I.lnew (its := []) (t' := s.toks) .nil (Nat.zero_le _)
  show wpAny _ _ (do let old ← Builtin.List.listItems (.ref s.heap.objs.size); Builtin.List.listUpdate (.ref s.heap.objs.size) (fun _ => #[]); letGo old.toList.reverse; Builtin.List.listExtendWith (.ref s.heap.objs.size) (.ref a) .none) _ _ _
  refine wpAny_bind ?_
  unfold Builtin.List.listItems
  refine wpAny_bind (wpAny_seqItems hS rfl (wpAny_pure ?_))
  show wpAny _ _ (updateSeq s.heap.objs.size (fun _ => #[]) >>= fun _ => letGo (#[] : Array Value).toList.reverse >>= fun _ => Builtin.List.listExtendWith (.ref s.heap.objs.size) (.ref a) .none) _ _ _
  refine wpAny_bind (wpAny_updateSeq hS rfl ?_)
  have I2 := I1.lset (f := fun _ => #[]) (its := []) (its' := []) (ys := []) (t' := s.toks) upd_same hS rfl .nil (Nat.zero_le _)
  rw [upd_upd] at I2
  refine wpAny_bind (wpAny_letGo ?_)
  have ha2 : upd H s.heap.objs.size (.lst []) a = some (.ins C dx fs) := by rw [upd_ne (ne_of_none ha fr)]; exact ha
  have hh : X.A.in1.in1.handled = none := I.ok.hd hcalm
  exact it_extend (A1 := X.A.in1) (Rs := wants (fun r s₂ => r = .none ∧ EP X pins σ Q (.ref s.heap.objs.size) s₂) X.xe) hh sb hc FI bI xI hsp
    (fun H' s' I' hR => ⟨rfl, .ref s.heap.objs.size, H', I', rfl, hR⟩) (fun e s' he => he) I2 ha2 upd_same
end
end L2

/-! lists or tuples; defaults; list(o); tests by own special methods -/
namespace L2
open PySem PySem.Spec PyProof.Rows
section
variable {P : Program} {w : World} {K : PySem.W.Frag} {mg : Str → Option Value} {base : Heap} {x qual : Str} {params : Arguments} {body : List Stmt} {scope : Scope} {dvs : List V} {kws : List (Str × V)} {f : Addr} {fd : FuncData}
theorem FunD.ok0 {N ps : List Str} {k : Nat} {sp : Sp} (F : FunD K x qual params body scope dvs kws f fd) (S : FnScope N ps scope) (len : ∀ vs H Q E, sp vs H Q E → vs.length = ps.length)
    (hbody : ∀ (cdv : Value) (A : Around) (outer : List Env) (s : Shared) (H : Hp) (vs : List V) (Q : VK) (E : XK), Room k (A.deeper (envOfC qual scope s.heap.objs.size f cdv)) → sp vs H Q E →
      ∃ t, PSs (cxOf CX0 P w K mg base N qual scope f cdv A outer s H E).nox body t ∧ t { nx := fun _ H' => Q .non H', rt := Q } (start N vs) H) : FnOk P w K mg base CX0 (k + 1) f fd ps sp := by
  obtain ⟨oc, od, dV, kV, doc, pm, an, cdv, ct, osl, rfl, lk, hcd, _, _⟩ := F.ex
  refine fn_of lk hcd S len fun A outer s H vs Q E hr hsp => ?_
  obtain ⟨t, h, q⟩ := hbody cdv A outer s H vs Q E hr hsp
  exact ⟨t, h.nox, q⟩
theorem FunD.okXD {N ps : List Str} {k : Nat} {sp : Sp} (F : FunD K x qual params body scope dvs kws f fd) (S : FnScope N ps scope) (len : ∀ vs H Q E, sp vs H Q E → vs.length = ps.length)
    (hbody : ∀ (cdv : Value) (A : Around) (outer : List Env) (s : Shared) (H : Hp) (vs : List V) (Q : VK) (E : XK), Room k (A.deeper (envOfC qual scope s.heap.objs.size f cdv)) → sp vs H Q E →
      ∃ t, PSs (cxOf (L2.CX P w) P w K mg base N qual scope f cdv A outer s H E) body t ∧ t { nx := fun _ H' => Q .non H', rt := Q } (start N vs) H) : FnOk P w K mg base (L2.CX P w) (k + 1) f fd ps sp := F.ok S len hbody
end
def iOr (a b : TI) : TI := fun σ H R => a σ H R ∨ b σ H R
theorem PI.or {X : Cx} {tg e : Expr} {a b : TI} (h : PI X tg e a) (k : PI X tg e b) : PI X tg e (iOr a b) := ⟨fun pins s σ H R I q => by
  rcases q with q | q
  · exact h.run pins s σ H R I q
  · exact k.run pins s σ H R I q⟩
theorem pi_sq {X : Cx} {tg l : Expr} {tl : TE} (hl : PE X l tl) : PI X tg l (iOr (iList X.K tl) (iTup X.K tl)) := (pi_list hl).or (pi_tup hl)
theorem op_ownNotInR {X : Cx} {C f : Addr} {fd : FuncData} {ps : List Str} {sp : Sp} {E : St → XK} {k : Nat} {CX : CXT} (o : OwnM X.K C "__contains__" f) (F : FnOk X.prog X.w X.K X.mg X.base CX k f fd ps sp) (hr : Room k X.A) (hb : Binds X.K fd ps []) (hx : ∀ σ, PassesAt CX X σ (E σ)) :
    OpRS X (compareOp .NotIn) (fun σ x y H Q => rOwnIn C sp E σ x y H fun r H' => ∃ b, r = .bl b ∧ Q (.bl (!b)) H') := fun pins s σ H x y u v Q I rx ry h =>
  op_ownNotIn o F hr hb hx pins s σ H x y u v Q I rx ry (by
    obtain ⟨a, dx, fs, e1, e2, q⟩ := h
    refine ⟨a, dx, fs, e1, e2, ?_⟩
    have e : (fun r H' => ∃ b, r = V.bl b ∧ ∃ b_1, V.bl b = V.bl b_1 ∧ Q (V.bl !b_1) H') = (fun r H' => ∃ b, r = V.bl b ∧ Q (V.bl !b) H') := by
      funext r H'
      apply propext
      constructor
      · rintro ⟨b, rfl, b', e, q⟩
        cases e
        exact ⟨b, rfl, q⟩
      · rintro ⟨b, rfl, q⟩
        exact ⟨b, rfl, b, rfl, q⟩
    rw [e] at q
    exact q)
end L2
namespace Mi
open Enc (enc)
open PySem L2 PySem.Spec PyProof.Rows
open Cf (Fresh)
/-- a list or a tuple of things of one kind -/
structure Sq (α : Type) where
  t : Bool
  l : List α
instance {α : Type} [Enc α] : Enc (Sq α) := ⟨fun q => if q.t = true then .tup (q.l.map enc) else .lst (q.l.map enc)⟩
section
variable {Z : Zx} {L : List (V × D)} {O : List (Addr × D)} {σ : L2.St} {α β γ δ : Type} [Enc α] [Enc β] [Enc γ] [Enc δ]
theorem EV.asF {t : TE} {m : M α} {f : α → β} (e : EV Z L O t σ m) (h : ∀ a, enc (f a) = enc a) : EV Z L O t σ (mb m fun a => mr (f a)) := fun L1 H post px Q s hp hx hm k =>
  e L1 H _ px Q s hp hx hm fun a v H' hp' hb => k (f a) v H' (by rw [h a]; exact hp') hb
theorem sq_l {l : List α} : enc (⟨false, l⟩ : Sq α) = enc l := rfl
theorem sq_t {l : Tp α} : enc (⟨true, l.l⟩ : Sq α) = enc l := rfl
theorem sq_e {a : Sq α} : enc a = if a.t = true then D.tup (a.l.map enc) else D.lst (a.l.map enc) := rfl
theorem EI.sqP {tl : TE} {a : Sq α} (e : EV Z L O tl σ (mr a)) : EI Z L O (iOr (iList Z.K tl) (iTup Z.K tl)) σ (mr a.l) := fun L1 H post px R s hp hx hm k => by
  obtain ⟨b, l⟩ := a
  cases b with
  | false => exact .inl (EI.list (e.asP (b := l) rfl) L1 H post px R s hp hx hm k)
  | true => exact .inr (EI.tupP (e.asP (b := (⟨l⟩ : Tp α)) rfl) L1 H post px R s hp hx hm k)
/-! ### defaults -/
theorem Pt.addR {H : Hp} (h : Pt Z L O H) {v : V} {d : D} (hd : ∀ G, Is Z.K Z.C G v d) : Pt Z (L ++ [(v, d)]) O H := by
  obtain ⟨G, F, W, h⟩ := h
  exact ⟨G, F, W, { h with l := fun x hx => by rcases List.mem_append.mp hx with e | e; (· exact h.l x e); (· rw [List.mem_singleton.mp e]; exact hd G) }⟩
theorem CallN.add {K : PySem.W.Frag} {C : CT} {R : Hp → Prop} {m : M α} {H : Hp} {Q : VK} {v : V} {d : D} (hd : ∀ G, Is K C G v d) (h : CallN K C R L m H Q) : CallN K C R (L ++ [(v, d)]) m H Q := by
  obtain ⟨G0, F0, post, px, hp, hm, hq⟩ := h
  exact ⟨G0, F0, post, px, hp.addR hd, hm, hq⟩
theorem Call.add {K : PySem.W.Frag} {C : CT} {R : Hp → Prop} {m : M α} {H : Hp} {Q : VK} {E : XK} {v : V} {d : D} (hd : ∀ G, Is K C G v d) (h : Call K C R L m H Q E) : Call K C R (L ++ [(v, d)]) m H Q E := by
  obtain ⟨G0, F0, post, px, hp, hm, hq⟩ := h
  exact ⟨G0, F0, post, px, hp.addR hd, hm, hq⟩
theorem CallI.add {K : PySem.W.Frag} {C : CT} {c : Str} {x : Addr} {m : M α} {H : Hp} {Q : VK} {E : XK} {v : V} {d : D} (hd : ∀ G, Is K C G v d) (h : CallI K C c x L m H Q E) : CallI K C c x (L ++ [(v, d)]) m H Q E := by
  obtain ⟨G0, F0, post, px, hp, hm, hq⟩ := h
  exact ⟨G0, F0, post, px, hp.addR hd, hm, hq⟩
theorem CallIN.add {K : PySem.W.Frag} {C : CT} {c : Str} {x : Addr} {m : M α} {H : Hp} {Q : VK} {v : V} {d : D} (hd : ∀ G, Is K C G v d) (h : CallIN K C c x L m H Q) : CallIN K C c x (L ++ [(v, d)]) m H Q := by
  obtain ⟨G0, F0, post, px, hp, hm, hq⟩ := h
  exact ⟨G0, F0, post, px, hp.addR hd, hm, hq⟩
theorem is_emp {K : PySem.W.Frag} {C : CT} {a : Addr} (h : ∀ H, SqT K H a []) (G : Hp) : Is K C G (.ref a) (.tup []) := .tup (h G) (Nat.zero_le _) .nil
/-! ### list(o) -/
theorem Pt.junk {H H' : Hp} {it : Addr} (h : Pt Z L O H) (f : Fresh H it) (e : ∀ b, b ≠ it → H' b = H b) : Pt Z L O H' := by
  obtain ⟨G, F, W, h⟩ := h
  have sub : ∀ {A : Hp}, Sub A H → Sub A H' := fun {A} s b o q => by
    have n : b ≠ it := fun z => by rw [z, s.free f] at q; cases q
    rw [e b n]; exact s b o q
  exact ⟨G, F, W, { h with g := sub h.g, f := sub h.f, w := sub h.w }⟩
/-- an __iter__ that gives an iterator over the field f -/
def spIter (B : Addr) (f : Str) : Sp := fun vs H Q _ => ∃ a A dx fs l zs, vs = [.ref a] ∧ (H a = some (.ins A dx fs) ∧ B = A) ∧ fs.lookup f = some (.ref l) ∧ H l = some (.lst zs) ∧ ∀ it, H it = none → Q (.ref it) (upd H it (ItO l it 0))
theorem EV.listIt {c f : Str} {A : Addr} {E : XK} {ta : TE} {m : M α} (g : α → List β) (e : EV Z L O ta σ m) (ha : Z.C c = some A) (h : ∀ a, ∃ ns ds, enc a = .obj c ns ds ∧ (ns.zip ds).lookup f = some (enc (g a))) : EV Z L O (tCB (rOwnIt A (spIter A f) E) (tCons ta tNil)) σ (mb m fun a => mr (g a)) := fun L1 H post px Q s hp hx hm k =>
  e L1 H _ px _ s hp hx hm fun a v H1 hp1 hm1 => by
    obtain ⟨G, F, W, h1⟩ := id hp1
    obtain ⟨ns, ds, e1, e2⟩ := h a
    have hv := h1.x0
    rw [e1] at hv
    obtain ⟨p, A', dx, fs, rfl, g1, g2, g3, t⟩ := is_obj hv
    obtain rfl : A' = A := Option.some.inj (g2.symm.trans ha)
    obtain ⟨u, q1, q2⟩ := lookup_isL g3 t e2
    obtain ⟨l, zs, rfl, g4, g5, g6⟩ := is_lst q2
    refine ⟨p, dx, fs, rfl, h1.g _ _ g1, fun q hq => ?_⟩
    have np : p ≠ q := fun z => by rw [z, h1.g.free hq] at g1; cases g1
    have nl : l ≠ q := fun z => by rw [z, h1.g.free hq] at g4; cases g4
    refine ⟨p, _, dx, fs, l, zs, rfl, ⟨by rw [upd_ne np]; exact h1.g _ _ g1, rfl⟩, q1, by rw [upd_ne nl]; exact h1.g _ _ g4, fun it hit => ?_⟩
    obtain ⟨nq, hit'⟩ := Cf.upd_none hit
    have nit : ∀ b o, H1 b = some o → b ≠ it := fun b o e z => by rw [z, hit'] at e; cases e
    have npi := nit p _ (h1.g _ _ g1)
    have nli := nit l _ (h1.g _ _ g4)
    refine ⟨it, l, zs, rfl, upd_same, by rw [upd_ne nli, upd_ne nl]; exact h1.g _ _ g4, g5, by rw [upd_ne (Ne.symm nq), upd_same], by rw [upd_ne npi, upd_ne np]; exact h1.g _ _ g1, Ne.symm nl, Ne.symm nq, nli, fun H'' hH => ?_⟩
    have hnew : Pt Z ((.ref q, enc (g a)) :: L1) O (upd H1 q (.lst zs)) := (h1.new (d := enc (g a)) hq (.lst upd_same g5 (g6.mono (.self (h1.g.free hq))))).less (pk (.head _) fun z hz => .tail _ (.tail _ hz))
    refine k (g a) _ H'' (hnew.junk (it := it) ?_ fun b nb => ?_) hm1
    · show upd H1 q (.lst zs) it = none
      rw [upd_ne nq]; exact hit'
    · rw [hH b nb]
      by_cases hb : b = q
      · rw [hb, upd_same, upd_same]
      · rw [upd_ne hb, upd_ne nb, upd_ne hb, upd_ne hb]
/-- o's __iter__ -/
theorem kr_iter {H : Hp} {p A dx : Addr} {fs : List (Str × V)} {f : Str} {l : Addr} {Q : VK} (ea : H p = some (.ins A dx fs)) (el : fs.lookup f = some (.ref l)) {zs : List V} (hl : H l = some (.lst zs)) (q : ∀ it, H it = none → Q (.ref it) (upd H it (ItO l it 0))) : (∃ (l : Addr) (zs : List V), [V.ref l] = [.ref l] ∧ SqL Z.K H l zs ∧ ∀ it, H it = none → Q (.ref it) (upd H it (ItO l it 0))) := ⟨l, zs, rfl, .inl (.inl hl), q⟩
/-- x not in o -/
theorem EV.ownNin {c : Str} {A : Addr} {sp : Sp} {E : L2.St → XK} {to ti : TE} {mo : M α} {mi : M δ} {k : α → δ → M Bool} (e1 : EV Z L O ti σ mi) (e0 : EV Z L O to σ mo) (ha : Z.C c = some A) (ho : ∀ a : α, ObjIs c (enc a))
    (hc : ∀ (a : α) (b : δ) (x y : V) (H : Hp) (Q : VK), CallN Z.K Z.C R0 [(x, enc a), (y, enc b)] (k a b) H Q → sp [x, y] H Q (E σ)) : EV Z L O (tOpS (fun σ x y H Q => rOwnIn A sp E σ x y H fun r H' => ∃ b, r = .bl b ∧ Q (.bl (!b)) H') ti to) σ (mb mi fun b => mb mo fun a => mb (k a b) fun r => mr (!r)) := fun L1 H post px Q s hp hx hm kk =>
  e1 L1 H _ px _ s hp hx hm fun b y H1 hp1 hm1 => e0 _ H1 _ px _ (sub_cons s) hp1 hx hm1 fun a x H2 hp2 hm2 => by
    obtain ⟨G, F, W, h2⟩ := hp2
    obtain ⟨p, dx, fs, rfl, ea⟩ := h2.ins List.mem_cons_self ha (ho a)
    refine ⟨p, dx, fs, rfl, ea, hc a b _ _ H2 _ (call_n (ps := [(.ref p, enc a), (y, enc b)]) (L1 := L1) (h2.pt.less (pk (.head _) (pk (.tail _ (.head _)) fun z hz => .tail _ (.tail _ hz)))) hm2 fun r v H' hp' hr => ?_)⟩
    obtain rfl := is_bl hp'.hd
    exact ⟨r, rfl, r, rfl, kk (!r) _ H' (hp'.tail.add fun G _ => .bl _) hr⟩
end
end Mi

/-! classmethods; defs with *args -/
namespace L2
open PySem PySem.Spec PyProof.Rows
section
variable {X : Cx} {CX : CXT} {k : Nat} {C p g : Addr} {mc : Value} {sp : Sp} {E : XK} {o : Expr} {m : Str} {pos apos : Pos} {ta : TE} {pl : Sem Bool}
theorem pe_cmeth0 (he : PE X o ta) (r : ClX.CRead X.K C mc) (c : ClX.CMet X.K C mc m p g) (F : FnR X.prog X.w X.K X.mg X.base CX k g sp) (hr : Room k X.A) (hx : Passes CX X E)
    (ht : eval (.Call (.Attribute o m apos) [] [] pos) X.env = (do
      let ov ← eval o X.env
      standAt apos.atName
      let (f, first) ← holding [ov] (getMethod ov m pl)
      callWith pos f first (backTo pos (starEach [] X.env)) (backToKw pos (keywordEach [] X.env))) := by rfl) :
    PE X (.Call (.Attribute o m apos) [] [] pos) (ClX.tCMeth C sp E ta tNil) := by
  refine ⟨fun pins s σ H Q I h => ?_⟩
  refine PySem.W.methodCall_KW (pl := pl) (thn (he.run pins s σ H _ I h) fun u s1 ⟨x, H1, I1, rx, ex, q⟩ => ?_) ht
  subst ex
  obtain rfl : u = Value.ref C := rx
  refine ClX.getmethcm_ok I1 r c fun s2 I2 => ?_
  exact PySem.W.callWith_M0 (first := []) ⟨ClX.pin_at I2, I2.kIn⟩ c.fi (ClX.run_cm F hr hx I2 .nil q)
end
section
variable {X : Cx} {CX : CXT} {k : Nat} {C f : Addr} {fd : FuncData} {ps : List Str} {sp : Sp} {E : XK} {x : Str} {p pos : Pos} {e : Expr} {es : List Expr} {t : TA} {dvs : List V} {ds : List Value}
/-- x(e, ..), x a local name that holds the class C -/
def tMakeL (C : Addr) (sp : Sp) (dvs : List V) (E : XK) (i : Nat) (t : TA) : TE := fun σ H Q => σ[i]? = some (some (.ref C)) ∧ tMake C sp dvs E t σ H Q
theorem pe_makeL {i : Nat} (hN : X.N[i]? = some x) (hv : Vis X.env.scope x) (M : Mk X.K C f) (F : FnOk X.prog X.w X.K X.mg X.base CX k f fd ps sp) (hr : Room (k + 1) X.A) (hb : Binds X.K fd ps ds) (hd : Vals dvs ds) (hx : Passes CX X E)
    (ha : PA X (e :: es) t) (hdb : (x == ("__debug__" : Str)) = false := by decide) (hcd : (x == ("__classdict__" : Str)) = false := by decide) (he : starEach (e :: es) X.env = (false, eval e X.env) :: starEach es X.env := by rfl) (hpl : (backTo pos (starEach es X.env)).any (·.1) = false := by rfl) :
    PE X (.Call (.Name x p) (e :: es) [] pos) (tMakeL C sp dvs E i t) := by
  refine ⟨fun pins s σ H Q I h => ?_⟩
  obtain ⟨hs, q⟩ := h
  refine wpAny_Call_Name_kw (thn ((pe_var (pos := p) hN hv hdb hcd).run pins s σ H (fun v H' => v = .ref C ∧ tMake C sp dvs E t σ H' Q) I ⟨_, hs, rfl, q⟩) fun u s1 ⟨v, H1, I1, rv, ev, q1⟩ => ?_)
  subst ev
  obtain rfl : u = Value.ref C := rv
  refine PySem.W.callWith_K (h₀ := X.base) I1.ok.mod.kin M.kp (thn (ha.run pos pins s1 σ H1 _ I1 q1) fun us s2 ⟨vs, H2, I2, r, q2⟩ => ⟨I2.kIn, ?_⟩) he hpl
  exact run_make M F hr hb hd hx I2 r q2
/-- x(e, ..), x a def of the module, by a positional promise -/
theorem pe_callR (F : FnR X.prog X.w X.K X.mg X.base CX k f sp) (hr : Room k X.A) (hg : Gl X x) (hm : X.mg x = some (.ref f)) (hk : PySem.W.keepIn X.K (.ref f) = true) (hx : Passes CX X E) (ha : PA X (e :: es) t) (hd : (x == ("__debug__" : Str)) = false := by decide)
    (he : starEach (e :: es) X.env = (false, eval e X.env) :: starEach es X.env := by rfl) (hpl : (backTo pos (starEach es X.env)).any (·.1) = false := by rfl) :
    PE X (.Call (.Name x p) (e :: es) [] pos) (tCall sp [] E t) := by
  refine ⟨fun pins s σ H Q I h => ?_⟩
  refine wpAny_Call_Name_kw (ld_glob I hg hm ?_ hd)
  refine PySem.W.callWith_K (h₀ := X.base) I.ok.mod.kin hk (thn (ha.run pos pins s σ H _ I h) fun us s1 ⟨vs, H1, I1, r, q⟩ => ⟨I1.kIn, ?_⟩) he hpl
  have q : sp (vs ++ []) H1 Q E := q
  rw [List.append_nil] at q
  exact wpAny_call (run_fnR F hr hx I1 r q)
theorem pe_callR0 (F : FnR X.prog X.w X.K X.mg X.base CX k f sp) (hr : Room k X.A) (hg : Gl X x) (hm : X.mg x = some (.ref f)) (hk : PySem.W.keepIn X.K (.ref f) = true) (hx : Passes CX X E) (hd : (x == ("__debug__" : Str)) = false := by decide) :
    PE X (.Call (.Name x p) [] [] pos) (tCall sp [] E tNil) := by
  refine ⟨fun pins s σ H Q I h => ?_⟩
  refine wpAny_Call_Name_kw (ld_glob I hg hm ?_ hd)
  exact PySem.W.callWith_K0 I.kIn hk (wpAny_call (run_fnR (us := []) F hr hx I .nil h))
/-- the promise of a def with *args: n written parameters, then the tuple -/
def starSp (n : Nat) (sp : Sp) : Sp := fun vs H Q E => ∃ ws rest, vs = ws ++ rest ∧ ws.length = n ∧ rest.length ≤ sizeLine ∧ ∀ p, H p = Option.none → sp (ws ++ [V.ref p]) (upd H p (.tup rest)) Q E
end
open Calls in
theorem abs_K {prog : Program} {w : World} {A : Around} {E : Value → Shared → Prop} {s : Shared} {K : PySem.W.Frag} {x C L f : Addr} {h₀ : Heap} {m : Str → Option Value} {ox : Obj} {od : Option Obj} {Q : Value → Shared → Prop} (F : Fr h₀ L s.heap m) (X₀ : K.In h₀) (I : PySem.W.InstAt s.heap x ox C od) (hs : PySem.W.findIn K (.ref C) "__abs__" = some (some (.ref f))) (hf : PySem.W.isFn K (.ref f) = true)
    (h : wpAny (model prog w) A.in1 (call (.ref f) [.ref x]) Q E s) : wpAny (model prog w) A (call (.builtin "abs") [.ref x]) Q E s := by
  refine Calls.call_function_entry kind_abs plain_abs entry_abs (args_abs _) ?_
  unfold Builtin.«abs»
  refine wpAny_bind (m := oneArg "abs" _) (wpAny_pure ?_)
  refine wpAny_bind (m := callSpecial? (.ref x) (Str.ofString "__abs__")) (PySem.W.special_fn (X₀.keeps F.keep) I hs (beq_iff_eq.mp hf) (wpAny_mono h (fun r s' hr => ?_) fun _ _ y => y))
  exact wpAny_pure ⟨_, rfl, hr⟩
section
variable {X : Cx} {CX : CXT} {k : Nat} {C f : Addr} {fd : FuncData} {ps : List Str} {sp : Sp}
/-- abs(o) -/
theorem cr_ownAbs (o : OwnM X.K C "__abs__" f) (F : FnOk X.prog X.w X.K X.mg X.base CX k f fd ps sp) (hr : Room (k + 1) X.A) (hb : Binds X.K fd ps []) (hx : ∀ σ, PassesAt CX X σ E0) :
    CallR X (.builtin "abs") (fun xs H Q => ∃ a dx fs, xs = [.ref a] ∧ H a = some (.ins C dx fs) ∧ sp xs H Q (E0 : XK)) := by
  intro pins s σ H xs us Q I r h
  obtain ⟨a, dx, fs, rfl, ea, q⟩ := h
  cases r with
  | cons rx rr =>
    cases rr
    rename_i u
    obtain rfl : u = Value.ref a := rx
    obtain ⟨mA, M, _⟩ := ins_get I.hok ea
    obtain ⟨od, J, _⟩ := M.look
    obtain ⟨m, hF⟩ := I.fr
    exact abs_K hF I.ok.mod.kin J o.at_ o.fn (run_in (E := fun _ => E0) F hr.in1 rfl hb hx I (.cons rel_ref .nil) q)
end
section
variable {P : Program} {w : World} {K : PySem.W.Frag} {mg : Str → Option Value} {base : Heap} {x qual pv : Str} {st : Stmt} {f : Addr} {fd : FuncData} {N ps : List Str} {k : Nat} {sp : Sp}
theorem Fun.star0 (F : Fun K x qual st f fd) (S : FnScope N (ps ++ [pv]) (defScope st))
    (hb : ∀ (kV doc pm : Value) (an : Option Addr) (cdv ct : Value) (us rest : List Value), us.length = ps.length → bindArgs (PySem.W.fnOf x qual (defArgs st) (defBody st) (defScope st) .none kV doc pm an cdv ct) ⟨us ++ rest, []⟩ = (newTuple rest >>= fun t => pure (ps.zip us ++ [(pv, t)])))
    (hbody : ∀ (cdv : Value) (A : Around) (outer : List Env) (s : Shared) (H : Hp) (vs : List V) (Q : VK) (E : XK), Room k (A.deeper (envOfC qual (defScope st) s.heap.objs.size f cdv)) → sp vs H Q E →
      ∃ t, PSs (cxOf CX0 P w K mg base N qual (defScope st) f cdv A outer s H E).nox (defBody st) t ∧ t { nx := fun _ H' => Q .non H', rt := Q } (start N vs) H) : FnR P w K mg base CX0 (k + 1) f (starSp ps.length sp) := by
  obtain ⟨oc, od, kV, doc, pm, an, cdv, ct, osl, rfl, lk, hcd⟩ := F.ex
  refine StX.fn_star lk hcd S StX.cxUp_none (hb kV doc pm an cdv ct) fun A outer s H vs Q E hr h => ?_
  obtain ⟨t, h1, q⟩ := hbody cdv A outer s H vs Q E hr h
  exact ⟨t, h1.nox, q⟩
theorem Fun.starX (F : Fun K x qual st f fd) (S : FnScope N (ps ++ [pv]) (defScope st))
    (hb : ∀ (kV doc pm : Value) (an : Option Addr) (cdv ct : Value) (us rest : List Value), us.length = ps.length → bindArgs (PySem.W.fnOf x qual (defArgs st) (defBody st) (defScope st) .none kV doc pm an cdv ct) ⟨us ++ rest, []⟩ = (newTuple rest >>= fun t => pure (ps.zip us ++ [(pv, t)])))
    (hbody : ∀ (cdv : Value) (A : Around) (outer : List Env) (s : Shared) (H : Hp) (vs : List V) (Q : VK) (E : XK), Room k (A.deeper (envOfC qual (defScope st) s.heap.objs.size f cdv)) → sp vs H Q E →
      ∃ t, PSs (cxOf (L2.CX P w) P w K mg base N qual (defScope st) f cdv A outer s H E) (defBody st) t ∧ t { nx := fun _ H' => Q .non H', rt := Q } (start N vs) H) : FnR P w K mg base (L2.CX P w) (k + 1) f (starSp ps.length sp) := by
  obtain ⟨oc, od, kV, doc, pm, an, cdv, ct, osl, rfl, lk, hcd⟩ := F.ex
  exact StX.fn_star lk hcd S StX.cxUp (hb kV doc pm an cdv ct) fun A outer s H vs Q E hr h => hbody cdv A outer s H vs Q E hr h
end
end L2
namespace Mi
open Enc (enc)
open PySem L2 PySem.Spec PyProof.Rows
open Cf (Fresh)
section
variable {Z : Zx} {L : List (V × D)} {O : List (Addr × D)} {σ : L2.St} {α β γ δ : Type} [Enc α] [Enc β] [Enc γ] [Enc δ]
theorem zip_app {vs : List V} {ds : List D} {v : V} {d : D} : ∀ {vs : List V} {ds : List D}, vs.length = ds.length → (vs ++ [v]).zip (ds ++ [d]) = vs.zip ds ++ [(v, d)]
  | [], [], _ => rfl
  | _ :: vs, _ :: ds, h => by
    show _ :: (vs ++ [v]).zip (ds ++ [d]) = _
    rw [zip_app (vs := vs) (ds := ds) (by simpa using h)]; rfl
/-- some arguments become a tuple -/
theorem Pt.star {H : Hp} {ws rest : List V} {e1 e2 : List D} {p : Addr} (h : Pt Z ((ws ++ rest).zip (e1 ++ e2)) O H) (l1 : ws.length = e1.length) (l2 : rest.length = e2.length) (hz : rest.length ≤ 1000000) (hp : Fresh H p) : Pt Z (ws.zip e1 ++ [(.ref p, .tup e2)]) O (upd H p (.tup rest)) := by
  obtain ⟨G, F, W, h⟩ := h
  have hr : IsL Z.K Z.C G rest e2 := zip_is l2 fun x hx => h.l x (by rw [List.zip_append l1]; exact List.mem_append_right _ hx)
  refine (h.new (d := .tup e2) hp (.tup (.inl (.inl upd_same)) hz (hr.mono (.self (h.g.free hp))))).less fun x hx => ?_
  rcases List.mem_append.mp hx with e | e
  · exact List.mem_cons_of_mem _ (by rw [List.zip_append l1]; exact List.mem_append_left _ e)
  · rw [List.mem_singleton.mp e]; exact List.mem_cons_self
theorem CallN.star {K : PySem.W.Frag} {C : CT} {R : Hp → Prop} {m : M α} {H : Hp} {Q : VK} {ws rest : List V} {e1 e2 : List D} {p : Addr} (h : CallN K C R ((ws ++ rest).zip (e1 ++ e2)) m H Q) (l1 : ws.length = e1.length) (l2 : rest.length = e2.length) (hz : rest.length ≤ 1000000) (hp : Fresh H p) : CallN K C R (ws.zip e1 ++ [(.ref p, .tup e2)]) m (upd H p (.tup rest)) Q := by
  obtain ⟨G0, F0, post, px, hq, hm, k⟩ := h
  exact ⟨G0, F0, post, px, hq.star l1 l2 hz hp, hm, k⟩
theorem Call.star {K : PySem.W.Frag} {C : CT} {R : Hp → Prop} {m : M α} {H : Hp} {Q : VK} {E : XK} {ws rest : List V} {e1 e2 : List D} {p : Addr} (h : Call K C R ((ws ++ rest).zip (e1 ++ e2)) m H Q E) (l1 : ws.length = e1.length) (l2 : rest.length = e2.length) (hz : rest.length ≤ 1000000) (hp : Fresh H p) : Call K C R (ws.zip e1 ++ [(.ref p, .tup e2)]) m (upd H p (.tup rest)) Q E := by
  obtain ⟨G0, F0, post, px, hq, hm, hx, k⟩ := h
  exact ⟨G0, F0, post, px, hq.star l1 l2 hz hp, hm, hx, k⟩
/-! ### classmethods -/
theorem EV.cmN {A : Addr} {sp : Sp} {E : XK} {t : TA} {m : M γ} {ds : γ → List D} {f : γ → M α} (e : EA Z L O t σ m ds) (hc : ∀ g vs H Q, vs.length = (ds g).length → CallN Z.K Z.C R0 (vs.zip (ds g)) (f g) H Q → sp (.ref A :: vs) H Q E) : EV Z L O (ClX.tCMeth A sp E (tC (.ref A)) t) σ (mb m f) := fun L1 H post px Q s hp hx hm k =>
  ⟨rfl, e L1 H _ px _ s hp hx hm fun g vs H1 h1 hp1 hm1 => hc g vs H1 Q h1 (call_n hp1 hm1 k)⟩
theorem EV.cmX {A : Addr} {sp : Sp} {t : TA} {m : M γ} {ds : γ → List D} {f : γ → M α} (e : EA Z L O t σ m ds) (hc : ∀ g vs H Q, vs.length = (ds g).length → Call Z.K Z.C R0 (vs.zip (ds g)) (f g) H Q Z.E → sp (.ref A :: vs) H Q Z.E) : EV Z L O (ClX.tCMeth A sp Z.E (tC (.ref A)) t) σ (mb m f) := fun L1 H post px Q s hp hx hm k =>
  ⟨rfl, e L1 H _ px _ s hp hx hm fun g vs H1 h1 hp1 hm1 => hc g vs H1 Q h1 (call_x hp1 hx hm1 k)⟩
theorem EV.cmF {A : Addr} {sp : Sp} {E : XK} {t : TA} {m : M γ} {ds : γ → List D} {f : γ → M α} (e : EA Z L O t σ m ds) (hc : ∀ g vs H Q, vs.length = (ds g).length → Call Z.K Z.C R0 (vs.zip (ds g)) (f g) H Q E → sp (.ref A :: vs) H Q E) : EV Z L O (ClX.tCMeth A sp E (tC (.ref A)) t) σ (mb m fun g => mno (f g)) := fun L1 H post px Q s hp hx hm k =>
  ⟨rfl, e L1 H _ px _ s hp hx hm fun g vs H1 h1 hp1 hm1 => hc g vs H1 Q h1 (call_f (px := px) hp1 hm1 k)⟩
/-- abs(o), len(o): a built-in by an own special method -/
theorem EV.ownU {c : Str} {A : Addr} {sp : Sp} {ta : TE} {m : M α} {k : α → M β} (e : EV Z L O ta σ m) (ha : Z.C c = some A) (ho : ∀ a : α, ObjIs c (enc a)) (hc : ∀ (a : α) (x : V) (H : Hp) (Q : VK), CallN Z.K Z.C R0 [(x, enc a)] (k a) H Q → sp [x] H Q (E0 : XK)) :
    EV Z L O (tCB (fun xs H Q => ∃ a dx fs, xs = [.ref a] ∧ H a = some (.ins A dx fs) ∧ sp xs H Q (E0 : XK)) (tCons ta tNil)) σ (mb m k) := fun L1 H post px Q s hp hx hm kk =>
  e L1 H _ px _ s hp hx hm fun a x H1 hp1 hm1 => by
    obtain ⟨G, F, W, h1⟩ := id hp1
    obtain ⟨p, dx, fs, rfl, ea⟩ := h1.ins List.mem_cons_self ha (ho a)
    exact ⟨p, dx, fs, rfl, ea, hc a _ H1 Q (call_n (ps := [(.ref p, enc a)]) (L1 := L1) hp1 hm1 kk)⟩
theorem hcC0 {K : PySem.W.Frag} {C : CT} {R : Hp → Prop} {A : Addr} {sp : Sp} {E : XK} {m : M α} (k : ∀ (H : Hp) (Q : VK), CallN K C R [] m H Q → sp (.ref A :: []) H Q E) : ∀ (vs : List V) (H : Hp) (Q : VK), vs.length = ([] : List D).length → CallN K C R (vs.zip []) m H Q → sp (.ref A :: vs) H Q E := fun vs H Q hl h => match vs, hl, h with | [], _, h => k H Q h
theorem hcD0 {K : PySem.W.Frag} {C : CT} {R : Hp → Prop} {A : Addr} {sp : Sp} {E : XK} {m : M α} (k : ∀ (H : Hp) (Q : VK), Call K C R [] m H Q E → sp (.ref A :: []) H Q E) : ∀ (vs : List V) (H : Hp) (Q : VK), vs.length = ([] : List D).length → Call K C R (vs.zip []) m H Q E → sp (.ref A :: vs) H Q E := fun vs H Q hl h => match vs, hl, h with | [], _, h => k H Q h
theorem hcC1 {K : PySem.W.Frag} {C : CT} {R : Hp → Prop} {A : Addr} {sp : Sp} {E : XK} {m : M α} {d0 : D} (k : ∀ (v0 : V) (H : Hp) (Q : VK), CallN K C R [(v0, d0)] m H Q → sp (.ref A :: [v0]) H Q E) : ∀ (vs : List V) (H : Hp) (Q : VK), vs.length = ([d0] : List D).length → CallN K C R (vs.zip [d0]) m H Q → sp (.ref A :: vs) H Q E := fun vs H Q hl h => match vs, hl, h with | [v0], _, h => k v0 H Q h
theorem hcD1 {K : PySem.W.Frag} {C : CT} {R : Hp → Prop} {A : Addr} {sp : Sp} {E : XK} {m : M α} {d0 : D} (k : ∀ (v0 : V) (H : Hp) (Q : VK), Call K C R [(v0, d0)] m H Q E → sp (.ref A :: [v0]) H Q E) : ∀ (vs : List V) (H : Hp) (Q : VK), vs.length = ([d0] : List D).length → Call K C R (vs.zip [d0]) m H Q E → sp (.ref A :: vs) H Q E := fun vs H Q hl h => match vs, hl, h with | [v0], _, h => k v0 H Q h
theorem hcC2 {K : PySem.W.Frag} {C : CT} {R : Hp → Prop} {A : Addr} {sp : Sp} {E : XK} {m : M α} {d0 d1 : D} (k : ∀ (v0 v1 : V) (H : Hp) (Q : VK), CallN K C R [(v0, d0), (v1, d1)] m H Q → sp (.ref A :: [v0, v1]) H Q E) : ∀ (vs : List V) (H : Hp) (Q : VK), vs.length = ([d0, d1] : List D).length → CallN K C R (vs.zip [d0, d1]) m H Q → sp (.ref A :: vs) H Q E := fun vs H Q hl h => match vs, hl, h with | [v0, v1], _, h => k v0 v1 H Q h
theorem hcD2 {K : PySem.W.Frag} {C : CT} {R : Hp → Prop} {A : Addr} {sp : Sp} {E : XK} {m : M α} {d0 d1 : D} (k : ∀ (v0 v1 : V) (H : Hp) (Q : VK), Call K C R [(v0, d0), (v1, d1)] m H Q E → sp (.ref A :: [v0, v1]) H Q E) : ∀ (vs : List V) (H : Hp) (Q : VK), vs.length = ([d0, d1] : List D).length → Call K C R (vs.zip [d0, d1]) m H Q E → sp (.ref A :: vs) H Q E := fun vs H Q hl h => match vs, hl, h with | [v0, v1], _, h => k v0 v1 H Q h
theorem hcC3 {K : PySem.W.Frag} {C : CT} {R : Hp → Prop} {A : Addr} {sp : Sp} {E : XK} {m : M α} {d0 d1 d2 : D} (k : ∀ (v0 v1 v2 : V) (H : Hp) (Q : VK), CallN K C R [(v0, d0), (v1, d1), (v2, d2)] m H Q → sp (.ref A :: [v0, v1, v2]) H Q E) : ∀ (vs : List V) (H : Hp) (Q : VK), vs.length = ([d0, d1, d2] : List D).length → CallN K C R (vs.zip [d0, d1, d2]) m H Q → sp (.ref A :: vs) H Q E := fun vs H Q hl h => match vs, hl, h with | [v0, v1, v2], _, h => k v0 v1 v2 H Q h
theorem hcD3 {K : PySem.W.Frag} {C : CT} {R : Hp → Prop} {A : Addr} {sp : Sp} {E : XK} {m : M α} {d0 d1 d2 : D} (k : ∀ (v0 v1 v2 : V) (H : Hp) (Q : VK), Call K C R [(v0, d0), (v1, d1), (v2, d2)] m H Q E → sp (.ref A :: [v0, v1, v2]) H Q E) : ∀ (vs : List V) (H : Hp) (Q : VK), vs.length = ([d0, d1, d2] : List D).length → Call K C R (vs.zip [d0, d1, d2]) m H Q E → sp (.ref A :: vs) H Q E := fun vs H Q hl h => match vs, hl, h with | [v0, v1, v2], _, h => k v0 v1 v2 H Q h
theorem hcC4 {K : PySem.W.Frag} {C : CT} {R : Hp → Prop} {A : Addr} {sp : Sp} {E : XK} {m : M α} {d0 d1 d2 d3 : D} (k : ∀ (v0 v1 v2 v3 : V) (H : Hp) (Q : VK), CallN K C R [(v0, d0), (v1, d1), (v2, d2), (v3, d3)] m H Q → sp (.ref A :: [v0, v1, v2, v3]) H Q E) : ∀ (vs : List V) (H : Hp) (Q : VK), vs.length = ([d0, d1, d2, d3] : List D).length → CallN K C R (vs.zip [d0, d1, d2, d3]) m H Q → sp (.ref A :: vs) H Q E := fun vs H Q hl h => match vs, hl, h with | [v0, v1, v2, v3], _, h => k v0 v1 v2 v3 H Q h
theorem hcD4 {K : PySem.W.Frag} {C : CT} {R : Hp → Prop} {A : Addr} {sp : Sp} {E : XK} {m : M α} {d0 d1 d2 d3 : D} (k : ∀ (v0 v1 v2 v3 : V) (H : Hp) (Q : VK), Call K C R [(v0, d0), (v1, d1), (v2, d2), (v3, d3)] m H Q E → sp (.ref A :: [v0, v1, v2, v3]) H Q E) : ∀ (vs : List V) (H : Hp) (Q : VK), vs.length = ([d0, d1, d2, d3] : List D).length → Call K C R (vs.zip [d0, d1, d2, d3]) m H Q E → sp (.ref A :: vs) H Q E := fun vs H Q hl h => match vs, hl, h with | [v0, v1, v2, v3], _, h => k v0 v1 v2 v3 H Q h
theorem hcC5 {K : PySem.W.Frag} {C : CT} {R : Hp → Prop} {A : Addr} {sp : Sp} {E : XK} {m : M α} {d0 d1 d2 d3 d4 : D} (k : ∀ (v0 v1 v2 v3 v4 : V) (H : Hp) (Q : VK), CallN K C R [(v0, d0), (v1, d1), (v2, d2), (v3, d3), (v4, d4)] m H Q → sp (.ref A :: [v0, v1, v2, v3, v4]) H Q E) : ∀ (vs : List V) (H : Hp) (Q : VK), vs.length = ([d0, d1, d2, d3, d4] : List D).length → CallN K C R (vs.zip [d0, d1, d2, d3, d4]) m H Q → sp (.ref A :: vs) H Q E := fun vs H Q hl h => match vs, hl, h with | [v0, v1, v2, v3, v4], _, h => k v0 v1 v2 v3 v4 H Q h
theorem hcD5 {K : PySem.W.Frag} {C : CT} {R : Hp → Prop} {A : Addr} {sp : Sp} {E : XK} {m : M α} {d0 d1 d2 d3 d4 : D} (k : ∀ (v0 v1 v2 v3 v4 : V) (H : Hp) (Q : VK), Call K C R [(v0, d0), (v1, d1), (v2, d2), (v3, d3), (v4, d4)] m H Q E → sp (.ref A :: [v0, v1, v2, v3, v4]) H Q E) : ∀ (vs : List V) (H : Hp) (Q : VK), vs.length = ([d0, d1, d2, d3, d4] : List D).length → Call K C R (vs.zip [d0, d1, d2, d3, d4]) m H Q E → sp (.ref A :: vs) H Q E := fun vs H Q hl h => match vs, hl, h with | [v0, v1, v2, v3, v4], _, h => k v0 v1 v2 v3 v4 H Q h
theorem ET.truL {t : TE} {m : M (List α)} (e : EV Z L O t σ m) : ET Z L O (Cf.tTru Z.K t) σ (mb m fun a => mr (!a.isEmpty)) := fun L1 H post px Q s hp hx hm k => e L1 H _ px _ s hp hx hm fun a v H' hp' hb => by
  have hp0 := hp'
  obtain ⟨G, F, W, h⟩ := hp'
  obtain ⟨q, ys, rfl, e1, l1, t1⟩ := is_lst h.x0
  have n := t1.len
  rw [List.length_map] at n
  refine ⟨_, .inl ⟨ys, .inl (.inl (h.g _ _ e1)), rfl⟩, ?_⟩
  have z : (!ys.isEmpty) = !a.isEmpty := by cases ys <;> cases a <;> simp_all
  rw [z]
  exact k _ H' hp0.tail hb
theorem ET.truLP {t : TE} {a : List α} (e : EV Z L O t σ (mr a)) : ET Z L O (Cf.tTru Z.K t) σ (mr (!a.isEmpty)) := ET.truL e
/-- cls(..) -/
theorem EV.makeL {A : Addr} {sp : Sp} {dvs : List V} {E : XK} {ta : TA} {i : Nat} {m : M α} (h : σ[i]? = some (some (.ref A))) (e : EV Z L O (tMake A sp dvs E ta) σ m) : EV Z L O (tMakeL A sp dvs E i ta) σ m := fun L1 H post px Q s hp hx hm k => ⟨h, e L1 H post px Q s hp hx hm k⟩
/-! ### one's own list is changed -/
def mset {α : Type} (xs : List α) (i : Int) (a : α) : M (List α) := match ixN xs.length i with
  | some j => mr (xs.set j a)
  | none => mstuck
def minsert {α : Type} (xs : List α) (i : Int) (a : α) : M (List α) := mreq (xs.length < 1000000 ∧ 0 ≤ i ∧ i ≤ 1000000) (mr (xs.take i.toNat ++ [a] ++ xs.drop i.toNat))
def rIns : V → List V → Hp → VK → Prop := fun x vs H Q => ∃ (l : Addr) (xs : List V) (i : Int) (y : V), x = .ref l ∧ vs = [.int i, y] ∧ H l = some (.lst xs) ∧ xs.length < sizeLine ∧ 0 ≤ i ∧ i < 2 ^ 63 ∧ Q .non (upd H l (.lst (xs.take i.toNat ++ [y] ++ xs.drop i.toNat)))
theorem mt_insertM {X : Cx} : MtR X "list.insert" rIns := mt_insert
section
variable {nx : L2.St → Hp → Prop} {rt : VK} {bk ct : L2.St → Hp → Prop} {H : Hp} {px : Exn → Prop} {ρ : Type} {post : ρ → Prop}
theorem s_setIx {te ti : TE} {p : Addr} {O' : List α → List (Addr × D)} {i : Nat} {m : M α} {mi : M Int} {xs : List α} {k : List α → M ρ} (hi : σ[i]? = some (some (.ref p))) (hmem : (p, enc xs) ∈ O) (hp : Pt Z L O H) (hx : HX Z px) (hm : (mb m fun a => mb mi fun j => mb (mset xs j a) k) post px) (e : EV Z L O te σ m) (e2 : EV Z L O ti σ mi)
    (u : ∀ ys : List α, Up p (enc xs) (enc ys) O (O' ys)) (c : ∀ ys H', Pt Z L (O' ys) H' → k ys post px → nx σ H') : tAsg te (gSub (tVar i) ti Cf.rSett) ⟨nx, rt, bk, ct⟩ σ H := by
  refine e L H _ px _ sub_refl' hp hx hm fun a v H1 hp1 hm1 => ⟨_, hi, ?_⟩
  refine e2 _ H1 _ px _ (sub_cons sub_refl') hp1 hx hm1 fun j w H2 hp2 hm2 => ?_
  obtain rfl := is_int hp2.hd
  obtain ⟨ho, G, e1, c1, e3, e4⟩ := hp2.at hmem
  obtain ⟨vs, rfl, l, t⟩ := is_cell c1
  have n := t.len
  rw [List.length_map] at n
  have hm2 : mb (mset xs j a) k post px := hm2
  unfold mset at hm2
  cases ej : ixN xs.length j with
  | none => rw [ej] at hm2; exact hm2.elim
  | some z =>
    rw [ej] at hm2
    refine .inl ⟨p, vs, j, z, rfl, rfl, e1, by rw [n]; exact ej, c (xs.set z a) _ ((hp2.put (o := .lst (vs.set z v)) (u (xs.set z a)) fun G' hG ho hh hc => ?_).less fun x hx => List.mem_cons_of_mem _ (List.mem_cons_of_mem _ hx)) hm2⟩
    rw [e1] at hh
    cases hh
    obtain ⟨ws, e, l', t'⟩ := is_cell hc
    cases e
    have hv := hG (v, enc a) (List.mem_cons_of_mem _ List.mem_cons_self)
    show Cell _ _ _ _ (.lst ((xs.set z a).map enc))
    rw [List.map_set]
    exact .lst (by rw [List.length_set]; exact l') (t'.set z hv)
theorem s_setCopy {ta : TE} {i : Nat} {m : M (List α)} {k : List α → M ρ} (S : Addr → L2.St) (hS : ∀ p, σ.set i (some (.ref p)) = S p) (hp : Pt Z L O H) (hx : HX Z px) (hm : mb m k post px) (e1 : EV Z L O ta σ m)
    (c : ∀ a p H', Pt Z L ((p, enc a) :: O) H' → k a post px → nx (S p) H') : tAsg (tCB (Cf.rListOf Z.K) (tCons ta tNil)) (gName i) ⟨nx, rt, bk, ct⟩ σ H :=
  e1 L H _ px _ sub_refl' hp hx hm fun a x H1 hp1 hm1 => by
    obtain ⟨G, F, W, h⟩ := hp1
    obtain ⟨q, ys, rfl, e1, l1, t1⟩ := is_lst h.x0
    refine ⟨q, ys, rfl, .inl (.inl (.inl (h.g _ _ e1))), fun r hr => ?_⟩
    show nx (σ.set i (some (.ref r))) _
    rw [hS r]
    have z : Pt Z L ((r, enc a) :: O) (upd H1 r (.lst ys)) := by
      have q := PtS.own' h hr (o := .lst ys) (d := .lst (a.map enc)) (.lst l1 t1)
      exact q.less fun x hx => .tail _ hx
    exact c a r _ z hm1
theorem s_insert {ta ti : TE} {p : Addr} {O' : List α → List (Addr × D)} {i : Nat} {m : M α} {mi : M Int} {xs : List α} {k : List α → M ρ} (hi : σ[i]? = some (some (.ref p))) (hmem : (p, enc xs) ∈ O) (hp : Pt Z L O H) (hx : HX Z px) (hm : (mb mi fun j => mb m fun a => mb (minsert xs j a) k) post px) (e2 : EV Z L O ti σ mi) (e : EV Z L O ta σ m)
    (u : ∀ ys : List α, Up p (enc xs) (enc ys) O (O' ys)) (c : ∀ ys H', Pt Z L (O' ys) H' → k ys post px → nx σ H') : tDrop (tBM Z.K "list" rIns (tVar i) (tCons ti (tCons ta tNil))) ⟨nx, rt, bk, ct⟩ σ H := by
  refine ⟨_, hi, ?_, ?_⟩
  · obtain ⟨G, F, W, h⟩ := hp
    obtain ⟨ho, e1, e2, e3⟩ := h.o _ hmem
    obtain ⟨vs, rfl, l, t⟩ := is_cell e3
    exact .inl ⟨rfl, vs, .inl (.inl (h.f _ _ e1))⟩
  · refine e2 L H _ px _ sub_refl' hp hx hm fun j w H1 hp1 hm1 => e _ H1 _ px _ (sub_cons sub_refl') hp1 hx hm1 fun a v H2 hp2 hm2 => ?_
    obtain rfl := is_int hp2.hd2
    obtain ⟨⟨q1, q2, q3⟩, hm2⟩ := hm2
    obtain ⟨ho, G, e1, c1, e3, e4⟩ := hp2.at hmem
    obtain ⟨vs, rfl, l, t⟩ := is_cell c1
    have n := t.len
    rw [List.length_map] at n
    refine ⟨p, vs, j, v, rfl, rfl, e1, by rw [n]; exact Nat.lt_of_lt_of_le q1 (by rw [sizeLine_eq]; decide), q2, Int.lt_of_le_of_lt q3 (by decide), c (xs.take j.toNat ++ [a] ++ xs.drop j.toNat) _ ((hp2.put (o := .lst (vs.take j.toNat ++ [v] ++ vs.drop j.toNat)) (u _) fun G' hG ho hh hc => ?_).less fun x hx => List.mem_cons_of_mem _ (List.mem_cons_of_mem _ hx)) hm2⟩
    rw [e1] at hh
    cases hh
    obtain ⟨ws, e, l', t'⟩ := is_cell hc
    cases e
    have hv := hG (v, enc a) List.mem_cons_self
    show Cell _ _ _ _ (.lst ((xs.take j.toNat ++ [a] ++ xs.drop j.toNat).map enc))
    rw [List.map_append, List.map_append, List.map_take, List.map_drop]
    refine .lst ?_ (((t'.take _).app (.cons hv .nil)).app (t'.drop _))
    simp only [List.length_append, List.length_take, List.length_drop, List.length_cons, List.length_nil]
    omega
end
end
end Mi

/-! bool(o), isinstance of own objects -/
namespace L2
open PySem PySem.Spec PyProof.Rows
theorem bool_new_own {prog : Program} {w : World} (x : Addr) : MeetsIn prog w (Builtin.«bool.__new__» ⟨[.type "bool", .ref x], []⟩) (fun A R s => wpAny (model prog w) A.in1 (truthy (.ref x)) (fun b s' => R (.ok (.ret (.bool b))) s') (fun e s' => R (.error e) s') s) :=
  .of_wp fun A R s h => by
    have f1 := F.conv_sub_bool
    obtain ⟨hp, g, d, tk, os⟩ := s
    repeat (any_goals (first | assumption | (with_reducible refine wpAny_bind (wpAny_mono h (fun b s' hb => ?_) fun _ _ y => y)) | wp_step))
    all_goals first | exact ⟨_, rfl, hb⟩ | skip
theorem bool_K {prog : Program} {w : World} {A : Around} {E : Value → Shared → Prop} {s : Shared} {K : PySem.W.Frag} {x C f : Addr} {ox : Obj} {od : Option Obj} {Q : Value → Shared → Prop} (X : K.In s.heap) (I : PySem.W.InstAt s.heap x ox C od) (hs : PySem.W.findIn K (.ref C) "__bool__" = some (some (.ref f))) (hf : PySem.W.isFn K (.ref f) = true)
    (h : wpAny (model prog w) A.in1.in1 (call (.ref f) [.ref x]) (PySem.W.BoolBack fun b s1 => Q (.bool b) s1) E s) : wpAny (model prog w) A (call (.type "bool") [.ref x]) Q E s := by
  refine callType_newIn F.called_bool F.newNe_bool (F.typeCall_bool_1 _) (F.newCall_bool_1 _) (fun obj => F.args_object_init_2 obj _) F.entry_bool_new (bool_new_own x) ?_
  show wpAny _ A.in1.in1 (truthy (.ref x)) _ _ s
  unfold truthy
  refine wpAny_bind (m := callSpecial? (.ref x) (Str.ofString "__bool__")) (PySem.W.special_fn X I hs (beq_iff_eq.mp hf) (wpAny_mono h (fun r s' hr => ?_) fun _ _ y => y))
  cases r <;> first | exact hr.elim | skip
  exact wpAny_pure ⟨rfl, hr⟩
section
variable {X : Cx} {CX : CXT} {k : Nat} {C f : Addr} {fd : FuncData} {ps : List Str} {sp : Sp}
/-- bool(o) -/
theorem cr_ownBool (o : OwnM X.K C "__bool__" f) (F : FnOk X.prog X.w X.K X.mg X.base CX k f fd ps sp) (hr : Room (k + 2) X.A) (hb : Binds X.K fd ps []) (hx : ∀ σ, PassesAt CX X σ E0) :
    CallR X (.type "bool") (fun xs H Q => ∃ a dx fs, xs = [.ref a] ∧ H a = some (.ins C dx fs) ∧ sp xs H (fun r H' => ∃ z, r = .bl z ∧ Q (.bl z) H') (E0 : XK)) := by
  intro pins s σ H xs us Q I r h
  obtain ⟨a, dx, fs, rfl, ea, q⟩ := h
  cases r with
  | cons rx rr =>
    cases rr
    rename_i u
    obtain rfl : u = Value.ref a := rx
    obtain ⟨mA, M, _⟩ := ins_get I.hok ea
    obtain ⟨od, J, _⟩ := M.look
    refine bool_K I.kIn J o.at_ o.fn (wpAny_mono (run_in (E := fun _ => E0) F hr.in1.in1 rfl hb hx I (.cons rel_ref .nil) q) (fun r s' hq => ?_) fun _ _ z => z)
    obtain ⟨v, H', I', rv, z, rfl, hq⟩ := hq
    obtain rfl := id rv
    exact ⟨.bl z, H', I', rfl, hq⟩
end
end L2
namespace Mi
open Enc (enc)
open PySem L2 PySem.Spec PyProof.Rows
open Cf (Fresh)
section
variable {Z : Zx} {L : List (V × D)} {O : List (Addr × D)} {σ : L2.St} {α β γ δ : Type} [Enc α] [Enc β] [Enc γ] [Enc δ]
/-- bool(o) -/
theorem EV.ownB {c : Str} {A : Addr} {sp : Sp} {ta : TE} {m : M α} {k : α → M Bool} (e : EV Z L O ta σ m) (ha : Z.C c = some A) (ho : ∀ a : α, ObjIs c (enc a)) (hc : ∀ (a : α) (x : V) (H : Hp) (Q : VK), CallN Z.K Z.C R0 [(x, enc a)] (k a) H Q → sp [x] H Q (E0 : XK)) :
    EV Z L O (tCB (fun xs H Q => ∃ a dx fs, xs = [.ref a] ∧ H a = some (.ins A dx fs) ∧ sp xs H (fun r H' => ∃ z, r = .bl z ∧ Q (.bl z) H') (E0 : XK)) (tCons ta tNil)) σ (mb m k) := fun L1 H post px Q s hp hx hm kk =>
  e L1 H _ px _ s hp hx hm fun a x H1 hp1 hm1 => by
    obtain ⟨G, F, W, h1⟩ := id hp1
    obtain ⟨p, dx, fs, rfl, ea⟩ := h1.ins List.mem_cons_self ha (ho a)
    refine ⟨p, dx, fs, rfl, ea, hc a _ H1 _ (call_n (ps := [(.ref p, enc a)]) (L1 := L1) hp1 hm1 fun b v H2 hp2 hb => ?_)⟩
    have hv := hp2.hd
    cases hv
    exact ⟨b, rfl, kk b _ H2 hp2 hb⟩
/-- bool(a list) -/
theorem EV.boolL {ta : TE} {m : M (List α)} (e : EV Z L O ta σ m) : EV Z L O (tCB (fun xs H Q => ∃ (a : Addr) (zs : List V), xs = [.ref a] ∧ SqL Z.K H a zs ∧ Q (.bl (!zs.isEmpty)) H) (tCons ta tNil)) σ (mb m fun a => mr (!a.isEmpty)) := fun L1 H post px Q s hp hx hm k => e L1 H _ px _ s hp hx hm fun a v H' hp' hb => by
  have hp0 := hp'
  obtain ⟨G, F, W, h⟩ := hp'
  obtain ⟨q, ys, rfl, e1, l1, t1⟩ := is_lst h.x0
  have n := t1.len
  rw [List.length_map] at n
  refine ⟨q, ys, rfl, .inl (.inl (h.g _ _ e1)), ?_⟩
  have z : (!ys.isEmpty) = !a.isEmpty := by cases ys <;> cases a <;> simp_all
  rw [z]
  exact k _ _ H' (hp0.tail.add fun G _ => .bl _) hb
theorem EV.boolLP {ta : TE} {a : List α} (e : EV Z L O ta σ (mr a)) : EV Z L O (tCB (fun xs H Q => ∃ (a : Addr) (zs : List V), xs = [.ref a] ∧ SqL Z.K H a zs ∧ Q (.bl (!zs.isEmpty)) H) (tCons ta tNil)) σ (mr (!a.isEmpty)) := EV.boolL e
/-- isinstance(o, its class) -/
theorem EV.isC {c : Str} {A : Addr} {ta : TE} {m : M α} (e : EV Z L O ta σ m) (ha : Z.C c = some A) (ho : ∀ a : α, ObjIs c (enc a)) : EV Z L O (tCB (fun xs H Q => ∃ a dx fs, xs = [.ref a, .ref A] ∧ H a = some (.ins A dx fs) ∧ Q (.bl true) H) (tCons ta (tCons (tC (.ref A)) tNil))) σ (mb m fun _ => mr true) := fun L1 H post px Q s hp hx hm kk =>
  e L1 H _ px _ s hp hx hm fun a x H1 hp1 hm1 => by
    obtain ⟨G, F, W, h1⟩ := id hp1
    obtain ⟨p, dx, fs, rfl, ea⟩ := h1.ins List.mem_cons_self ha (ho a)
    exact ⟨p, dx, fs, rfl, ea, kk true _ H1 (hp1.tail.add fun G _ => .bl _) hm1⟩
theorem EV.isCP {c : Str} {A : Addr} {ta : TE} {a : α} (e : EV Z L O ta σ (mr a)) (ha : Z.C c = some A) (ho : ∀ a : α, ObjIs c (enc a)) : EV Z L O (tCB (fun xs H Q => ∃ a dx fs, xs = [.ref a, .ref A] ∧ H a = some (.ins A dx fs) ∧ Q (.bl true) H) (tCons ta (tCons (tC (.ref A)) tNil))) σ (mr true) := EV.isC e ha ho
end
end Mi

/-! int * o by the class's own __rmul__ -/
namespace L2
open PySem PySem.Spec PyProof.Rows
theorem int_mul_ref {prog : Program} {w : World} (a : Int) (t : Tok) (x C dx : Addr) : MeetsIn prog w (Builtin.«int.__mul__» ⟨[.int a t, .ref x], []⟩) (fun A R s => s.heap.get? x = some (PySem.W.instObj C dx) ∧ R (.ok (.ret .notImplemented)) s) :=
  .of_wp fun A R s hs => by
    obtain ⟨ho, h⟩ := hs
    obtain ⟨hp, g, d, tk, os⟩ := s
    repeat (any_goals (first | assumption | (with_reducible refine wpAny_bind (wpAny_load' ho ?_)) | (with_reducible refine wpAny_load' ho ?_) | wp_step))
    all_goals exact ⟨_, rfl, h⟩
end L2
namespace PySem.W
open Lean Elab Tactic Meta PySem PySem.Calls PyProof.Rows
section
variable {prog : Program} {w : World} {A : Around} {E : Value → Shared → Prop} {s : Shared} {K : Frag} {x C L f fm dx : Addr} {h₀ : Heap} {m : Str → Option Value} {ox : Obj} {od : Option Obj}
theorem int_try {i : Int} {t : Tok} {Q : Option Value → Shared → Prop} (ho : s.heap.get? x = some (instObj C dx)) (h : Q none s) : wpAny (model prog w) A (tryMethod (.int i t) (PySem.dunder "mul") (.ref x)) Q E s := by
  unfold tryMethod
  refine wpAny_bind (wpAny_callSpecial?_slot (typeIs_int s i t) F.slot_int_mul (call_meetsIn F.slot_int_mul (typeIs_int s i t) F.entry_int_mul (F.args_int_mul_2 _ _) (L2.int_mul_ref i t x C dx) ⟨ho, ?_⟩))
  exact wpAny_pure h
theorem rbin_mul {i : Int} {t : Tok} {fo ro : Option Value} {Q : Value → Shared → Prop} (F : Fr h₀ L s.heap m) (X₀ : K.In h₀) (I : InstAt s.heap x ox C od) (ho : s.heap.get? x = some (instObj C dx)) (hc : selfFirst K C = true)
    (hs : findIn K (.ref C) (PySem.dunder "mul") = some (some (.ref fm))) (hr : findIn K (.ref C) (dunderR "mul") = some (some (.ref f))) (hf : isFn K (.ref f) = true)
    (h1 : findIn K (.type "int") (PySem.dunder "mul") = some fo) (h2 : findIn K (.type "int") (dunderR "mul") = some ro) (hsub : subIn K (.ref C) (.type "int") = some false)
    (h : wpAny (model prog w) A (call (.ref f) [.ref x, .int i t]) (CmpBack Q) E s) : wpAny (model prog w) A (binaryOp .Mult (.int i t) (.ref x)) Q E s := by
  have X := X₀.keeps F.keep
  obtain ⟨cd, rest, hcd, hm⟩ := ksp_first hc
  have one := ksp_try X I hr hf h
  have zero : ∀ Q : Option Value → Shared → Prop, Q none s → wpAny (model prog w) A (tryMethod (.int i t) (PySem.dunder "mul") (.ref x)) Q E s := fun Q q => int_try ho q
  obtain ⟨hh, g, d, tt, os⟩ := s
  have L1 : Looks (model prog w) hh (typeOf (.ref x)) (.ref C) := I.type
  have L2 : Looks (model prog w) hh (typeOf (.int i t)) (.type "int") := Looks.of_pure rfl
  have L3 : Looks (model prog w) hh (fillsNumberSlot (.ref C) "mul") true := fills_K X hcd hm hs
  have L4 : Looks (model prog w) hh (fillsNumberSlot (.type "int") "mul") ((fo.isSome && !isSeqSlot fo) || (ro.isSome && !isSeqSlot ro)) := ksp_fillsT X h1 h2
  have L5 : Looks (model prog w) hh (isSubtype (.ref C) (.type "int")) false := looks_subIn X hsub
  have L7 : Looks (model prog w) hh (numberSlotInPython (.type "int") "mul") false := Looks.of_pure rfl
  generalize ((fo.isSome && !isSeqSlot fo) || (ro.isSome && !isSeqSlot ro)) = left at L4
  have hne : (Value.type "int" == Value.ref C) = false := Bool.eq_false_iff.mpr fun q => by cases beq_iff_eq.mp q
  simp only [binaryOp, Operator.info]
  refine wpAny_holding (wpAny_bind ?_)
  unfold binaryOp1
  refine wpAny_bind (L2.at (wpAny_bind (L1.at (wpAny_bind (L4.at ?_)))))
  simp only [hne, Bool.false_eq_true, if_false]
  cases left with
  | false =>
    ksp_lk
    refine wpAny_mono one (fun r s' hr' => ?_) fun _ _ e => e
    obtain ⟨v, rfl, hq⟩ := hr'
    ksp_lk
    exact hq
  | true =>
    ksp_lk
    refine zero _ ?_
    ksp_lk
    refine wpAny_mono one (fun r s' hr' => ?_) fun _ _ e => e
    obtain ⟨v, rfl, hq⟩ := hr'
    ksp_lk
    exact hq
end
end PySem.W

namespace L2
open PySem PySem.Spec PyProof.Rows
section
variable {X : Cx} {CX : CXT} {k : Nat} {C f : Addr} {fd : FuncData} {ps : List Str} {sp : Sp} {E : St → XK}
def rOwnR (C : Addr) (sp : Sp) (E : St → XK) : St → R2 := fun σ x y H Q => ∃ a dx fs i, x = .int i ∧ y = .ref a ∧ H a = some (.ins C dx fs) ∧ sp [y, x] H Q (E σ)
/-- what is asked of the class for int * o -/
structure OwnR (K : PySem.W.Frag) (C f : Addr) : Prop where
  m : OwnM K C (dunderR "mul") f
  first : PySem.W.selfFirst K C = true
  mul : ∃ fm : Addr, PySem.W.findIn K (.ref C) (PySem.dunder "mul") = some (some (.ref fm))
  t1 : ∃ fo, PySem.W.findIn K (.type "int") (PySem.dunder "mul") = some fo
  t2 : ∃ ro, PySem.W.findIn K (.type "int") (dunderR "mul") = some ro
  sub : PySem.W.subIn K (.ref C) (.type "int") = some false
theorem op_ownR (o : OwnR X.K C f) (F : FnOk X.prog X.w X.K X.mg X.base CX k f fd ps sp) (hr : Room k X.A) (hb : Binds X.K fd ps []) (hx : ∀ σ, PassesAt CX X σ (E σ)) : OpRS X (binaryOp .Mult) (rOwnR C sp E) := by
  intro pins s σ H x y u v Q I rx ry h
  obtain ⟨a, dx, fs, i, rfl, rfl, ea, q⟩ := h
  obtain rfl : v = Value.ref a := ry
  obtain ⟨t, rfl⟩ := id rx
  obtain ⟨mA, M, _⟩ := ins_get I.hok ea
  obtain ⟨od, J, _⟩ := M.look
  obtain ⟨m, hF⟩ := I.fr
  obtain ⟨fm, h0⟩ := o.mul
  obtain ⟨fo, h3⟩ := o.t1
  obtain ⟨ro, h4⟩ := o.t2
  exact PySem.W.rbin_mul hF I.ok.mod.kin J M.obj o.first h0 o.m.at_ o.m.fn h3 h4 o.sub (wpAny_mono (run_own F hr hb hx I (.cons rel_ref (.cons rx .nil)) q) (fun _ _ hq => cmpBack_of hq) fun _ _ z => z)
end
end L2
namespace Mi
open Enc (enc)
open PySem L2 PySem.Spec PyProof.Rows
open Cf (Fresh)
section
variable {Z : Zx} {L : List (V × D)} {O : List (Addr × D)} {σ : L2.St} {α β γ δ : Type} [Enc α] [Enc β] [Enc γ] [Enc δ]
theorem EV.ownRN {c : Str} {A : Addr} {sp : Sp} {E : L2.St → XK} {to ti : TE} {mo : M α} {mi : M Int} {k : α → Int → M β} (e1 : EV Z L O ti σ mi) (e0 : EV Z L O to σ mo) (ha : Z.C c = some A) (ho : ∀ a : α, ObjIs c (enc a))
    (hc : ∀ (a : α) (i : Int) (x y : V) (H : Hp) (Q : VK), CallN Z.K Z.C R0 [(x, enc a), (y, enc i)] (k a i) H Q → sp [x, y] H Q (E σ)) : EV Z L O (tOpS (rOwnR A sp E) ti to) σ (mb mi fun i => mb mo fun a => k a i) := fun L1 H post px Q s hp hx hm kk =>
  e1 L1 H _ px _ s hp hx hm fun i y H1 hp1 hm1 => e0 _ H1 _ px _ (sub_cons s) hp1 hx hm1 fun a x H2 hp2 hm2 => by
    obtain ⟨G, F, W, h2⟩ := hp2
    obtain rfl := is_int (h2.l _ (List.mem_cons_of_mem _ List.mem_cons_self))
    obtain ⟨p, dx, fs, rfl, ea⟩ := h2.ins List.mem_cons_self ha (ho a)
    refine ⟨p, dx, fs, i, rfl, rfl, ea, ?_⟩
    exact hc a i _ _ H2 Q (call_n (ps := [(.ref p, enc a), (.int i, enc i)]) (L1 := L1) (h2.pt.less (pk (.head _) (pk (.tail _ (.head _)) fun z hz => .tail _ (.tail _ hz)))) hm2 kk)
theorem EV.ownRF {c : Str} {A : Addr} {sp : Sp} {E : L2.St → XK} {to ti : TE} {mo : M α} {mi : M Int} {k : α → Int → M β} (e1 : EV Z L O ti σ mi) (e0 : EV Z L O to σ mo) (ha : Z.C c = some A) (ho : ∀ a : α, ObjIs c (enc a))
    (hc : ∀ (a : α) (i : Int) (x y : V) (H : Hp) (Q : VK), Call Z.K Z.C R0 [(x, enc a), (y, enc i)] (k a i) H Q (E σ) → sp [x, y] H Q (E σ)) : EV Z L O (tOpS (rOwnR A sp E) ti to) σ (mb mi fun i => mb mo fun a => mno (k a i)) := fun L1 H post px Q s hp hx hm kk =>
  e1 L1 H _ px _ s hp hx hm fun i y H1 hp1 hm1 => e0 _ H1 _ px _ (sub_cons s) hp1 hx hm1 fun a x H2 hp2 hm2 => by
    obtain ⟨G, F, W, h2⟩ := hp2
    obtain rfl := is_int (h2.l _ (List.mem_cons_of_mem _ List.mem_cons_self))
    obtain ⟨p, dx, fs, rfl, ea⟩ := h2.ins List.mem_cons_self ha (ho a)
    refine ⟨p, dx, fs, i, rfl, rfl, ea, ?_⟩
    exact hc a i _ _ H2 Q (call_f (px := px) (ps := [(.ref p, enc a), (.int i, enc i)]) (L1 := L1) (h2.pt.less (pk (.head _) (pk (.tail _ (.head _)) fun z hz => .tail _ (.tail _ hz)))) hm2 kk)
theorem EV.ownRX {c : Str} {A : Addr} {sp : Sp} {E : L2.St → XK} {to ti : TE} {mo : M α} {mi : M Int} {k : α → Int → M β} (hE : E σ = Z.E) (e1 : EV Z L O ti σ mi) (e0 : EV Z L O to σ mo) (ha : Z.C c = some A) (ho : ∀ a : α, ObjIs c (enc a))
    (hc : ∀ (a : α) (i : Int) (x y : V) (H : Hp) (Q : VK), Call Z.K Z.C R0 [(x, enc a), (y, enc i)] (k a i) H Q Z.E → sp [x, y] H Q Z.E) : EV Z L O (tOpS (rOwnR A sp E) ti to) σ (mb mi fun i => mb mo fun a => k a i) := fun L1 H post px Q s hp hx hm kk =>
  e1 L1 H _ px _ s hp hx hm fun i y H1 hp1 hm1 => e0 _ H1 _ px _ (sub_cons s) hp1 hx hm1 fun a x H2 hp2 hm2 => by
    obtain ⟨G, F, W, h2⟩ := hp2
    obtain rfl := is_int (h2.l _ (List.mem_cons_of_mem _ List.mem_cons_self))
    obtain ⟨p, dx, fs, rfl, ea⟩ := h2.ins List.mem_cons_self ha (ho a)
    refine ⟨p, dx, fs, i, rfl, rfl, ea, ?_⟩
    rw [hE]; exact hc a i _ _ H2 Q (call_x (ps := [(.ref p, enc a), (.int i, enc i)]) (L1 := L1) (h2.pt.less (pk (.head _) (pk (.tail _ (.head _)) fun z hz => .tail _ (.tail _ hz)))) hx hm2 kk)
/-- sorted(ints) -/
def msortI (xs : List Int) : M (List Int) := fun post _ => ∀ ys : List Int, ys.Perm xs → ys.Pairwise (· ≤ ·) → post ys
theorem ints_isL {K : PySem.W.Frag} {C : CT} {G : Hp} (ys : List Int) : IsL K C G (ys.map V.int) (ys.map enc) := by
  induction ys with
  | nil => exact .nil
  | cons a t ih => exact .cons (.int a) ih
theorem ok_sortI : OkB Z (rSortedI Z.K) msortI := fun L O H a x post px Q hp hx hm k => by
  obtain ⟨G, F, W, h⟩ := hp
  obtain ⟨p, xs, rfl, e, l, t⟩ := is_lst h.x0
  have n := t.len
  rw [List.length_map] at n
  refine ⟨p, a, rfl, .inl (.inl (isL_ints t ▸ h.g _ _ e)), fun ys q hp hs hq => k ys _ _ (h.t1.new hq (.lst upd_same ?_ (ints_isL ys))) (hm ys hp hs)⟩
  rw [List.length_map, hp.length_eq, ← n]; exact l
theorem EV.sortI {ta : TE} {m1 : M (List Int)} (e1 : EV Z L O ta σ m1) : EV Z L O (tCB (rSortedI Z.K) (tCons ta tNil)) σ (mb m1 msortI) := EV.cb1 ok_sortI e1
theorem EV.sortIP {ta : TE} {a : List Int} (e1 : EV Z L O ta σ (mr a)) : EV Z L O (tCB (rSortedI Z.K) (tCons ta tNil)) σ (msortI a) := EV.cb1P ok_sortI e1
end
end Mi

/-! wishes in their plain form; more of what they come to -/
namespace Mi
open Enc (enc)
open PySem L2 PySem.Spec PyProof.Rows
section
variable {α β γ : Type}
theorem mb_mr {a : α} {k : α → M β} : mb (mr a) k = k a := Eq.trans rfl rfl
theorem mb_mb {m : M α} {f : α → M β} {g : β → M γ} : mb (mb m f) g = mb m fun a => mb (f a) g := Eq.trans rfl rfl
theorem mite_mr {c : Bool} {a b : M α} : mite (mr c) a b = if c = true then a else b := Eq.trans rfl rfl
theorem compM_cons {p : α → M Bool} {f : α → M β} {x : α} {xs : List α} : compM p f (x :: xs) = mb (p x) fun c => if c = true then mb (f x) fun y => mb (compM p f xs) fun ys => mr (y :: ys) else compM p f xs := by
  funext post px; rfl
theorem Ret.compF {xs : List α} {p : α → Bool} {q : α → M Bool} {f : α → M β} {g : α → β} (hq : ∀ x ∈ xs, Ret (q x) (p x)) (h : ∀ x ∈ xs, p x = true → Ret (f x) (g x)) : Ret (compM q f xs) ((xs.filter p).map g) := by
  induction xs with
  | nil => exact .r
  | cons x xs ih =>
    have ih := ih (fun y hy => hq y (List.mem_cons_of_mem _ hy)) fun y hy => h y (List.mem_cons_of_mem _ hy)
    rw [compM_cons]
    refine .b (hq x List.mem_cons_self) ?_
    rw [List.filter_cons]
    cases e : p x with
    | true => exact (show Ret (mb (f x) fun y => mb (compM q f xs) fun ys => mr (y :: ys)) (g x :: (xs.filter p).map g) from .b (h x List.mem_cons_self e) (.b ih .r))
    | false => exact ih
end
end Mi
namespace Mi
open Enc (enc)
open PySem L2 PySem.Spec PyProof.Rows
section
variable {α γ : Type}
/-- a loop by what holds ahead of each turn -/
theorem Ret.forMe {xs : List α} {c0 : γ} {f : α → γ → M γ} (I : Nat → γ → Prop) (h0 : I 0 c0) (hs : ∀ i x c, xs[i]? = some x → I i c → ∃ c', Ret (f x c) c' ∧ I (i + 1) c') : ∃ c', Ret (Mi.forM xs c0 f) c' ∧ I xs.length c' := by
  induction xs generalizing c0 I with
  | nil => exact ⟨c0, .r, h0⟩
  | cons x xs ih =>
    obtain ⟨c1, h1, i1⟩ := hs 0 x c0 rfl h0
    obtain ⟨c2, h2, i2⟩ := ih (fun i => I (i + 1)) i1 fun i y c e h => hs (i + 1) y c (by simpa using e) h
    exact ⟨c2, .b h1 h2, i2⟩
theorem range0 {n i : Nat} {x : Int} (h : ((List.range ((n : Int) - 0).toNat).map fun (k : Nat) => (0 : Int) + (k : Int))[i]? = some x) : x = (i : Int) ∧ i < n := by
  have hi := (List.getElem?_eq_some_iff.mp h).1
  simp only [List.length_map, List.length_range] at hi
  rw [List.getElem?_map, List.getElem?_range hi] at h
  simp at h
  exact ⟨by omega, by omega⟩
theorem Ret.ixN {xs : List α} {i : Nat} {a : α} (h : xs[i]? = some a) : Ret (mix xs (i : Int)) a := .ix (L2.atI_nat h)
end
end Mi
/-! what each outcome is like; what is raised -/
namespace Mi
open Enc (enc)
open PySem L2 PySem.Spec PyProof.Rows
/-- each outcome of m is so -/
def Any {α : Type} (m : M α) (P : α → Prop) : Prop := ∀ (post : α → Prop) (px : Exn → Prop), (∀ a, P a → post a) → m post px
/-- m raises e -/
def Rai {α : Type} (m : M α) (e : Exn) : Prop := ∀ (post : α → Prop) (px : Exn → Prop), px e → m post px
section
variable {α β γ ρ : Type} {P : α → Prop} {R : β → Prop}
theorem Ret.any {m : M α} {a : α} (h : Ret m a) (p : P a) : Any m P := fun _ _ q => h _ _ (q a p)
theorem Any.ret {m : M α} {a : α} (h : Any m fun x => x = a) : Ret m a := fun _ _ q => h _ _ fun x e => e ▸ q
theorem Any.r {a : α} (h : P a) : Any (mr a) P := fun _ _ q => q a h
theorem Any.mono {m : M α} {P' : α → Prop} (h : Any m P) (e : ∀ a, P a → P' a) : Any m P' := fun _ _ q => h _ _ fun a p => q a (e a p)
theorem Any.b {m : M α} {k : α → M β} (h : Any m P) (h2 : ∀ a, P a → Any (k a) R) : Any (mb m k) R := fun post px q => h _ _ fun a p => h2 a p post px q
theorem Any.bR {m : M α} {a : α} {k : α → M β} (h : Ret m a) (h2 : Any (k a) R) : Any (mb m k) R := fun post px q => h _ _ (h2 post px q)
theorem Any.no {m : M α} (h : Any m P) : Any (mno m) P := fun _ _ q => h _ _ q
theorem Any.draw {n : Int} (h : 0 < n ∧ n < 1000000000000000000000000000000000000000000000000000000000000) : Any (mdraw n) fun d => 0 ≤ d ∧ d < n := fun _ _ q => mdraw_g h fun d d0 d1 => q d ⟨d0, d1⟩
theorem Any.bd {n : Int} {k : Int → M β} (h : 0 < n ∧ n < 1000000000000000000000000000000000000000000000000000000000000) (h2 : ∀ d, 0 ≤ d → d < n → Any (k d) R) : Any (mb (mdraw n) k) R := fun post px q => mdraw_g h fun d d0 d1 => h2 d d0 d1 post px q
theorem Ret.bA {m : M α} {k : α → M β} {b : β} (h : Any m P) (h2 : ∀ a, P a → Ret (k a) b) : Ret (mb m k) b := fun post px q => h _ _ fun a p => h2 a p post px q
theorem Ret.bd {n : Int} {k : Int → M β} {b : β} (h : 0 < n ∧ n < 1000000000000000000000000000000000000000000000000000000000000) (h2 : ∀ d, 0 ≤ d → d < n → Ret (k d) b) : Ret (mb (mdraw n) k) b := fun post px q => mdraw_g h fun d d0 d1 => h2 d d0 d1 post px q
theorem Any.ite {m : M Bool} {A B : M α} {c : Bool} (h : Ret m c) (h1 : c = true → Any A P) (h2 : c = false → Any B P) : Any (mite m A B) P := fun post px q => h _ _ (by
  cases c with
  | true => exact h1 rfl post px q
  | false => exact h2 rfl post px q)
theorem Any.if' {c : Prop} [Decidable c] {A B : M α} (h1 : c → Any A P) (h2 : ¬ c → Any B P) : Any (if c then A else B) P := by
  by_cases h : c
  · rw [if_pos h]; exact h1 h
  · rw [if_neg h]; exact h2 h
theorem Any.forM {xs : List γ} {c0 : α} {f : γ → α → M α} (I : Nat → α → Prop) (h0 : I 0 c0) (hs : ∀ i x c, xs[i]? = some x → I i c → Any (f x c) (I (i + 1))) : Any (Mi.forM xs c0 f) (I xs.length) := by
  induction xs generalizing c0 I with
  | nil => exact .r h0
  | cons x xs ih => exact .b (hs 0 x c0 rfl h0) fun c i1 => ih (fun i => I (i + 1)) i1 fun i y c e h => hs (i + 1) y c (by simpa using e) h
theorem Any.mix {xs : List α} {i : Int} (h0 : 0 ≤ i) (h1 : i < xs.length) : Any (Mi.mix xs i) fun a => a ∈ xs := fun _ _ q => mix_b' h0 h1 q
theorem Ret.bix {xs : List α} {i : Int} {k : α → M β} {b : β} (h0 : 0 ≤ i) (h1 : i < xs.length) (h2 : ∀ a ∈ xs, Ret (k a) b) : Ret (mb (Mi.mix xs i) k) b := .bA (.mix h0 h1) h2
theorem Rai.x {e : Exn} : Rai (α := α) (mx e) e := fun _ _ q => q
theorem Rai.b1 {m : M α} {k : α → M β} {e : Exn} (h : Rai m e) : Rai (mb m k) e := fun _ px q => h _ px q
theorem Rai.b {m : M α} {a : α} {k : α → M β} {e : Exn} (h : Ret m a) (h2 : Rai (k a) e) : Rai (mb m k) e := fun post px q => h _ _ (h2 post px q)
theorem Rai.ite {m : M Bool} {A B : M α} {c : Bool} {e : Exn} (h : Ret m c) (h1 : c = true → Rai A e) (h2 : c = false → Rai B e) : Rai (mite m A B) e := fun post px q => h _ _ (by
  cases c with
  | true => exact h1 rfl post px q
  | false => exact h2 rfl post px q)
theorem Rai.iteT {m : M Bool} {A B : M α} {e : Exn} (h : Ret m true) (h1 : Rai A e) : Rai (mite m A B) e := .ite h (fun _ => h1) (fun z => by cases z)
theorem Rai.iteF {m : M Bool} {A B : M α} {e : Exn} (h : Ret m false) (h1 : Rai B e) : Rai (mite m A B) e := .ite h (fun z => by cases z) (fun _ => h1)
theorem Rai.if' {c : Prop} [Decidable c] {A B : M α} {e : Exn} (h1 : c → Rai A e) (h2 : ¬ c → Rai B e) : Rai (if c then A else B) e := by
  by_cases h : c
  · rw [if_pos h]; exact h1 h
  · rw [if_neg h]; exact h2 h
theorem Ret.tryX {known : List Str} {m : M α} {h : Exn → M α} {e : Exn} {a : α} (h1 : Rai m e) (hk : e.cls ∈ known) (h2 : Ret (h e) a) : Ret (mtry0 known m h) a := fun post px q => h1 _ _ ⟨hk, h2 post px q⟩
theorem Ret.try0 {known : List Str} {m : M α} {h : Exn → M α} {a : α} (h1 : Ret m a) : Ret (mtry0 known m h) a := fun post px q => h1 _ _ q
theorem Ret.exf {ns : List Str} {ds : List D} {f : Str} {d : D} (h : (ns.zip ds).lookup f = some d) : Ret (mexf ns ds f) d := fun _ _ q => by
  unfold mexf; rw [h]; exact q
/-- nothing breaks the loop -/
theorem Any.forR {xs : List γ} {c0 : α} {f : γ → α → M (Stp α ρ)} (I : α → Prop) (h0 : I c0) (hs : ∀ x ∈ xs, ∀ c, I c → Any (f x c) fun s => ∃ c', s = .next c' ∧ I c') : Any (Mi.forR xs c0 f) fun o => ∃ c, o = .inl c ∧ I c := fun post px q =>
  forR_i I h0 (fun x c hx hc Q k => hs x hx c hc Q px fun s ⟨c', e, i⟩ => e ▸ k c' i) fun c h => q _ ⟨c, rfl, h⟩
end
end Mi

/-! two fors in a comprehension; tables of texts; tuples compared and joined -/
namespace L2
open PySem PySem.Spec PyProof.Rows
def rLtD (K : PySem.W.Frag) : R2 := fun x y H Q => ∃ d e, Dp K H x d ∧ Dp K H y e ∧ PySem.W.alike d e = true ∧ d ≠ .none ∧ d.depth ≤ 60 ∧ Q (.bl (PySem.W.dataLt d e)) H
theorem op_ltD {X : Cx} (hu : X.A.units + 64 < cLine) : OpR X (compareOp .Lt) (rLtD X.K) := by
  intro pins s σ H x y v u Q I rx ry h
  obtain ⟨d, e, hd, he, al, hn, hl, q⟩ := h
  obtain ⟨as, r1⟩ := Dp.reads I d x v hd rx
  obtain ⟨bs, r2⟩ := Dp.reads I e y u he ry
  exact PySem.W.rcLt_alike d e X.A s v u as bs r1 r2 al hn (by omega) _ _ _ _ ⟨.bl _, H, I, rfl, q⟩
end L2
namespace Mi
open Enc (enc)
open PySem L2 PySem.Spec PyProof.Rows
open Cf (Fresh rPlus rTimes rEqq rNeq rInn rNotInn rIxx rIsN rNotN rInt rListOf rTupOf)
/-! two fors -/
def compA {β δ : Type} (p : β → M Bool) (f : β → M δ) : List β → List δ → M (List δ)
  | [], acc => mr acc
  | y :: ys, acc => mb (p y) fun c => if c = true then mb (f y) fun z => mb (mpush acc z) fun acc => compA p f ys acc else compA p f ys acc
def compM2 {α β δ : Type} (m1 : α → M (List β)) (p1 : α → β → M Bool) (f : α → β → M δ) : List α → List δ → M (List δ)
  | [], acc => mr acc
  | x :: xs, acc => mb (m1 x) fun ys => mb (compA (p1 x) (f x) ys acc) fun acc => compM2 m1 p1 f xs acc
section
variable {Z : Zx} {L : List (V × D)} {O : List (Addr × D)} {σ : L2.St} {α β γ δ : Type} [Enc α] [Enc β] [Enc γ] [Enc δ]
theorem EV.lcc {wi wi1 : TI} {i j : Nat} {tt1 : TT} {te : TE} {vs vs1 : List Nat} {ml : M (List α)} {m1 : α → M (List β)} {p1 : α → β → M Bool} {f : α → β → M δ} (e : EI Z L O wi σ ml) (hw : ∀ v, wipe ((wipe σ vs).set i (some v)) vs = wipe σ vs)
    (hw1 : ∀ v w, wipe ((wipe ((wipe σ vs).set i (some v)) vs1).set j (some w)) vs1 = wipe ((wipe σ vs).set i (some v)) vs1)
    (e1 : ∀ a x q, EI Z ((x, enc a) :: L) (q :: O) wi1 ((wipe σ vs).set i (some x)) (m1 a))
    (ht : ∀ a x b y q, ET Z ((y, enc b) :: (x, enc a) :: L) (q :: O) tt1 ((wipe ((wipe σ vs).set i (some x)) vs1).set j (some y)) (p1 a b))
    (he : ∀ a x b y q, EV Z ((y, enc b) :: (x, enc a) :: L) (q :: O) te ((wipe ((wipe σ vs).set i (some x)) vs1).set j (some y)) (f a b)) :
    EV Z L O (tLc2 wi (gName i) tYes wi1 (gName j) tt1 te vs vs1) σ (mb ml fun xs => compM2 m1 p1 f xs []) := fun L1 H post px Q s hp hx hm k => by
  refine e L1 H _ px _ s hp hx hm fun xs w J H1 hp1 hJ hm1 Dp hD => ?_
  obtain ⟨hsz, G, Y, wk, hG, hY⟩ := hJ
  let Pv : Nat → Hp → Prop := fun i H' => ∃ acc : List δ, Pt Z (w :: L1) ((Dp, enc acc) :: O) H' ∧ compM2 m1 p1 f (xs.drop i) acc post px
  refine ⟨fun i m H => m = xs.length - i ∧ i ≤ xs.length ∧ Pv i H, ⟨xs.length, by simp, Nat.zero_le _, [], hp1.own hD fun G _ => .lst (by simp) .nil, hm1⟩, ?_⟩
  rintro ii m H2 ⟨rfl, hi, acc, hp2, q2⟩
  have g := hG _ _ _ List.mem_cons_self hp2
  by_cases hlt : ii < xs.length
  · refine .inr ⟨wk.goes ii H2 hlt g, Pv (ii + 1), fun H' p' => ⟨xs.length - (ii + 1), by omega, rfl, hlt, p'⟩, fun x H3 hy => ?_⟩
    obtain ⟨a, ea, pa⟩ := hY _ _ ii H2 x H3 List.mem_cons_self hp2 hlt (wk.yields ii H2 x H3 hlt g hy)
    obtain ⟨hl2, e2⟩ := List.getElem?_eq_some_iff.mp ea
    rw [show xs.drop ii = a :: xs.drop (ii + 1) by rw [← e2]; exact List.drop_eq_getElem_cons hl2] at q2
    refine ⟨hw x, ?_⟩
    simp only [tYes, ↓reduceIte]
    have sb : ∀ y ∈ (x, enc a) :: L, y ∈ (x, enc a) :: w :: L1 := fun y hy => by
      rcases List.mem_cons.mp hy with e | e
      · rw [e]; exact List.mem_cons_self
      · exact List.mem_cons_of_mem _ (List.mem_cons_of_mem _ (s y e))
    refine e1 a x (Dp, enc acc) _ H3 _ px _ sb pa hx q2 fun ys w1 J1 H4 hp4 hJ1 hm4 => ?_
    obtain ⟨hsz1, G1, Y1, wk1, hG1, hY1⟩ := hJ1
    let Pw : Nat → Hp → Prop := fun j H' => ∃ acc : List δ, Pt Z (w1 :: (x, enc a) :: w :: L1) ((Dp, enc acc) :: O) H' ∧ compA (p1 a) (f a) (ys.drop j) acc (fun acc => compM2 m1 p1 f (xs.drop (ii + 1)) acc post px) px
    refine ⟨fun j m H => m = ys.length - j ∧ j ≤ ys.length ∧ Pw j H, ⟨ys.length, by simp, Nat.zero_le _, acc, hp4, hm4⟩, ?_⟩
    rintro jj m H5 ⟨rfl, hj, acc5, hp5, q5⟩
    have g1 := hG1 _ _ _ List.mem_cons_self hp5
    by_cases hlt1 : jj < ys.length
    · refine .inr ⟨wk1.goes jj H5 hlt1 g1, Pw (jj + 1), fun H' p' => ⟨ys.length - (jj + 1), by omega, rfl, hlt1, p'⟩, fun y H6 hy1 => ?_⟩
      obtain ⟨b, eb, pb⟩ := hY1 _ _ jj H5 y H6 List.mem_cons_self hp5 hlt1 (wk1.yields jj H5 y H6 hlt1 g1 hy1)
      obtain ⟨hl3, e3⟩ := List.getElem?_eq_some_iff.mp eb
      rw [show ys.drop jj = b :: ys.drop (jj + 1) by rw [← e3]; exact List.drop_eq_getElem_cons hl3] at q5
      refine ⟨hw1 x y, ?_⟩
      have sb2 : ∀ z ∈ (y, enc b) :: (x, enc a) :: L, z ∈ (y, enc b) :: w1 :: (x, enc a) :: w :: L1 := fun z hz => by
        rcases List.mem_cons.mp hz with e | e
        · rw [e]; exact List.mem_cons_self
        · exact List.mem_cons_of_mem _ (List.mem_cons_of_mem _ (sb z e))
      refine ht a x b y (Dp, enc acc5) _ H6 _ px _ sb2 pb hx q5 fun c H7 hp7 q7 => ?_
      cases c with
      | false =>
        rw [if_neg (by decide)] at q7 ⊢
        exact ⟨acc5, hp7.less fun y hy => List.mem_cons_of_mem _ hy, q7⟩
      | true =>
        rw [if_pos rfl] at q7 ⊢
        refine he a x b y (Dp, enc acc5) _ H7 _ px _ sb2 hp7 hx q7 fun z v H8 hp8 q8 => ?_
        obtain ⟨q80, q8⟩ := (show acc5.length < 1000000 ∧ _ from q8)
        obtain ⟨ho, G', f1, f2, f3, f4⟩ := hp8.at List.mem_cons_self
        obtain ⟨us, rfl, l, t⟩ := is_cell f2
        have n := t.len
        rw [List.length_map] at n
        refine ⟨us, f1, by rw [n, sizeLine_eq]; omega, acc5 ++ [z], ?_, q8⟩
        refine (hp8.put (O' := (Dp, enc (acc5 ++ [z])) :: O) .hd fun G'' hG'' ho hh hc => ?_).less fun z hz => List.mem_cons_of_mem _ (List.mem_cons_of_mem _ hz)
        rw [f1] at hh
        cases hh
        obtain ⟨ws, e, l', t'⟩ := is_cell hc
        cases e
        rw [enc_snoc]
        exact .lst (by rw [List.length_append]; show us.length + 1 ≤ 1000000; omega) (t'.put (hG'' _ List.mem_cons_self))
    · have ej : jj = ys.length := by omega
      subst ej
      rw [List.drop_length] at q5
      exact .inl ⟨wk1.stops H5 g1, acc5, hp5.less fun y hy => List.mem_cons_of_mem _ (List.mem_cons_of_mem _ hy), q5⟩
  · have ei : ii = xs.length := by omega
    subst ei
    rw [List.drop_length] at q2
    exact .inl ⟨wk.stops H2 g, k acc _ H2 ((hp2.less fun y hy => List.mem_cons_of_mem _ hy).freeze .hd) q2⟩
/-! lists or tuples -/
theorem EV.lenQP {ta : TE} {a : Sq α} (e1 : EV Z L O ta σ (mr a)) : EV Z L O (tCB (Cf.rLen Z.K) (tCons ta tNil)) σ (mr (a.l.length : Int)) := by
  obtain ⟨b, l⟩ := a
  cases b with
  | false => exact EV.lenLP (e1.asP (b := l) rfl)
  | true => exact EV.lenTP (e1.asP (b := (⟨l⟩ : Tp α)) rfl)
theorem EV.listQP {ta : TE} {a : Sq α} (e1 : EV Z L O ta σ (mr a)) : EV Z L O (tCB (rListOf Z.K) (tCons ta tNil)) σ (mr a.l) := by
  obtain ⟨b, l⟩ := a
  cases b with
  | false => exact EV.listLP (e1.asP (b := l) rfl)
  | true => exact EV.listTP (e1.asP (b := (⟨l⟩ : Tp α)) rfl)
/-! a table of tuples of texts, its keys texts -/
def mkd (tab : List (Str × List Str)) (x : Str) : M (Tp Str) := match tab.lookup x with
  | some l => mr ⟨l⟩
  | none => mstuck
def KTab (w : World) (K : PySem.W.Frag) (k : Addr) (tab : List (Str × List Str)) : Prop := ∀ s l, tab.lookup s = some l → l.length ≤ 1000 ∧ ∃ a, KDct K w k s (.ref a) ∧ ∀ H, SqT K H a (l.map V.str)
theorem KTab.nil {w : World} {K : PySem.W.Frag} {k : Addr} : KTab w K k [] := fun s l h => by cases h
theorem KTab.cons {w : World} {K : PySem.W.Frag} {k a : Addr} {s : Str} {l : List Str} {tab : List (Str × List Str)} (h : l.length ≤ 1000) (d : KDct K w k s (.ref a)) (t : ∀ H, SqT K H a (l.map V.str)) (r : KTab w K k tab) : KTab w K k ((s, l) :: tab) := fun z m e => by
  rw [List.lookup_cons] at e
  by_cases c : z = s
  · subst c
    rw [beq_self_eq_true] at e
    cases e
    exact ⟨h, a, d, t⟩
  · rw [beq_false_of_ne c] at e
    exact r z m e
theorem EV.ixKd {w : World} {kd : Addr} {tb : TE} {tab : List (Str × List Str)} {m : M Str} (h : KTab w Z.K kd tab) (e : EV Z L O tb σ m) : EV Z L O (tOp (L2.rIxD Z.K w) (tC (.ref kd)) tb) σ (mb m (mkd tab)) := fun L1 H post px Q s hp hx hm k =>
  e L1 H _ px _ s hp hx hm fun x v H1 hp1 hm1 => by
    obtain rfl := is_str hp1.hd
    unfold mkd at hm1
    cases q : tab.lookup x with
    | none => rw [q] at hm1; exact hm1.elim
    | some l =>
      rw [q] at hm1
      obtain ⟨h1, a, h2, h3⟩ := h x l q
      refine ⟨kd, x, .ref a, rfl, rfl, h2, k ⟨l⟩ _ H1 (hp1.tail.add fun G _ => ?_) hm1⟩
      exact .tup (h3 G) (by rw [List.length_map]; omega) (isL_of_strs l)
theorem EV.ixKdP {w : World} {kd : Addr} {tb : TE} {tab : List (Str × List Str)} {a : Str} (h : KTab w Z.K kd tab) (e : EV Z L O tb σ (mr a)) : EV Z L O (tOp (L2.rIxD Z.K w) (tC (.ref kd)) tb) σ (mkd tab a) := EV.ixKd h e
/-! tuples: compared, joined, the place of a text -/
def mltD (x y : D) : M Bool := mreq (datD x = true ∧ datD y = true ∧ PySem.W.alike (toPy x) (toPy y) = true ∧ toPy x ≠ .none ∧ (toPy x).depth ≤ 60) (mr (PySem.W.dataLt (toPy x) (toPy y)))
theorem ok_ltD : Ok2 Z (rLtD Z.K) (fun (a : α) (b : β) => mltD (enc a) (enc b)) := fun L O H a b x y post px Q hp hx hm k => by
  obtain ⟨G, F, W, h⟩ := hp
  obtain ⟨⟨h1, h2, h3, h4, h5⟩, hm⟩ := hm
  exact ⟨_, _, dp_of h.g h1 h.x1, dp_of h.g h2 h.x0, h3, h4, h5, k _ _ H (h.t2.add (.bl _)) hm⟩
theorem EV.ltD {ta tb : TE} {m1 : M α} {m2 : M β} (e1 : EV Z L O ta σ m1) (e2 : EV Z L O tb σ m2) : EV Z L O (tOp (rLtD Z.K) ta tb) σ (mb m1 fun a => mb m2 fun b => mltD (enc a) (enc b)) := EV.op2 (f := fun (a : α) (b : β) => mltD (enc a) (enc b)) ok_ltD e1 e2
theorem EV.ltDP {ta tb : TE} {a : α} {b : β} (e1 : EV Z L O ta σ (mr a)) (e2 : EV Z L O tb σ (mr b)) : EV Z L O (tOp (rLtD Z.K) ta tb) σ (mltD (enc a) (enc b)) := EV.ltD e1 e2
def maddT (a b : Tp α) : M (Tp α) := mreq (a.l ≠ [] ∧ a.l.length + b.l.length ≤ 1000000) (mr ⟨a.l ++ b.l⟩)
theorem ok_addT : Ok2 Z (rCatT Z.K) (fun (a b : Tp α) => maddT a b) := fun L O H a b x y post px Q hp hx hm k => by
  obtain ⟨⟨h1, h2⟩, hm⟩ := hm
  obtain ⟨G, F, W, h⟩ := hp
  obtain ⟨p, xs, rfl, e1, l1, t1⟩ := is_tup h.x1
  obtain ⟨q, ys, rfl, e2, l2, t2⟩ := is_tup h.x0
  have n1 := t1.len
  have n2 := t2.len
  rw [List.length_map] at n1 n2
  refine ⟨p, q, xs, ys, rfl, rfl, sqT_mono h.g e1, sqT_mono h.g e2, fun z => h1 (List.eq_nil_of_length_eq_zero (by rw [← n1, z]; rfl)), by rw [sizeLine_eq]; omega, fun z => ?_, fun z r hr => ?_⟩
  · refine k ⟨a.l ++ b.l⟩ _ H (h.t2.add ?_) hm
    have : b.l = [] := List.eq_nil_of_length_eq_zero (by rw [← n2, z]; rfl)
    rw [this, List.append_nil]
    exact h.x1
  · refine k ⟨a.l ++ b.l⟩ _ _ (h.t2.new hr (.tup (.inl (.inl upd_same)) (by rw [List.length_append]; omega) ?_)) hm
    rw [List.map_append]
    exact (t1.mono (.self (h.g.free hr))).app (t2.mono (.self (h.g.free hr)))
theorem EV.addT {ta tb : TE} {m1 m2 : M (Tp α)} (e1 : EV Z L O ta σ m1) (e2 : EV Z L O tb σ m2) : EV Z L O (tOp (rCatT Z.K) ta tb) σ (mb m1 fun a => mb m2 fun b => maddT a b) := EV.op2 (f := fun (a b : Tp α) => maddT a b) ok_addT e1 e2
theorem EV.addTP {ta tb : TE} {a b : Tp α} (e1 : EV Z L O ta σ (mr a)) (e2 : EV Z L O tb σ (mr b)) : EV Z L O (tOp (rCatT Z.K) ta tb) σ (maddT a b) := EV.addT e1 e2
def rIdxT (K : PySem.W.Frag) : V → List V → Hp → VK → Prop := fun x xs H Q => ∃ p, ∃ ys : List Str, ∃ z j, x = .ref p ∧ xs = [.str z] ∧ SqT K H p (ys.map V.str) ∧ ys[j]? = some z ∧ (∀ m, m < j → ys[m]? ≠ some z) ∧ Q (.int (j : Nat)) H
theorem mt_idxT {X : Cx} : MtR X "tuple.index" (rIdxT X.K) := mt_tup_index
def midx (xs : List Str) (z : Str) : M Int := mreq (z ∈ xs) (mr (xs.idxOf z : Int))
theorem idx_first {xs : List Str} {z : Str} (h : z ∈ xs) : xs[xs.idxOf z]? = some z ∧ ∀ m, m < xs.idxOf z → xs[m]? ≠ some z := by
  induction xs with
  | nil => cases h
  | cons x xs ih =>
    by_cases e : x = z
    · subst e
      rw [List.idxOf_cons_self]
      exact ⟨rfl, fun m hm => absurd hm (Nat.not_lt_zero _)⟩
    · have ei : (x :: xs).idxOf z = xs.idxOf z + 1 := by rw [List.idxOf_cons, beq_false_of_ne e]; rfl
      rw [ei]
      obtain ⟨h1, h2⟩ := ih ((List.mem_cons.mp h).resolve_left fun z => e z.symm)
      refine ⟨h1, fun m hm => ?_⟩
      cases m with
      | zero => intro z; exact e (Option.some.inj z)
      | succ m => exact h2 m (by omega)
theorem EV.idxK {kd : Addr} {ta : TE} {xs : List Str} {m2 : M Str} (ho : ∃ o, Z.K.lookup kd = some o ∧ o.cls = .type "tuple" ∧ o.dict = none) (h : ∀ H, SqT Z.K H kd (xs.map V.str)) (e2 : EV Z L O ta σ m2) : EV Z L O (tBM Z.K "tuple" (rIdxT Z.K) (tC (.ref kd)) (tCons ta tNil)) σ (mb m2 (midx xs)) := fun L1 H post px Q s hp hx hm k =>
  ⟨.inr (.inl ⟨rfl, ho⟩), e2 _ H _ px _ s hp hx hm fun b y H2 hp2 hm2 => by
    obtain rfl := is_str hp2.hd
    obtain ⟨hz, hm2⟩ := hm2
    obtain ⟨i1, i2⟩ := idx_first hz
    exact ⟨kd, xs, b, _, rfl, rfl, h _, i1, i2, k _ _ H2 (hp2.tail.add fun G _ => .int _) hm2⟩⟩
theorem EV.idxKP {kd : Addr} {ta : TE} {xs : List Str} {a : Str} (ho : ∃ o, Z.K.lookup kd = some o ∧ o.cls = .type "tuple" ∧ o.dict = none) (h : ∀ H, SqT Z.K H kd (xs.map V.str)) (e2 : EV Z L O ta σ (mr a)) : EV Z L O (tBM Z.K "tuple" (rIdxT Z.K) (tC (.ref kd)) (tCons ta tNil)) σ (midx xs a) := EV.idxK ho h e2
end
end Mi

/-! dicts from texts to things of one kind -/
namespace Mi
open Enc (enc)
open PySem L2 PySem.Spec PyProof.Rows
open Cf (Fresh rPlus rTimes rEqq rNeq rInn rNotInn rIxx rIsN rNotN rInt rListOf rTupOf)
structure Dt (α : Type) where
  l : List (Str × α)
instance {α : Type} [Enc α] : Enc (Dt α) := ⟨fun d => .dic (d.l.map fun p => Sum.inr p.1) (d.l.map fun p => enc p.2)⟩
instance {α : Type} [Enc α] : NotNon (Dt α) := ⟨fun _ h => nomatch h⟩
theorem is_dct {K : PySem.W.Frag} {C : CT} {G : Hp} {v : V} {ks : List Key} {ds : List D} (h : Is K C G v (.dic ks ds)) : ∃ a kvs, v = .ref a ∧ G a = some (.dK kvs) ∧ kvs.map (·.1) = ks ∧ ks.Nodup ∧ IsL K C G (kvs.map (·.2)) ds := by
  cases h with
  | dic h n t => exact ⟨_, _, rfl, h, rfl, n, t⟩
theorem is_cellD {K : PySem.W.Frag} {C : CT} {G : Hp} {o : HO} {ks : List Key} {ds : List D} (h : Cell K C G o (.dic ks ds)) : ∃ kvs, o = .dK kvs ∧ kvs.map (·.1) = ks ∧ ks.Nodup ∧ IsL K C G (kvs.map (·.2)) ds := by
  cases h with
  | dic n t => exact ⟨_, rfl, rfl, n, t⟩
section
variable {α : Type} [Enc α] {K : PySem.W.Frag} {C : CT} {G : Hp}
theorem valV_rel {l : List (Str × α)} {kvs : List (Key × V)} (e : kvs.map (·.1) = l.map fun p => (Sum.inr p.1 : Key)) (t : IsL K C G (kvs.map (·.2)) (l.map fun p => enc p.2)) (z : Str) : match l.lookup z with
    | some a => ∃ v, valV kvs (Sum.inr z) = some v ∧ Is K C G v (enc a)
    | none => valV kvs (Sum.inr z) = none := by
  induction l generalizing kvs with
  | nil =>
    cases kvs with
    | nil => exact valV_nil
    | cons a b => cases e
  | cons p l ih =>
    cases kvs with
    | nil => cases e
    | cons q kvs =>
      obtain ⟨k, v⟩ := q
      obtain ⟨y, a⟩ := p
      simp only [List.map_cons, List.cons.injEq] at e
      obtain ⟨rfl, e⟩ := e
      cases t with
      | cons h t =>
        rw [List.lookup_cons]
        by_cases c : z = y
        · subst c
          rw [beq_self_eq_true]
          exact ⟨v, valV_pos rfl, h⟩
        · rw [beq_false_of_ne c, valV_neg (by intro q; injection q with q; exact c q.symm)]
          exact ih e t
def mdget (d : Dt α) (z : Str) : M α := match d.l.lookup z with
  | some a => mr a
  | none => mstuck
def hasD (d : Dt α) (z : Str) : Bool := (d.l.lookup z).isSome
def putD (l : List (Str × α)) (z : Str) (a : α) : List (Str × α) := if (l.lookup z).isSome = true then l.map (fun p => if p.1 = z then (p.1, a) else p) else l ++ [(z, a)]
def mdput (d : Dt α) (z : Str) (a : α) : M (Dt α) := mreq (d.l.length < 1000000) (mr ⟨putD d.l z a⟩)
theorem any_rel {l : List (Str × α)} {kvs : List (Key × V)} (e : kvs.map (·.1) = l.map fun p => (Sum.inr p.1 : Key)) (z : Str) : (kvs.any fun kv => decide (kv.1 = Sum.inr z)) = (l.lookup z).isSome := by
  induction l generalizing kvs with
  | nil =>
    cases kvs with
    | nil => rfl
    | cons a b => cases e
  | cons p l ih =>
    cases kvs with
    | nil => cases e
    | cons q kvs =>
      obtain ⟨k, v⟩ := q
      obtain ⟨y, a⟩ := p
      simp only [List.map_cons, List.cons.injEq] at e
      obtain ⟨rfl, e⟩ := e
      rw [List.lookup_cons, List.any_cons]
      by_cases c : z = y
      · subst c
        rw [beq_self_eq_true]
        simp
      · rw [beq_false_of_ne c, decide_eq_false (by intro q; injection q with q; exact c q.symm), Bool.false_or]
        exact ih e
theorem putK_rel {l : List (Str × α)} {kvs : List (Key × V)} {z : Str} {a : α} {v : V} (e : kvs.map (·.1) = l.map fun p => (Sum.inr p.1 : Key)) (t : IsL K C G (kvs.map (·.2)) (l.map fun p => enc p.2)) (h : Is K C G v (enc a)) :
    (putK kvs (Sum.inr z) v).map (·.1) = ((putD l z a).map fun p => (Sum.inr p.1 : Key)) ∧ IsL K C G ((putK kvs (Sum.inr z) v).map (·.2)) ((putD l z a).map fun p => enc p.2) := by
  unfold putK putD
  rw [any_rel e]
  cases (l.lookup z).isSome with
  | true =>
    rw [if_pos rfl, if_pos rfl]
    induction l generalizing kvs with
    | nil =>
      cases kvs with
      | nil => exact ⟨rfl, .nil⟩
      | cons a b => cases e
    | cons p l ih =>
      cases kvs with
      | nil => cases e
      | cons q kvs =>
        obtain ⟨k, w⟩ := q
        obtain ⟨y, b⟩ := p
        simp only [List.map_cons, List.cons.injEq] at e
        obtain ⟨rfl, e⟩ := e
        cases t with
        | cons h0 t =>
          obtain ⟨h1, h2⟩ := ih e t
          simp only [List.map_cons]
          by_cases c : y = z
          · subst c
            rw [if_pos rfl, if_pos rfl]
            exact ⟨by rw [h1], .cons h h2⟩
          · rw [if_neg (by intro q; injection q with q; exact c q), if_neg c]
            exact ⟨by rw [h1], .cons h0 h2⟩
  | false =>
    rw [if_neg (by decide), if_neg (by decide)]
    rw [List.map_append, List.map_append, List.map_append, List.map_append, e]
    exact ⟨rfl, t.put h⟩
theorem putD_nodup {l : List (Str × α)} {z : Str} {a : α} (h : (l.map fun p => (Sum.inr p.1 : Key)).Nodup) : ((putD l z a).map fun p => (Sum.inr p.1 : Key)).Nodup := by
  unfold putD
  split
  · rw [List.map_map]
    have e : ((fun p : Str × α => (Sum.inr p.1 : Key)) ∘ fun p => if p.1 = z then (p.1, a) else p) = fun p => (Sum.inr p.1 : Key) := by
      funext p
      show (Sum.inr (if p.1 = z then (p.1, a) else p).1 : Key) = _
      split <;> rfl
    rw [e]; exact h
  · rename_i c
    rw [List.map_append, List.nodup_append]
    refine ⟨h, by simp, ?_⟩
    rintro x hx y hy rfl
    simp only [List.map_cons, List.map_nil, List.mem_singleton] at hy
    subst hy
    obtain ⟨p, hp, e⟩ := List.mem_map.mp hx
    injection e with e
    apply c
    rw [← e]
    clear c hx e
    induction l with
    | nil => cases hp
    | cons q l ih =>
      rw [List.lookup_cons]
      by_cases d : p.1 = q.1
      · rw [d, beq_self_eq_true]; rfl
      · rw [beq_false_of_ne d]
        rcases List.mem_cons.mp hp with rfl | hp
        · exact absurd rfl d
        · rw [List.map_cons] at h
          exact ih (List.nodup_cons.mp h).2 hp
end
section
variable {Z : Zx} {L : List (V × D)} {O : List (Addr × D)} {σ : L2.St} {α β γ δ : Type} [Enc α] [Enc β] [Enc γ] [Enc δ]
theorem ok_ixDt : Ok2 Z (rIxx Z.K) (fun (a : Dt α) (b : Str) => mdget a b) := fun L O H a b x y post px Q hp hx hm k => by
  obtain rfl := is_str hp.hd
  obtain ⟨G, F, W, h⟩ := hp
  obtain ⟨p, kvs, rfl, e1, e2, n, t⟩ := is_dct h.x1
  have q := valV_rel e2 t b
  have hm : mdget a b post px := hm
  unfold mdget at hm
  cases c : a.l.lookup b with
  | none => rw [c] at hm; exact hm.elim
  | some z =>
    rw [c] at hm q
    obtain ⟨v, q1, q2⟩ := q
    exact Cf.kr_ixD (h.g _ _ e1) q1 (k z v H (h.t2.add q2) hm)
theorem EV.ixDt {ta tb : TE} {m1 : M (Dt α)} {m2 : M Str} (e1 : EV Z L O ta σ m1) (e2 : EV Z L O tb σ m2) : EV Z L O (tOp (rIxx Z.K) ta tb) σ (mb m1 fun a => mb m2 fun b => mdget a b) := EV.op2 (f := fun (a : Dt α) (b : Str) => mdget a b) ok_ixDt e1 e2
theorem EV.ixDtP {ta tb : TE} {a : Dt α} {b : Str} (e1 : EV Z L O ta σ (mr a)) (e2 : EV Z L O tb σ (mr b)) : EV Z L O (tOp (rIxx Z.K) ta tb) σ (mdget a b) := EV.ixDt e1 e2
theorem val_some {l : List (Str × α)} {kvs : List (Key × V)} {G : Hp} {K : PySem.W.Frag} {C : CT} (e : kvs.map (·.1) = l.map fun p => (Sum.inr p.1 : Key)) (t : IsL K C G (kvs.map (·.2)) (l.map fun p => enc p.2)) (z : Str) : (valV kvs (Sum.inr z)).isSome = (l.lookup z).isSome := by
  have q := valV_rel e t z
  cases c : l.lookup z with
  | none => rw [c] at q; rw [show valV kvs (Sum.inr z) = none from q]; rfl
  | some a => rw [c] at q; obtain ⟨v, q, _⟩ := q; rw [q]; rfl
theorem ok_inDt : Ok2 Z (rInn Z.K) (fun (b : Str) (a : Dt α) => mr (hasD a b)) := fun L O H b a x y post px Q hp hx hm k => by
  obtain rfl := is_str hp.hd2
  obtain ⟨G, F, W, h⟩ := hp
  obtain ⟨p, kvs, rfl, e1, e2, n, t⟩ := is_dct h.x0
  exact Cf.kr_inD (h.g _ _ e1) (val_some e2 t b) (k _ _ H (h.t2.add (.bl _)) hm)
theorem ok_ninDt : Ok2 Z (rNotInn Z.K) (fun (b : Str) (a : Dt α) => mr (!hasD a b)) := fun L O H b a x y post px Q hp hx hm k => by
  obtain rfl := is_str hp.hd2
  obtain ⟨G, F, W, h⟩ := hp
  obtain ⟨p, kvs, rfl, e1, e2, n, t⟩ := is_dct h.x0
  exact Cf.kr_notInD (h.g _ _ e1) (val_some e2 t b) (k _ _ H (h.t2.add (.bl _)) hm)
theorem EV.inDt {ta tb : TE} {m1 : M Str} {m2 : M (Dt α)} (e1 : EV Z L O ta σ m1) (e2 : EV Z L O tb σ m2) : EV Z L O (tOp (rInn Z.K) ta tb) σ (mb m1 fun b => mb m2 fun a => mr (hasD a b)) := EV.op2 (f := fun (b : Str) (a : Dt α) => mr (hasD a b)) ok_inDt e1 e2
theorem EV.inDtP {ta tb : TE} {b : Str} {a : Dt α} (e1 : EV Z L O ta σ (mr b)) (e2 : EV Z L O tb σ (mr a)) : EV Z L O (tOp (rInn Z.K) ta tb) σ (mr (hasD a b)) := EV.inDt e1 e2
theorem EV.ninDt {ta tb : TE} {m1 : M Str} {m2 : M (Dt α)} (e1 : EV Z L O ta σ m1) (e2 : EV Z L O tb σ m2) : EV Z L O (tOp (rNotInn Z.K) ta tb) σ (mb m1 fun b => mb m2 fun a => mr (!hasD a b)) := EV.op2 (f := fun (b : Str) (a : Dt α) => mr (!hasD a b)) ok_ninDt e1 e2
theorem EV.ninDtP {ta tb : TE} {b : Str} {a : Dt α} (e1 : EV Z L O ta σ (mr b)) (e2 : EV Z L O tb σ (mr a)) : EV Z L O (tOp (rNotInn Z.K) ta tb) σ (mr (!hasD a b)) := EV.ninDt e1 e2
def rDictD : List V → Hp → VK → Prop := fun xs H Q => ∃ (a : Addr) (kvs : List (Key × V)), xs = [.ref a] ∧ Rd H a (.dK kvs) ∧ ∀ p, H p = none → Q (.ref p) (upd H p (.dK kvs))
theorem call_dictA {X : Cx} : CallR X (.type "dict") rDictD := call_dictD
theorem ok_dictDt : OkB Z rDictD (fun a : Dt α => mr a) := fun L O H a x post px Q hp hx hm k => by
  obtain ⟨G, F, W, h⟩ := hp
  obtain ⟨p, kvs, rfl, e1, e2, n, t⟩ := is_dct h.x0
  refine ⟨p, kvs, rfl, .inl (h.g _ _ e1), fun r hr => k a _ _ (h.t1.new hr ?_) hm⟩
  have q := Is.dic (K := Z.K) (C := Z.C) (G := upd G r (.dK kvs)) (a := r) upd_same (by rw [e2]; exact n) (t.mono (.self (h.g.free hr)))
  rw [e2] at q
  exact q
theorem EV.dictDt {ta : TE} {m1 : M (Dt α)} (e1 : EV Z L O ta σ m1) : EV Z L O (tCB rDictD (tCons ta tNil)) σ (mb m1 fun a => mr a) := EV.cb1 (f := fun a : Dt α => mr a) ok_dictDt e1
theorem EV.dictDtP {ta : TE} {a : Dt α} (e1 : EV Z L O ta σ (mr a)) : EV Z L O (tCB rDictD (tCons ta tNil)) σ (mr a) := EV.cb1P (f := fun a : Dt α => mr a) ok_dictDt e1
def rListD : List V → Hp → VK → Prop := fun xs H Q => ∃ (a : Addr) (kvs : List (Key × V)), xs = [.ref a] ∧ Rd H a (.dK kvs) ∧ ∀ p, H p = none → Q (.ref p) (upd H p (.lst (kvs.map fun kv => kV kv.1)))
theorem call_listDA {X : Cx} (h : X.calm = true) : CallR X (.type "list") rListD := call_listD h
def keysD (d : Dt α) : List Str := d.l.map (·.1)
theorem ok_listDt : OkB Z rListD (fun a : Dt α => mreq (a.l.length ≤ 1000000) (mr (keysD a))) := fun L O H a x post px Q hp hx hm k => by
  obtain ⟨G, F, W, h⟩ := hp
  obtain ⟨p, kvs, rfl, e1, e2, n, t⟩ := is_dct h.x0
  obtain ⟨hl, hm⟩ := hm
  have e3 : (kvs.map fun kv => kV kv.1) = (keysD a).map V.str := by
    have : (kvs.map fun kv => kV kv.1) = (kvs.map (·.1)).map kV := by rw [List.map_map]; rfl
    rw [this, e2, keysD, List.map_map, List.map_map]
    rfl
  refine ⟨p, kvs, rfl, .inl (h.g _ _ e1), fun r hr => ?_⟩
  rw [e3]
  refine k (keysD a) _ _ (h.t1.new hr (.lst upd_same ?_ (isL_of_strs _))) hm
  rw [List.length_map, keysD, List.length_map]; exact hl
theorem EV.listDt {ta : TE} {m1 : M (Dt α)} (e1 : EV Z L O ta σ m1) : EV Z L O (tCB rListD (tCons ta tNil)) σ (mb m1 fun a => mreq (a.l.length ≤ 1000000) (mr (keysD a))) := EV.cb1 (f := fun a : Dt α => mreq (a.l.length ≤ 1000000) (mr (keysD a))) ok_listDt e1
theorem EV.listDtP {ta : TE} {a : Dt α} (e1 : EV Z L O ta σ (mr a)) : EV Z L O (tCB rListD (tCons ta tNil)) σ (mreq (a.l.length ≤ 1000000) (mr (keysD a))) := EV.cb1P (f := fun a : Dt α => mreq (a.l.length ≤ 1000000) (mr (keysD a))) ok_listDt e1
section
variable {nx : L2.St → Hp → Prop} {rt : VK} {bk ct : L2.St → Hp → Prop} {H : Hp} {px : Exn → Prop} {ρ : Type} {post : ρ → Prop}
/-- a dict of one's own, displayed -/
theorem s_setDisp {trs : List (TE × TE)} {i : Nat} {m : M γ} {ks : List Str} {ds : γ → List D} {k : Dt α → M ρ} (f : γ → Dt α) (S : Addr → L2.St) (hS : ∀ p, σ.set i (some (.ref p)) = S p) (hp : Pt Z L O H) (hx : HX Z px) (hm : (mb (mb m fun g => mr (f g)) k) post px) (e : ∀ q, EP Z L ((q, .dic [] []) :: O) trs σ m ks ds) (hk : ks.Nodup) (hl : ks.length ≤ 15) (hd : ∀ g, (ds g).length = ks.length) (hf : ∀ g, enc (f g) = D.dic (ks.map .inr) (ds g))
    (c : ∀ a p H', Pt Z L ((p, enc a) :: O) H' → k a post px → nx (S p) H') : tAsg (tDisp trs) (gName i) ⟨nx, rt, bk, ct⟩ σ H := by
  intro p np
  refine e p L _ _ px _ sub_refl' (hp.own (o := .dK []) (d := .dic [] []) np fun G hG => Cell.dic (kvs := []) List.nodup_nil .nil) hx hm fun g vs H' h1 hp' hm' => ?_
  have h0 : H' p = some (.dK []) := by
    obtain ⟨G, F, W, h⟩ := id hp'
    obtain ⟨ho, e1, e2, e3⟩ := h.o _ List.mem_cons_self
    obtain ⟨kvs, rfl, a1, a2, a3⟩ := is_cellD e3
    cases kvs with
    | nil => exact h.f _ _ e1
    | cons a b => cases a1
  have hl2 : vs.length = ks.length := by rw [h1, hd g]
  have k1 : ((ks.map (Sum.inr : Str → Key)).zip vs).map (·.1) = ks.map (Sum.inr : Str → Key) := List.map_fst_zip (by simp [hl2])
  have k2 : ((ks.map (Sum.inr : Str → Key)).zip vs).map (·.2) = vs := List.map_snd_zip (by simp [hl2])
  have nd : (ks.map (Sum.inr : Str → Key)).Nodup := List.pairwise_map.mpr (hk.imp fun h z => h (by injection z))
  refine ⟨h0, (ks.map (Sum.inr : Str → Key)).zip vs, ?_, by rw [List.length_zip, List.length_map, hl2]; omega, ?_⟩
  · rw [List.zip_map_left, List.zip_map_left, List.map_map]
    rfl
  rw [merge_app _ [] (by rw [k1]; exact nd) (by intro _ _ z; cases z), List.nil_append]
  have q := hp'.put (o := .dK ((ks.map (Sum.inr : Str → Key)).zip vs)) (d' := .dic (ks.map .inr) (ds g)) .hd fun G hG ho _ _ => by
    have c := Cell.dic (K := Z.K) (C := Z.C) (G := G) (kvs := (ks.map (Sum.inr : Str → Key)).zip vs) (ds := ds g) (by rw [k1]; exact nd) (by rw [k2]; exact zip_is h1 fun x hx => hG x (List.mem_append_left _ hx))
    rw [k1] at c
    exact c
  show nx (σ.set i (some (.ref p))) _
  rw [hS p]
  refine c (f g) p _ ?_ hm'
  rw [hf g]
  exact q.less fun x hx => List.mem_append_right _ hx
/-- an empty dict of one's own -/
theorem s_setD0 {i : Nat} {k : Dt α → M ρ} (S : Addr → L2.St) (hS : ∀ p, σ.set i (some (.ref p)) = S p) (hp : Pt Z L O H) (hx : HX Z px) (hm : (mb (mr (⟨[]⟩ : Dt α)) k) post px) (c : ∀ a p H', Pt Z L ((p, enc a) :: O) H' → k a post px → nx (S p) H') : tAsg tDNewK (gName i) ⟨nx, rt, bk, ct⟩ σ H := by
  intro p np
  show nx (σ.set i (some (.ref p))) _
  rw [hS p]
  exact c ⟨[]⟩ p _ (hp.own (o := .dK []) (d := .dic [] []) np fun G hG => Cell.dic (kvs := []) List.nodup_nil .nil) hm
/-- d[k] = v, d one's own -/
theorem s_putDt {te ti : TE} {p : Addr} {O' : Dt α → List (Addr × D)} {i : Nat} {m : M α} {mi : M Str} {d : Dt α} {k : Dt α → M ρ} (hi : σ[i]? = some (some (.ref p))) (hmem : (p, enc d) ∈ O) (hp : Pt Z L O H) (hx : HX Z px) (hm : (mb m fun a => mb mi fun j => mb (mdput d j a) k) post px) (e : EV Z L O te σ m) (e2 : EV Z L O ti σ mi)
    (u : ∀ ys : Dt α, Up p (enc d) (enc ys) O (O' ys)) (c : ∀ ys H', Pt Z L (O' ys) H' → k ys post px → nx σ H') : tAsg te (gSub (tVar i) ti Cf.rSett) ⟨nx, rt, bk, ct⟩ σ H := by
  refine e L H _ px _ sub_refl' hp hx hm fun a v H1 hp1 hm1 => ⟨_, hi, ?_⟩
  refine e2 _ H1 _ px _ (sub_cons sub_refl') hp1 hx hm1 fun j w H2 hp2 hm2 => ?_
  obtain rfl := is_str hp2.hd
  obtain ⟨ho, G, e1, c1, e3, e4⟩ := hp2.at hmem
  obtain ⟨kvs, rfl, a1, a2, a3⟩ := is_cellD c1
  have n : kvs.length = d.l.length := by
    have := congrArg List.length a1
    simpa using this
  obtain ⟨hl, hm2⟩ := hm2
  refine .inr ⟨p, _, rfl, .inl ⟨kvs, .inr j, e1, rfl, by rw [n, sizeLine_eq]; omega, rfl⟩, c ⟨putD d.l j a⟩ _ ((hp2.put (o := .dK (putK kvs (Sum.inr j) v)) (u ⟨putD d.l j a⟩) fun G' hG ho hh hc => ?_).less fun x hx => List.mem_cons_of_mem _ (List.mem_cons_of_mem _ hx)) hm2⟩
  rw [e1] at hh
  cases hh
  obtain ⟨kvs', e, b1, b2, b3⟩ := is_cellD hc
  cases e
  have hv := hG (v, enc a) (List.mem_cons_of_mem _ List.mem_cons_self)
  obtain ⟨r1, r2⟩ := putK_rel (z := j) b1 b3 hv
  have q := Cell.dic (K := Z.K) (C := Z.C) (G := G') (kvs := putK kvs (Sum.inr j) v) (ds := (putD d.l j a).map fun p => enc p.2) (by rw [r1]; exact putD_nodup b2) r2
  rw [r1] at q
  exact q
end
end
end Mi
namespace Mi
open Enc (enc)
open PySem L2 PySem.Spec PyProof.Rows
section
variable {Z : Zx} {L : List (V × D)} {O : List (Addr × D)} {σ : L2.St} {α γ : Type} [Enc α]
theorem EV.dispT {trs : List (TE × TE)} {m : M γ} {ks : List Str} {ds : γ → List D} {f : γ → Dt α} (e : ∀ q, EP Z L ((q, .dic [] []) :: O) trs σ m ks ds) (hk : ks.Nodup) (hl : ks.length ≤ 15) (hd : ∀ g, (ds g).length = ks.length) (hf : ∀ g, enc (f g) = D.dic (ks.map .inr) (ds g)) : EV Z L O (tDisp trs) σ (mb m fun g => mr (f g)) := fun L1 H post px Q s hp hx hm k p np => by
  refine e p L1 _ _ px _ s (hp.own (o := .dK []) (d := .dic [] []) np fun G hG => Cell.dic (kvs := []) List.nodup_nil .nil) hx hm fun g vs H' h1 hp' hm' => ?_
  have h0 : H' p = some (.dK []) := by
    obtain ⟨G, F, W, h⟩ := id hp'
    obtain ⟨ho, e1, e2, e3⟩ := h.o _ List.mem_cons_self
    have e4 : ∀ d, Cell Z.K Z.C G ho d → d = .dic [] [] → ho = .dK [] := by
      intro d c z
      cases c with
      | lst l t => cases z
      | @dic kvs ds n t =>
        injection z with z1 z2
        cases kvs with
        | nil => rfl
        | cons a b => cases z1
      | obj a b => cases z
    rw [h.f _ _ e1, e4 _ e3 rfl]
  have hl2 : vs.length = ks.length := by rw [h1, hd g]
  have k1 : ((ks.map (Sum.inr : Str → Key)).zip vs).map (·.1) = ks.map (Sum.inr : Str → Key) := List.map_fst_zip (by simp [hl2])
  have k2 : ((ks.map (Sum.inr : Str → Key)).zip vs).map (·.2) = vs := List.map_snd_zip (by simp [hl2])
  have nd : (ks.map (Sum.inr : Str → Key)).Nodup := List.pairwise_map.mpr (hk.imp fun h z => h (by injection z))
  refine ⟨h0, (ks.map (Sum.inr : Str → Key)).zip vs, ?_, by rw [List.length_zip, List.length_map, hl2]; omega, ?_⟩
  · rw [List.zip_map_left, List.zip_map_left, List.map_map]
    rfl
  rw [merge_app _ [] (by rw [k1]; exact nd) (by intro _ _ z; cases z), List.nil_append]
  have q := (hp'.put (o := .dK ((ks.map (Sum.inr : Str → Key)).zip vs)) (d' := .dic (ks.map .inr) (ds g)) .hd fun G hG ho _ _ => by
    have c := Cell.dic (K := Z.K) (C := Z.C) (G := G) (kvs := (ks.map (Sum.inr : Str → Key)).zip vs) (ds := ds g) (by rw [k1]; exact nd) (by rw [k2]; exact zip_is h1 fun x hx => hG x (List.mem_append_left _ hx))
    rw [k1] at c
    exact c).freeze .hd
  refine k (f g) _ _ ?_ hm'
  rw [hf g]
  exact (q.less fun x hx => by
    rcases List.mem_cons.mp hx with e | e
    · rw [e]; exact List.mem_cons_self
    · exact List.mem_cons_of_mem _ (List.mem_append_right _ e))
theorem enc_LQt (l : List (Tp α)) : enc (l.map fun a => (⟨true, a.l⟩ : Sq α)) = enc l := by
  show D.lst ((l.map _).map enc) = D.lst _
  rw [List.map_map]; rfl
theorem enc_LQf (l : List (List α)) : enc (l.map fun a => (⟨false, a⟩ : Sq α)) = enc l := by
  show D.lst ((l.map _).map enc) = D.lst _
  rw [List.map_map]; rfl
theorem flat_strs (ys : List Str) : (ys.map V.str).all flatV = true := List.all_eq_true.mpr fun x hx => by
  obtain ⟨y, _, rfl⟩ := List.mem_map.mp hx
  rfl
theorem EV.idxL {to ta : TE} {m1 : M (List Str)} {m2 : M Str} (e1 : EV Z L O to σ m1) (e2 : EV Z L O ta σ m2) : EV Z L O (tBM Z.K "list" (rIndex Z.K) to (tCons ta tNil)) σ (mb m1 fun a => mb m2 fun b => midx a b) := fun L1 H post px Q s hp hx hm k =>
  e1 L1 H _ px _ s hp hx hm fun a x H1 hp1 hm1 => by
    obtain ⟨G, F, W, h⟩ := id hp1
    obtain ⟨p, xs, rfl, f1, l1, t1⟩ := is_lst h.x0
    refine ⟨.inl ⟨rfl, xs, SqL.of (h.g _ _ f1)⟩, e2 _ H1 _ px _ (sub_cons s) hp1 hx hm1 fun b y H2 hp2 hm2 => ?_⟩
    obtain rfl := is_str hp2.hd
    obtain ⟨hz, hm2⟩ := hm2
    obtain ⟨i1, i2⟩ := idx_first hz
    obtain ⟨G2, F2, W2, h2⟩ := id hp2
    obtain ⟨p', xs', e', f2, l2, t2⟩ := is_lst h2.x1
    cases e'
    obtain rfl := isL_strs t2
    refine ⟨p, a.map V.str, .str b, _, .str b, rfl, rfl, SqL.of (h2.g _ _ f2), rfl, flat_strs a, by rw [List.getElem?_map, i1]; rfl, by simp [eqV], fun m z' hm hz' => ?_, k _ _ H2 (hp2.tail.tail.add fun G _ => .int _) hm2⟩
    rw [List.getElem?_map] at hz'
    cases e : a[m]? with
    | none => rw [e] at hz'; cases hz'
    | some w =>
      rw [e] at hz'
      cases hz'
      have ne : w ≠ b := fun z => i2 m hm (by rw [e, z])
      simp [eqV, ne]
theorem EV.idxLP {to ta : TE} {a : List Str} {b : Str} (e1 : EV Z L O to σ (mr a)) (e2 : EV Z L O ta σ (mr b)) : EV Z L O (tBM Z.K "list" (rIndex Z.K) to (tCons ta tNil)) σ (midx a b) := EV.idxL e1 e2
end
end Mi

/-! a list of one's own, its last item a list of one's own -/
namespace Mi
open Enc (enc)
open PySem L2 PySem.Spec PyProof.Rows
open Cf (Fresh rPlus rTimes rEqq rNeq rInn rNotInn rIxx rIsN rNotN rInt rListOf rTupOf)
/-- the datum of it: the items that are closed, and where the last one stands -/
abbrev opn {α : Type} [Enc α] (xs : List (List α)) (q : Addr) : D := .lst (xs.map enc ++ [.own q])
section
variable {Z : Zx} {L : List (V × D)} {O : List (Addr × D)} {σ : L2.St} {H : Hp}
/-- the same thing, told otherwise -/
theorem Pt.re {O' : List (Addr × D)} {p : Addr} {d d' : D} (h : Pt Z L O H) (u : Up p d d' O O') (hd : ∀ G ho, (∀ x ∈ L, Is Z.K Z.C G x.1 x.2) → Cell Z.K Z.C G ho d → Cell Z.K Z.C G ho d') : Pt Z L O' H := by
  obtain ⟨G, F, W, h⟩ := h
  refine ⟨G, F, W, { h with o := fun x hx => ?_, nd := by rw [u.addrs]; exact h.nd }⟩
  rcases u.cases h.nd x hx with rfl | ⟨_, hx⟩
  · obtain ⟨ho, e1, e2, e3⟩ := h.o _ u.mem
    exact ⟨ho, e1, e2, hd G ho h.l e3⟩
  · exact h.o x hx
variable {α β γ : Type} [Enc α]
theorem last_own {K : PySem.W.Frag} {C : CT} {G : Hp} {vs : List V} {ds : List D} {q : Addr} (t : IsL K C G vs (ds ++ [.own q])) : ∃ us, vs = us ++ [.ref q] ∧ IsL K C G us ds := by
  induction ds generalizing vs with
  | nil =>
    cases t with
    | cons h t =>
      cases t
      cases h
      exact ⟨[], rfl, .nil⟩
  | cons d ds ih =>
    cases t with
    | cons h t =>
      obtain ⟨us, e, t'⟩ := ih t
      subst e
      exact ⟨_ :: us, rfl, .cons h t'⟩
/-- the last item is closed -/
theorem Pt.foldN {O' : List (Addr × D)} {p q : Addr} {xs : List (List α)} {z : List α} (h : Pt Z ((.ref q, enc z) :: L) O H) (u : Up p (opn xs q) (enc (xs ++ [z])) O O') : Pt Z ((.ref q, enc z) :: L) O' H :=
  h.re u fun G ho hG c => by
    obtain ⟨vs, rfl, l, t⟩ := is_cell c
    obtain ⟨us, e, t'⟩ := last_own t
    subst e
    rw [enc_snoc]
    exact .lst l (t'.put (hG _ List.mem_cons_self))
section
variable {nx : L2.St → Hp → Prop} {rt : VK} {bk ct : L2.St → Hp → Prop} {px : Exn → Prop} {ρ : Type} {post : ρ → Prop}
/-- name = [[]] -/
theorem s_setN {i : Nat} (S : Addr → L2.St) (hS : ∀ p, σ.set i (some (.ref p)) = S p) (hp : Pt Z L O H) (c : ∀ q p H', Pt Z L ((p, opn ([] : List (List α)) q) :: (q, enc ([] : List α)) :: O) H' → nx (S p) H') : tAsg (tLst (tCons (tLst tNil) tNil)) (gName i) ⟨nx, rt, bk, ct⟩ σ H := by
  refine ⟨Nat.zero_le _, fun q hq => ⟨by rw [sizeLine_eq]; exact Nat.le_of_ble_eq_true rfl, fun p np => ?_⟩⟩
  show nx (σ.set i (some (.ref p))) _
  rw [hS p]
  have h1 := hp.own (o := .lst []) (d := enc ([] : List α)) hq fun G hG => .lst (Nat.zero_le _) .nil
  exact c q p _ (h1.own (o := .lst [.ref q]) (d := .lst [.own q]) np fun G hG => .lst (Nat.le_of_ble_eq_true rfl) (.cons (.own q) .nil))
/-- name.append([]) -/
theorem s_pushN {i : Nat} {p q : Addr} {xs : List (List α)} {z : List α} {O1 : List (Addr × D)} {O2 : Addr → List (Addr × D)} {k : List (List α) → M ρ} (hi : σ[i]? = some (some (.ref p))) (hmem : (p, opn xs q) ∈ O) (hp : Pt Z L O H) (hm : (mb (mreq (xs.length < 900000) (mr (xs ++ [z]))) k) post px)
    (sel : Sel q (enc z) O O1) (u : ∀ r, Up p (opn xs q) (opn (xs ++ [z]) r) ((r, enc ([] : List α)) :: O1) (O2 r)) (c : ∀ r H', Pt Z L (O2 r) H' → k (xs ++ [z]) post px → nx σ H') : tDrop (tBM Z.K "list" rAppend (tVar i) (tCons (tLst tNil) tNil)) ⟨nx, rt, bk, ct⟩ σ H := by
  refine ⟨_, hi, ?_, Nat.zero_le _, fun r hr => ?_⟩
  · obtain ⟨G, F, W, h⟩ := hp
    obtain ⟨ho, e1, e2, e3⟩ := h.o _ hmem
    obtain ⟨vs, rfl, l, t⟩ := is_cell e3
    exact .inl ⟨rfl, vs, .inl (.inl (h.f _ _ e1))⟩
  · obtain ⟨hl, hm1⟩ := hm
    have h1 := (hp.freeze sel).own (o := .lst []) (d := enc ([] : List α)) hr fun G hG => .lst (Nat.zero_le _) .nil
    obtain ⟨ho, G, e1, e2, e3, e4⟩ := h1.at (u r).mem
    obtain ⟨vs, rfl, l, t⟩ := is_cell e2
    have n := t.len
    rw [List.length_append (as := xs.map enc), List.length_map, List.length_singleton] at n
    refine ⟨p, vs, .ref r, rfl, rfl, e1, by rw [n, sizeLine_eq]; omega, c r _ ((h1.put (u r) fun G' hG ho hh hc => ?_).tail) hm1⟩
    rw [e1] at hh
    cases hh
    obtain ⟨ws, e, l', t'⟩ := is_cell hc
    cases e
    obtain ⟨us, e, t2⟩ := last_own t'
    subst e
    have hv := hG _ List.mem_cons_self
    show Cell _ _ _ _ (.lst ((xs ++ [z]).map enc ++ [.own r]))
    rw [List.map_append]
    have n2 : (us ++ [V.ref q]).length = xs.length + 1 := n
    exact .lst (by rw [List.length_append, n2, List.length_singleton]; omega) ((t2.put hv).put (.own r))
/-- name = list[j], the last one -/
theorem s_lastN {i j : Nat} {p q : Addr} {xs : List (List α)} {tb : TE} {n : Int} (S : L2.St) (hS : σ.set j (some (.ref q)) = S) (hi : σ[i]? = some (some (.ref p))) (hmem : (p, opn xs q) ∈ O) (hp : Pt Z L O H) (hx : HX Z px) (e : EV Z L O tb σ (mr n)) (hn : n = xs.length ∨ n = -1) (c : ∀ H', Pt Z L O H' → nx S H') : tAsg (tOp (rIxx Z.K) (tVar i) tb) (gName j) ⟨nx, rt, bk, ct⟩ σ H :=
  ⟨_, hi, e L H (fun m => m = n) px _ sub_refl' hp hx rfl fun m x H1 hp1 hm1 => by
    obtain ⟨G, F, W, h⟩ := id hp1
    obtain rfl := is_int h.x0
    have hm1 : m = n := hm1
    subst hm1
    obtain ⟨ho, e1, e2, e3⟩ := h.o _ hmem
    obtain ⟨vs, rfl, l, t⟩ := is_cell e3
    obtain ⟨us, e, t2⟩ := last_own t
    subst e
    have nl := t2.len
    rw [List.length_map] at nl
    have ha : atI (us ++ [V.ref q]) m = some (.ref q) := by
      rcases hn with rfl | rfl
      · rw [← nl]; exact atI_nat (by rw [List.getElem?_append_right (Nat.le_refl _), Nat.sub_self]; rfl)
      · unfold atI ixN
        rw [if_neg (by decide), if_pos (by rw [List.length_append, List.length_singleton]; omega)]
        show (us ++ [V.ref q])[_]? = _
        rw [show (-1 + ((us ++ [V.ref q]).length : Int)).toNat = us.length by rw [List.length_append, List.length_singleton]; omega, List.getElem?_append_right (Nat.le_refl _), Nat.sub_self]
        rfl
    refine .inl (.inl ⟨p, _, m, .ref q, rfl, rfl, .inl (.inl (h.f _ _ e1)), ha, ?_⟩)
    show nx (σ.set j (some (.ref q))) _
    rw [hS]
    exact c _ hp1.tail⟩
theorem EV.lenN {i : Nat} {p q : Addr} {xs : List (List α)} (hi : σ[i]? = some (some (.ref p))) (hmem : (p, opn xs q) ∈ O) : EV Z L O (tCB (Cf.rLen Z.K) (tCons (tVar i) tNil)) σ (mr (xs.length + 1 : Int)) := fun L1 H post px Q s hp hx hm k => by
  obtain ⟨G, F, W, h⟩ := id hp
  obtain ⟨ho, e1, e2, e3⟩ := h.o _ hmem
  obtain ⟨vs, rfl, l, t⟩ := is_cell e3
  have n := t.len
  rw [List.length_append, List.length_map, List.length_singleton] at n
  refine ⟨_, hi, .inl ⟨p, vs, rfl, .inl (.inl (.inl (h.f _ _ e1))), ?_⟩⟩
  rw [n]
  exact k _ _ H (hp.add fun G _ => .int _) hm
end
end
end Mi
namespace Mi
open PySem L2 PySem.Spec PyProof.Rows
theorem pi_listB {X : Cx} {K : PySem.W.Frag} {tg l : Expr} {tl : TE} (h : X.K = K) (hl : PE X l tl) : PI X tg l (iList K tl) := h ▸ pi_list hl
theorem pi_tupB {X : Cx} {K : PySem.W.Frag} {tg l : Expr} {tl : TE} (h : X.K = K) (hl : PE X l tl) : PI X tg l (iTup K tl) := h ▸ pi_tup hl
theorem pi_sqB {X : Cx} {K : PySem.W.Frag} {tg l : Expr} {tl : TE} (h : X.K = K) (hl : PE X l tl) : PI X tg l (iOr (iList K tl) (iTup K tl)) := h ▸ pi_sq hl
section
variable {X : Cx} {K : PySem.W.Frag} {o e : Expr} {es : List Expr} {to : TE} {t : TA} {name : Str} {apos cpos : Pos} {T id : String} {r : V → List V → Hp → VK → Prop}
theorem pe_bmB (h : X.K = K) (pa : PlainAttrs T) (slot : Slot T name id) (hty : typeOf (.builtin id) = pure (.type "method_descriptor")) (hm : MtR X id r) (ho : PE X o to) (ha : PA X (e :: es) t)
    (hbase : attributeBase o name X.env (eval o X.env) = eval o X.env := by rfl)
    (hfew : ((backTo cpos (starEach (e :: es) X.env)).all (fun x => !x.1) && (backToKw cpos (keywordEach [] X.env)).all (fun x => x.1.isSome)
      && decide ((e :: es).length + ([] : List Keyword).length + (if ([] : List Keyword).isEmpty then 0 else 1) < 30)) = true := by rfl)
    (hline : (apos.endLine == cpos.line) = true := by rfl) (hs : starEach (e :: es) X.env = (false, eval e X.env) :: starEach es X.env := by rfl) (hplain : (backTo cpos (starEach es X.env)).any (·.1) = false := by rfl) :
    PE X (.Call (.Attribute o name apos) (e :: es) [] cpos) (tBM K T r to t) := h ▸ pe_bm pa slot hty hm ho ha hbase hfew hline hs hplain
theorem op_catTB (h : X.K = K) : OpR X (binaryOp .Add) (rCatT K) := h ▸ op_catT
theorem op_ltDB (h : X.K = K) (hu : X.A.units + 64 < cLine) : OpR X (compareOp .Lt) (rLtD K) := h ▸ op_ltD hu
theorem mt_idxTB (h : X.K = K) : MtR X "tuple.index" (rIdxT K) := h ▸ mt_idxT
theorem mt_indexB (h : X.K = K) : MtR X "list.index" (rIndex K) := h ▸ mt_index
def tRaise0 (C : Addr) (W : WX) : TS := fun _ σ H => W (.ref C) none σ H
theorem ps_raise0 {W : WX} {x m : Str} {j : Nat} {p p2 pos pos2 : Pos} {C : Addr} {bmB : List Value} {B newId initId : String} (hc : X.calm = true) (tk : Takes X W) (F : ExcBaseFacts B newId initId bmB) (q : PySem.W.excIn X.K C bmB newId = true) (gC : X.mg x = some (.ref C)) (kC : PySem.W.keepIn X.K (.ref C) = true) (r : Raises X (.ref C)) (hg : Gl X x)
    (hdb : (x == ("__debug__" : Str)) = false := by decide) : PS X (.Raise (some (.Call (.Name x p) [.Constant (.str m) j p2] [] pos)) none pos2) (tRaise0 C W) :=
  ps_raise hc tk (pmk_own F q gC kC r hg hdb)
end
section
variable {Z : Zx} {L : List (V × D)} {O : List (Addr × D)} {σ : L2.St} {H : Hp} {px : Exn → Prop} {ρ : Type} {post : ρ → Prop}
theorem s_raiseE {A : Addr} {W : WX} {c : Str} {D' : Ends} (hp : Pt Z L O H) (hx : HX Z px) (ha : Z.C c = some A) (hm : (mx ⟨c, [], []⟩ : M ρ) post px) (hW : ∀ cl d H', Z.E cl d H' → W cl d σ H') : tRaise0 A W D' σ H := s_raise0 hp hx ha hm hW
end
end Mi
namespace Mi
open PySem L2 PySem.Spec PyProof.Rows
/-- some of one's own things, in another order -/
inductive PkO : List (Addr × D) → List (Addr × D) → Prop
  | nil {O : List (Addr × D)} : PkO [] O
  | cons {p : Addr} {d : D} {O O1 O' : List (Addr × D)} (s : Sel p d O O1) (r : PkO O' O1) : PkO ((p, d) :: O') O
theorem Sel.perm {p : Addr} {d : D} {O O1 : List (Addr × D)} (h : Sel p d O O1) : O.Perm ((p, d) :: O1) := by
  induction h with
  | hd => exact .refl _
  | tl _ ih => exact (ih.cons _).trans (.swap _ _ _)
theorem PkO.sub {O O' : List (Addr × D)} (h : PkO O' O) : ∃ R, O.Perm (O' ++ R) := by
  induction h with
  | nil => exact ⟨_, .refl _⟩
  | cons s r ih =>
    obtain ⟨R, e⟩ := ih
    exact ⟨R, s.perm.trans (e.cons _)⟩
theorem Pt.lessP {Z : Zx} {L : List (V × D)} {O O' : List (Addr × D)} {H : Hp} (h : Pt Z L O H) (k : PkO O' O) : Pt Z L O' H := by
  obtain ⟨R, e⟩ := k.sub
  obtain ⟨G, F, W, h⟩ := h
  refine ⟨G, F, W, { h with o := fun x hx => h.o x (e.mem_iff.mpr (List.mem_append_left _ hx)), nd := ?_ }⟩
  have n := (e.map (·.1)).nodup_iff.mp h.nd
  rw [List.map_append] at n
  exact (List.nodup_append.mp n).1
end Mi

/-! things that can be compared; things without objects -/
namespace Mi
open Enc (enc)
open PySem L2 PySem.Spec PyProof.Rows
instance {α : Type} [DecidableEq α] : DecidableEq (Tp α) := fun a b => decidable_of_iff (a.l = b.l) ⟨fun h => by cases a; cases b; exact congrArg _ h, fun h => by rw [h]⟩
class EqEnc (α : Type) [Enc α] where
  n : Nat
  dat : ∀ a : α, datD (enc a) = true
  eqv : ∀ a b : α, PyData.eqv (toPy (enc a)) (toPy (enc b)) = true ↔ a = b
  dep : ∀ a : α, PyData.depth (toPy (enc a)) ≤ n
  ok : α → Prop
  lay : ∀ a : α, ok a → PyData.canLay0 (toPy (enc a)) = true
instance : EqEnc Int := ⟨0, fun _ => rfl, fun a b => by
  show (a == b) = true ↔ a = b
  exact beq_iff_eq, fun _ => Nat.le_refl _, fun _ => True, fun _ _ => rfl⟩
instance : EqEnc Str := ⟨0, fun _ => rfl, fun a b => by
  show (a == b) = true ↔ a = b
  exact beq_iff_eq, fun _ => Nat.le_refl _, fun z => PyData.canLay0 (.str z) = true, fun _ h => h⟩
section
variable {α β : Type} [Enc α] [Enc β] [EqEnc α] [EqEnc β]
theorem eqs_dat (l : List α) : datDs (l.map enc) = true := by
  induction l with
  | nil => rfl
  | cons a l ih => show (datD (enc a) && datDs (l.map enc)) = true; rw [ih, EqEnc.dat a]; rfl
theorem eqs_eqv : ∀ l m : List α, PyData.eqvAll (toPys (l.map enc)) (toPys (m.map enc)) = true ↔ l = m
  | [], [] => ⟨fun _ => rfl, fun _ => rfl⟩
  | [], b :: m => ⟨fun h => (by cases h), fun h => (by cases h)⟩
  | a :: l, [] => ⟨fun h => (by cases h), fun h => (by cases h)⟩
  | a :: l, b :: m => by
    show PyData.eqvAll (toPy (enc a) :: toPys (l.map enc)) (toPy (enc b) :: toPys (m.map enc)) = true ↔ _
    rw [PySem.W.eqv_all_cons, Bool.and_eq_true, EqEnc.eqv a b, eqs_eqv l m, List.cons.injEq]
theorem eqs_dep (l : List α) : PyData.depthAll (toPys (l.map enc)) ≤ EqEnc.n α := by
  induction l with
  | nil => exact Nat.zero_le _
  | cons a l ih =>
    show max (PyData.depth (toPy (enc a))) (PyData.depthAll (toPys (l.map enc))) ≤ _
    have := EqEnc.dep a
    omega
theorem eqs_lay (l : List α) (h : ∀ a ∈ l, EqEnc.ok a) : PyData.canLayAll0 (toPys (l.map enc)) = true := by
  induction l with
  | nil => rfl
  | cons a l ih =>
    show (PyData.canLay0 (toPy (enc a)) && PyData.canLayAll0 (toPys (l.map enc))) = true
    rw [ih fun b hb => h b (List.mem_cons_of_mem _ hb), EqEnc.lay a (h a List.mem_cons_self)]; rfl
instance : EqEnc (List α) := ⟨EqEnc.n α + 1, eqs_dat, fun l m => eqs_eqv l m, fun l => Nat.succ_le_succ (eqs_dep l), fun l => ∀ a ∈ l, EqEnc.ok a, eqs_lay⟩
instance : EqEnc (Tp α) := ⟨EqEnc.n α + 1, fun l => eqs_dat l.l, fun l m => (eqs_eqv l.l m.l).trans ⟨fun h => by cases l; cases m; exact congrArg _ h, fun h => by rw [h]⟩, fun l => Nat.succ_le_succ (eqs_dep l.l), fun l => ∀ a ∈ l.l, EqEnc.ok a, fun l => eqs_lay l.l⟩
instance : EqEnc (α × β) := ⟨EqEnc.n α + EqEnc.n β + 1, fun p => by
  show (datD (enc p.1) && (datD (enc p.2) && true)) = true
  rw [EqEnc.dat p.1, EqEnc.dat p.2]; rfl, fun p q => by
  show PyData.eqvAll [toPy (enc p.1), toPy (enc p.2)] [toPy (enc q.1), toPy (enc q.2)] = true ↔ _
  rw [PySem.W.eqv_all_cons, PySem.W.eqv_all_cons, Bool.and_eq_true, Bool.and_eq_true, EqEnc.eqv, EqEnc.eqv]
  exact ⟨fun h => Prod.ext h.1 h.2.1, fun h => by rw [h]; exact ⟨rfl, rfl, rfl⟩⟩, fun p => by
  show max (PyData.depth (toPy (enc p.1))) (max (PyData.depth (toPy (enc p.2))) 0) + 1 ≤ _
  have := EqEnc.dep p.1
  have := EqEnc.dep p.2
  omega, fun p => EqEnc.ok p.1 ∧ EqEnc.ok p.2, fun p h => by
  show (PyData.canLay0 (toPy (enc p.1)) && (PyData.canLay0 (toPy (enc p.2)) && true)) = true
  rw [EqEnc.lay p.1 h.1, EqEnc.lay p.2 h.2]; rfl⟩
theorem Ret.eqE [DecidableEq α] (a b : α) (ha : EqEnc.ok a) (hb : EqEnc.ok b) (h : EqEnc.n α ≤ 64) : Ret (meqD (enc a) (enc b)) (decide (a = b)) := by
  have sh : ∀ a : α, EqEnc.ok a → SeqAt.shaped (toPy (enc a)) = true := fun a ha => by
    show (PyData.canLay0 (toPy (enc a)) && decide (PyData.depth (toPy (enc a)) ≤ 64)) = true
    rw [EqEnc.lay a ha, decide_eq_true (Nat.le_trans (EqEnc.dep a) h)]; rfl
  refine .req ⟨EqEnc.dat a, EqEnc.dat b, sh a ha, sh b hb⟩ (.of .r ?_)
  rw [Bool.eq_iff_iff, EqEnc.eqv a b, decide_eq_true_iff]
theorem Ret.neE [DecidableEq α] (a b : α) (ha : EqEnc.ok a) (hb : EqEnc.ok b) (h : EqEnc.n α ≤ 64) : Ret (mneD (enc a) (enc b)) (!decide (a = b)) := by
  have sh : ∀ a : α, EqEnc.ok a → SeqAt.shaped (toPy (enc a)) = true := fun a ha => by
    show (PyData.canLay0 (toPy (enc a)) && decide (PyData.depth (toPy (enc a)) ≤ 64)) = true
    rw [EqEnc.lay a ha, decide_eq_true (Nat.le_trans (EqEnc.dep a) h)]; rfl
  refine .req ⟨EqEnc.dat a, EqEnc.dat b, sh a ha, sh b hb⟩ (.of .r ?_)
  rw [show PyData.eqv (toPy (enc a)) (toPy (enc b)) = decide (a = b) by rw [Bool.eq_iff_iff, EqEnc.eqv a b, decide_eq_true_iff]]
end
/-- without objects, of a bounded depth -/
class Pl (α : Type) [Enc α] where
  n : Nat
  p : ∀ a : α, plainD (enc a) = true
  d : ∀ a : α, D.depth (enc a) ≤ n
instance : Pl Int := ⟨0, fun _ => rfl, fun _ => Nat.le_refl _⟩
instance : Pl Bool := ⟨0, fun _ => rfl, fun _ => Nat.le_refl _⟩
instance : Pl Str := ⟨0, fun _ => rfl, fun _ => Nat.le_refl _⟩
instance : Pl Unit := ⟨0, fun _ => rfl, fun _ => Nat.le_refl _⟩
section
variable {α β : Type} [Enc α] [Enc β] [Pl α] [Pl β]
instance : Pl (Option α) := ⟨Pl.n α, fun o => by cases o with | none => rfl | some a => exact Pl.p a, fun o => by cases o with | none => exact Nat.zero_le _ | some a => exact Pl.d a⟩
theorem pls_p (l : List α) : plainDs (l.map enc) = true := by
  induction l with
  | nil => rfl
  | cons a l ih => show (plainD (enc a) && plainDs (l.map enc)) = true; rw [ih, Pl.p a]; rfl
theorem pls_d (l : List α) : D.depths (l.map enc) ≤ Pl.n α := by
  induction l with
  | nil => exact Nat.zero_le _
  | cons a l ih =>
    show max (D.depth (enc a)) (D.depths (l.map enc)) ≤ _
    have := Pl.d a
    omega
instance : Pl (List α) := ⟨Pl.n α + 1, pls_p, fun l => Nat.succ_le_succ (pls_d l)⟩
instance : Pl (Tp α) := ⟨Pl.n α + 1, fun l => pls_p l.l, fun l => Nat.succ_le_succ (pls_d l.l)⟩
instance : Pl (α × β) := ⟨Pl.n α + Pl.n β + 1, fun p => by
  show (plainD (enc p.1) && (plainD (enc p.2) && true)) = true
  rw [Pl.p p.1, Pl.p p.2]; rfl, fun p => by
  show max (D.depth (enc p.1)) (max (D.depth (enc p.2)) 0) + 1 ≤ _
  have := Pl.d p.1
  have := Pl.d p.2
  omega⟩
theorem Ret.sameE (a : α) (h : Pl.n α < 8) : Ret (msame (enc a) (enc a)) true := (Ret.same (Pl.p a) (Pl.p a) (Nat.lt_of_le_of_lt (Pl.d a) h)).of (dsame_self _)
end
end Mi

/-! data of a known kind; defs with *args called in a try; parts of tuples -/
namespace L2
open PySem PySem.Spec PyProof.Rows
section
variable {X : Cx} {CX : CXT} {k : Nat} {f : Addr} {sp : Sp} {E : St → XK} {x : Str} {p pos : Pos} {e : Expr} {es : List Expr} {t : TA}
theorem pt_truK {K : PySem.W.Frag} {a : Expr} {ta : TE} (hK : X.K = K) (ha : PE X a ta) (he : ∀ whole, isTrue a X.env whole = (do let v ← whole; standAt a.pos; holding [v] (truthy v))) : PT X a (tTru K ta) := by
  rw [← hK]
  exact Cf.pt_tru ha he
theorem run_fnRS {pins : List (Addr × Obj)} {σ : St} {H : Hp} {s : Shared} {Q : VK} {us : List Value} {vs : List V} (F : FnR X.prog X.w X.K X.mg X.base CX k f sp) (hr : Room k X.A) (hx : PassesAt CX X σ (E σ))
    (I : Inv X pins σ H s) (r : Vals vs us) (h : sp vs H Q (E σ)) : wpAny (model X.prog X.w) X.A (call (.ref f) us) (EP X pins σ Q) X.xe s := by
  refine wpAny_call (codeAny_mono (F X.A X.stack s H us vs Q (E σ) hr I.env0 r h) fun r s' hq => ?_)
  cases r with
  | error e => exact hx pins H s e s' I hq
  | ok fl =>
    cases fl with
    | ret u => exact I.after hq
    | next => exact False.elim hq
    | brk => exact False.elim hq
    | cont => exact False.elim hq
theorem pe_callRS (F : FnR X.prog X.w X.K X.mg X.base CX k f sp) (hr : Room k X.A) (hg : Gl X x) (hm : X.mg x = some (.ref f)) (hk : PySem.W.keepIn X.K (.ref f) = true) (hx : ∀ σ, PassesAt CX X σ (E σ)) (ha : PA X (e :: es) t) (hd : (x == ("__debug__" : Str)) = false := by decide)
    (he : starEach (e :: es) X.env = (false, eval e X.env) :: starEach es X.env := by rfl) (hpl : (backTo pos (starEach es X.env)).any (·.1) = false := by rfl) :
    PE X (.Call (.Name x p) (e :: es) [] pos) (tCallS sp E t) := by
  refine ⟨fun pins s σ H Q I h => ?_⟩
  refine wpAny_Call_Name_kw (ld_glob I hg hm ?_ hd)
  refine PySem.W.callWith_K (h₀ := X.base) I.ok.mod.kin hk (thn (ha.run pos pins s σ H _ I h) fun us s1 ⟨vs, H1, I1, r, q⟩ => ⟨I1.kIn, ?_⟩) he hpl
  exact run_fnRS F hr (hx σ) I1 r q
theorem pe_callRS0 (F : FnR X.prog X.w X.K X.mg X.base CX k f sp) (hr : Room k X.A) (hg : Gl X x) (hm : X.mg x = some (.ref f)) (hk : PySem.W.keepIn X.K (.ref f) = true) (hx : ∀ σ, PassesAt CX X σ (E σ)) (hd : (x == ("__debug__" : Str)) = false := by decide) :
    PE X (.Call (.Name x p) [] [] pos) (tCallS sp E tNil) := by
  refine ⟨fun pins s σ H Q I h => ?_⟩
  refine wpAny_Call_Name_kw (ld_glob I hg hm ?_ hd)
  exact PySem.W.callWith_K0 I.kIn hk (run_fnRS (us := []) F hr (hx σ) I .nil h)
end
end L2
namespace Mi
open Enc (enc)
open PySem L2 PySem.Spec PyProof.Rows
open Cf (Fresh rPlus rTimes rEqq rNeq rInn rNotInn rIxx rIsN rNotN rInt rListOf rTupOf)
section
variable {Z : Zx} {L : List (V × D)} {O : List (Addr × D)} {σ : L2.St} {α β γ δ : Type} [Enc α] [Enc β] [Enc δ]
/-- it is the datum of a thing of this kind -/
def mcast (α : Type) [Enc α] (d : D) : M α := fun post _ => ∃ a : α, enc a = d ∧ post a
theorem EV.castP {t : TE} {d : D} (e : EV Z L O t σ (mr d)) : EV Z L O t σ (mcast α d) := e.as fun post px hm => by
  obtain ⟨a, e, h⟩ := hm
  exact ⟨a, e, h⟩
theorem EV.cast {t : TE} {m : M D} (e : EV Z L O t σ m) : EV Z L O t σ (mb m (mcast α)) := e.as fun post px hm => by
  refine Eq.mp (congrArg (fun q : D → Prop => m q px) ?_) hm
  funext d
  exact propext Iff.rfl
theorem Ret.cast {a : α} {d : D} (e : enc a = d) : Ret (mcast α d) a := fun _ _ q => ⟨a, e, q⟩
/-- a part of a tuple of things of one kind -/
def mcutTt (a : Tp α) (lo hi : Option Int) : M (Tp α) := mreq (¬ (HT.sIx a.l.length 0 lo = 0 ∧ HT.sIx a.l.length a.l.length hi = a.l.length)) (mr ⟨cutL a.l lo hi⟩)
theorem EV.slTt {te : TE} {tl th : TO} {m : M (Tp α)} {ml mh : M (Option Int)} (e : EV Z L O te σ m) (el : EO Z L O tl σ ml) (eh : EO Z L O th σ mh) : EV Z L O (tSl (rSlT Z.K) te tl th) σ (mb m fun a => mb ml fun l => mb mh fun h => mcutTt a l h) := fun L1 H post px Q s hp hx hm k =>
  e L1 H _ px _ s hp hx hm fun a x H1 hp1 hm1 => el _ H1 _ px _ (sub_cons s) hp1 hx hm1 fun lo H2 hp2 hm2 => eh _ H2 _ px _ (sub_cons s) hp2 hx hm2 fun hi H3 hp3 hm3 => by
    obtain ⟨hw, hm3⟩ := hm3
    obtain ⟨G, F, W, h⟩ := hp3
    obtain ⟨p, xs, rfl, e, l, t⟩ := is_tup h.x0
    have n := t.len
    rw [List.length_map] at n
    refine ⟨p, xs, rfl, sqT_mono h.g e, by rw [n]; exact hw, fun q hq => k _ _ _ (h.t1.new hq (.tup (.inl (.inl upd_same)) ?_ ?_)) hm3⟩
    · exact Nat.le_trans (cutV_length _ _ _) l
    · unfold cutV cutL
      rw [List.map_take, List.map_drop, n]
      exact ((t.drop _).take _).mono (.self (h.g.free hq))
theorem EV.slTtP {te : TE} {tl th : TO} {a : Tp α} {lo hi : Option Int} (e : EV Z L O te σ (mr a)) (el : EO Z L O tl σ (mr lo)) (eh : EO Z L O th σ (mr hi)) : EV Z L O (tSl (rSlT Z.K) te tl th) σ (mcutTt a lo hi) := EV.slTt e el eh
end
end Mi

/-! static methods -/
namespace L2
open PySem PySem.Spec PyProof.Rows
/-- C.m is a staticmethod: its record at p, its def at g -/
structure SMet (K : PySem.W.Frag) (C : Addr) (mc : Value) (m : Str) (p g : Addr) : Prop where
  at_ : PySem.W.findCls K (.ref C) mc m = some (.get (.builtin "staticmethod.__get__") (.ref p) .none (.ref C))
  rc : ∃ rest, PySem.W.recIn K p "staticmethod" = some (.ref g :: rest)
  kp : PySem.W.keepIn K (.ref g) = true
def tSMeth (C : Addr) (sp : Sp) (E : XK) (ta : TE) (t : TA) : TE := fun σ H Q => ta σ H fun x H1 => x = .ref C ∧ t σ H1 fun vs H2 => sp vs H2 Q E
section
variable {X : Cx} {CX : CXT} {k : Nat} {C p g : Addr} {mc : Value} {sp : Sp} {E : XK} {o e : Expr} {es : List Expr} {m : Str} {pos apos : Pos} {ta : TE} {t : TA} {pl : Sem Bool}
theorem getmeths_ok {pins : List (Addr × Obj)} {σ : St} {H : Hp} {s : Shared} {A : Around} {Ex : Value → Shared → Prop} {pl : Sem Bool} {Q : Value × List Value → Shared → Prop} (I : Inv X pins σ H s) (r : ClX.CRead X.K C mc) (c : SMet X.K C mc m p g)
    (h : ∀ s', Inv X pins σ H s' → Q (.ref g, []) s') : wpAny (model X.prog X.w) A (getMethod (.ref C) m pl) Q Ex s := by
  obtain ⟨rest, hp⟩ := c.rc
  refine PySem.W.method_cls I.kIn r.ga (PySem.W.cls_bind I.kIn r.rd c.at_ ?_)
  exact wpAny_call (PySem.W.sm_get (s := { s with toks := s.toks + 1 }) I.kIn hp (PySem.W.handed_on rfl (h _ (I.tok _))))
theorem pe_smeth0 (he : PE X o ta) (r : ClX.CRead X.K C mc) (c : SMet X.K C mc m p g) (F : FnR X.prog X.w X.K X.mg X.base CX k g sp) (hr : Room k X.A) (hx : Passes CX X E)
    (ht : eval (.Call (.Attribute o m apos) [] [] pos) X.env = (do
      let ov ← eval o X.env
      standAt apos.atName
      let (f, first) ← holding [ov] (getMethod ov m pl)
      callWith pos f first (backTo pos (starEach [] X.env)) (backToKw pos (keywordEach [] X.env))) := by rfl) :
    PE X (.Call (.Attribute o m apos) [] [] pos) (tSMeth C sp E ta tNil) := by
  refine ⟨fun pins s σ H Q I h => ?_⟩
  refine PySem.W.methodCall_KW (pl := pl) (thn (he.run pins s σ H _ I h) fun u s1 ⟨x, H1, I1, rx, ex, q⟩ => ?_) ht
  subst ex
  obtain rfl : u = Value.ref C := rx
  refine getmeths_ok I1 r c fun s2 I2 => ?_
  exact PySem.W.callWith_K0 I2.kIn c.kp (wpAny_call (run_fnR (us := []) F hr hx I2 .nil q))
theorem pe_smeth (he : PE X o ta) (r : ClX.CRead X.K C mc) (c : SMet X.K C mc m p g) (F : FnR X.prog X.w X.K X.mg X.base CX k g sp) (hr : Room k X.A) (hx : Passes CX X E) (ha : PA X (e :: es) t)
    (hst : starEach (e :: es) X.env = (false, eval e X.env) :: starEach es X.env := by rfl) (hpl : (backTo pos (starEach es X.env)).any (·.1) = false := by rfl)
    (ht : eval (.Call (.Attribute o m apos) (e :: es) [] pos) X.env = (do
      let ov ← eval o X.env
      standAt apos.atName
      let (f, first) ← holding [ov] (getMethod ov m pl)
      callWith pos f first (backTo pos (starEach (e :: es) X.env)) (backToKw pos (keywordEach [] X.env))) := by rfl) :
    PE X (.Call (.Attribute o m apos) (e :: es) [] pos) (tSMeth C sp E ta t) := by
  refine ⟨fun pins s σ H Q I h => ?_⟩
  refine PySem.W.methodCall_KW (pl := pl) (thn (he.run pins s σ H _ I h) fun u s1 ⟨x, H1, I1, rx, ex, q⟩ => ?_) ht
  subst ex
  obtain rfl : u = Value.ref C := rx
  refine getmeths_ok I1 r c fun s2 I2 => ?_
  refine PySem.W.callWith_K (h₀ := X.base) I2.ok.mod.kin c.kp (thn (ha.run pos pins s2 σ H1 _ I2 q) fun us s3 ⟨vs, H2, I3, rv, q2⟩ => ⟨I3.kIn, ?_⟩) hst hpl
  exact wpAny_call (run_fnR F hr hx I3 rv q2)
end
end L2
namespace Mi
open Enc (enc)
open PySem L2 PySem.Spec PyProof.Rows
open Cf (Fresh rPlus rTimes rEqq rNeq rInn rNotInn rIxx rIsN rNotN rInt rListOf rTupOf)
section
variable {Z : Zx} {L : List (V × D)} {O : List (Addr × D)} {σ : L2.St} {α β γ δ : Type} [Enc α] [Enc β] [Enc δ]
theorem EV.smN {A : Addr} {sp : Sp} {E : XK} {t : TA} {m : M γ} {ds : γ → List D} {f : γ → M α} (e : EA Z L O t σ m ds) (hc : ∀ g vs H Q, vs.length = (ds g).length → CallN Z.K Z.C R0 (vs.zip (ds g)) (f g) H Q → sp vs H Q E) : EV Z L O (tSMeth A sp E (tC (.ref A)) t) σ (mb m f) := fun L1 H post px Q s hp hx hm k =>
  ⟨rfl, e L1 H _ px _ s hp hx hm fun g vs H1 h1 hp1 hm1 => hc g vs H1 Q h1 (call_n hp1 hm1 k)⟩
theorem EV.smX {A : Addr} {sp : Sp} {t : TA} {m : M γ} {ds : γ → List D} {f : γ → M α} (e : EA Z L O t σ m ds) (hc : ∀ g vs H Q, vs.length = (ds g).length → Call Z.K Z.C R0 (vs.zip (ds g)) (f g) H Q Z.E → sp vs H Q Z.E) : EV Z L O (tSMeth A sp Z.E (tC (.ref A)) t) σ (mb m f) := fun L1 H post px Q s hp hx hm k =>
  ⟨rfl, e L1 H _ px _ s hp hx hm fun g vs H1 h1 hp1 hm1 => hc g vs H1 Q h1 (call_x hp1 hx hm1 k)⟩
theorem EV.smF {A : Addr} {sp : Sp} {E : XK} {t : TA} {m : M γ} {ds : γ → List D} {f : γ → M α} (e : EA Z L O t σ m ds) (hc : ∀ g vs H Q, vs.length = (ds g).length → Call Z.K Z.C R0 (vs.zip (ds g)) (f g) H Q E → sp vs H Q E) : EV Z L O (tSMeth A sp E (tC (.ref A)) t) σ (mb m fun g => mno (f g)) := fun L1 H post px Q s hp hx hm k =>
  ⟨rfl, e L1 H _ px _ s hp hx hm fun g vs H1 h1 hp1 hm1 => hc g vs H1 Q h1 (call_f (px := px) hp1 hm1 k)⟩
end
end Mi

/-! methods that raise -/
namespace L2
open PySem PySem.Spec PyProof.Rows
section
variable {X : Cx} {CX : CXT} {k : Nat} {f C : Addr} {fd : FuncData} {ps : List Str} {sp : Sp} {E : St → XK} {x m : Str} {p pos apos : Pos} {e o : Expr} {es : List Expr} {ta : TE} {t : TA}
/-- o.m(..) within a try -/
def tMethT (C : Addr) (m : Str) (sp : Sp) (E : St → XK) (ta : TE) (t : TA) : TE := fun σ H Q => ta σ H fun x H1 => ∃ a dx fs, x = .ref a ∧ H1 a = some (.ins C dx fs) ∧ fs.lookup m = none ∧ t σ H1 fun vs H2 => sp (x :: vs) H2 Q (E σ)
theorem pe_methT {pl : Sem Bool} (he : PE X o ta) (c : Cls X.K C) (hm : Meth X.K C m f) (F : FnOk X.prog X.w X.K X.mg X.base CX k f fd ps sp) (hr : Room k X.A) (hb : Binds X.K fd ps []) (hx : ∀ σ, PassesAt CX X σ (E σ)) (ha : PA X (e :: es) t)
    (hst : starEach (e :: es) X.env = (false, eval e X.env) :: starEach es X.env := by rfl) (hpl : (backTo pos (starEach es X.env)).any (·.1) = false := by rfl)
    (ht : eval (.Call (.Attribute o m apos) (e :: es) [] pos) X.env = (do
      let ov ← eval o X.env
      standAt apos.atName
      let (f, first) ← holding [ov] (getMethod ov m pl)
      callWith pos f first (backTo pos (starEach (e :: es) X.env)) (backToKw pos (keywordEach [] X.env))) := by rfl) :
    PE X (.Call (.Attribute o m apos) (e :: es) [] pos) (tMethT C m sp E ta t) := by
  refine ⟨fun pins s σ H Q I h => ?_⟩
  refine PySem.W.methodCall_KW (pl := pl) (thn (he.run pins s σ H _ I h) fun u s1 ⟨x, H1, I1, rx, a, dx, fs, ex, ea, l, q⟩ => ?_) ht
  subst ex
  obtain rfl : u = Value.ref a := rx
  refine getmeth_ok I1 ea c hm l ?_
  refine PySem.W.callWith_K (first := [.ref a]) (h₀ := X.base) I.ok.mod.kin hm.kp (thn (ha.run pos pins s1 σ H1 _ I1 q) fun us s2 ⟨vs, H2, I2, r, q2⟩ => ⟨I2.kIn, ?_⟩) hst hpl
  exact run_fnS (us := .ref a :: us) (vs := .ref a :: vs) F hr hb (hx σ) I2 (.cons rfl r) q2
theorem pe_methT0 {pl : Sem Bool} (he : PE X o ta) (c : Cls X.K C) (hm : Meth X.K C m f) (F : FnOk X.prog X.w X.K X.mg X.base CX k f fd ps sp) (hr : Room k X.A) (hb : Binds X.K fd ps []) (hx : ∀ σ, PassesAt CX X σ (E σ))
    (ht : eval (.Call (.Attribute o m apos) [] [] pos) X.env = (do
      let ov ← eval o X.env
      standAt apos.atName
      let (f, first) ← holding [ov] (getMethod ov m pl)
      callWith pos f first (backTo pos (starEach [] X.env)) (backToKw pos (keywordEach [] X.env))) := by rfl) :
    PE X (.Call (.Attribute o m apos) [] [] pos) (tMethT C m sp E ta tNil) := by
  refine ⟨fun pins s σ H Q I h => ?_⟩
  refine PySem.W.methodCall_KW (pl := pl) (thn (he.run pins s σ H _ I h) fun u s1 ⟨x, H1, I1, rx, a, dx, fs, ex, ea, l, q⟩ => ?_) ht
  subst ex
  obtain rfl : u = Value.ref a := rx
  refine getmeth_ok I1 ea c hm l ?_
  exact PySem.W.callWith_K0 (first := [.ref a]) I1.kIn hm.kp (run_fnS (us := [.ref a]) (vs := [.ref a]) F hr hb (hx σ) I1 (.cons rfl .nil) q)
end
end L2
namespace Mi
open Enc (enc)
open PySem L2 PySem.Spec PyProof.Rows
open Cf (Fresh rPlus rTimes rEqq rNeq rInn rNotInn rIxx rIsN rNotN rInt rListOf rTupOf)
section
variable {Z : Zx} {L : List (V × D)} {O : List (Addr × D)} {σ : L2.St} {α β γ δ : Type} [Enc α] [Enc β] [Enc δ]
theorem meth_pt {p : V} {d : D} {qs L1 : List (V × D)} {H : Hp} (h : Pt Z (qs ++ (p, d) :: L1) O H) : Pt Z ((p, d) :: qs ++ L1) O H := h.less fun x hx => by
  rcases List.mem_cons.mp hx with e | e
  · rw [e]; exact List.mem_append_right _ List.mem_cons_self
  · rcases List.mem_append.mp e with e | e
    · exact List.mem_append_left _ e
    · exact List.mem_append_right _ (List.mem_cons_of_mem _ e)
theorem EV.methX {c f : Str} {A : Addr} {sp : Sp} {dvs : List V} {to : TE} {t : TA} {mo : M α} {m : M γ} {ds : γ → List D} {k : α → γ → M β} (e0 : EV Z L O to σ mo) (e : EA Z L O t σ m ds) (ha : Z.C c = some A) (ho : ∀ a, ObjNo c f (enc (a : α)))
    (hc : ∀ a x g vs H Q, vs.length = (ds g).length → Call Z.K Z.C R0 ((x, enc a) :: vs.zip (ds g)) (k a g) H Q Z.E → sp (x :: (vs ++ dvs)) H Q Z.E) : EV Z L O (tMeth A f sp dvs Z.E to t) σ (mb mo fun a => mb m fun g => k a g) := fun L1 H post px Q s hp hx hm kk =>
  e0 L1 H _ px _ s hp hx hm fun a x H1 hp1 hm1 => by
    obtain ⟨G, F, W, h1⟩ := hp1
    obtain ⟨p, dx, fs, rfl, e1, e2⟩ := h1.obj ha (ho a)
    exact ⟨p, dx, fs, rfl, e1, e2, e _ H1 _ px _ (sub_cons s) h1.pt hx hm1 fun g vs H2 hl hp2 hm2 => hc a _ g vs H2 Q hl (call_x (ps := (.ref p, enc a) :: vs.zip (ds g)) (L1 := L1) (meth_pt hp2) hx hm2 kk)⟩
theorem EV.methF {c f : Str} {A : Addr} {sp : Sp} {dvs : List V} {E : XK} {to : TE} {t : TA} {mo : M α} {m : M γ} {ds : γ → List D} {k : α → γ → M β} (e0 : EV Z L O to σ mo) (e : EA Z L O t σ m ds) (ha : Z.C c = some A) (ho : ∀ a, ObjNo c f (enc (a : α)))
    (hc : ∀ a x g vs H Q, vs.length = (ds g).length → Call Z.K Z.C R0 ((x, enc a) :: vs.zip (ds g)) (k a g) H Q E → sp (x :: (vs ++ dvs)) H Q E) : EV Z L O (tMeth A f sp dvs E to t) σ (mb mo fun a => mb m fun g => mno (k a g)) := fun L1 H post px Q s hp hx hm kk =>
  e0 L1 H _ px _ s hp hx hm fun a x H1 hp1 hm1 => by
    obtain ⟨G, F, W, h1⟩ := hp1
    obtain ⟨p, dx, fs, rfl, e1, e2⟩ := h1.obj ha (ho a)
    exact ⟨p, dx, fs, rfl, e1, e2, e _ H1 _ px _ (sub_cons s) h1.pt hx hm1 fun g vs H2 hl hp2 hm2 => hc a _ g vs H2 Q hl (call_f (px := px) (ps := (.ref p, enc a) :: vs.zip (ds g)) (L1 := L1) (meth_pt hp2) hm2 kk)⟩
theorem EV.methS {c f : Str} {A : Addr} {sp : Sp} {E : L2.St → XK} {to : TE} {t : TA} {mo : M α} {m : M γ} {ds : γ → List D} {k : α → γ → M β} (hE : E σ = Z.E) (e0 : EV Z L O to σ mo) (e : EA Z L O t σ m ds) (ha : Z.C c = some A) (ho : ∀ a, ObjNo c f (enc (a : α)))
    (hc : ∀ a x g vs H Q, vs.length = (ds g).length → Call Z.K Z.C R0 ((x, enc a) :: vs.zip (ds g)) (k a g) H Q Z.E → sp (x :: vs) H Q Z.E) : EV Z L O (tMethT A f sp E to t) σ (mb mo fun a => mb m fun g => k a g) := fun L1 H post px Q s hp hx hm kk =>
  e0 L1 H _ px _ s hp hx hm fun a x H1 hp1 hm1 => by
    obtain ⟨G, F, W, h1⟩ := hp1
    obtain ⟨p, dx, fs, rfl, e1, e2⟩ := h1.obj ha (ho a)
    exact ⟨p, dx, fs, rfl, e1, e2, e _ H1 _ px _ (sub_cons s) h1.pt hx hm1 fun g vs H2 hl hp2 hm2 => by
      rw [hE]
      exact hc a _ g vs H2 Q hl (call_x (ps := (.ref p, enc a) :: vs.zip (ds g)) (L1 := L1) (meth_pt hp2) hx hm2 kk)⟩
end
end Mi

local macro_rules | `(tactic| walk_at "tr") => `(tactic| first
  | assumption
  | exact Cf.Tr.same
  | exact Cf.Tr.of (by assumption)
  | exact Cf.StAt.tp (by assumption)
  | exact Cf.StAt.tq (by assumption)
  | (refine Cf.Tr.up ?_; walk_at "tr")
  | (refine Cf.Tr.keep (by assumption) (by walk_at "nin") ?_; walk_at "tr"))
local macro_rules | `(tactic| walk_at "ne") => `(tactic| first
  | assumption
  | exact Ne.symm (by assumption)
  | exact Cf.ne_new (by assumption) (by walk_at "tr")
  | exact Cf.ne_new' (by assumption) (by walk_at "tr"))
local macro_rules | `(tactic| walk_at "nin") => `(tactic| first
  | exact Cf.nin0
  | (refine Cf.nin1 ?_; walk_at "ne")
  | (refine Cf.ninc ?a ?b; (case a => walk_at "ne"); (case b => walk_at "nin")))
local macro_rules | `(tactic| walk_at "hp") => `(tactic| first
  | assumption
  | exact L2.upd_same
  | (refine Cf.get_new (by assumption) ?_; walk_at "hp")
  | (refine Cf.get_ne (by walk_at "ne") ?_; walk_at "hp")
  | (refine Cf.Keep.at (by assumption) (by walk_at "nin") ?_; walk_at "hp"))
local macro_rules | `(tactic| walk_at "kd") => `(tactic| first
  | exact Cf.KdOf.non | exact Cf.KdOf.bl _ | exact Cf.KdOf.int _ | exact Cf.KdOf.str _
  | (exact Cf.KdOf.lst (by walk_at "hp")) | (exact Cf.KdOf.tup (by walk_at "hp")) | (exact Cf.KdOf.dic (by walk_at "hp")))
local macro_rules | `(tactic| walk_at "fr") => `(tactic| first
  | assumption
  | exact (Cf.upd_none (by assumption)).2
  | exact (Cf.upd_none (Cf.upd_none (by assumption)).2).2
  | exact (Cf.upd_none (Cf.upd_none (Cf.upd_none (by assumption)).2).2).2
  | exact (Cf.upd_none (Cf.upd_none (Cf.upd_none (Cf.upd_none (by assumption)).2).2).2).2
  | exact (Cf.upd_none (Cf.upd_none (Cf.upd_none (Cf.upd_none (Cf.upd_none (by assumption)).2).2).2).2).2
  | exact (Cf.upd_none (Cf.upd_none (Cf.upd_none (Cf.upd_none (Cf.upd_none (Cf.upd_none (by assumption)).2).2).2).2).2).2
  | exact (Cf.upd_none (Cf.upd_none (Cf.upd_none (Cf.upd_none (Cf.upd_none (Cf.upd_none (Cf.upd_none (by assumption)).2).2).2).2).2).2).2
  | exact (Cf.upd_none (Cf.upd_none (Cf.upd_none (Cf.upd_none (Cf.upd_none (Cf.upd_none (Cf.upd_none (Cf.upd_none (by assumption)).2).2).2).2).2).2).2).2
  | exact (Cf.upd_none (Cf.upd_none (Cf.upd_none (Cf.upd_none (Cf.upd_none (Cf.upd_none (Cf.upd_none (Cf.upd_none (Cf.upd_none (by assumption)).2).2).2).2).2).2).2).2).2)
local macro_rules | `(tactic| walk_at "sub") => `(tactic| first
  | (intro b hb; exact hb)
  | (simp; done)
  | (intro b hb; simp only [List.mem_cons, List.not_mem_nil, or_false] at hb ⊢; first | exact hb | (subst hb; simp) | (rcases hb with h | h <;> simp [h]) | (rcases hb with h | h | h <;> simp [h]) | (rcases hb with h | h | h | h <;> simp [h])))
local macro_rules | `(tactic| walk_at "kp") => `(tactic| first
  | exact Cf.Keep.refl _
  | assumption
  | (refine Cf.Keep.new ?_ (by assumption); walk_at "kp")
  | (refine Cf.Keep.mut ?_ (by first | (simp; done) | assumption); walk_at "kp")
  | (refine Cf.Keep.mutN ?_ (by walk_at "fr"); walk_at "kp")
  | (refine Cf.Keep.step (by assumption) (by walk_at "sub") ?_; walk_at "kp"))
local macro_rules | `(tactic| walk_at "side") => `(tactic| first
  | assumption
  | omega
  | (exact And.intro (by omega) (by omega))
  | rfl
  | decide
  | (exact Or.inr (by decide))
  | (exact Or.inl (by decide))
  | (exact Or.inl (by constructor <;> omega))
  | (exact Or.inr (by constructor <;> omega))
  | (exact And.intro (by first | assumption | decide | omega) (by first | assumption | decide | omega))
  | (exact And.intro (by omega) (by decide))
  | (exact And.intro (by decide) (And.intro (by decide) (by decide))))
local macro_rules | `(tactic| walk_at "gx1") => `(tactic| first
  | ((with_reducible refine' Cf.k_var ?e ?_); (case e => rfl))
  | (with_reducible refine' Cf.k_c ?_)
  | (with_reducible refine' Cf.k_op ?_)
  | (with_reducible refine' Cf.k_cons ?_)
  | (with_reducible refine' Cf.k_nil ?_)
  | (with_reducible refine' Cf.k_un ?_)
  | (with_reducible refine' Cf.k_call ?_)
  | (with_reducible refine' Cf.k_cb ?_)
  | (with_reducible refine' Cf.k_test ?_)
  | (with_reducible refine' Cf.k_tB ?_)
  | (with_reducible refine' Cf.k_tru ?_)
  | (with_reducible refine' Cf.k_ex ?_)
  | (with_reducible refine' Cf.k_exT ?_)
  | (with_reducible refine' Cf.k_exI ?_)
  | (with_reducible refine' Cf.k_exint ?_)
  | (with_reducible refine' Cf.k_and ?_)
  | (with_reducible refine' Cf.k_or ?_)
  | (with_reducible refine' Cf.k_not ?_)
  | (with_reducible refine' Cf.k_andV ?_)
  | (with_reducible refine' Cf.k_orV ?_)
  | (with_reducible refine' Cf.k_notV ?_)
  | (with_reducible refine' Cf.k_ifE ?_)
  | (with_reducible refine' Cf.k_tup ?_)
  | (with_reducible refine' Cf.k_lst ?_)
  | (with_reducible refine' Cf.k_asg ?_)
  | ((with_reducible refine' Cf.k_gname ?e ?_); (case e => ((try simp only [List.map_cons, List.map_nil, L2.wipe, List.set_cons_succ, List.set_cons_zero]); rfl)))
  | ((with_reducible refine' Cf.k_wipe ?e ?_); (case e => rfl))
  | (with_reducible refine' Cf.k_gsub ?_)
  | (with_reducible refine' Cf.k_ifs ?_)
  | (with_reducible refine' Cf.k_ret ?_)
  | (with_reducible refine' Cf.k_retN ?_)
  | (with_reducible refine' Cf.k_drop ?_)
  | (with_reducible refine' Cf.k_next ?_)
  | (with_reducible refine' Cf.k_for ?_)
  | (with_reducible refine' Cf.k_rng1 ?_)
  | (with_reducible refine' Cf.k_rng2 ?_)
  | (with_reducible refine' Cf.k_ilist ?_)
  | (with_reducible refine' Cf.k_itup ?_)
  | ((with_reducible refine' Cf.k_exrng ?c ?_); (case c => walk_at "side"))
  | ((with_reducible refine' Cf.k_exrng2 ?c ?_); (case c => walk_at "side"))
  | ((with_reducible refine' Cf.k_exlst ?c ?_); (case c => walk_at "hp"))
  | ((with_reducible refine' Cf.k_extup ?c ?_); (case c => walk_at "hp"))
  | (with_reducible refine' Cf.k_lc ?_)
  | (with_reducible refine' Cf.k_yes ?_)
  | (with_reducible refine' Cf.k_brk ?_)
  | (with_reducible refine' Cf.k_cont ?_)
  | (with_reducible refine' Cf.k_bm0 ?_)
  | (with_reducible refine' Cf.k_bm ?_)
  | (with_reducible refine' Cf.k_fld ?_)
  | (with_reducible refine' Cf.k_sfld ?_)
  | (with_reducible refine' Cf.k_prop ?_)
  | ((with_reducible refine' Cf.k_size ?h ?_); (case h => rfl))
  | (with_reducible refine' Cf.k_meth ?_)
  | (with_reducible refine' Cf.k_make ?_)
  | (with_reducible refine' Cf.k_disp ?_)
  | (with_reducible refine' Cf.k_pairs_nil ?_)
  | (with_reducible refine' Cf.k_pairs ?_)
  | ((with_reducible refine' Cf.kr_fld ?h ?c ?n ?l ?_); (case h => walk_at "hp"); (case c => assumption); (case n => assumption); (case l => walk_at "lk"))
  | ((with_reducible refine' Cf.kr_sfld ?h ?c ?n ?l ?e ?_); (case h => walk_at "hp"); (case c => assumption); (case n => assumption); (case l => walk_at "lk"); (case e => walk_at "lk"))
  | ((with_reducible refine' Cf.kr_meth ?h ?l ?_); (case h => walk_at "hp"); (case l => walk_at "lk"))
  | ((with_reducible refine' Cf.kr_prop ?h ?_); (case h => walk_at "hp"))
  | ((with_reducible refine' Cf.k_tyL ?h ?_); (case h => walk_at "hp"))
  | ((with_reducible refine' Cf.kr_append ?h ?l ?_); (case h => walk_at "hp"); (case l => walk_at "side"))
  | ((with_reducible refine' Cf.kr_pop0 ?h ?_); (case h => walk_at "hp"))
  | ((with_reducible refine' Cf.kr_inI ?h ?f ?g ?e ?_); (case h => walk_at "hp"); (case f => rfl); (case g => (first | exact Cf.ints_flat | rfl)); (case e => (first | exact Cf.inV_ints | rfl)))
  | ((with_reducible refine' Cf.kr_slL ?h ?_); (case h => walk_at "hp"))
  | (with_reducible refine' Cf.k_sl ?_)
  | (with_reducible refine' Cf.k_nopart ?_)
  | (with_reducible refine' Cf.k_part ?_)
  | (with_reducible refine' Cf.kr_I0 ?_)
  | ((with_reducible refine' Cf.kr_I ?c ?_); (case c => walk_at "side"))
  | (with_reducible refine' Cf.kr_U ?_)
  | (with_reducible refine' Cf.kr_plus ?_)
  | ((with_reducible refine' Cf.kr_times ?c ?_); (case c => walk_at "side"))
  | ((with_reducible refine' Cf.kr_eq ?c ?_); (case c => rfl))
  | ((with_reducible refine' Cf.kr_ne ?c ?_); (case c => rfl))
  | ((with_reducible refine' Cf.kr_ixL ?h ?a ?_); (case h => walk_at "hp"); (case a => (first | rfl | exact Cf.atI_zero | exact L2.atI_last _ _)))
  | ((with_reducible refine' Cf.kr_ixT ?h ?a ?_); (case h => walk_at "hp"); (case a => (first | rfl | exact Cf.atI_zero | exact L2.atI_last _ _)))
  | ((with_reducible refine' Cf.kr_ixD ?h ?a ?_); (case h => walk_at "hp"); (case a => walk_at "lk"))
  | ((with_reducible refine' Cf.kr_setD ?h ?l ?e ?_); (case h => walk_at "hp"); (case l => walk_at "lk"); (case e => walk_at "lk"))
  | ((with_reducible refine' Cf.kr_setL ?h ?a ?e ?_); (case h => walk_at "hp"); (case a => rfl); (case e => ((try simp only [Int.reduceToNat, List.set_cons_succ, List.set_cons_zero]); rfl)))
  | ((with_reducible refine' Cf.kr_lenL ?h ?_); (case h => walk_at "hp"))
  | ((with_reducible refine' Cf.kr_lenT ?h ?_); (case h => walk_at "hp"))
  | (with_reducible refine' Cf.kr_int ?_)
  | (with_reducible refine' Cf.kr_isN ?_)
  | (with_reducible refine' Cf.kr_notN ?_)
  | ((with_reducible refine' Cf.kr_isi_bool ?ty ?_); (case ty => walk_at "kd"))
  | ((with_reducible refine' Cf.kr_isi_int ?ty ?_); (case ty => walk_at "kd"))
  | ((with_reducible refine' Cf.kr_isi_str ?ty ?_); (case ty => walk_at "kd"))
  | ((with_reducible refine' Cf.kr_isi_list ?ty ?_); (case ty => walk_at "kd"))
  | ((with_reducible refine' Cf.kr_isi_tuple ?ty ?_); (case ty => walk_at "kd"))
  | ((with_reducible refine' Cf.kr_isi_dict ?ty ?_); (case ty => walk_at "kd"))
  | ((with_reducible refine' Cf.kr_listL ?h ?_); (case h => walk_at "hp"))
  | ((with_reducible refine' Cf.kr_tupL ?h ?_); (case h => walk_at "hp"))
  | ((with_reducible refine' Cf.k_iteT ?c ?_); (case c => first | assumption | rfl))
  | ((with_reducible refine' Cf.k_iteF ?c ?_); (case c => first | assumption | rfl)))
local macro_rules | `(tactic| walk_at "go1") => `(tactic| first
  | walk_at "gx1"
  | (with_reducible refine' Cf.k_seq ?_))
local macro_rules | `(tactic| walk_at "go") => `(tactic| repeat walk_at "go1")
local macro_rules | `(tactic| walk_at "gx") => `(tactic| repeat walk_at "gx1")
local macro_rules | `(tactic| walk_at "g1") => `(tactic| ((with_reducible refine' Cf.k_seq ?_); walk_at "gx"))
local macro_rules | `(tactic| walk_at "start") => `(tactic| simp only [Cf.start_cons, Cf.start_none, Cf.start_nil])

local macro_rules | `(tactic| walk_at "ret1") => `(tactic| first
  | with_reducible assumption
  | with_reducible exact Mi.Ret.r
  | with_reducible apply Mi.Ret.b
  | with_reducible apply Mi.Ret.no
  | with_reducible exact Mi.Ret.int
  | with_reducible exact Mi.Ret.str
  | with_reducible exact Mi.Ret.ix rfl
  | with_reducible exact Mi.Ret.lenT
  | with_reducible exact Mi.Ret.lenL
  | with_reducible refine Mi.Ret.addS (by walk_at "sz")
  | with_reducible refine Mi.Ret.lenS (by walk_at "sz")
  | with_reducible refine Mi.Ret.slS (by walk_at "sz")
  | with_reducible refine Mi.Ret.mulI (by walk_at "sz")
  | with_reducible refine Mi.Ret.addL (by walk_at "sz")
  | with_reducible refine Mi.Ret.push (by walk_at "sz"))
local macro_rules | `(tactic| walk_at "sz") => `(tactic| first | assumption | omega | decide)
local macro_rules | `(tactic| walk_at "ret") => `(tactic| repeat' (walk_at "ret1"))
local macro_rules | `(tactic| walk_at "retof") => `(tactic| (apply Mi.Ret.of; (· walk_at "ret"); (· rfl)))
local macro_rules | `(tactic| walk_at "ln") => `(tactic| first | assumption | exact Nat.le_refl _)
local macro_rules | `(tactic| walk_at "lz") => `(tactic| first | assumption | (refine Nat.le_trans (by assumption) ?_; first | omega | decide) | decide)
local macro_rules | `(tactic| walk_at "lb") => `(tactic| repeat' (first | exact Mi.LB.nil | apply Mi.LB.cons | walk_at "lz"))
local macro_rules | `(tactic| walk_at "wp1") => `(tactic| first
  | (with_reducible apply Mi.addS_b; (· walk_at "ln"); (· walk_at "ln"); (· first | omega | decide); intro z hz)
  | (with_reducible apply Mi.cut_b; (· walk_at "ln"); (· first | omega | decide); intro z hz)
  | (with_reducible apply Mi.lenS_b; (· walk_at "ln"); (· first | omega | decide))
  | (with_reducible apply Mi.addL_b; (· first | assumption | walk_at "lb"); (· walk_at "lb"); (· first | omega | decide); intro x hx)
  | (with_reducible apply Mi.push_b; (· assumption); (· walk_at "lz"); (· first | omega | decide); intro x hx))
local macro_rules | `(tactic| walk_at "wp") => `(tactic| repeat (walk_at "wp1"))

namespace K
open PySem L2
open Cf hiding D Is IsL D.depth D.depths D.key is_key is_keys key_inj keys_inj keys_depth depth_mem Grow
open Mi
open Mi.Enc (enc)
structure Wld where
  lag : (Option Int)
  length : (Option Int)
instance : Enc Wld := ⟨fun o => .obj "World" ["lag", "length"] [enc o.lag, enc o.length]⟩
instance : NotNon Wld := ⟨fun _ h => nomatch h⟩
def top (i : Nat) : Stmt := PySem.Challenge.pw_copiesfollow_k40_whole_world_gaps.main.body.getD i (.Pass ⟨0, 0, 0, 0⟩)
abbrev s_law_mixed : Stmt := top 25
theorem sc_law_mixed : FnScope ["cell", "turn", "limit", "once"] ["cell", "turn", "limit"] (defScope s_law_mixed) := ⟨rfl, rfl, rfl, by decide +kernel, rfl, by decide +kernel, by decide +kernel⟩
abbrev s_law_draw : Stmt := top 26
theorem sc_law_draw : FnScope ["state", "limit", "digit", "cell"] ["state", "limit"] (defScope s_law_draw) := ⟨rfl, rfl, rfl, by decide +kernel, rfl, by decide +kernel, by decide +kernel⟩
abbrev s_law_start : Stmt := top 24
theorem sc_law_start : FnScope ["script"] ["script"] (defScope s_law_start) := ⟨rfl, rfl, rfl, by decide +kernel, rfl, by decide +kernel, by decide +kernel⟩
abbrev s_law_same : Stmt := top 23
theorem sc_law_same : FnScope ["here", "there", "key", "k"] ["here", "there"] (defScope s_law_same) := ⟨rfl, rfl, rfl, by decide +kernel, rfl, by decide +kernel, by decide +kernel⟩
abbrev s_check_mark : Stmt := top 9
theorem sc_check_mark : FnScope ["mark"] ["mark"] (defScope s_check_mark) := ⟨rfl, rfl, rfl, by decide +kernel, rfl, by decide +kernel, by decide +kernel⟩
abbrev s_stands_below : Stmt := top 10
theorem sc_stands_below : FnScope ["lower", "upper"] ["lower", "upper"] (defScope s_stands_below) := ⟨rfl, rfl, rfl, by decide +kernel, rfl, by decide +kernel, by decide +kernel⟩
abbrev s_sum_of : Stmt := top 15
theorem sc_sum_of : FnScope ["first", "second"] ["first", "second"] (defScope s_sum_of) := ⟨rfl, rfl, rfl, by decide +kernel, rfl, by decide +kernel, by decide +kernel⟩
abbrev s_mark_gap : Stmt := top 16
theorem sc_mark_gap : FnScope ["upper", "lower", "lag", "length"] ["upper", "lower", "lag", "length"] (defScope s_mark_gap) := ⟨rfl, rfl, rfl, by decide +kernel, rfl, by decide +kernel, by decide +kernel⟩
abbrev s_on_ladder : Stmt := top 11
theorem sc_on_ladder : FnScope ["marks", "mark", "lower", "upper"] ["marks"] (defScope s_on_ladder) := ⟨rfl, rfl, rfl, by decide +kernel, rfl, by decide +kernel, by decide +kernel⟩
abbrev s_is_whole : Stmt := top 13
theorem sc_is_whole : FnScope ["value"] ["value"] (defScope s_is_whole) := ⟨rfl, rfl, rfl, by decide +kernel, rfl, by decide +kernel, by decide +kernel⟩
abbrev s_is_bound : Stmt := top 19
theorem sc_is_bound : FnScope ["value"] ["value"] (defScope s_is_bound) := ⟨rfl, rfl, rfl, by decide +kernel, rfl, by decide +kernel, by decide +kernel⟩
abbrev s_bound_at_most : Stmt := top 20
theorem sc_bound_at_most : FnScope ["first", "second"] ["first", "second"] (defScope s_bound_at_most) := ⟨rfl, rfl, rfl, by decide +kernel, rfl, by decide +kernel, by decide +kernel⟩
abbrev s_World_init : Stmt := inClass (top 21) 0
theorem sc_World_init : FnScope ["self", "lag", "length"] ["self", "lag", "length"] (defScope s_World_init) := ⟨rfl, rfl, rfl, by decide +kernel, rfl, by decide +kernel, by decide +kernel⟩
abbrev s_World_wide : Stmt := inClass (top 21) 1
theorem sc_World_wide : FnScope [] [] (defScope s_World_wide) := ⟨rfl, rfl, rfl, by decide +kernel, rfl, by decide +kernel, by decide +kernel⟩
abbrev s_World_gap : Stmt := inClass (top 21) 2
theorem sc_World_gap : FnScope ["self", "upper", "lower"] ["self", "upper", "lower"] (defScope s_World_gap) := ⟨rfl, rfl, rfl, by decide +kernel, rfl, by decide +kernel, by decide +kernel⟩
abbrev s_Worlddd__containsdd_ : Stmt := inClass (top 21) 3
theorem sc_Worlddd__containsdd_ : FnScope ["self", "x", "mark"] ["self", "x"] (defScope s_Worlddd__containsdd_) := ⟨rfl, rfl, rfl, by decide +kernel, rfl, by decide +kernel, by decide +kernel⟩
abbrev s_law_word : Stmt := top 27
theorem sc_law_word : FnScope ["state", "letters", "many", "alike", "sign", "spot", "word", "k"] ["state"] (defScope s_law_word) := ⟨rfl, rfl, rfl, by decide +kernel, rfl, by decide +kernel, by decide +kernel⟩
abbrev s_law_within : Stmt := top 28
theorem sc_law_within : FnScope ["state", "bound", "pick"] ["state", "bound"] (defScope s_law_within) := ⟨rfl, rfl, rfl, by decide +kernel, rfl, by decide +kernel, by decide +kernel⟩
abbrev s_law_ladder : Stmt := top 29
theorem sc_law_ladder : FnScope ["state", "late", "far", "calm", "owed", "done", "end", "got", "own"] ["state", "late", "far"] (defScope s_law_ladder) := ⟨rfl, rfl, rfl, by decide +kernel, rfl, by decide +kernel, by decide +kernel⟩
abbrev s_law_bound : Stmt := top 30
theorem sc_law_bound : FnScope ["state", "limit"] ["state", "limit"] (defScope s_law_bound) := ⟨rfl, rfl, rfl, by decide +kernel, rfl, by decide +kernel, by decide +kernel⟩
abbrev s_law_under : Stmt := top 31
theorem sc_law_under : FnScope ["lower", "upper", "chain", "other"] ["lower", "upper"] (defScope s_law_under) := ⟨rfl, rfl, rfl, by decide +kernel, rfl, by decide +kernel, by decide +kernel⟩
abbrev s_law_gap : Stmt := top 32
theorem sc_law_gap : FnScope ["upper", "lower", "late", "far"] ["upper", "lower", "late", "far"] (defScope s_law_gap) := ⟨rfl, rfl, rfl, by decide +kernel, rfl, by decide +kernel, by decide +kernel⟩
abbrev s_law_seven : Stmt := top 33
theorem sc_law_seven : FnScope [] [] (defScope s_law_seven) := ⟨rfl, rfl, rfl, by decide +kernel, rfl, by decide +kernel, by decide +kernel⟩
abbrev s_law_least : Stmt := top 34
theorem sc_law_least : FnScope ["clause", "high", "late", "far", "found", "mark", "place", "term", "gap"] ["clause", "high", "late", "far"] (defScope s_law_least) := ⟨rfl, rfl, rfl, by decide +kernel, rfl, by decide +kernel, by decide +kernel⟩
abbrev s_law_stranger : Stmt := top 35
theorem sc_law_stranger : FnScope ["state", "spare", "pick", "word"] ["state"] (defScope s_law_stranger) := ⟨rfl, rfl, rfl, by decide +kernel, rfl, by decide +kernel, by decide +kernel⟩
abbrev s_law_refused : Stmt := top 36
theorem sc_law_refused : FnScope ["world", "upper", "lower", "e"] ["world", "upper", "lower"] (defScope s_law_refused) := ⟨rfl, rfl, rfl, by decide +kernel, rfl, by decide +kernel, by decide +kernel⟩
abbrev s_law_attained : Stmt := top 37
theorem sc_law_attained : FnScope ["world", "upper", "great", "late", "far", "high", "marks", "lower", "told", "due"] ["world", "upper", "great", "late", "far"] (defScope s_law_attained) := ⟨rfl, rfl, rfl, by decide +kernel, rfl, by decide +kernel, by decide +kernel⟩
abbrev s_law_never_more : Stmt := top 38
theorem sc_law_never_more : FnScope ["world", "marks", "upper", "lower", "told"] ["world", "marks"] (defScope s_law_never_more) := ⟨rfl, rfl, rfl, by decide +kernel, rfl, by decide +kernel, by decide +kernel⟩
abbrev s_law : Stmt := top 39
theorem sc_law : FnScope ["script", "state", "late", "far", "later", "farther", "great", "world", "other", "upper", "lower", "k", "first", "second", "mark", "one"] ["script"] (defScope s_law) := ⟨rfl, rfl, rfl, by decide +kernel, rfl, by decide +kernel, by decide +kernel⟩
abbrev s_UnknownMark_init : Stmt := inClass (top 2) 0
structure Txt (P : Program) (w : World) (K : PySem.W.Frag) (mg : Str → Option Value) : Type where
  z_bool : mg "bool" = none
  z_dict : mg "dict" = none
  z_int : mg "int" = none
  z_isinstance : mg "isinstance" = none
  z_len : mg "len" = none
  z_list : mg "list" = none
  z_range : mg "range" = none
  z_str : mg "str" = none
  z_tuple : mg "tuple" = none
  c_World : Addr
  cl_World : Cls K c_World
  mc_World : mg "World" = some (.ref c_World)
  n_World_lag : NoAttr K c_World "lag"
  n_World_length : NoAttr K c_World "length"
  a_law_mixed : Addr
  d_law_mixed : FuncData
  F_law_mixed : Fun K "_law_mixed" "_law_mixed" s_law_mixed a_law_mixed d_law_mixed
  b_law_mixed : Binds K d_law_mixed ["cell", "turn", "limit"] []
  m_law_mixed : mg "_law_mixed" = some (.ref a_law_mixed)
  a_law_draw : Addr
  d_law_draw : FuncData
  F_law_draw : Fun K "_law_draw" "_law_draw" s_law_draw a_law_draw d_law_draw
  b_law_draw : Binds K d_law_draw ["state", "limit"] []
  m_law_draw : mg "_law_draw" = some (.ref a_law_draw)
  a_law_start : Addr
  d_law_start : FuncData
  F_law_start : Fun K "_law_start" "_law_start" s_law_start a_law_start d_law_start
  b_law_start : Binds K d_law_start ["script"] []
  m_law_start : mg "_law_start" = some (.ref a_law_start)
  a_law_same : Addr
  d_law_same : FuncData
  F_law_same : Fun K "_law_same" "_law_same" s_law_same a_law_same d_law_same
  b_law_same : Binds K d_law_same ["here", "there"] []
  m_law_same : mg "_law_same" = some (.ref a_law_same)
  a_check_mark : Addr
  d_check_mark : FuncData
  F_check_mark : Fun K "check_mark" "check_mark" s_check_mark a_check_mark d_check_mark
  b_check_mark : Binds K d_check_mark ["mark"] []
  m_check_mark : mg "check_mark" = some (.ref a_check_mark)
  a_stands_below : Addr
  d_stands_below : FuncData
  F_stands_below : Fun K "stands_below" "stands_below" s_stands_below a_stands_below d_stands_below
  b_stands_below : Binds K d_stands_below ["lower", "upper"] []
  m_stands_below : mg "stands_below" = some (.ref a_stands_below)
  a_sum_of : Addr
  d_sum_of : FuncData
  F_sum_of : Fun K "sum_of" "sum_of" s_sum_of a_sum_of d_sum_of
  b_sum_of : Binds K d_sum_of ["first", "second"] []
  m_sum_of : mg "sum_of" = some (.ref a_sum_of)
  a_mark_gap : Addr
  d_mark_gap : FuncData
  F_mark_gap : Fun K "mark_gap" "mark_gap" s_mark_gap a_mark_gap d_mark_gap
  b_mark_gap : Binds K d_mark_gap ["upper", "lower", "lag", "length"] []
  m_mark_gap : mg "mark_gap" = some (.ref a_mark_gap)
  a_on_ladder : Addr
  d_on_ladder : FuncData
  F_on_ladder : Fun K "on_ladder" "on_ladder" s_on_ladder a_on_ladder d_on_ladder
  b_on_ladder : Binds K d_on_ladder ["marks"] []
  m_on_ladder : mg "on_ladder" = some (.ref a_on_ladder)
  a_is_whole : Addr
  d_is_whole : FuncData
  F_is_whole : Fun K "is_whole" "is_whole" s_is_whole a_is_whole d_is_whole
  b_is_whole : Binds K d_is_whole ["value"] []
  m_is_whole : mg "is_whole" = some (.ref a_is_whole)
  a_is_bound : Addr
  d_is_bound : FuncData
  F_is_bound : Fun K "is_bound" "is_bound" s_is_bound a_is_bound d_is_bound
  b_is_bound : Binds K d_is_bound ["value"] []
  m_is_bound : mg "is_bound" = some (.ref a_is_bound)
  a_bound_at_most : Addr
  d_bound_at_most : FuncData
  F_bound_at_most : Fun K "bound_at_most" "bound_at_most" s_bound_at_most a_bound_at_most d_bound_at_most
  b_bound_at_most : Binds K d_bound_at_most ["first", "second"] []
  m_bound_at_most : mg "bound_at_most" = some (.ref a_bound_at_most)
  a_World_init : Addr
  d_World_init : FuncData
  F_World_init : FunD K "__init__" "World.__init__" (defArgs s_World_init) (defBody s_World_init) (defScope s_World_init) [.non, .non] [] a_World_init d_World_init
  bd_World_init_0 : ∃ ds, Vals ([.non, .non] : List V) ds ∧ Binds K d_World_init ["self", "lag", "length"] ds
  bd_World_init_2 : ∃ ds, Vals ([] : List V) ds ∧ Binds K d_World_init ["self", "lag", "length"] ds
  mk_World : Mk K c_World a_World_init
  a_World_wide : Addr
  d_World_wide : FuncData
  F_World_wide : Fun K "wide" "World.wide" s_World_wide a_World_wide d_World_wide
  b_World_wide : Binds K d_World_wide [] []
  cr_World : ClX.CRead K c_World (.type "type")
  p_World_wide : Addr
  sm_World_wide : SMet K c_World (.type "type") "wide" p_World_wide a_World_wide
  a_World_gap : Addr
  d_World_gap : FuncData
  F_World_gap : Fun K "gap" "World.gap" s_World_gap a_World_gap d_World_gap
  b_World_gap : Binds K d_World_gap ["self", "upper", "lower"] []
  me_World_gap : Meth K c_World "gap" a_World_gap
  a_Worlddd__containsdd_ : Addr
  d_Worlddd__containsdd_ : FuncData
  F_Worlddd__containsdd_ : Fun K "__contains__" "World.__contains__" s_Worlddd__containsdd_ a_Worlddd__containsdd_ d_Worlddd__containsdd_
  b_Worlddd__containsdd_ : Binds K d_Worlddd__containsdd_ ["self", "x"] []
  om_Worlddd__containsdd_ : OwnM K c_World "__contains__" a_Worlddd__containsdd_
  a_law_word : Addr
  d_law_word : FuncData
  F_law_word : Fun K "_law_word" "_law_word" s_law_word a_law_word d_law_word
  b_law_word : Binds K d_law_word ["state"] []
  m_law_word : mg "_law_word" = some (.ref a_law_word)
  a_law_within : Addr
  d_law_within : FuncData
  F_law_within : Fun K "_law_within" "_law_within" s_law_within a_law_within d_law_within
  b_law_within : Binds K d_law_within ["state", "bound"] []
  m_law_within : mg "_law_within" = some (.ref a_law_within)
  a_law_ladder : Addr
  d_law_ladder : FuncData
  F_law_ladder : Fun K "_law_ladder" "_law_ladder" s_law_ladder a_law_ladder d_law_ladder
  b_law_ladder : Binds K d_law_ladder ["state", "late", "far"] []
  m_law_ladder : mg "_law_ladder" = some (.ref a_law_ladder)
  a_law_bound : Addr
  d_law_bound : FuncData
  F_law_bound : Fun K "_law_bound" "_law_bound" s_law_bound a_law_bound d_law_bound
  b_law_bound : Binds K d_law_bound ["state", "limit"] []
  m_law_bound : mg "_law_bound" = some (.ref a_law_bound)
  a_law_under : Addr
  d_law_under : FuncData
  F_law_under : Fun K "_law_under" "_law_under" s_law_under a_law_under d_law_under
  b_law_under : Binds K d_law_under ["lower", "upper"] []
  m_law_under : mg "_law_under" = some (.ref a_law_under)
  a_law_gap : Addr
  d_law_gap : FuncData
  F_law_gap : Fun K "_law_gap" "_law_gap" s_law_gap a_law_gap d_law_gap
  b_law_gap : Binds K d_law_gap ["upper", "lower", "late", "far"] []
  m_law_gap : mg "_law_gap" = some (.ref a_law_gap)
  a_law_seven : Addr
  d_law_seven : FuncData
  F_law_seven : Fun K "_law_seven" "_law_seven" s_law_seven a_law_seven d_law_seven
  b_law_seven : Binds K d_law_seven [] []
  m_law_seven : mg "_law_seven" = some (.ref a_law_seven)
  a_law_least : Addr
  d_law_least : FuncData
  F_law_least : Fun K "_law_least" "_law_least" s_law_least a_law_least d_law_least
  b_law_least : Binds K d_law_least ["clause", "high", "late", "far"] []
  m_law_least : mg "_law_least" = some (.ref a_law_least)
  a_law_stranger : Addr
  d_law_stranger : FuncData
  F_law_stranger : Fun K "_law_stranger" "_law_stranger" s_law_stranger a_law_stranger d_law_stranger
  b_law_stranger : Binds K d_law_stranger ["state"] []
  m_law_stranger : mg "_law_stranger" = some (.ref a_law_stranger)
  a_law_refused : Addr
  d_law_refused : FuncData
  F_law_refused : Fun K "_law_refused" "_law_refused" s_law_refused a_law_refused d_law_refused
  b_law_refused : Binds K d_law_refused ["world", "upper", "lower"] []
  m_law_refused : mg "_law_refused" = some (.ref a_law_refused)
  a_law_attained : Addr
  d_law_attained : FuncData
  F_law_attained : Fun K "_law_attained" "_law_attained" s_law_attained a_law_attained d_law_attained
  b_law_attained : Binds K d_law_attained ["world", "upper", "great", "late", "far"] []
  m_law_attained : mg "_law_attained" = some (.ref a_law_attained)
  a_law_never_more : Addr
  d_law_never_more : FuncData
  F_law_never_more : Fun K "_law_never_more" "_law_never_more" s_law_never_more a_law_never_more d_law_never_more
  b_law_never_more : Binds K d_law_never_more ["world", "marks"] []
  m_law_never_more : mg "_law_never_more" = some (.ref a_law_never_more)
  a_law : Addr
  d_law : FuncData
  F_law : Fun K "law" "law" s_law a_law d_law
  b_law : Binds K d_law ["script"] []
  m_law : mg "law" = some (.ref a_law)
  c_UnknownMark : Addr
  mc_UnknownMark : mg "UnknownMark" = some (.ref c_UnknownMark)
  c_SlotError : Addr
  mc_SlotError : mg "SlotError" = some (.ref c_SlotError)
  c_MissingMark : Addr
  mc_MissingMark : mg "MissingMark" = some (.ref c_MissingMark)
  c_WrongMark : Addr
  mc_WrongMark : mg "WrongMark" = some (.ref c_WrongMark)
  i_UnknownMark : Addr
  sup_UnknownMark : PySem.SupX.SupTxt P K mg "UnknownMark" c_UnknownMark c_UnknownMark i_UnknownMark "mark"
  xc_UnknownMark : ExcC K c_UnknownMark
  kt_UnknownMark_SlotError : PySem.W.kitOne K (.ref c_UnknownMark) (.ref c_SlotError) = some true
  em_UnknownMark_SlotError : PySem.W.exmOne K (.ref c_UnknownMark) (.ref c_SlotError) = some true
  kt_UnknownMark_MissingMark : PySem.W.kitOne K (.ref c_UnknownMark) (.ref c_MissingMark) = some false
  em_UnknownMark_MissingMark : PySem.W.exmOne K (.ref c_UnknownMark) (.ref c_MissingMark) = some false
  kt_UnknownMark_WrongMark : PySem.W.kitOne K (.ref c_UnknownMark) (.ref c_WrongMark) = some false
  em_UnknownMark_WrongMark : PySem.W.exmOne K (.ref c_UnknownMark) (.ref c_WrongMark) = some false
  kt_BOUND_LIMIT : Tok
  k_BOUND_LIMIT : mg "BOUND_LIMIT" = some (.int (49) kt_BOUND_LIMIT)
  k_MARKS : Addr
  mk_MARKS : mg "MARKS" = some (.ref k_MARKS)
  tk_MARKS : ∀ H, SqT K H k_MARKS [.str "zero", .str "calm", .str "owed", .str "done", .str "end", .str "own", .str "got"]
  to_MARKS : ∃ o, K.lookup k_MARKS = some o ∧ o.cls = .type "tuple" ∧ o.dict = none
  k_ABOVE : Addr
  mk_ABOVE : mg "ABOVE" = some (.ref k_ABOVE)
  k_ABOVE_0 : Addr
  tk_ABOVE_0 : ∀ H, SqT K H k_ABOVE_0 [.str "zero", .str "calm", .str "owed", .str "done", .str "end", .str "own", .str "got"]
  dk_ABOVE_0 : KDct K w k_ABOVE "zero" (.ref k_ABOVE_0)
  k_ABOVE_1 : Addr
  tk_ABOVE_1 : ∀ H, SqT K H k_ABOVE_1 [.str "calm", .str "owed", .str "done", .str "end"]
  dk_ABOVE_1 : KDct K w k_ABOVE "calm" (.ref k_ABOVE_1)
  k_ABOVE_2 : Addr
  tk_ABOVE_2 : ∀ H, SqT K H k_ABOVE_2 [.str "owed", .str "done", .str "end"]
  dk_ABOVE_2 : KDct K w k_ABOVE "owed" (.ref k_ABOVE_2)
  k_ABOVE_3 : Addr
  tk_ABOVE_3 : ∀ H, SqT K H k_ABOVE_3 [.str "done", .str "end"]
  dk_ABOVE_3 : KDct K w k_ABOVE "done" (.ref k_ABOVE_3)
  k_ABOVE_4 : Addr
  tk_ABOVE_4 : ∀ H, SqT K H k_ABOVE_4 [.str "end"]
  dk_ABOVE_4 : KDct K w k_ABOVE "end" (.ref k_ABOVE_4)
  k_ABOVE_5 : Addr
  tk_ABOVE_5 : ∀ H, SqT K H k_ABOVE_5 [.str "own", .str "got", .str "end"]
  dk_ABOVE_5 : KDct K w k_ABOVE "own" (.ref k_ABOVE_5)
  k_ABOVE_6 : Addr
  tk_ABOVE_6 : ∀ H, SqT K H k_ABOVE_6 [.str "got", .str "end"]
  dk_ABOVE_6 : KDct K w k_ABOVE "got" (.ref k_ABOVE_6)
section
variable {P : Program} {w : World} {K : PySem.W.Frag} {mg : Str → Option Value} {base : Heap}
abbrev l_MARKS : List Str := ["zero", "calm", "owed", "done", "end", "own", "got"]
theorem tl_MARKS (T : Txt P w K mg) : ∀ H, SqT K H T.k_MARKS (l_MARKS.map V.str) := T.tk_MARKS
abbrev tab_ABOVE : List (Str × List Str) := [("zero", ["zero", "calm", "owed", "done", "end", "own", "got"]), ("calm", ["calm", "owed", "done", "end"]), ("owed", ["owed", "done", "end"]), ("done", ["done", "end"]), ("end", ["end"]), ("own", ["own", "got", "end"]), ("got", ["got", "end"])]
theorem ktab_ABOVE (T : Txt P w K mg) : KTab w K T.k_ABOVE tab_ABOVE := (.cons (Nat.le_of_ble_eq_true rfl) T.dk_ABOVE_0 T.tk_ABOVE_0 (.cons (Nat.le_of_ble_eq_true rfl) T.dk_ABOVE_1 T.tk_ABOVE_1 (.cons (Nat.le_of_ble_eq_true rfl) T.dk_ABOVE_2 T.tk_ABOVE_2 (.cons (Nat.le_of_ble_eq_true rfl) T.dk_ABOVE_3 T.tk_ABOVE_3 (.cons (Nat.le_of_ble_eq_true rfl) T.dk_ABOVE_4 T.tk_ABOVE_4 (.cons (Nat.le_of_ble_eq_true rfl) T.dk_ABOVE_5 T.tk_ABOVE_5 (.cons (Nat.le_of_ble_eq_true rfl) T.dk_ABOVE_6 T.tk_ABOVE_6 .nil)))))))
def ct (T : Txt P w K mg) : CT := fun s => if s = "World" then some T.c_World else if s = "UnknownMark" then some T.c_UnknownMark else if s = "SlotError" then some T.c_SlotError else if s = "MissingMark" then some T.c_MissingMark else if s = "WrongMark" then some T.c_WrongMark else none
theorem ct_World (T : Txt P w K mg) : ct T "World" = some T.c_World := by unfold ct; repeat (first | rw [if_pos rfl] | rw [if_neg (by decide)])
theorem ct_UnknownMark (T : Txt P w K mg) : ct T "UnknownMark" = some T.c_UnknownMark := by unfold ct; repeat (first | rw [if_pos rfl] | rw [if_neg (by decide)])
theorem ct_SlotError (T : Txt P w K mg) : ct T "SlotError" = some T.c_SlotError := by unfold ct; repeat (first | rw [if_pos rfl] | rw [if_neg (by decide)])
theorem ct_MissingMark (T : Txt P w K mg) : ct T "MissingMark" = some T.c_MissingMark := by unfold ct; repeat (first | rw [if_pos rfl] | rw [if_neg (by decide)])
theorem ct_WrongMark (T : Txt P w K mg) : ct T "WrongMark" = some T.c_WrongMark := by unfold ct; repeat (first | rw [if_pos rfl] | rw [if_neg (by decide)])
theorem ok_law_mixed (T : Txt P w K mg)  : FnOk P w K mg base CX0 (1) T.a_law_mixed T.d_law_mixed ["cell", "turn", "limit"] (spMixed) := by
  refine T.F_law_mixed.ok sc_law_mixed (fun vs H Q E h => by obtain ⟨_, _, _, rfl, _⟩ := h; rfl) (fun cdv A outer s H vs Q E hr h => ?_)
  have hu := hu_of hr
  have hu64 := hr.units
  refine ⟨_, (pss_cons (ps_set (i := 3) sc_law_mixed.nd rfl (by first | exact Or.inl rfl | exact Or.inr rfl) (pe_op op_mod (pe_callTy call_intA (by rfl) T.z_int (by decide +kernel) (pa_cons (pe_op op_plus (pe_op op_plus (pe_op op_times (pv 0) pe_int) (pe_op op_times (pv 1) pe_int)) pe_int) pa_nil)) pe_int))
      (pss_one (ps_ret (pe_op op_mod (pe_op op_mod (pe_callTy call_intA (by rfl) T.z_int (by decide +kernel) (pa_cons (pe_op op_plus (pe_op op_plus (pe_op op_times (pv 3) pe_int) (pe_op op_times (pv 1) pe_int)) pe_int) pa_nil)) pe_int) (pv 2))))), ?_⟩
  obtain ⟨c, t, n, rfl, h0, k⟩ := h
  walk_at "start"
  walk_at "go"
  exact k _ (Int.emod_nonneg _ (by omega)) (Int.emod_lt_of_pos _ h0)
theorem ok_law_draw (T : Txt P w K mg)  : FnOk P w K mg base CX0 (2) T.a_law_draw T.d_law_draw ["state", "limit"] (spDraw) := by
  refine T.F_law_draw.ok sc_law_draw (fun vs H Q E h => by obtain ⟨_, _, _, rfl, _⟩ := h; rfl) (fun cdv A outer s H vs Q E hr h => ?_)
  have hu := hu_of hr
  have hu64 := hr.units
  refine ⟨_, (pss_cons (ps_if (pt_cmpR op_gt (pe_ix (ix_any hu) (pv 0) pe_int (fun _ _ => rfl)) pe_int (nomark _)) (pss_cons (ps_set (i := 2) sc_law_draw.nd rfl (by first | exact Or.inl rfl | exact Or.inr rfl) (pe_op op_mod (pe_callTy call_intA (by rfl) T.z_int (by decide +kernel) (pa_cons (pe_ix (ix_any hu) (pv 0) pe_int (fun _ _ => rfl)) pa_nil)) (pv 1)))
      (pss_cons (ps_asg (pe_op op_fdivW (pe_ix (ix_any hu) (pv 0) pe_int (fun _ _ => rfl)) (pv 1)) (pg_sub (pv 0) pe_int (set_any hu)))
      (pss_one (ps_ret (pv 2))))) pss_nil)
      (pss_cons (ps_if (pt_cmpR op_gt (pe_ix (ix_any hu) (pv 0) pe_int (fun _ _ => rfl)) pe_int (nomark _)) (pss_cons (ps_asg (pe_op op_sub (pe_ix (ix_any hu) (pv 0) pe_int (fun _ _ => rfl)) pe_int) (pg_sub (pv 0) pe_int (set_any hu)))
      (pss_cons (ps_asg (pe_op op_plus (pe_ix (ix_any hu) (pv 0) pe_int (fun _ _ => rfl)) pe_int) (pg_sub (pv 0) pe_int (set_any hu)))
      (pss_one (ps_ret (pe_call (ok_law_mixed T) (hr.mono (by first | decide | omega)) (by rfl) T.m_law_mixed T.F_law_mixed.kp T.b_law_mixed .nil pass0 (pa_cons (pe_ix (ix_any hu) (pv 0) pe_int (fun _ _ => rfl)) (pa_cons (pe_ix (ix_any hu) (pv 0) pe_int (fun _ _ => rfl)) (pa_cons (pv 1) pa_nil)))))))) pss_nil)
      (pss_cons (ps_if (pt_cmpR op_ge (pe_ix (ix_any hu) (pv 0) pe_int (fun _ _ => rfl)) (pe_callB call_lenA (by rfl) T.z_len (by decide +kernel) (pa_cons (pe_ix (ix_any hu) (pv 0) pe_int (fun _ _ => rfl)) pa_nil)) (nomark _)) (pss_one (ps_ret pe_int)) pss_nil)
      (pss_cons (ps_set (i := 3) sc_law_draw.nd rfl (by first | exact Or.inl rfl | exact Or.inr rfl) (pe_ix (ix_any hu) (pe_ix (ix_any hu) (pv 0) pe_int (fun _ _ => rfl)) (pe_ix (ix_any hu) (pv 0) pe_int (fun _ _ => rfl)) (fun _ _ => rfl)))
      (pss_cons (ps_asg (pe_op op_plus (pe_ix (ix_any hu) (pv 0) pe_int (fun _ _ => rfl)) pe_int) (pg_sub (pv 0) pe_int (set_any hu)))
      (pss_cons (ps_if (pt_cmpR op_ge (pv 3) (pe_op op_pow pe_int pe_int) (nomark _)) (pss_cons (ps_asg (pe_op op_fdivW (pv 3) (pv 1)) (pg_sub (pv 0) pe_int (set_any hu)))
      (pss_one (ps_ret (pe_op op_mod (pe_callTy call_intA (by rfl) T.z_int (by decide +kernel) (pa_cons (pv 3) pa_nil)) (pv 1))))) pss_nil)
      (pss_cons (ps_asg (pv 3) (pg_sub (pv 0) pe_int (set_any hu)))
      (pss_cons (ps_asg pe_int (pg_sub (pv 0) pe_int (set_any hu)))
      (pss_cons (ps_asg (pe_op op_plus (pe_ix (ix_any hu) (pv 0) pe_int (fun _ _ => rfl)) pe_int) (pg_sub (pv 0) pe_int (set_any hu)))
      (pss_one (ps_ret (pe_call (ok_law_mixed T) (hr.mono (by first | decide | omega)) (by rfl) T.m_law_mixed T.F_law_mixed.kp T.b_law_mixed .nil pass0 (pa_cons (pv 3) (pa_cons (pe_ix (ix_any hu) (pv 0) pe_int (fun _ _ => rfl)) (pa_cons (pv 1) pa_nil))))))))))))))), ?_⟩
  obtain ⟨p, q, n, rfl, S, h0, h1, k⟩ := h
  obtain ⟨ne, ns, i, b, c, m, t, e1, e2, e3⟩ := id S
  walk_at "start"
  walk_at "go"
  refine k_ite (fun c1 => ?_) (fun c1 => ?_)
  · walk_at "go"
    exact k _ _ (Int.emod_nonneg _ (by omega)) (Int.emod_lt_of_pos _ h0) ⟨ne, ns, i, b / n, c, m, t, upd_same, get_ne ne e2, e3⟩ ((Keep.refl H).mut (by simp))
  walk_at "go"
  refine k_ite (fun c2 => ?_) (fun c2 => ?_)
  · walk_at "go"
    refine use_mixed h0 fun d d0 d1 => ?_
    exact k _ _ d0 d1 ⟨ne, ns, i, b, c, m - 1, t + 1, upd_same, get_ne ne (get_ne ne e2), e3⟩ (((Keep.refl H).mut (by simp)).mut (by simp))
  walk_at "go"
  refine k_ite (fun c3 => ?_) (fun c3 => ?_)
  · walk_at "go"
    exact k _ _ (Int.le_refl 0) h0 S (Keep.refl H)
  walk_at "go"
  obtain ⟨x, -, hx⟩ := atI_ints (ns := ns) e3 (by simpa using c3)
  refine kr_ixL e2 hx ?_
  walk_at "go"
  refine k_ite (fun c4 => ?_) (fun c4 => ?_)
  · walk_at "go"
    exact k _ _ (Int.emod_nonneg _ (by omega)) (Int.emod_lt_of_pos _ h0) ⟨ne, ns, i + 1, x / n, c, m, t, upd_same, get_ne ne (get_ne ne e2), by omega⟩ (((Keep.refl H).mut (by simp)).mut (by simp))
  · walk_at "go"
    refine use_mixed h0 fun d d0 d1 => ?_
    refine k _ _ d0 d1 ⟨ne, ns, i + 1, b, x, 3, t + 1, upd_same, get_ne ne (get_ne ne (get_ne ne (get_ne ne e2))), by omega⟩ (((((Keep.refl H).mut (by simp)).mut (by simp)).mut (by simp)).mut (by simp))
theorem ok_law_start (T : Txt P w K mg)  : FnOk P w K mg base CX0 (1) T.a_law_start T.d_law_start ["script"] (spStart K) := by
  refine T.F_law_start.ok sc_law_start (fun vs H Q E h => by obtain ⟨_, _, rfl, _⟩ := h; rfl) (fun cdv A outer s H vs Q E hr h => ?_)
  have hu := hu_of hr
  have hu64 := hr.units
  refine ⟨_, (pss_one (ps_ret (pe_lst (pa_cons (pe_callTy call_listA (by rfl) T.z_list (by decide +kernel) (pa_cons (pv 0) pa_nil)) (pa_cons pe_int (pa_cons pe_int (pa_cons pe_int (pa_cons pe_int (pa_cons pe_int pa_nil))))))))), ?_⟩
  obtain ⟨a, ns, rfl, hs, k⟩ := h
  walk_at "start"
  walk_at "go"
  refine ⟨a, _, rfl, .inl hs, fun l hl => ?_⟩
  walk_at "go"
  intro p hp
  have ne : l ≠ p := ne_new hp .same
  exact k p l _ (((Keep.refl H).new hl).free' hp) hl ⟨ne, ns, 0, 0, 0, 0, 0, upd_same, get_new hp upd_same, Int.le_refl _⟩ (((Keep.refl H).new hl).new hp)
noncomputable abbrev m_law_draw (n : Int) : M Int := mdraw n

local macro_rules | `(tactic| walk_at "sq") => `(tactic| repeat (first | walk_at "go1" | ((with_reducible refine' Cf.kr_isiQ_bool ?h ?_); (case h => assumption)) | ((with_reducible refine' Cf.kr_isiQ_int ?h ?_); (case h => assumption)) | ((with_reducible refine' Cf.kr_isiQ_str ?h ?_); (case h => assumption)) | ((with_reducible refine' Cf.kr_isiQ_list ?h ?_); (case h => assumption)) | ((with_reducible refine' Cf.kr_isiQ_tuple ?h ?_); (case h => assumption)) | ((with_reducible refine' Cf.kr_isiQ_dict ?h ?_); (case h => assumption)) | ((with_reducible refine' Cf.kr_lenQ ?h ?_); (case h => assumption))))
theorem same_step (T : Txt P w K mg) (n : Nat) (G : FnOk P w K mg base CX0 n T.a_law_same T.d_law_same ["here", "there"] (spSameG K (ct T) n)) : FnOk P w K mg base CX0 (n + 1) T.a_law_same T.d_law_same ["here", "there"] (spSameG K (ct T) (n + 1)) := by
  refine T.F_law_same.ok sc_law_same (fun vs H Q E h => by obtain ⟨_, _, _, _, rfl, _⟩ := h; rfl) (fun cdv A outer s H vs Q E hr h => ?_)
  have hu := hu_of hr
  have hu64 := hr.units
  refine ⟨_, (pss_cons (ps_if (PW.pt (pw_or (pt_cmpR op_isNA (pv 0) pe_non (nomark _)) (pw_or1 (pt_cmpR op_isNA (pv 1) pe_non (nomark _))))) (pss_one (ps_ret (pe_and (pe_cmpR op_isNA (pv 0) pe_non (nomark _)) (pe_one (pe_cmpR op_isNA (pv 1) pe_non (nomark _)))))) pss_nil)
      (pss_cons (ps_if (PW.pt (pw_or (pt_val (pe_callB call_isi (by rfl) T.z_isinstance (by decide +kernel) (pa_cons (pv 0) (pa_cons (pe_bltn (v := .ty "bool") (by rfl) T.z_bool (by decide +kernel) rfl) pa_nil)))) (pw_or1 (pt_val (pe_callB call_isi (by rfl) T.z_isinstance (by decide +kernel) (pa_cons (pv 1) (pa_cons (pe_bltn (v := .ty "bool") (by rfl) T.z_bool (by decide +kernel) rfl) pa_nil))))))) (pss_one (ps_ret (pe_and (pe_callB call_isi (by rfl) T.z_isinstance (by decide +kernel) (pa_cons (pv 0) (pa_cons (pe_bltn (v := .ty "bool") (by rfl) T.z_bool (by decide +kernel) rfl) pa_nil))) (pe_and (pe_callB call_isi (by rfl) T.z_isinstance (by decide +kernel) (pa_cons (pv 1) (pa_cons (pe_bltn (v := .ty "bool") (by rfl) T.z_bool (by decide +kernel) rfl) pa_nil))) (pe_one (pe_cmpR (op_eqq hu64) (pv 0) (pv 1) (nomark _))))))) pss_nil)
      (pss_cons (ps_if (PW.pt (pw_or (pt_val (pe_callB call_isi (by rfl) T.z_isinstance (by decide +kernel) (pa_cons (pv 0) (pa_cons (pe_bltn (v := .ty "int") (by rfl) T.z_int (by decide +kernel) rfl) pa_nil)))) (pw_or1 (pt_val (pe_callB call_isi (by rfl) T.z_isinstance (by decide +kernel) (pa_cons (pv 1) (pa_cons (pe_bltn (v := .ty "int") (by rfl) T.z_int (by decide +kernel) rfl) pa_nil))))))) (pss_one (ps_ret (pe_and (pe_callB call_isi (by rfl) T.z_isinstance (by decide +kernel) (pa_cons (pv 0) (pa_cons (pe_bltn (v := .ty "int") (by rfl) T.z_int (by decide +kernel) rfl) pa_nil))) (pe_and (pe_callB call_isi (by rfl) T.z_isinstance (by decide +kernel) (pa_cons (pv 1) (pa_cons (pe_bltn (v := .ty "int") (by rfl) T.z_int (by decide +kernel) rfl) pa_nil))) (pe_one (pe_cmpR (op_eqq hu64) (pv 0) (pv 1) (nomark _))))))) pss_nil)
      (pss_cons (ps_if (PW.pt (pw_or (pt_val (pe_callB call_isi (by rfl) T.z_isinstance (by decide +kernel) (pa_cons (pv 0) (pa_cons (pe_bltn (v := .ty "str") (by rfl) T.z_str (by decide +kernel) rfl) pa_nil)))) (pw_or1 (pt_val (pe_callB call_isi (by rfl) T.z_isinstance (by decide +kernel) (pa_cons (pv 1) (pa_cons (pe_bltn (v := .ty "str") (by rfl) T.z_str (by decide +kernel) rfl) pa_nil))))))) (pss_one (ps_ret (pe_and (pe_callB call_isi (by rfl) T.z_isinstance (by decide +kernel) (pa_cons (pv 0) (pa_cons (pe_bltn (v := .ty "str") (by rfl) T.z_str (by decide +kernel) rfl) pa_nil))) (pe_and (pe_callB call_isi (by rfl) T.z_isinstance (by decide +kernel) (pa_cons (pv 1) (pa_cons (pe_bltn (v := .ty "str") (by rfl) T.z_str (by decide +kernel) rfl) pa_nil))) (pe_one (pe_cmpR (op_eqq hu64) (pv 0) (pv 1) (nomark _))))))) pss_nil)
      (pss_cons (ps_if (PW.pt (pw_and (pt_val (pe_callB call_isi (by rfl) T.z_isinstance (by decide +kernel) (pa_cons (pv 0) (pa_cons (pe_bltn (v := .ty "dict") (by rfl) T.z_dict (by decide +kernel) rfl) pa_nil)))) (pw_and1 (pt_val (pe_callB call_isi (by rfl) T.z_isinstance (by decide +kernel) (pa_cons (pv 1) (pa_cons (pe_bltn (v := .ty "dict") (by rfl) T.z_dict (by decide +kernel) rfl) pa_nil))))))) (pss_cons (ps_if (pt_not (pt_val (pe_call G (hr.mono (by first | decide | omega)) (by rfl) T.m_law_same T.F_law_same.kp T.b_law_same .nil pass0 (pa_cons (pe_callTy (call_list_dK rfl) (by rfl) T.z_list (by decide +kernel) (pa_cons (pv 0) pa_nil)) (pa_cons (pe_callTy (call_list_dK rfl) (by rfl) T.z_list (by decide +kernel) (pa_cons (pv 1) pa_nil)) pa_nil))))) (pss_one (ps_ret pe_bl)) pss_nil)
      (pss_one (ps_ret (pe_call G (hr.mono (by first | decide | omega)) (by rfl) T.m_law_same T.F_law_same.kp T.b_law_same .nil pass0 (pa_cons (pe_lock (pe_lc (own := [("key", 2)]) (g := gName 2)  (by rfl) sc_law_same.nd (pi_keys (pv 0)) (blkOk_by (own := [("key", 2)]) (N := ["here", "there", "key", "k"]) (sc := defScope s_law_same) (by decide +kernel)) (fun _ _ _ _ _ => pg_name (i := 2) sc_law_same.nd rfl (Or.inl rfl)) (fun _ _ _ _ _ => pts_nil) (fun _ _ _ _ _ => (pe_ix (ix_anyK (K := K) rfl hu) (pv 0) (pv 2) (fun _ _ => rfl))))) (pa_cons (pe_lock (pe_lc (own := [("key", 2)]) (g := gName 2)  (by rfl) sc_law_same.nd (pi_keys (pv 1)) (blkOk_by (own := [("key", 2)]) (N := ["here", "there", "key", "k"]) (sc := defScope s_law_same) (by decide +kernel)) (fun _ _ _ _ _ => pg_name (i := 2) sc_law_same.nd rfl (Or.inl rfl)) (fun _ _ _ _ _ => pts_nil) (fun _ _ _ _ _ => (pe_ix (ix_anyK (K := K) rfl hu) (pv 1) (pv 2) (fun _ _ => rfl))))) pa_nil)))))) pss_nil)
      (pss_cons (ps_if (PW.pt (pw_or (pt_cmpR (op_neq hu64) (pe_callB call_isi (by rfl) T.z_isinstance (by decide +kernel) (pa_cons (pv 0) (pa_cons (pe_bltn (v := .ty "tuple") (by rfl) T.z_tuple (by decide +kernel) rfl) pa_nil))) (pe_callB call_isi (by rfl) T.z_isinstance (by decide +kernel) (pa_cons (pv 1) (pa_cons (pe_bltn (v := .ty "tuple") (by rfl) T.z_tuple (by decide +kernel) rfl) pa_nil))) (nomark _)) (pw_or1 (pt_cmpR (op_neq hu64) (pe_callB call_isi (by rfl) T.z_isinstance (by decide +kernel) (pa_cons (pv 0) (pa_cons (pe_bltn (v := .ty "list") (by rfl) T.z_list (by decide +kernel) rfl) pa_nil))) (pe_callB call_isi (by rfl) T.z_isinstance (by decide +kernel) (pa_cons (pv 1) (pa_cons (pe_bltn (v := .ty "list") (by rfl) T.z_list (by decide +kernel) rfl) pa_nil))) (nomark _))))) (pss_one (ps_ret pe_bl)) pss_nil)
      (pss_cons (ps_if (PW.pt (pw_and (pt_not (pt_val (pe_callB call_isi (by rfl) T.z_isinstance (by decide +kernel) (pa_cons (pv 0) (pa_cons (pe_bltn (v := .ty "tuple") (by rfl) T.z_tuple (by decide +kernel) rfl) pa_nil))))) (pw_and1 (pt_not (pt_val (pe_callB call_isi (by rfl) T.z_isinstance (by decide +kernel) (pa_cons (pv 0) (pa_cons (pe_bltn (v := .ty "list") (by rfl) T.z_list (by decide +kernel) rfl) pa_nil)))))))) (pss_one (ps_ret pe_bl)) pss_nil)
      (pss_cons (ps_if (pt_cmpR (op_neq hu64) (pe_callB call_lenA (by rfl) T.z_len (by decide +kernel) (pa_cons (pv 0) pa_nil)) (pe_callB call_lenA (by rfl) T.z_len (by decide +kernel) (pa_cons (pv 1) pa_nil)) (nomark _)) (pss_one (ps_ret pe_bl)) pss_nil)
      (pss_cons (ps_for PassesOwn.never rfl (pi_range1 (by rfl) T.z_range (pa_cons (pe_callB call_lenA (by rfl) T.z_len (by decide +kernel) (pa_cons (pv 0) pa_nil)) pa_nil)) (pg_name (i := 3) sc_law_same.nd rfl (by first | exact Or.inl rfl | exact Or.inr rfl))
      (pss_one (ps_if (pt_not (pt_val (pe_call G (hr.mono (by first | decide | omega)) (by rfl) T.m_law_same T.F_law_same.kp T.b_law_same .nil pass0 (pa_cons (pe_ix (ix_any hu) (pv 0) (pv 3) (fun _ _ => rfl)) (pa_cons (pe_ix (ix_any hu) (pv 1) (pv 3) (fun _ _ => rfl)) pa_nil))))) (pss_one (ps_ret pe_bl)) pss_nil)))
      (pss_one (ps_ret pe_bl))))))))))), ?_⟩
  obtain ⟨x, y, d, e, rfl, hx, hy, pd, pe, hd, k⟩ := h
  walk_at "start"
  cases hx <;> cases hy
  all_goals (first | (simp [plainD] at pd; done) | (simp [plainD] at pe; done) | skip)
  all_goals (walk_at "sq")
  all_goals try (exact k _ _ (by simp) (.refl _))
  rotate_right 1
  · rename_i a kvs ds h1 n1 t1 a' lvs es h2 n2 t2
    have g1 := vals_nodup n1
    have g2 := vals_nodup n2
    simp only [D.depth] at hd
    have pd : ds.length ≤ 900 ∧ plainDs ds = true := by simpa [plainD] using pd
    have pe : es.length ≤ 900 ∧ plainDs es = true := by simpa [plainD] using pe
    have l1 : kvs.length = ds.length := by have := t1.len; simpa using this
    have l2 : lvs.length = es.length := by have := t2.len; simpa using this
    refine kr_listD h1 ?_
    intro L1 f1
    walk_at "sq"
    refine kr_listD (get_new f1 h2) ?_
    intro L2 f2
    walk_at "sq"
    have K2 : Mi.Sub H (upd (upd H L1 (.lst (kvs.map fun kv => kV kv.1))) L2 (.lst (lvs.map fun kv => kV kv.1))) := ((Mi.Sub.refl H).new f1).new f2
    refine use_sameG (.lst (get_new f2 upd_same) (by rw [List.length_map]; omega) (Mi.is_keys kvs)) (.lst upd_same (by rw [List.length_map]; omega) (Mi.is_keys lvs)) (by simp only [plainD]; exact Mi.keys_plain kvs) (by simp only [plainD]; exact Mi.keys_plain lvs) (by simp only [D.depth, Mi.keys_depth]; omega) fun b H3 hb k3 => ?_
    have K3 := K2.trans k3
    cases b with
    | false =>
      walk_at "sq"
      refine k _ _ ?_ K3
      constructor
      · intro z; cases z
      · intro z
        injection z with z1 z2
        have := hb.mpr (by rw [Mi.keys_inj.mpr z1])
        cases this
    | true =>
      have e := Mi.keys_inj.mp (by have := hb.mp rfl; injection this)
      walk_at "sq"
      refine k_vals (j := 2) (K3 _ _ h1) (by omega) g1 rfl (fun _ => rfl) (fun _ => rfl) (fun _ => rfl) fun L3 H4 f3 h4 k4 => ?_
      have K4 := K3.trans (keep_sub k4)
      walk_at "sq"
      refine k_vals (j := 2) (K4 _ _ h2) (by omega) g2 rfl (fun _ => rfl) (fun _ => rfl) (fun _ => rfl) fun L5 H5 f5 h5 k5 => ?_
      have K5 := K4.trans (keep_sub k5)
      walk_at "sq"
      refine use_sameG (.lst (keep_sub k5 _ _ h4) (by rw [List.length_map]; omega) (Mi.IsL.mono K5 t1)) (.lst h5 (by rw [List.length_map]; omega) (Mi.IsL.mono K5 t2)) (by simp only [plainD]; exact pd.2) (by simp only [plainD]; exact pe.2) (by simp only [D.depth]; omega) fun b H6 hb2 k6 => ?_
      walk_at "sq"
      refine k _ _ ?_ (K5.trans k6)
      rw [hb2, e]
      constructor
      · intro z
        injection z with z
        rw [z]
      · intro z
        injection z with _ z
        rw [z]
  all_goals
    rename_i a xs ds h1 l1 t1 a' ys es h2 l2 t2
    simp only [plainD] at pd pe
    refine k_ite (fun c1 => ?_) (fun c1 => ?_)
    · walk_at "sq"
      refine k _ _ ?_ (.refl H)
      have e1 := t1.len
      have e2 := t2.len
      have e3 : ¬ xs.length = ys.length := by intro z; rw [z] at c1; simp at c1
      constructor
      · intro z; cases z
      · intro z; cases z; exact absurd (e1.trans e2.symm) e3
    have e1 := t1.len
    have e2 := t2.len
    have e4 : (xs.length : Int) = ys.length := by simpa using c1
    have e3 : xs.length = ys.length := by omega
    walk_at "sq"
    refine for_r (fun i σ H' => (∃ v, σ = [some (.ref a), some (.ref a'), none, v]) ∧ Mi.Sub H H' ∧ ds.take i = es.take i) ⟨⟨none, rfl⟩, .refl H, rfl⟩ ?_ ?_
    · rintro i σ H1 hi ⟨⟨v, rfl⟩, k1, eq⟩
      have hi' : i < xs.length := by omega
      obtain ⟨x, hx⟩ := some_of hi'
      obtain ⟨y, hy⟩ := some_of (xs := ys) (i := i) (by omega)
      obtain ⟨d, hd1, id⟩ := t1.get hx
      obtain ⟨e, he1, ie⟩ := t2.get hy
      walk_at "sq"
      first | refine kr_ixL (k1 _ _ h1) (atI_nat hx) ?_ | refine Cf.kr_ixQ (Mi.sqT_mono k1 h1) (atI_nat hx) ?_
      walk_at "sq"
      first | refine kr_ixL (k1 _ _ h2) (atI_nat hy) ?_ | refine Cf.kr_ixQ (Mi.sqT_mono k1 h2) (atI_nat hy) ?_
      walk_at "sq"
      have dd : d.depth < n := by
        have := Mi.depth_mem (List.mem_of_getElem? hd1)
        simp only [D.depth] at hd
        omega
      refine use_sameG (Mi.Is.mono k1 id) (Mi.Is.mono k1 ie) (Mi.plain_mem pd (List.mem_of_getElem? hd1)) (Mi.plain_mem pe (List.mem_of_getElem? he1)) dd fun b H2 hb k2 => ?_
      walk_at "sq"
      cases b with
      | true =>
        walk_at "sq"
        have q := hb.mp rfl
        exact ⟨⟨_, rfl⟩, k1.trans k2, take_eq eq hd1 (q ▸ he1)⟩
      | false =>
        walk_at "sq"
        refine k _ _ ?_ (k1.trans k2)
        constructor
        · intro z; cases z
        · intro z
          cases z
          have q : d = e := Option.some.inj (hd1.symm.trans he1)
          have := hb.mpr q
          cases this
    · rintro σ H1 ⟨⟨v, rfl⟩, k1, eq⟩
      walk_at "sq"
      have q : ds = es := take_all (by omega) (by rw [← e1]; simpa using eq)
      exact k _ _ (by simp [q]) k1
theorem same_all (T : Txt P w K mg) : ∀ n : Nat, FnOk P w K mg base CX0 n T.a_law_same T.d_law_same ["here", "there"] (spSameG K (ct T) n)
  | 0 => sameG_none
  | n + 1 => same_step T n (same_all T n)
noncomputable abbrev m_law_same (x y : Mi.D) : M Bool := msame x y

noncomputable def m_check_mark (x_mark : Str) : M Unit := mite (mr (!decide (x_mark ∈ (⟨l_MARKS⟩ : Tp Str).l))) (mb (mr x_mark) fun a => mx ⟨"UnknownMark", ["mark"], [enc a]⟩) (mr ())
def sp_check_mark (K : PySem.W.Frag) (C : CT) : Sp := fun vs H Q E => ∃ (x_mark : Str) (v_mark : V), vs = [v_mark] ∧ Call K C R0 [(v_mark, enc x_mark)] (m_check_mark x_mark) H Q E
theorem ok_check_mark (T : Txt P w K mg)  : FnOk P w K mg base (L2.CX P w) (2) T.a_check_mark T.d_check_mark ["mark"] (sp_check_mark K (ct T)) := by
  refine T.F_check_mark.okX sc_check_mark (fun vs H Q E h => by obtain ⟨_, _, rfl, _⟩ := h; rfl) (fun cdv A outer s H vs Q E hr h => ?_)
  have hu := hu_of hr
  have hu64 := hr.units
  refine ⟨_, (pss_one (ps_if (pt_cmpR (op_notInn hu) (pv 0) (pe_glob (v := .ref T.k_MARKS) (by rfl) T.mk_MARKS rfl) (by rfl)) (pss_one (ps_raise1 (k := 1) rfl T.sup_UnknownMark (hr.mono (by first | decide | omega)) (takes_of rfl rfl rfl rfl) (pa_cons (pv 0) pa_nil))) pss_nil)), ?_⟩
  obtain ⟨x_mark, v_mark, rfl, G0, F0, post, px, hp, hm, hx, hQ⟩ := h
  walk_at "start"
  unfold m_check_mark at hm
  refine s_if hp hx hm (ET.test (EV.ninSTP (EV.var rfl (.head _)) (EV.tconst (xs := l_MARKS) (tl_MARKS T) (Nat.le_of_ble_eq_true rfl)))) (fun H hp hm => ?_) (fun H hp hm => ?_)
  · exact s_raise hp hx (ct_UnknownMark T) hm (EV.var rfl (.head _)) (fun _ _ _ h => h)
  · refine s_next ?_
    exact hQ () _ _ hp.finN hm
noncomputable def m_stands_below (x_lower : Str) (x_upper : Str) : M Bool := (mb (mr x_upper) fun a => mb (mkd tab_ABOVE x_lower) fun b => mr (decide (a ∈ b.l)))
def sp_stands_below (K : PySem.W.Frag) (C : CT) : Sp := fun vs H Q E => ∃ (x_lower : Str) (x_upper : Str) (v_lower v_upper : V), vs = [v_lower, v_upper] ∧ CallN K C R0 [(v_lower, enc x_lower), (v_upper, enc x_upper)] (m_stands_below x_lower x_upper) H Q
theorem ok_stands_below (T : Txt P w K mg)  : FnOk P w K mg base CX0 (1) T.a_stands_below T.d_stands_below ["lower", "upper"] (sp_stands_below K (ct T)) := by
  refine T.F_stands_below.ok sc_stands_below (fun vs H Q E h => by obtain ⟨_, _, _, _, rfl, _⟩ := h; rfl) (fun cdv A outer s H vs Q E hr h => ?_)
  have hu := hu_of hr
  have hu64 := hr.units
  refine ⟨_, (pss_one (ps_ret (pe_cmpR (op_inn hu) (pv 1) (pe_ix ix_kdict (pe_glob (v := .ref T.k_ABOVE) (by rfl) T.mk_ABOVE rfl) (pv 0) (fun _ _ => rfl)) (by rfl)))), ?_⟩
  obtain ⟨x_lower, x_upper, v_lower, v_upper, rfl, G0, F0, post, px, hp, hm, hQ⟩ := h
  have hx := hx0 (K := K) (C := ct T) (R := R0) (G0 := G0) (F0 := F0) (px := px)
  walk_at "start"
  unfold m_stands_below at hm
  refine s_ret1 hp hx hm (EV.inST (EV.var rfl (.tail _ (.head _))) (EV.ixKdP (ktab_ABOVE T) (EV.var rfl (.head _)))) (fun a v H hp hm => hQ a v H hp.fin hm)
noncomputable def m_sum_of (x_first : (Option Int)) (x_second : (Option Int)) : M (Option Int) := mite (mr ((x_first).isNone || (x_second).isNone)) ((mr (none : (Option Int)))) ((mb (mb (mget x_first) fun a => mb (mget x_second) fun b => mr (a + b)) fun a => mr (Option.some a)))
def sp_sum_of (K : PySem.W.Frag) (C : CT) : Sp := fun vs H Q E => ∃ (x_first : (Option Int)) (x_second : (Option Int)) (v_first v_second : V), vs = [v_first, v_second] ∧ CallN K C R0 [(v_first, enc x_first), (v_second, enc x_second)] (m_sum_of x_first x_second) H Q
theorem ok_sum_of (T : Txt P w K mg)  : FnOk P w K mg base CX0 (1) T.a_sum_of T.d_sum_of ["first", "second"] (sp_sum_of K (ct T)) := by
  refine T.F_sum_of.ok sc_sum_of (fun vs H Q E h => by obtain ⟨_, _, _, _, rfl, _⟩ := h; rfl) (fun cdv A outer s H vs Q E hr h => ?_)
  have hu := hu_of hr
  have hu64 := hr.units
  refine ⟨_, (pss_cons (ps_if (PW.pt (pw_or (pt_cmpR op_isNA (pv 0) pe_non (nomark _)) (pw_or1 (pt_cmpR op_isNA (pv 1) pe_non (nomark _))))) (pss_one (ps_ret pe_non)) pss_nil)
      (pss_one (ps_ret (pe_op op_plus (pv 0) (pv 1))))), ?_⟩
  obtain ⟨x_first, x_second, v_first, v_second, rfl, G0, F0, post, px, hp, hm, hQ⟩ := h
  have hx := hx0 (K := K) (C := ct T) (R := R0) (G0 := G0) (F0 := F0) (px := px)
  walk_at "start"
  unfold m_sum_of at hm
  refine s_seq ?_
  refine s_if hp hx hm (ET.orP (ET.test (EV.isNP (EV.var rfl (.head _)) EV.unit)) (ET.test (EV.isNP (EV.var rfl (.tail _ (.head _))) EV.unit))) (fun H hp hm => ?_) (fun H hp hm => ?_)
  · refine s_ret1 hp hx hm EV.optN (fun a v H hp hm => hQ a v H hp.fin hm)
  · refine s_next ?_
    refine s_ret1 hp hx hm (EV.optM (EV.addI (EV.get (EV.var rfl (.head _))) (EV.get (EV.var rfl (.tail _ (.head _)))))) (fun a v H hp hm => hQ a v H hp.fin hm)
noncomputable def m_mark_gap (x_upper : Str) (x_lower : Str) (x_lag : (Option Int)) (x_length : (Option Int)) : M (Option Int) := mite (m_stands_below x_upper x_lower) ((mr (some (0 : Int)))) (mite (mr (decide (x_lower = ("done" : Str)))) ((mr x_lag)) (mite (mr (decide (x_lower = ("owed" : Str)))) ((mite (mr (decide (x_upper = ("done" : Str)))) (mr x_length) (m_sum_of x_lag x_length))) ((mr (none : (Option Int))))))
def sp_mark_gap (K : PySem.W.Frag) (C : CT) : Sp := fun vs H Q E => ∃ (x_upper : Str) (x_lower : Str) (x_lag : (Option Int)) (x_length : (Option Int)) (v_upper v_lower v_lag v_length : V), vs = [v_upper, v_lower, v_lag, v_length] ∧ CallN K C R0 [(v_upper, enc x_upper), (v_lower, enc x_lower), (v_lag, enc x_lag), (v_length, enc x_length)] (m_mark_gap x_upper x_lower x_lag x_length) H Q
theorem ok_mark_gap (T : Txt P w K mg)  : FnOk P w K mg base CX0 (2) T.a_mark_gap T.d_mark_gap ["upper", "lower", "lag", "length"] (sp_mark_gap K (ct T)) := by
  refine T.F_mark_gap.ok sc_mark_gap (fun vs H Q E h => by obtain ⟨_, _, _, _, _, _, _, _, rfl, _⟩ := h; rfl) (fun cdv A outer s H vs Q E hr h => ?_)
  have hu := hu_of hr
  have hu64 := hr.units
  refine ⟨_, (pss_cons (ps_if (pt_val (pe_call (ok_stands_below T) (hr.mono (by first | decide | omega)) (by rfl) T.m_stands_below T.F_stands_below.kp T.b_stands_below .nil pass0 (pa_cons (pv 0) (pa_cons (pv 1) pa_nil)))) (pss_one (ps_ret pe_int)) pss_nil)
      (pss_cons (ps_if (pt_cmpR (op_eqq hu64) (pv 1) pe_str (nomark _)) (pss_one (ps_ret (pv 2))) pss_nil)
      (pss_cons (ps_if (pt_cmpR (op_eqq hu64) (pv 1) pe_str (nomark _)) (pss_one (ps_ret (pe_ifExp (pt_cmpR (op_eqq hu64) (pv 0) pe_str (nomark _)) (pv 3) (pe_call (ok_sum_of T) (hr.mono (by first | decide | omega)) (by rfl) T.m_sum_of T.F_sum_of.kp T.b_sum_of .nil pass0 (pa_cons (pv 2) (pa_cons (pv 3) pa_nil)))))) pss_nil)
      (pss_one (ps_ret pe_non))))), ?_⟩
  obtain ⟨x_upper, x_lower, x_lag, x_length, v_upper, v_lower, v_lag, v_length, rfl, G0, F0, post, px, hp, hm, hQ⟩ := h
  have hx := hx0 (K := K) (C := ct T) (R := R0) (G0 := G0) (F0 := F0) (px := px)
  walk_at "start"
  unfold m_mark_gap at hm
  refine s_seq ?_
  refine s_if hp hx hm (ET.test (EV.callNP (EA.consP (EV.var rfl (.head _)) (EA.consP (EV.var rfl (.tail _ (.head _))) EA.nil)) (hcN2 fun v0 v1 H Q h => ⟨x_upper, x_lower, v0, v1, rfl, h⟩))) (fun H hp hm => ?_) (fun H hp hm => ?_)
  · refine s_ret1 hp hx hm (EV.opt EV.int) (fun a v H hp hm => hQ a v H hp.fin hm)
  · refine s_next ?_
    refine s_seq ?_
    refine s_if hp hx hm (ET.test (EV.eqSP (EV.var rfl (.tail _ (.head _))) EV.str)) (fun H hp hm => ?_) (fun H hp hm => ?_)
    · refine s_ret1 hp hx hm (EV.var rfl (.tail _ (.tail _ (.head _)))) (fun a v H hp hm => hQ a v H hp.fin hm)
    · refine s_next ?_
      refine s_seq ?_
      refine s_if hp hx hm (ET.test (EV.eqSP (EV.var rfl (.tail _ (.head _))) EV.str)) (fun H hp hm => ?_) (fun H hp hm => ?_)
      · refine s_ret1 hp hx hm (EV.ite (ET.test (EV.eqSP (EV.var rfl (.head _)) EV.str)) (EV.var rfl (.tail _ (.tail _ (.tail _ (.head _))))) (EV.callNP (EA.consP (EV.var rfl (.tail _ (.tail _ (.head _)))) (EA.consP (EV.var rfl (.tail _ (.tail _ (.tail _ (.head _))))) EA.nil)) (hcN2 fun v0 v1 H Q h => ⟨x_lag, x_length, v0, v1, rfl, h⟩))) (fun a v H hp hm => hQ a v H hp.fin hm)
      · refine s_next ?_
        refine s_ret1 hp hx hm EV.optN (fun a v H hp hm => hQ a v H hp.fin hm)
abbrev Tm := Str × Int
def bl (u l : Str) : Bool := decide (l ∈ (tab_ABOVE.lookup u).getD [])
theorem ab_some {u : Str} (h : u ∈ l_MARKS) : ∃ l, tab_ABOVE.lookup u = some l := by
  have : ∀ u ∈ l_MARKS, (tab_ABOVE.lookup u).isSome = true := by decide +kernel
  exact Option.isSome_iff_exists.mp (this u h)
theorem stands_ok {u l : Str} (h : u ∈ l_MARKS) : Ret (m_stands_below u l) (bl u l) := by
  obtain ⟨z, e⟩ := ab_some h
  unfold m_stands_below
  simp only [mb_mr, mb_mb]
  refine .b (b := ⟨z⟩) ?_ ?_
  · unfold mkd; rw [e]; exact .r
  · unfold bl; rw [e]; exact .r
/-- the values keep to the ladder -/
def onl (d : Dt Int) : Bool := decide ((d.l.lookup ("zero" : Str)).getD 0 = 0) && d.l.all fun p => decide (0 ≤ p.2) && d.l.all fun q => !(bl p.1 q.1 && decide (q.2 < p.2))
noncomputable def m_on_ladder (x : Dt Int) : M Bool := mreq (∀ p ∈ x.l, p.1 ∈ l_MARKS) (mr (onl x))
def sp_on_ladder (K : PySem.W.Frag) (C : CT) : Sp := fun vs H Q E => ∃ (d : Dt Int) (v : V), vs = [v] ∧ CallN K C R0 [(v, enc d)] (m_on_ladder d) H Q
theorem check_mark_ok {m : Str} (h : m ∈ l_MARKS) : Ret (m_check_mark m) () := by
  unfold m_check_mark
  exact .iteF (.of .r (by rw [decide_eq_true (show m ∈ (⟨l_MARKS⟩ : Tp Str).l from h)]; rfl)) .r
theorem flat_pt {E : XK} {C : CT} {H : Hp} {L : List (V × Mi.D)} (hL : ∀ x ∈ L, Mi.Is K C (fun _ => none) x.1 x.2) : Pt ⟨K, C, R0, fun _ => none, H, E⟩ L [] H :=
  ⟨fun _ => none, H, fun _ => none, { g0 := fun _ _ z => z, f0 := fun _ _ z => z, g := fun _ _ z => (by cases z), f := fun _ _ z => z, w := fun _ _ z => (by cases z), gf := fun _ => .inl rfl, gw := fun _ => .inl rfl, fw := fun _ => .inr rfl, r := fun _ => rfl, l := hL, o := fun _ z => (by cases z), nd := List.nodup_nil }⟩
theorem flat_sub {E : XK} {C : CT} {R : Hp → Prop} {G0 H H' : Hp} {L : List (V × Mi.D)} {O : List (Addr × Mi.D)} (h : Pt ⟨K, C, R, G0, H, E⟩ L O H') : Mi.Sub H H' := by
  obtain ⟨G, F, W, h⟩ := h
  exact fun b o e => h.f b o (h.f0 b o e)
theorem lookup_nd {l : List (Str × Int)} (n : (l.map (·.1)).Nodup) {q : Str × Int} (h : q ∈ l) : l.lookup q.1 = some q.2 := by
  induction l with
  | nil => cases h
  | cons p l ih =>
    rw [List.map_cons, List.nodup_cons] at n
    obtain ⟨k, v⟩ := p
    rw [List.lookup_cons]
    rcases List.mem_cons.mp h with rfl | h
    · rw [beq_self_eq_true]
    · have : q.1 ≠ k := fun e => n.1 (List.mem_map.mpr ⟨q, h, e⟩)
      rw [beq_false_of_ne this]
      exact ih n.2 h
theorem val_int {C : CT} {G : Hp} {l : List (Str × Int)} {kvs : List (Key × V)} (e : kvs.map (·.1) = l.map fun p => (Sum.inr p.1 : Key)) (t : Mi.IsL K C G (kvs.map (·.2)) (l.map fun p => enc p.2)) (z : Str) : valV kvs (Sum.inr z) = (l.lookup z).map V.int := by
  have q := valV_rel e t z
  cases c : l.lookup z with
  | none => rw [c] at q; exact q
  | some a =>
    rw [c] at q
    obtain ⟨v, q1, q2⟩ := q
    rw [q1, is_int q2]; rfl
/-- a lower mark's row -/
def rowOk (l : List (Str × Int)) (p : Str × Int) : Bool := decide (0 ≤ p.2) && l.all fun q => !(bl p.1 q.1 && decide (q.2 < p.2))
theorem ok_on_ladder (T : Txt P w K mg)  : FnOk P w K mg base CX0 (3) T.a_on_ladder T.d_on_ladder ["marks"] ((sp_on_ladder K (ct T))) := by
  refine T.F_on_ladder.ok sc_on_ladder (fun vs H Q E h => by obtain ⟨_, _, rfl, _⟩ := h; rfl) (fun cdv A outer s H vs Q E hr h => ?_)
  have hu := hu_of hr
  have hu64 := hr.units
  refine ⟨_, (pss_cons (ps_lock (ps_for PassesOwn.never rfl (pi_keys (pv 0)) (pg_name (i := 1) sc_on_ladder.nd rfl (by first | exact Or.inl rfl | exact Or.inr rfl))
      (pss_one (ps_expr (pe_call (ok_check_mark T) (hr.mono (by first | decide | omega)) (by rfl) T.m_check_mark T.F_check_mark.kp T.b_check_mark .nil passN (pa_cons (pv 1) pa_nil))))))
      (pss_cons (ps_if (pt_cmpR (op_neq hu64) (pe_dget2 hu (pv 0) pe_str pe_int ⟨rfl, rfl, rfl, rfl⟩) pe_int (nomark _)) (pss_one (ps_ret pe_bl)) pss_nil)
      (pss_cons (ps_lock (ps_for PassesOwn.never rfl (pi_keys (pv 0)) (pg_name (i := 2) sc_on_ladder.nd rfl (by first | exact Or.inl rfl | exact Or.inr rfl))
      (pss_cons (ps_if (pt_cmpR op_lt (pe_ix (ix_any hu) (pv 0) (pv 2) (fun _ _ => rfl)) pe_int (nomark _)) (pss_one (ps_ret pe_bl)) pss_nil)
      (pss_one (ps_for PassesOwn.never rfl (pi_keys (pv 0)) (pg_name (i := 3) sc_on_ladder.nd rfl (by first | exact Or.inl rfl | exact Or.inr rfl))
      (pss_one (ps_if (PW.pt (pw_and (pt_val (pe_call (ok_stands_below T) (hr.mono (by first | decide | omega)) (by rfl) T.m_stands_below T.F_stands_below.kp T.b_stands_below .nil pass0 (pa_cons (pv 2) (pa_cons (pv 3) pa_nil)))) (pw_and1 (pt_cmpR op_gt (pe_ix (ix_any hu) (pv 0) (pv 2) (fun _ _ => rfl)) (pe_ix (ix_any hu) (pv 0) (pv 3) (fun _ _ => rfl)) (nomark _))))) (pss_one (ps_ret pe_bl)) pss_nil)))))))
      (pss_one (ps_ret pe_bl))))), ?_⟩
  obtain ⟨x_marks, v_marks, rfl, G0, F0, post, px, hp, hm, hQ⟩ := h
  obtain ⟨hk, hm⟩ : (∀ p ∈ x_marks.l, p.1 ∈ l_MARKS) ∧ post (onl x_marks) := hm
  walk_at "start"
  obtain ⟨G, F, W, h⟩ := hp
  obtain ⟨p, kvs, rfl, e1, e2, n, t⟩ := is_dct h.x0
  obtain ⟨l⟩ := x_marks
  have e2 : kvs.map (·.1) = l.map fun q => (Sum.inr q.1 : Key) := e2
  have hk : ∀ q ∈ l, q.1 ∈ l_MARKS := hk
  have nd : (l.map (·.1)).Nodup := by
    have : (l.map fun q => (Sum.inr q.1 : Key)).Nodup := n
    rw [show (l.map fun q => (Sum.inr q.1 : Key)) = (l.map (·.1)).map Sum.inr from by rw [List.map_map]; rfl] at this
    exact List.Pairwise.of_map Sum.inr (fun a b q e => q (congrArg _ e)) this
  have len : kvs.length = l.length := by have := congrArg List.length e2; simpa using this
  have at_ : ∀ (i : Nat) (k : Key) (v : V), kvs[i]? = some (k, v) → ∃ q, l[i]? = some q ∧ k = Sum.inr q.1 := fun i k v e => by
    have := congrArg (fun x => x[i]?) e2
    simp only [List.getElem?_map, e] at this
    cases hq : l[i]? with
    | none => rw [hq] at this; cases this
    | some q => rw [hq] at this; exact ⟨q, rfl, Option.some.inj this⟩
  have fin : ∀ (b : Bool) (H' : Hp), Mi.Sub H H' → onl ⟨l⟩ = b → Q (.bl b) H' := fun b H' s e => hQ b (.bl b) H' ⟨G, F, W, { g0 := h.g0, f0 := h.f0, g := fun a o z => s a o (h.g a o z), f := fun a o z => s a o (h.f a o z), w := fun a o z => s a o (h.w a o z), gf := h.gf, gw := h.gw, fw := h.fw, r := h.r, l := fun x hx => (by rw [List.mem_singleton.mp hx]; exact .bl b), o := fun _ z => (by cases z), nd := List.nodup_nil }⟩ (e ▸ hm)
  have hp0 : H p = some (.dK kvs) := h.g _ _ e1
  have unl : ∀ {od : Obj} {H1 H' : Hp}, H1 p = some (.dK kvs) → Mi.Sub H H1 → Mi.Sub (upd H1 p (.frz od (.dK kvs))) H' → Mi.Sub H (upd H' p (.dK kvs)) ∧ (upd H' p (.dK kvs)) p = some (.dK kvs) := fun {od H1 H'} a s1 s => by
    refine ⟨fun b o z => ?_, upd_same⟩
    by_cases q : b = p
    · subst q
      rw [upd_same, ← z, hp0]
    · rw [upd_ne q]
      exact s b o (by rw [upd_ne q]; exact s1 b o z)
  refine ⟨p, .dK kvs, hp0, ?mu, fun od => ?_⟩
  case mu => first | exact trivial | exact (by simp [Mut])
  refine ⟨.ref p, rfl, p, od, rfl, .inl ⟨kvs, upd_same, ?_⟩⟩
  refine for_it (walk_keys) (fun i σ H' => ∃ m, σ = [some (.ref p), m, none, none] ∧ Mi.Sub (upd H p (.frz od (.dK kvs))) H') ⟨_, rfl, .refl _⟩ (fun i σ H' _ ⟨m, _, s⟩ => s p _ upd_same) ?b1 ?d1
  case b1 =>
    rintro i x σ H' H'' hi ⟨m, rfl, s⟩ ⟨rfl, k, v, ek, rfl⟩
    obtain ⟨q, hq, rfl⟩ := at_ i k v ek
    refine ⟨_, rfl, q.1, _, rfl, fun _ => none, H'', fun _ => True, fun _ => False, flat_pt (fun x hx => by rw [List.mem_singleton.mp hx]; exact .str _), check_mark_ok (hk q (List.mem_of_getElem? hq)) _ _ trivial, fun _ _ _ _ _ z => z.elim, fun r v H3 hp3 _ => ?_⟩
    exact ⟨_, rfl, fun b o z => flat_sub hp3 b o (s b o z)⟩
  case d1 =>
    rintro σ H' ⟨m, rfl, s⟩
    refine ⟨s p _ upd_same, ?_⟩
    obtain ⟨s1, hp1⟩ := unl hp0 (.refl _) s
    generalize upd H' p (.dK kvs) = H1 at s1 hp1
    clear s H'
    refine ⟨.ref p, rfl, p, rfl, .inl ⟨kvs, .inl hp1⟩, _, DGet.k (k := Sum.inr ("zero" : Str)) hp1, .inl ⟨?sc, _, rfl, ?_⟩⟩
    case sc => rw [val_int e2 t]; cases l.lookup ("zero" : Str) <;> rfl
    have ez : ((valV kvs (Sum.inr ("zero" : Str))).getD (.int 0)) = .int ((l.lookup ("zero" : Str)).getD 0) := by
      rw [val_int e2 t]; cases l.lookup ("zero" : Str) <;> rfl
    rw [ez, dec_int]
    refine k_ite (fun c => ?_) (fun c => ?_)
    · refine fin false H1 s1 ?_
      have : ¬ (l.lookup ("zero" : Str)).getD 0 = 0 := by simpa using c
      unfold onl
      rw [decide_eq_false this]; rfl
    have hz : (l.lookup ("zero" : Str)).getD 0 = 0 := by simpa using c
    have ho : onl ⟨l⟩ = l.all (rowOk l) := by
      unfold onl
      rw [decide_eq_true hz, Bool.true_and]; rfl
    refine ⟨p, .dK kvs, hp1, ?mu2, fun od2 => ?_⟩
    case mu2 => first | exact trivial | exact (by simp [Mut])
    refine ⟨.ref p, rfl, p, od2, rfl, .inl ⟨kvs, upd_same, ?_⟩⟩
    refine for_it (walk_keys) (fun i σ H' => ∃ m a b, σ = [some (.ref p), m, a, b] ∧ Mi.Sub (upd H1 p (.frz od2 (.dK kvs))) H' ∧ ∀ j q, j < i → l[j]? = some q → rowOk l q = true) ⟨_, _, _, rfl, .refl _, fun j q z => (by omega)⟩ (fun i σ H' _ ⟨m, _, _, _, s, _⟩ => s p _ upd_same) ?b2 ?d2
    case d2 =>
      rintro σ H' ⟨m, a, b, rfl, s, hr⟩
      refine ⟨s p _ upd_same, ?_⟩
      obtain ⟨s2, hp2⟩ := unl hp1 s1 s
      refine fin true _ s2 ?_
      rw [ho, List.all_eq_true]
      intro q hq
      obtain ⟨j, hj, e⟩ := List.getElem_of_mem hq
      exact hr j q (by omega) (by rw [List.getElem?_eq_getElem hj, e])
    case b2 =>
      rintro i x σ H' H'' hi ⟨m, a, b, rfl, s, hr⟩ ⟨rfl, k, v, ek, rfl⟩
      obtain ⟨q, hq, rfl⟩ := at_ i k v ek
      have hmem := List.mem_of_getElem? hq
      have vq : valV kvs (Sum.inr q.1) = some (.int q.2) := by rw [val_int e2 t, lookup_nd nd hmem]; rfl
      have frz := s p _ upd_same
      have bad : rowOk l q = false → onl ⟨l⟩ = false := fun e => by
        rw [ho, Bool.eq_false_iff]
        intro z
        rw [List.all_eq_true] at z
        have := z q hmem
        rw [e] at this; cases this
      refine ⟨.ref p, rfl, .str q.1, rfl, .inr ⟨p, _, rfl, .inl ⟨kvs, Sum.inr q.1, .inr ⟨od2, frz⟩, rfl, vq.symm⟩, _, _, rfl, rfl, _, rfl, ?_⟩⟩
      refine k_ite (fun c => ?_) (fun c => ?_)
      · refine ⟨frz, ?_⟩
        obtain ⟨s2, hp2⟩ := unl hp1 s1 s
        refine fin false _ s2 (bad ?_)
        unfold rowOk
        rw [decide_eq_false (by simp at c; omega)]; rfl
      have q0 : 0 ≤ q.2 := by simp at c; omega
      refine ⟨.ref p, rfl, p, od2, rfl, .inl ⟨kvs, frz, ?_⟩⟩
      refine for_it (walk_keys) (fun i' σ H2 => ∃ m b, σ = [some (.ref p), m, some (.str q.1), b] ∧ Mi.Sub (upd H1 p (.frz od2 (.dK kvs))) H2 ∧ ∀ j r, j < i' → l[j]? = some r → (!(bl q.1 r.1 && decide (r.2 < q.2))) = true) ⟨_, _, rfl, s, fun j q z => (by omega)⟩ (fun i σ H' _ ⟨m, _, _, s, _⟩ => s p _ upd_same) ?b3 ?d3
      case d3 =>
        rintro σ H2 ⟨m, b, rfl, s, hr2⟩
        refine ⟨_, _, _, rfl, s, fun j r hj e => ?_⟩
        by_cases z : j < i
        · exact hr j r z e
        · have : j = i := by omega
          subst this
          rw [hq] at e
          cases e
          unfold rowOk
          rw [decide_eq_true q0, Bool.true_and, List.all_eq_true]
          intro r hr'
          obtain ⟨j, hj, e⟩ := List.getElem_of_mem hr'
          exact hr2 j r (by omega) (by rw [List.getElem?_eq_getElem hj, e])
      case b3 =>
        rintro i' x σ H2 H3 hi' ⟨m, b, rfl, s, hr2⟩ ⟨rfl, k, v, ek', rfl⟩
        obtain ⟨r, hr', rfl⟩ := at_ i' k v ek'
        have hmem' := List.mem_of_getElem? hr'
        have vr : valV kvs (Sum.inr r.1) = some (.int r.2) := by rw [val_int e2 t, lookup_nd nd hmem']; rfl
        refine ⟨_, rfl, _, rfl, q.1, r.1, _, _, rfl, fun _ => none, H3, fun z => z = bl q.1 r.1, fun _ => False, flat_pt (fun x hx => by
          simp only [List.mem_cons, List.not_mem_nil, or_false] at hx
          rcases hx with rfl | rfl <;> exact .str _), stands_ok (hk q hmem) _ _ rfl, fun z vz H4 hp4 ez => ?_⟩
        subst ez
        obtain rfl := is_bl hp4.hd
        have s4 : Mi.Sub (upd H1 p (.frz od2 (.dK kvs))) H4 := fun b o z => flat_sub hp4 b o (s b o z)
        have frz4 := s4 p _ upd_same
        refine ⟨_, rfl, ?_⟩
        have go : ∀ c : Bool, (c = true → (!(bl q.1 r.1 && decide (r.2 < q.2))) = true) → (∀ j r', j < i' + 1 → l[j]? = some r' → c = true → (!(bl q.1 r'.1 && decide (r'.2 < q.2))) = true) := fun c hc j r' hj e hcc => by
          by_cases z : j < i'
          · exact hr2 j r' z e
          · have : j = i' := by omega
            subst this
            rw [hr'] at e
            cases e
            exact hc hcc
        cases hb : bl q.1 r.1 with
        | false =>
          refine iteF (iteF ?_)
          exact ⟨_, _, rfl, s4, fun j r' hj e => go true (fun _ => by rw [hb]; rfl) j r' hj e rfl⟩
        | true =>
          refine iteT ?_
          refine ⟨.ref p, rfl, .str q.1, rfl, .inr ⟨p, _, rfl, .inl ⟨kvs, Sum.inr q.1, .inr ⟨od2, frz4⟩, rfl, vq.symm⟩, .ref p, rfl, .str r.1, rfl, .inr ⟨p, _, rfl, .inl ⟨kvs, Sum.inr r.1, .inr ⟨od2, frz4⟩, rfl, vr.symm⟩, _, _, rfl, rfl, _, rfl, ?_⟩⟩⟩
          refine k_ite (fun c => ?_) (fun c => ?_)
          · refine ⟨frz4, ?_⟩
            obtain ⟨s2, hp2⟩ := unl hp1 s1 s4
            refine fin false _ s2 (bad ?_)
            unfold rowOk
            have : (l.all fun q_1 => !(bl q.1 q_1.1 && decide (q_1.2 < q.2))) = false := by
              rw [Bool.eq_false_iff]
              intro z
              rw [List.all_eq_true] at z
              have := z r hmem'
              rw [hb, c] at this
              cases this
            rw [this, Bool.and_false]
          · exact ⟨_, _, rfl, s4, fun j r' hj e => go true (fun _ => by rw [hb]; simpa using c) j r' hj e rfl⟩
noncomputable def m_is_whole (x_value : Mi.D) : M Bool := (mand (misD .int x_value) (mb (misD .bl x_value) fun a => mr (!a)))
def sp_is_whole (K : PySem.W.Frag) (C : CT) : Sp := fun vs H Q E => ∃ (x_value : Mi.D) (v_value : V), vs = [v_value] ∧ CallN K C R0 [(v_value, enc x_value)] (m_is_whole x_value) H Q
theorem ok_is_whole (T : Txt P w K mg)  : FnOk P w K mg base CX0 (1) T.a_is_whole T.d_is_whole ["value"] (sp_is_whole K (ct T)) := by
  refine T.F_is_whole.ok sc_is_whole (fun vs H Q E h => by obtain ⟨_, _, rfl, _⟩ := h; rfl) (fun cdv A outer s H vs Q E hr h => ?_)
  have hu := hu_of hr
  have hu64 := hr.units
  refine ⟨_, (pss_one (ps_ret (pe_and (pe_callB call_isi (by rfl) T.z_isinstance (by decide +kernel) (pa_cons (pv 0) (pa_cons (pe_bltn (v := .ty "int") (by rfl) T.z_int (by decide +kernel) rfl) pa_nil))) (pe_one (pe_not (pe_callB call_isi (by rfl) T.z_isinstance (by decide +kernel) (pa_cons (pv 0) (pa_cons (pe_bltn (v := .ty "bool") (by rfl) T.z_bool (by decide +kernel) rfl) pa_nil)))))))), ?_⟩
  obtain ⟨x_value, v_value, rfl, G0, F0, post, px, hp, hm, hQ⟩ := h
  have hx := hx0 (K := K) (C := ct T) (R := R0) (G0 := G0) (F0 := F0) (px := px)
  walk_at "start"
  unfold m_is_whole at hm
  refine s_ret1 hp hx hm (EV.andV (EV.isiDP .int (EV.var rfl (.head _))) (EV.notV (EV.isiDP .bl (EV.var rfl (.head _))))) (fun a v H hp hm => hQ a v H hp.fin hm)
noncomputable def m_is_bound (x_value : (Option Int)) : M Bool := mite (mand (mr (x_value).isSome) (mb (m_is_whole (enc x_value : Mi.D)) fun a => mr (!a))) ((mr false)) ((mor (mr (x_value).isNone) (mb (mr (0 : Int)) fun a => mb (mget x_value) fun b => if decide (a ≤ b) = true then mb (mr (49 : Int)) fun c => mr (decide (b ≤ c)) else mr false)))
def sp_is_bound (K : PySem.W.Frag) (C : CT) : Sp := fun vs H Q E => ∃ (x_value : (Option Int)) (v_value : V), vs = [v_value] ∧ CallN K C R0 [(v_value, enc x_value)] (m_is_bound x_value) H Q
theorem ok_is_bound (T : Txt P w K mg)  : FnOk P w K mg base CX0 (2) T.a_is_bound T.d_is_bound ["value"] (sp_is_bound K (ct T)) := by
  refine T.F_is_bound.ok sc_is_bound (fun vs H Q E h => by obtain ⟨_, _, rfl, _⟩ := h; rfl) (fun cdv A outer s H vs Q E hr h => ?_)
  have hu := hu_of hr
  have hu64 := hr.units
  refine ⟨_, (pss_cons (ps_if (PW.pt (pw_and (pt_cmpR op_notNA (pv 0) pe_non (nomark _)) (pw_and1 (pt_not (pt_val (pe_call (ok_is_whole T) (hr.mono (by first | decide | omega)) (by rfl) T.m_is_whole T.F_is_whole.kp T.b_is_whole .nil pass0 (pa_cons (pv 0) pa_nil))))))) (pss_one (ps_ret pe_bl)) pss_nil)
      (pss_one (ps_ret (pe_or (pe_cmpR op_isNA (pv 0) pe_non (nomark _)) (pe_one (pe_chain op_le op_le pe_int (pv 0) (pe_glob (v := .int (49)) (by rfl) T.k_BOUND_LIMIT ⟨_, rfl⟩))))))), ?_⟩
  obtain ⟨x_value, v_value, rfl, G0, F0, post, px, hp, hm, hQ⟩ := h
  have hx := hx0 (K := K) (C := ct T) (R := R0) (G0 := G0) (F0 := F0) (px := px)
  walk_at "start"
  unfold m_is_bound at hm
  refine s_seq ?_
  refine s_if hp hx hm (ET.and (ET.test (EV.notNP (EV.var rfl (.head _)) EV.unit)) (ET.not (ET.test (EV.callNP (EA.consP (EV.toD (EV.var rfl (.head _))) EA.nil) (hcN1 fun v0 H Q h => ⟨(enc x_value : Mi.D), v0, rfl, h⟩))))) (fun H hp hm => ?_) (fun H hp hm => ?_)
  · refine s_ret1 hp hx hm EV.bl (fun a v H hp hm => hQ a v H hp.fin hm)
  · refine s_next ?_
    refine s_ret1 hp hx hm (EV.orV (EV.isNP (EV.var rfl (.head _)) EV.unit) (EV.chain (g1 := fun i j => decide (i ≤ j)) (g2 := fun i j => decide (i ≤ j)) EV.int (EV.get (EV.var rfl (.head _))) EV.int)) (fun a v H hp hm => hQ a v H hp.fin hm)
noncomputable def m_bound_at_most (x_first : (Option Int)) (x_second : (Option Int)) : M Bool := (mor (mr (x_second).isNone) (mand (mr (x_first).isSome) (mb (mget x_first) fun a => mb (mget x_second) fun b => mr (decide (a ≤ b)))))
def sp_bound_at_most (K : PySem.W.Frag) (C : CT) : Sp := fun vs H Q E => ∃ (x_first : (Option Int)) (x_second : (Option Int)) (v_first v_second : V), vs = [v_first, v_second] ∧ CallN K C R0 [(v_first, enc x_first), (v_second, enc x_second)] (m_bound_at_most x_first x_second) H Q
theorem ok_bound_at_most (T : Txt P w K mg)  : FnOk P w K mg base CX0 (1) T.a_bound_at_most T.d_bound_at_most ["first", "second"] (sp_bound_at_most K (ct T)) := by
  refine T.F_bound_at_most.ok sc_bound_at_most (fun vs H Q E h => by obtain ⟨_, _, _, _, rfl, _⟩ := h; rfl) (fun cdv A outer s H vs Q E hr h => ?_)
  have hu := hu_of hr
  have hu64 := hr.units
  refine ⟨_, (pss_one (ps_ret (pe_or (pe_cmpR op_isNA (pv 1) pe_non (nomark _)) (pe_one (pe_and (pe_cmpR op_notNA (pv 0) pe_non (nomark _)) (pe_one (pe_cmpR op_le (pv 0) (pv 1) (nomark _)))))))), ?_⟩
  obtain ⟨x_first, x_second, v_first, v_second, rfl, G0, F0, post, px, hp, hm, hQ⟩ := h
  have hx := hx0 (K := K) (C := ct T) (R := R0) (G0 := G0) (F0 := F0) (px := px)
  walk_at "start"
  unfold m_bound_at_most at hm
  refine s_ret1 hp hx hm (EV.orV (EV.isNP (EV.var rfl (.tail _ (.head _))) EV.unit) (EV.andV (EV.notNP (EV.var rfl (.head _)) EV.unit) (EV.leI (EV.get (EV.var rfl (.head _))) (EV.get (EV.var rfl (.tail _ (.head _))))))) (fun a v H hp hm => hQ a v H hp.fin hm)
noncomputable def m_World_init (x_lag : (Option Int)) (x_length : (Option Int)) : M Wld := mite (mor (mb (m_is_bound x_lag) fun a => mr (!a)) (mb (m_is_bound x_length) fun a => mr (!a))) (mstuck) (mb (mr x_lag) fun f_lag => mb (mr x_length) fun f_length => mr (⟨f_lag, f_length⟩ : Wld))
def sp_World_init (K : PySem.W.Frag) (C : CT) : Sp := fun vs H Q E => ∃ (p_self : Addr) (x_lag : (Option Int)) (x_length : (Option Int)) (v_lag v_length : V), vs = [.ref p_self, v_lag, v_length] ∧ CallIN K C "World" p_self [(v_lag, enc x_lag), (v_length, enc x_length)] (m_World_init x_lag x_length) H Q
theorem ok_World_init (T : Txt P w K mg)  : FnOk P w K mg base CX0 (3) T.a_World_init T.d_World_init ["self", "lag", "length"] (sp_World_init K (ct T)) := by
  refine T.F_World_init.ok0 sc_World_init (fun vs H Q E h => by obtain ⟨_, _, _, _, _, rfl, _⟩ := h; rfl) (fun cdv A outer s H vs Q E hr h => ?_)
  have hu := hu_of hr
  have hu64 := hr.units
  refine ⟨_, (pss_cons (ps_if (PW.pt (pw_or (pt_not (pt_val (pe_call (ok_is_bound T) (hr.mono (by first | decide | omega)) (by rfl) T.m_is_bound T.F_is_bound.kp T.b_is_bound .nil pass0 (pa_cons (pv 1) pa_nil)))) (pw_or1 (pt_not (pt_val (pe_call (ok_is_bound T) (hr.mono (by first | decide | omega)) (by rfl) T.m_is_bound T.F_is_bound.kp T.b_is_bound .nil pass0 (pa_cons (pv 2) pa_nil))))))) pss_never pss_nil)
      (pss_cons (ps_fld (pv 0) (pv 1) rfl)
      (pss_one (ps_fld (pv 0) (pv 2) rfl)))), ?_⟩
  obtain ⟨p_self, x_lag, x_length, v_lag, v_length, rfl, G0, F0, post, px, hp, hm, hQ⟩ := h
  have hx := hx0 (K := K) (C := ct T) (R := R0) (G0 := G0) (F0 := F0) (px := px)
  walk_at "start"
  unfold m_World_init at hm
  refine s_seq ?_
  refine s_if hp hx hm (ET.or (ET.not (ET.test (EV.callNP (EA.consP (EV.var rfl (.head _)) EA.nil) (hcN1 fun v0 H Q h => ⟨x_lag, v0, rfl, h⟩)))) (ET.not (ET.test (EV.callNP (EA.consP (EV.var rfl (.tail _ (.head _))) EA.nil) (hcN1 fun v0 H Q h => ⟨x_length, v0, rfl, h⟩))))) (fun H hp hm => ?_) (fun H hp hm => ?_)
  · exact False.elim hm
  · refine s_next ?_
    refine s_seq ?_
    refine s_fldNew rfl hp hx hm (EV.var rfl (.head _)) (ct_World T) T.cl_World T.n_World_lag (by decide) (by decide) (fun _ => .hd) (fun f_lag H hp hm => ?_)
    refine s_fldNew rfl hp hx hm (EV.var rfl (.tail _ (.head _))) (ct_World T) T.cl_World T.n_World_length (by decide) (by decide) (fun _ => .hd) (fun f_length H hp hm => ?_)
    exact hQ (⟨f_lag, f_length⟩ : Wld) _ (hp.less (L' := []) pk0) hm
noncomputable def m_World_wide  : M Wld := (m_World_init (none : (Option Int)) (none : (Option Int)))
def sp_World_wide (K : PySem.W.Frag) (C : CT) : Sp := fun vs H Q E => vs = [] ∧ CallN K C R0 [] (m_World_wide) H Q
theorem ok_World_wide (T : Txt P w K mg)  : FnOk P w K mg base CX0 (5) T.a_World_wide T.d_World_wide [] (sp_World_wide K (ct T)) := by
  refine T.F_World_wide.ok sc_World_wide (fun vs H Q E h => by obtain ⟨rfl, _⟩ := h; rfl) (fun cdv A outer s H vs Q E hr h => ?_)
  have hu := hu_of hr
  have hu64 := hr.units
  refine ⟨_, (pss_one (ps_ret (pe_make0 T.mk_World (ok_World_init T) (hr.mono (by first | decide | omega)) (by rfl) T.mc_World (Classical.choose_spec T.bd_World_init_0).2 (Classical.choose_spec T.bd_World_init_0).1 pass0))), ?_⟩
  obtain ⟨rfl, G0, F0, post, px, hp, hm, hQ⟩ := h
  have hx := hx0 (K := K) (C := ct T) (R := R0) (G0 := G0) (F0 := F0) (px := px)
  walk_at "start"
  unfold m_World_wide at hm
  refine s_ret1 hp hx hm (EV.makeNP EA.nil (ct_World T) (hcI0 fun x  H Q h => ⟨x, (none : (Option Int)), (none : (Option Int)), .non, .non, rfl, (CallIN.add (fun _ => .non) (CallIN.add (fun _ => .non) h))⟩)) (fun a v H hp hm => hQ a v H hp.fin hm)
noncomputable def m_World_gap (x_self : Wld) (x_upper : Str) (x_lower : Str) : M (Option Int) := mb (m_check_mark x_upper) fun _ => mb (m_check_mark x_lower) fun _ => (m_mark_gap x_upper x_lower x_self.lag x_self.length)
def sp_World_gap (K : PySem.W.Frag) (C : CT) : Sp := fun vs H Q E => ∃ (x_self : Wld) (x_upper : Str) (x_lower : Str) (v_self v_upper v_lower : V), vs = [v_self, v_upper, v_lower] ∧ Call K C R0 [(v_self, enc x_self), (v_upper, enc x_upper), (v_lower, enc x_lower)] (m_World_gap x_self x_upper x_lower) H Q E
theorem ok_World_gap (T : Txt P w K mg)  : FnOk P w K mg base (L2.CX P w) (3) T.a_World_gap T.d_World_gap ["self", "upper", "lower"] (sp_World_gap K (ct T)) := by
  refine T.F_World_gap.okX sc_World_gap (fun vs H Q E h => by obtain ⟨_, _, _, _, _, _, rfl, _⟩ := h; rfl) (fun cdv A outer s H vs Q E hr h => ?_)
  have hu := hu_of hr
  have hu64 := hr.units
  refine ⟨_, (pss_cons (ps_expr (pe_call (ok_check_mark T) (hr.mono (by first | decide | omega)) (by rfl) T.m_check_mark T.F_check_mark.kp T.b_check_mark .nil (passes_call (takes_of rfl rfl rfl rfl) (fun _ _ _ _ h => h)) (pa_cons (pv 1) pa_nil)))
      (pss_cons (ps_expr (pe_call (ok_check_mark T) (hr.mono (by first | decide | omega)) (by rfl) T.m_check_mark T.F_check_mark.kp T.b_check_mark .nil (passes_call (takes_of rfl rfl rfl rfl) (fun _ _ _ _ h => h)) (pa_cons (pv 2) pa_nil)))
      (pss_one (ps_ret (pe_call (ok_mark_gap T) (hr.mono (by first | decide | omega)) (by rfl) T.m_mark_gap T.F_mark_gap.kp T.b_mark_gap .nil pass0 (pa_cons (pv 1) (pa_cons (pv 2) (pa_cons (pe_fld (pv 0) rfl) (pa_cons (pe_fld (pv 0) rfl) pa_nil))))))))), ?_⟩
  obtain ⟨x_self, x_upper, x_lower, v_self, v_upper, v_lower, rfl, G0, F0, post, px, hp, hm, hx, hQ⟩ := h
  walk_at "start"
  unfold m_World_gap at hm
  refine s_seq ?_
  refine s_drop hp hx hm (EV.callXP (EA.consP (EV.var rfl (.tail _ (.head _))) EA.nil) (hcX1 fun v0 H Q h => ⟨x_upper, v0, rfl, h⟩)) (fun _ H hp hm => ?_)
  refine s_seq ?_
  refine s_drop hp hx hm (EV.callXP (EA.consP (EV.var rfl (.tail _ (.tail _ (.head _)))) EA.nil) (hcX1 fun v0 H Q h => ⟨x_lower, v0, rfl, h⟩)) (fun _ H hp hm => ?_)
  refine s_ret1 hp hx hm (EV.callNP (EA.consP (EV.var rfl (.tail _ (.head _))) (EA.consP (EV.var rfl (.tail _ (.tail _ (.head _)))) (EA.consP (EV.fldP (EV.var rfl (.head _)) (ct_World T) T.cl_World T.n_World_lag ⟨_, _, rfl, rfl⟩) (EA.consP (EV.fldP (EV.var rfl (.head _)) (ct_World T) T.cl_World T.n_World_length ⟨_, _, rfl, rfl⟩) EA.nil)))) (hcN4 fun v0 v1 v2 v3 H Q h => ⟨x_upper, x_lower, x_self.lag, x_self.length, v0, v1, v2, v3, rfl, h⟩)) (fun a v H hp hm => hQ a v H hp.fin hm)
noncomputable def m_Worlddd__containsdd_ (x_self : Wld) (x_x : (Dt Int)) : M Bool := mb (mr (⟨[("owed" : Str), ("done" : Str), ("end" : Str)]⟩ : (Tp Str)).l) fun xs_ => mb (forM xs_ () (fun x_mark c_ => (mite (mr (!hasD x_x x_mark)) (mstuck) (mr ())))) fun c_ => (mite (mb (m_on_ladder x_x) fun a => mr (!a)) ((mr false)) (mite (mb (mb (mb (mb (mb (mdget x_x ("end" : Str)) fun a => mb (mdget x_x ("done" : Str)) fun b => mr (a - b)) fun a => mr (Option.some a)) fun a => mb (mb (mr x_self.lag) fun a => mb (mr ()) fun g => mr (a, g)) fun g => mr (a, g)) fun g_ => (m_bound_at_most g_.1 g_.2.1)) fun a => mr (!a)) ((mr false)) ((mb (mb (mb (mb (mdget x_x ("done" : Str)) fun a => mb (mdget x_x ("owed" : Str)) fun b => mr (a - b)) fun a => mr (Option.some a)) fun a => mb (mb (mr x_self.length) fun a => mb (mr ()) fun g => mr (a, g)) fun g => mr (a, g)) fun g_ => (m_bound_at_most g_.1 g_.2.1)))))
def sp_Worlddd__containsdd_ (K : PySem.W.Frag) (C : CT) : Sp := fun vs H Q E => ∃ (x_self : Wld) (x_x : (Dt Int)) (v_self v_x : V), vs = [v_self, v_x] ∧ CallN K C R0 [(v_self, enc x_self), (v_x, enc x_x)] (m_Worlddd__containsdd_ x_self x_x) H Q
theorem ok_Worlddd__containsdd_ (T : Txt P w K mg)  : FnOk P w K mg base CX0 (4) T.a_Worlddd__containsdd_ T.d_Worlddd__containsdd_ ["self", "x"] (sp_Worlddd__containsdd_ K (ct T)) := by
  refine T.F_Worlddd__containsdd_.ok sc_Worlddd__containsdd_ (fun vs H Q E h => by obtain ⟨_, _, _, _, rfl, _⟩ := h; rfl) (fun cdv A outer s H vs Q E hr h => ?_)
  have hu := hu_of hr
  have hu64 := hr.units
  refine ⟨_, (pss_cons (ps_for PassesOwn.never rfl (pi_tup (pe_tup (pa_cons pe_str (pa_cons pe_str (pa_cons pe_str pa_nil))))) (pg_name (i := 2) sc_Worlddd__containsdd_.nd rfl (by first | exact Or.inl rfl | exact Or.inr rfl))
      (pss_one (ps_if (pt_cmpR (op_notInn hu) (pv 2) (pv 1) (by rfl)) pss_never pss_nil)))
      (pss_cons (ps_if (pt_not (pt_val (pe_call (ok_on_ladder T) (hr.mono (by first | decide | omega)) (by rfl) T.m_on_ladder T.F_on_ladder.kp T.b_on_ladder .nil pass0 (pa_cons (pv 1) pa_nil)))) (pss_one (ps_ret pe_bl)) pss_nil)
      (pss_cons (ps_if (pt_not (pt_val (pe_call (ok_bound_at_most T) (hr.mono (by first | decide | omega)) (by rfl) T.m_bound_at_most T.F_bound_at_most.kp T.b_bound_at_most .nil pass0 (pa_cons (pe_op op_sub (pe_ix (ix_any hu) (pv 1) pe_str (fun _ _ => rfl)) (pe_ix (ix_any hu) (pv 1) pe_str (fun _ _ => rfl))) (pa_cons (pe_fld (pv 0) rfl) pa_nil))))) (pss_one (ps_ret pe_bl)) pss_nil)
      (pss_one (ps_ret (pe_call (ok_bound_at_most T) (hr.mono (by first | decide | omega)) (by rfl) T.m_bound_at_most T.F_bound_at_most.kp T.b_bound_at_most .nil pass0 (pa_cons (pe_op op_sub (pe_ix (ix_any hu) (pv 1) pe_str (fun _ _ => rfl)) (pe_ix (ix_any hu) (pv 1) pe_str (fun _ _ => rfl))) (pa_cons (pe_fld (pv 0) rfl) pa_nil)))))))), ?_⟩
  obtain ⟨x_self, x_x, v_self, v_x, rfl, G0, F0, post, px, hp, hm, hQ⟩ := h
  have hx := hx0 (K := K) (C := ct T) (R := R0) (G0 := G0) (F0 := F0) (px := px)
  walk_at "start"
  unfold m_Worlddd__containsdd_ at hm
  refine s_seq ?_
  refine s_forM (γ := Unit) (ι := (Option V)) hp hx hm (EI.tupP (EV.tupP (EA.consP EV.str (EA.consP EV.str (EA.consP EV.str EA.nil))) rfl (Nat.le_of_ble_eq_true rfl))) (fun r c => [some v_self, some v_x, r]) (fun w3 r c => [w3, (v_self, enc x_self), (v_x, enc x_x)]) (fun r c => ([] : List (Addr × Mi.D))) (fun w H hp => ⟨(none), rfl, hp.less (pk (.head _) (pk (.tail _ (.head _)) (pk (.tail _ (.tail _ (.head _))) pk0)))⟩) (fun _ _ _ => .head _) (fun w3 o_mark c v_mark x_mark rest H hp hm => ?_) (fun w o_mark c H hp hm => ?_)
  · refine g_one' (fun v_mark => [some v_self, some v_x, some v_mark]) (fun _ => rfl) hp (fun hp => ?_)
    refine s_if hp hx hm (ET.test (EV.ninDtP (EV.var rfl (.head _)) (EV.var rfl (.tail _ (.tail _ (.tail _ (.head _))))))) (fun H hp hm => ?_) (fun H hp hm => ?_)
    · exact False.elim hm
    · refine s_next ?_
      exact ⟨(some v_mark), (), rfl, (hp.less (pk (.tail _ (.head _)) (pk (.tail _ (.tail _ (.head _))) (pk (.tail _ (.tail _ (.tail _ (.head _)))) pk0)))), hm⟩
  · refine s_seq ?_
    refine s_if hp hx hm (ET.not (ET.test (EV.callNP (EA.consP (EV.var rfl (.tail _ (.tail _ (.head _)))) EA.nil) (hcN1 fun v0 H Q h => ⟨x_x, v0, rfl, h⟩)))) (fun H hp hm => ?_) (fun H hp hm => ?_)
    · refine s_ret1 hp hx hm EV.bl (fun a v H hp hm => hQ a v H hp.fin hm)
    · refine s_next ?_
      refine s_seq ?_
      refine s_if hp hx hm (ET.not (ET.test (EV.callN (γ := ((Option Int) × (Option Int) × Unit)) (f := fun g_ => m_bound_at_most g_.1 g_.2.1) (EA.cons (EV.optM (EV.subI (EV.ixDtP (EV.var rfl (.tail _ (.tail _ (.head _)))) EV.str) (EV.ixDtP (EV.var rfl (.tail _ (.tail _ (.head _)))) EV.str))) (EA.cons (EV.fldP (EV.var rfl (.tail _ (.head _))) (ct_World T) T.cl_World T.n_World_lag ⟨_, _, rfl, rfl⟩) EA.nil)) (fun g_ => hcN2 fun v0 v1 H Q h => ⟨g_.1, g_.2.1, v0, v1, rfl, h⟩)))) (fun H hp hm => ?_) (fun H hp hm => ?_)
      · refine s_ret1 hp hx hm EV.bl (fun a v H hp hm => hQ a v H hp.fin hm)
      · refine s_next ?_
        refine s_ret1 hp hx hm (EV.callN (γ := ((Option Int) × (Option Int) × Unit)) (f := fun g_ => m_bound_at_most g_.1 g_.2.1) (EA.cons (EV.optM (EV.subI (EV.ixDtP (EV.var rfl (.tail _ (.tail _ (.head _)))) EV.str) (EV.ixDtP (EV.var rfl (.tail _ (.tail _ (.head _)))) EV.str))) (EA.cons (EV.fldP (EV.var rfl (.tail _ (.head _))) (ct_World T) T.cl_World T.n_World_length ⟨_, _, rfl, rfl⟩) EA.nil)) (fun g_ => hcN2 fun v0 v1 H Q h => ⟨g_.1, g_.2.1, v0, v1, rfl, h⟩)) (fun a v H hp hm => hQ a v H hp.fin hm)
noncomputable def m_law_word  : M Str := mb (mr ("abcdefghijklmnopqrstuvwxyz" : Str)) fun x_letters => mb (mb (mr (1 : Int)) fun a => mb (m_law_draw (8 : Int)) fun b => mr (a + b)) fun x_many => mb (m_law_draw (2 : Int)) fun x_alike => mb (mb (mr x_letters) fun a => mb (m_law_draw (26 : Int)) fun b => mixS a b) fun x_sign => mb (m_law_draw x_many) fun x_spot => mb (mr ("" : Str)) fun x_word => mb (mrange 0 x_many) fun xs_ => mb (forM xs_ (x_word) (fun x_k c_ => ((fun x_word => mite (mr ((decide (x_alike = (0 : Int))) || (decide (x_k = x_spot)))) (mb (mb (mr x_word) fun a => mb (mb (mr x_letters) fun a => mb (m_law_draw (26 : Int)) fun b => mixS a b) fun b => maddS a b) fun x_word => mr (x_word)) (mb (maddS x_word x_sign) fun x_word => mr (x_word))) c_))) fun c_ => ((fun x_word => (mr x_word)) c_)
def sp_law_word (K : PySem.W.Frag) (C : CT) : Sp := fun vs H Q E => ∃ (p_st : Addr), vs = [.ref p_st] ∧ CallN K C (RS p_st) [] (m_law_word) H Q
theorem ok_law_word (T : Txt P w K mg)  : FnOk P w K mg base CX0 (3) T.a_law_word T.d_law_word ["state"] (sp_law_word K (ct T)) := by
  refine T.F_law_word.ok sc_law_word (fun vs H Q E h => by obtain ⟨_, rfl, _⟩ := h; rfl) (fun cdv A outer s H vs Q E hr h => ?_)
  have hu := hu_of hr
  have hu64 := hr.units
  refine ⟨_, (pss_cons (ps_set (i := 1) sc_law_word.nd rfl (by first | exact Or.inl rfl | exact Or.inr rfl) pe_str)
      (pss_cons (ps_set (i := 2) sc_law_word.nd rfl (by first | exact Or.inl rfl | exact Or.inr rfl) (pe_op op_plus pe_int (pe_call (draw_ok (C := ct T) (ok_law_draw T)) (hr.mono (by first | decide | omega)) (by rfl) T.m_law_draw T.F_law_draw.kp T.b_law_draw .nil pass0 (pa_cons (pv 0) (pa_cons pe_int pa_nil)))))
      (pss_cons (ps_set (i := 3) sc_law_word.nd rfl (by first | exact Or.inl rfl | exact Or.inr rfl) (pe_call (draw_ok (C := ct T) (ok_law_draw T)) (hr.mono (by first | decide | omega)) (by rfl) T.m_law_draw T.F_law_draw.kp T.b_law_draw .nil pass0 (pa_cons (pv 0) (pa_cons pe_int pa_nil))))
      (pss_cons (ps_set (i := 4) sc_law_word.nd rfl (by first | exact Or.inl rfl | exact Or.inr rfl) (pe_ix (ix_any hu) (pv 1) (pe_call (draw_ok (C := ct T) (ok_law_draw T)) (hr.mono (by first | decide | omega)) (by rfl) T.m_law_draw T.F_law_draw.kp T.b_law_draw .nil pass0 (pa_cons (pv 0) (pa_cons pe_int pa_nil))) (fun _ _ => rfl)))
      (pss_cons (ps_set (i := 5) sc_law_word.nd rfl (by first | exact Or.inl rfl | exact Or.inr rfl) (pe_call (draw_ok (C := ct T) (ok_law_draw T)) (hr.mono (by first | decide | omega)) (by rfl) T.m_law_draw T.F_law_draw.kp T.b_law_draw .nil pass0 (pa_cons (pv 0) (pa_cons (pv 2) pa_nil))))
      (pss_cons (ps_set (i := 6) sc_law_word.nd rfl (by first | exact Or.inl rfl | exact Or.inr rfl) pe_str)
      (pss_cons (ps_for PassesOwn.never rfl (pi_range1 (by rfl) T.z_range (pa_cons (pv 2) pa_nil)) (pg_name (i := 7) sc_law_word.nd rfl (by first | exact Or.inl rfl | exact Or.inr rfl))
      (pss_one (ps_if (PW.pt (pw_or (pt_cmpR (op_eqq hu64) (pv 3) pe_int (nomark _)) (pw_or1 (pt_cmpR (op_eqq hu64) (pv 7) (pv 5) (nomark _))))) (pss_one (ps_set (i := 6) sc_law_word.nd rfl (by first | exact Or.inl rfl | exact Or.inr rfl) (pe_op op_plus (pv 6) (pe_ix (ix_any hu) (pv 1) (pe_call (draw_ok (C := ct T) (ok_law_draw T)) (hr.mono (by first | decide | omega)) (by rfl) T.m_law_draw T.F_law_draw.kp T.b_law_draw .nil pass0 (pa_cons (pv 0) (pa_cons pe_int pa_nil))) (fun _ _ => rfl))))) (pss_one (ps_set (i := 6) sc_law_word.nd rfl (by first | exact Or.inl rfl | exact Or.inr rfl) (pe_op op_plus (pv 6) (pv 4)))))))
      (pss_one (ps_ret (pv 6)))))))))), ?_⟩
  obtain ⟨p_st, rfl, G0, F0, post, px, hp, hm, hQ⟩ := h
  have hx := hx0 (K := K) (C := ct T) (R := RS p_st) (G0 := G0) (F0 := F0) (px := px)
  walk_at "start"
  unfold m_law_word at hm
  refine s_seq ?_
  refine s_set (fun v_letters => [some (.ref p_st), some v_letters, none, none, none, none, none, none]) (fun _ => rfl) hp hx hm EV.str (fun x_letters v_letters H hp hm => ?_)
  refine s_seq ?_
  refine s_set (fun v_many => [some (.ref p_st), some v_letters, some v_many, none, none, none, none, none]) (fun _ => rfl) hp hx hm (EV.addI EV.int (EV.callWP rfl (EA.consP EV.int EA.nil) (hcW1 fun v0 H Q h => ⟨_, (8 : Int), v0, rfl, h⟩))) (fun x_many v_many H hp hm => ?_)
  refine s_seq ?_
  refine s_set (fun v_alike => [some (.ref p_st), some v_letters, some v_many, some v_alike, none, none, none, none]) (fun _ => rfl) hp hx hm (EV.callWP rfl (EA.consP EV.int EA.nil) (hcW1 fun v0 H Q h => ⟨_, (2 : Int), v0, rfl, h⟩)) (fun x_alike v_alike H hp hm => ?_)
  refine s_seq ?_
  refine s_set (fun v_sign => [some (.ref p_st), some v_letters, some v_many, some v_alike, some v_sign, none, none, none]) (fun _ => rfl) hp hx hm (EV.ixS (EV.var rfl (.tail _ (.tail _ (.head _)))) (EV.callWP rfl (EA.consP EV.int EA.nil) (hcW1 fun v0 H Q h => ⟨_, (26 : Int), v0, rfl, h⟩))) (fun x_sign v_sign H hp hm => ?_)
  refine s_seq ?_
  refine s_set (fun v_spot => [some (.ref p_st), some v_letters, some v_many, some v_alike, some v_sign, some v_spot, none, none]) (fun _ => rfl) hp hx hm (EV.callWP rfl (EA.consP (EV.var rfl (.tail _ (.tail _ (.head _)))) EA.nil) (hcW1 fun v0 H Q h => ⟨_, x_many, v0, rfl, h⟩)) (fun x_spot v_spot H hp hm => ?_)
  refine s_seq ?_
  refine s_set (fun v_word => [some (.ref p_st), some v_letters, some v_many, some v_alike, some v_sign, some v_spot, some v_word, none]) (fun _ => rfl) hp hx hm EV.str (fun x_word v_word H hp hm => ?_)
  refine s_seq ?_
  refine s_forM (γ := (Str)) (ι := (V × Option V)) hp hx hm (EI.range1P (EV.var rfl (.tail _ (.tail _ (.tail _ (.tail _ (.head _))))))) (fun r c => [some (.ref p_st), some v_letters, some v_many, some v_alike, some v_sign, some v_spot, some r.1, r.2]) (fun w8 r c => [w8, (r.1, enc c), (v_letters, enc x_letters), (v_alike, enc x_alike), (v_sign, enc x_sign), (v_spot, enc x_spot)]) (fun r c => ([] : List (Addr × Mi.D))) (fun w H hp => ⟨(v_word, none), rfl, hp.less (pk (.head _) (pk (.tail _ (.head _)) (pk (.tail _ (.tail _ (.tail _ (.tail _ (.tail _ (.tail _ (.head _))))))) (pk (.tail _ (.tail _ (.tail _ (.tail _ (.head _))))) (pk (.tail _ (.tail _ (.tail _ (.head _)))) (pk (.tail _ (.tail _ (.head _))) pk0))))))⟩) (fun _ _ _ => .head _) (fun w8 r x_word v_k x_k rest H hp hm => ?_) (fun w r x_word H hp hm => ?_)
  · obtain ⟨v_word, o_k⟩ := r
    refine g_one' (fun v_k => [some (.ref p_st), some v_letters, some v_many, some v_alike, some v_sign, some v_spot, some v_word, some v_k]) (fun _ => rfl) hp (fun hp => ?_)
    refine s_if hp hx hm (ET.orP (ET.test (EV.eqSP (EV.var rfl (.tail _ (.tail _ (.tail _ (.tail _ (.head _)))))) EV.int)) (ET.test (EV.eqSP (EV.var rfl (.head _)) (EV.var rfl (.tail _ (.tail _ (.tail _ (.tail _ (.tail _ (.tail _ (.head _))))))))))) (fun H hp hm => ?_) (fun H hp hm => ?_)
    · refine s_set (fun v_word => [some (.ref p_st), some v_letters, some v_many, some v_alike, some v_sign, some v_spot, some v_word, some v_k]) (fun _ => rfl) hp hx hm (EV.addS (EV.var rfl (.tail _ (.tail _ (.head _)))) (EV.ixS (EV.var rfl (.tail _ (.tail _ (.tail _ (.head _))))) (EV.callWP rfl (EA.consP EV.int EA.nil) (hcW1 fun v0 H Q h => ⟨_, (26 : Int), v0, rfl, h⟩)))) (fun x_word v_word H hp hm => ?_)
      exact ⟨(v_word, some v_k), (x_word), rfl, (hp.less (pk (.tail _ (.tail _ (.head _))) (pk (.head _) (pk (.tail _ (.tail _ (.tail _ (.tail _ (.head _))))) (pk (.tail _ (.tail _ (.tail _ (.tail _ (.tail _ (.head _)))))) (pk (.tail _ (.tail _ (.tail _ (.tail _ (.tail _ (.tail _ (.head _))))))) (pk (.tail _ (.tail _ (.tail _ (.tail _ (.tail _ (.tail _ (.tail _ (.head _)))))))) pk0))))))), hm⟩
    · refine s_set (fun v_word => [some (.ref p_st), some v_letters, some v_many, some v_alike, some v_sign, some v_spot, some v_word, some v_k]) (fun _ => rfl) hp hx hm (EV.addSP (EV.var rfl (.tail _ (.tail _ (.head _)))) (EV.var rfl (.tail _ (.tail _ (.tail _ (.tail _ (.tail _ (.head _)))))))) (fun x_word v_word H hp hm => ?_)
      exact ⟨(v_word, some v_k), (x_word), rfl, (hp.less (pk (.tail _ (.tail _ (.head _))) (pk (.head _) (pk (.tail _ (.tail _ (.tail _ (.tail _ (.head _))))) (pk (.tail _ (.tail _ (.tail _ (.tail _ (.tail _ (.head _)))))) (pk (.tail _ (.tail _ (.tail _ (.tail _ (.tail _ (.tail _ (.head _))))))) (pk (.tail _ (.tail _ (.tail _ (.tail _ (.tail _ (.tail _ (.tail _ (.head _)))))))) pk0))))))), hm⟩
  · obtain ⟨v_word, o_k⟩ := r
    refine s_ret1 hp hx hm (EV.var rfl (.tail _ (.head _))) (fun a v H hp hm => hQ a v H hp.fin hm)
noncomputable def m_law_within (x_bound : (Option Int)) : M Int := mb (m_law_draw (4 : Int)) fun x_pick => mite (mr (decide (x_pick = (0 : Int)))) ((mr (0 : Int))) (mite (mr (x_bound).isSome) ((mite (mr (decide (x_pick = (1 : Int)))) (mget x_bound) (mb (mb (mb (mget x_bound) fun a => mb (mr (1 : Int)) fun b => mr (a + b)) fun a => mb (mr ()) fun g => mr (a, g)) fun g_ => (m_law_draw g_.1)))) ((mite (mr (decide (x_pick = (1 : Int)))) (mb (mr (1000000000000000000000000000000 : Int)) fun a => mb (m_law_draw (60 : Int)) fun b => mr (a + b)) (m_law_draw (60 : Int)))))
def sp_law_within (K : PySem.W.Frag) (C : CT) : Sp := fun vs H Q E => ∃ (p_st : Addr) (x_bound : (Option Int)) (v_bound : V), vs = [.ref p_st, v_bound] ∧ CallN K C (RS p_st) [(v_bound, enc x_bound)] (m_law_within x_bound) H Q
theorem ok_law_within (T : Txt P w K mg)  : FnOk P w K mg base CX0 (3) T.a_law_within T.d_law_within ["state", "bound"] (sp_law_within K (ct T)) := by
  refine T.F_law_within.ok sc_law_within (fun vs H Q E h => by obtain ⟨_, _, _, rfl, _⟩ := h; rfl) (fun cdv A outer s H vs Q E hr h => ?_)
  have hu := hu_of hr
  have hu64 := hr.units
  refine ⟨_, (pss_cons (ps_set (i := 2) sc_law_within.nd rfl (by first | exact Or.inl rfl | exact Or.inr rfl) (pe_call (draw_ok (C := ct T) (ok_law_draw T)) (hr.mono (by first | decide | omega)) (by rfl) T.m_law_draw T.F_law_draw.kp T.b_law_draw .nil pass0 (pa_cons (pv 0) (pa_cons pe_int pa_nil))))
      (pss_cons (ps_if (pt_cmpR (op_eqq hu64) (pv 2) pe_int (nomark _)) (pss_one (ps_ret pe_int)) pss_nil)
      (pss_cons (ps_if (pt_cmpR op_notNA (pv 1) pe_non (nomark _)) (pss_one (ps_ret (pe_ifExp (pt_cmpR (op_eqq hu64) (pv 2) pe_int (nomark _)) (pv 1) (pe_call (draw_ok (C := ct T) (ok_law_draw T)) (hr.mono (by first | decide | omega)) (by rfl) T.m_law_draw T.F_law_draw.kp T.b_law_draw .nil pass0 (pa_cons (pv 0) (pa_cons (pe_op op_plus (pv 1) pe_int) pa_nil)))))) pss_nil)
      (pss_one (ps_ret (pe_ifExp (pt_cmpR (op_eqq hu64) (pv 2) pe_int (nomark _)) (pe_op op_plus (pe_op op_pow pe_int pe_int) (pe_call (draw_ok (C := ct T) (ok_law_draw T)) (hr.mono (by first | decide | omega)) (by rfl) T.m_law_draw T.F_law_draw.kp T.b_law_draw .nil pass0 (pa_cons (pv 0) (pa_cons pe_int pa_nil)))) (pe_call (draw_ok (C := ct T) (ok_law_draw T)) (hr.mono (by first | decide | omega)) (by rfl) T.m_law_draw T.F_law_draw.kp T.b_law_draw .nil pass0 (pa_cons (pv 0) (pa_cons pe_int pa_nil))))))))), ?_⟩
  obtain ⟨p_st, x_bound, v_bound, rfl, G0, F0, post, px, hp, hm, hQ⟩ := h
  have hx := hx0 (K := K) (C := ct T) (R := RS p_st) (G0 := G0) (F0 := F0) (px := px)
  walk_at "start"
  unfold m_law_within at hm
  refine s_seq ?_
  refine s_set (fun v_pick => [some (.ref p_st), some v_bound, some v_pick]) (fun _ => rfl) hp hx hm (EV.callWP rfl (EA.consP EV.int EA.nil) (hcW1 fun v0 H Q h => ⟨_, (4 : Int), v0, rfl, h⟩)) (fun x_pick v_pick H hp hm => ?_)
  refine s_seq ?_
  refine s_if hp hx hm (ET.test (EV.eqSP (EV.var rfl (.head _)) EV.int)) (fun H hp hm => ?_) (fun H hp hm => ?_)
  · refine s_ret1 hp hx hm EV.int (fun a v H hp hm => hQ a v H hp.fin hm)
  · refine s_next ?_
    refine s_seq ?_
    refine s_if hp hx hm (ET.test (EV.notNP (EV.var rfl (.tail _ (.head _))) EV.unit)) (fun H hp hm => ?_) (fun H hp hm => ?_)
    · refine s_ret1 hp hx hm (EV.ite (ET.test (EV.eqSP (EV.var rfl (.head _)) EV.int)) (EV.get (EV.var rfl (.tail _ (.head _)))) (EV.callW (γ := (Int × Unit)) (f := fun g_ => m_law_draw g_.1) rfl (EA.cons (EV.addI (EV.get (EV.var rfl (.tail _ (.head _)))) EV.int) EA.nil) (fun g_ => hcW1 fun v0 H Q h => ⟨_, g_.1, v0, rfl, h⟩))) (fun a v H hp hm => hQ a v H hp.fin hm)
    · refine s_next ?_
      refine s_ret1 hp hx hm (EV.ite (ET.test (EV.eqSP (EV.var rfl (.head _)) EV.int)) (EV.addI (EV.powC ⟨by decide, by decide, by decide⟩ (by decide)) (EV.callWP rfl (EA.consP EV.int EA.nil) (hcW1 fun v0 H Q h => ⟨_, (60 : Int), v0, rfl, h⟩))) (EV.callWP rfl (EA.consP EV.int EA.nil) (hcW1 fun v0 H Q h => ⟨_, (60 : Int), v0, rfl, h⟩))) (fun a v H hp hm => hQ a v H hp.fin hm)
noncomputable def m_law_ladder (x_late : (Option Int)) (x_far : (Option Int)) : M (Dt Int) := mb (m_law_within (none : (Option Int))) fun x_calm => mb (mb (mr x_calm) fun a => mb (m_law_within (none : (Option Int))) fun b => mr (a + b)) fun x_owed => mb (mb (mr x_owed) fun a => mb (m_law_within x_far) fun b => mr (a + b)) fun x_done => mb (mb (mr x_done) fun a => mb (m_law_within x_late) fun b => mr (a + b)) fun x_end => mb (mite (mb (m_law_draw (2 : Int)) fun a => mb (mr (0 : Int)) fun b => mr (decide (a = b))) (mr x_end) (m_law_draw (x_end + (1 : Int)))) fun x_got => mb (mite (mb (m_law_draw (2 : Int)) fun a => mb (mr (0 : Int)) fun b => mr (decide (a = b))) (mr x_got) (m_law_draw (x_got + (1 : Int)))) fun x_own => (mr (⟨[("zero", (0 : Int)), ("calm", x_calm), ("owed", x_owed), ("done", x_done), ("end", x_end), ("own", x_own), ("got", x_got)]⟩ : (Dt Int)))
def sp_law_ladder (K : PySem.W.Frag) (C : CT) : Sp := fun vs H Q E => ∃ (p_st : Addr) (x_late : (Option Int)) (x_far : (Option Int)) (v_late v_far : V), vs = [.ref p_st, v_late, v_far] ∧ CallN K C (RS p_st) [(v_late, enc x_late), (v_far, enc x_far)] (m_law_ladder x_late x_far) H Q
theorem ok_law_ladder (T : Txt P w K mg)  : FnOk P w K mg base CX0 (4) T.a_law_ladder T.d_law_ladder ["state", "late", "far"] (sp_law_ladder K (ct T)) := by
  refine T.F_law_ladder.ok sc_law_ladder (fun vs H Q E h => by obtain ⟨_, _, _, _, _, rfl, _⟩ := h; rfl) (fun cdv A outer s H vs Q E hr h => ?_)
  have hu := hu_of hr
  have hu64 := hr.units
  refine ⟨_, (pss_cons (ps_set (i := 3) sc_law_ladder.nd rfl (by first | exact Or.inl rfl | exact Or.inr rfl) (pe_call (ok_law_within T) (hr.mono (by first | decide | omega)) (by rfl) T.m_law_within T.F_law_within.kp T.b_law_within .nil pass0 (pa_cons (pv 0) (pa_cons pe_non pa_nil))))
      (pss_cons (ps_set (i := 4) sc_law_ladder.nd rfl (by first | exact Or.inl rfl | exact Or.inr rfl) (pe_op op_plus (pv 3) (pe_call (ok_law_within T) (hr.mono (by first | decide | omega)) (by rfl) T.m_law_within T.F_law_within.kp T.b_law_within .nil pass0 (pa_cons (pv 0) (pa_cons pe_non pa_nil)))))
      (pss_cons (ps_set (i := 5) sc_law_ladder.nd rfl (by first | exact Or.inl rfl | exact Or.inr rfl) (pe_op op_plus (pv 4) (pe_call (ok_law_within T) (hr.mono (by first | decide | omega)) (by rfl) T.m_law_within T.F_law_within.kp T.b_law_within .nil pass0 (pa_cons (pv 0) (pa_cons (pv 2) pa_nil)))))
      (pss_cons (ps_set (i := 6) sc_law_ladder.nd rfl (by first | exact Or.inl rfl | exact Or.inr rfl) (pe_op op_plus (pv 5) (pe_call (ok_law_within T) (hr.mono (by first | decide | omega)) (by rfl) T.m_law_within T.F_law_within.kp T.b_law_within .nil pass0 (pa_cons (pv 0) (pa_cons (pv 1) pa_nil)))))
      (pss_cons (ps_set (i := 7) sc_law_ladder.nd rfl (by first | exact Or.inl rfl | exact Or.inr rfl) (pe_ifExp (pt_cmpR (op_eqq hu64) (pe_call (draw_ok (C := ct T) (ok_law_draw T)) (hr.mono (by first | decide | omega)) (by rfl) T.m_law_draw T.F_law_draw.kp T.b_law_draw .nil pass0 (pa_cons (pv 0) (pa_cons pe_int pa_nil))) pe_int (nomark _)) (pv 6) (pe_call (draw_ok (C := ct T) (ok_law_draw T)) (hr.mono (by first | decide | omega)) (by rfl) T.m_law_draw T.F_law_draw.kp T.b_law_draw .nil pass0 (pa_cons (pv 0) (pa_cons (pe_op op_plus (pv 6) pe_int) pa_nil)))))
      (pss_cons (ps_set (i := 8) sc_law_ladder.nd rfl (by first | exact Or.inl rfl | exact Or.inr rfl) (pe_ifExp (pt_cmpR (op_eqq hu64) (pe_call (draw_ok (C := ct T) (ok_law_draw T)) (hr.mono (by first | decide | omega)) (by rfl) T.m_law_draw T.F_law_draw.kp T.b_law_draw .nil pass0 (pa_cons (pv 0) (pa_cons pe_int pa_nil))) pe_int (nomark _)) (pv 7) (pe_call (draw_ok (C := ct T) (ok_law_draw T)) (hr.mono (by first | decide | omega)) (by rfl) T.m_law_draw T.F_law_draw.kp T.b_law_draw .nil pass0 (pa_cons (pv 0) (pa_cons (pe_op op_plus (pv 7) pe_int) pa_nil)))))
      (pss_one (ps_ret (pe_disp (pps_cons pe_str pe_int (pps_cons pe_str (pv 3) (pps_cons pe_str (pv 4) (pps_cons pe_str (pv 5) (pps_cons pe_str (pv 6) (pps_cons pe_str (pv 8) (pps_cons pe_str (pv 7) pps_nil))))))) (by rfl) (by rfl) (fun z => by cases z) (by decide)))))))))), ?_⟩
  obtain ⟨p_st, x_late, x_far, v_late, v_far, rfl, G0, F0, post, px, hp, hm, hQ⟩ := h
  have hx := hx0 (K := K) (C := ct T) (R := RS p_st) (G0 := G0) (F0 := F0) (px := px)
  walk_at "start"
  unfold m_law_ladder at hm
  refine s_seq ?_
  refine s_set (fun v_calm => [some (.ref p_st), some v_late, some v_far, some v_calm, none, none, none, none, none]) (fun _ => rfl) hp hx hm (EV.callWP rfl (EA.consP EV.optN EA.nil) (hcW1 fun v0 H Q h => ⟨_, (none : (Option Int)), v0, rfl, h⟩)) (fun x_calm v_calm H hp hm => ?_)
  refine s_seq ?_
  refine s_set (fun v_owed => [some (.ref p_st), some v_late, some v_far, some v_calm, some v_owed, none, none, none, none]) (fun _ => rfl) hp hx hm (EV.addI (EV.var rfl (.head _)) (EV.callWP rfl (EA.consP EV.optN EA.nil) (hcW1 fun v0 H Q h => ⟨_, (none : (Option Int)), v0, rfl, h⟩))) (fun x_owed v_owed H hp hm => ?_)
  refine s_seq ?_
  refine s_set (fun v_done => [some (.ref p_st), some v_late, some v_far, some v_calm, some v_owed, some v_done, none, none, none]) (fun _ => rfl) hp hx hm (EV.addI (EV.var rfl (.head _)) (EV.callWP rfl (EA.consP (EV.var rfl (.tail _ (.tail _ (.tail _ (.head _))))) EA.nil) (hcW1 fun v0 H Q h => ⟨_, x_far, v0, rfl, h⟩))) (fun x_done v_done H hp hm => ?_)
  refine s_seq ?_
  refine s_set (fun v_end => [some (.ref p_st), some v_late, some v_far, some v_calm, some v_owed, some v_done, some v_end, none, none]) (fun _ => rfl) hp hx hm (EV.addI (EV.var rfl (.head _)) (EV.callWP rfl (EA.consP (EV.var rfl (.tail _ (.tail _ (.tail _ (.head _))))) EA.nil) (hcW1 fun v0 H Q h => ⟨_, x_late, v0, rfl, h⟩))) (fun x_end v_end H hp hm => ?_)
  refine s_seq ?_
  refine s_set (fun v_got => [some (.ref p_st), some v_late, some v_far, some v_calm, some v_owed, some v_done, some v_end, some v_got, none]) (fun _ => rfl) hp hx hm (EV.ite (ET.test (EV.eqS (EV.callWP rfl (EA.consP EV.int EA.nil) (hcW1 fun v0 H Q h => ⟨_, (2 : Int), v0, rfl, h⟩)) EV.int)) (EV.var rfl (.head _)) (EV.callWP rfl (EA.consP (EV.addIP (EV.var rfl (.head _)) EV.int) EA.nil) (hcW1 fun v0 H Q h => ⟨_, (x_end + (1 : Int)), v0, rfl, h⟩))) (fun x_got v_got H hp hm => ?_)
  refine s_seq ?_
  refine s_set (fun v_own => [some (.ref p_st), some v_late, some v_far, some v_calm, some v_owed, some v_done, some v_end, some v_got, some v_own]) (fun _ => rfl) hp hx hm (EV.ite (ET.test (EV.eqS (EV.callWP rfl (EA.consP EV.int EA.nil) (hcW1 fun v0 H Q h => ⟨_, (2 : Int), v0, rfl, h⟩)) EV.int)) (EV.var rfl (.head _)) (EV.callWP rfl (EA.consP (EV.addIP (EV.var rfl (.head _)) EV.int) EA.nil) (hcW1 fun v0 H Q h => ⟨_, (x_got + (1 : Int)), v0, rfl, h⟩))) (fun x_own v_own H hp hm => ?_)
  refine s_ret1 hp hx hm (EV.asP (EV.dispP (ks := ["zero", "calm", "owed", "done", "end", "own", "got"]) (fun q_ => (EP.consP EV.int (EP.consP (EV.var rfl (.tail _ (.tail _ (.tail _ (.tail _ (.tail _ (.head _))))))) (EP.consP (EV.var rfl (.tail _ (.tail _ (.tail _ (.tail _ (.head _)))))) (EP.consP (EV.var rfl (.tail _ (.tail _ (.tail _ (.head _))))) (EP.consP (EV.var rfl (.tail _ (.tail _ (.head _)))) (EP.consP (EV.var rfl (.head _)) (EP.consP (EV.var rfl (.tail _ (.head _))) EP.nil)))))))) (by decide) (by decide) (fun _ => rfl)) rfl) (fun a v H hp hm => hQ a v H hp.fin hm)
noncomputable def m_law_bound (x_limit : Int) : M (Option Int) := mite (mb (m_law_draw (3 : Int)) fun a => mb (mr (0 : Int)) fun b => mr (decide (a = b))) ((mr (none : (Option Int)))) ((mb (m_law_draw (x_limit + (1 : Int))) fun a => mr (Option.some a)))
def sp_law_bound (K : PySem.W.Frag) (C : CT) : Sp := fun vs H Q E => ∃ (p_st : Addr) (x_limit : Int) (v_limit : V), vs = [.ref p_st, v_limit] ∧ CallN K C (RS p_st) [(v_limit, enc x_limit)] (m_law_bound x_limit) H Q
theorem ok_law_bound (T : Txt P w K mg)  : FnOk P w K mg base CX0 (3) T.a_law_bound T.d_law_bound ["state", "limit"] (sp_law_bound K (ct T)) := by
  refine T.F_law_bound.ok sc_law_bound (fun vs H Q E h => by obtain ⟨_, _, _, rfl, _⟩ := h; rfl) (fun cdv A outer s H vs Q E hr h => ?_)
  have hu := hu_of hr
  have hu64 := hr.units
  refine ⟨_, (pss_cons (ps_if (pt_cmpR (op_eqq hu64) (pe_call (draw_ok (C := ct T) (ok_law_draw T)) (hr.mono (by first | decide | omega)) (by rfl) T.m_law_draw T.F_law_draw.kp T.b_law_draw .nil pass0 (pa_cons (pv 0) (pa_cons pe_int pa_nil))) pe_int (nomark _)) (pss_one (ps_ret pe_non)) pss_nil)
      (pss_one (ps_ret (pe_call (draw_ok (C := ct T) (ok_law_draw T)) (hr.mono (by first | decide | omega)) (by rfl) T.m_law_draw T.F_law_draw.kp T.b_law_draw .nil pass0 (pa_cons (pv 0) (pa_cons (pe_op op_plus (pv 1) pe_int) pa_nil)))))), ?_⟩
  obtain ⟨p_st, x_limit, v_limit, rfl, G0, F0, post, px, hp, hm, hQ⟩ := h
  have hx := hx0 (K := K) (C := ct T) (R := RS p_st) (G0 := G0) (F0 := F0) (px := px)
  walk_at "start"
  unfold m_law_bound at hm
  refine s_seq ?_
  refine s_if hp hx hm (ET.test (EV.eqS (EV.callWP rfl (EA.consP EV.int EA.nil) (hcW1 fun v0 H Q h => ⟨_, (3 : Int), v0, rfl, h⟩)) EV.int)) (fun H hp hm => ?_) (fun H hp hm => ?_)
  · refine s_ret1 hp hx hm EV.optN (fun a v H hp hm => hQ a v H hp.fin hm)
  · refine s_next ?_
    refine s_ret1 hp hx hm (EV.optM (EV.callWP rfl (EA.consP (EV.addIP (EV.var rfl (.head _)) EV.int) EA.nil) (hcW1 fun v0 H Q h => ⟨_, (x_limit + (1 : Int)), v0, rfl, h⟩))) (fun a v H hp hm => hQ a v H hp.fin hm)
noncomputable def m_law_under (x_lower : Str) (x_upper : Str) : M Bool := mb (mr ([("zero" : Str), ("calm" : Str), ("owed" : Str), ("done" : Str), ("end" : Str)] : (List Str))) fun x_chain => mb (mr ([("zero" : Str), ("own" : Str), ("got" : Str), ("end" : Str)] : (List Str))) fun x_other => mite (mr ((decide (x_lower ∈ x_chain)) && (decide (x_upper ∈ x_chain)))) ((mb (midx x_chain x_lower) fun a => mb (midx x_chain x_upper) fun b => mr (decide (a ≤ b)))) (mite (mr ((decide (x_lower ∈ x_other)) && (decide (x_upper ∈ x_other)))) ((mb (midx x_other x_lower) fun a => mb (midx x_other x_upper) fun b => mr (decide (a ≤ b)))) ((mr false)))
def sp_law_under (K : PySem.W.Frag) (C : CT) : Sp := fun vs H Q E => ∃ (x_lower : Str) (x_upper : Str) (v_lower v_upper : V), vs = [v_lower, v_upper] ∧ CallN K C R0 [(v_lower, enc x_lower), (v_upper, enc x_upper)] (m_law_under x_lower x_upper) H Q
theorem ok_law_under (T : Txt P w K mg)  : FnOk P w K mg base CX0 (1) T.a_law_under T.d_law_under ["lower", "upper"] (sp_law_under K (ct T)) := by
  refine T.F_law_under.ok sc_law_under (fun vs H Q E h => by obtain ⟨_, _, _, _, rfl, _⟩ := h; rfl) (fun cdv A outer s H vs Q E hr h => ?_)
  have hu := hu_of hr
  have hu64 := hr.units
  refine ⟨_, (pss_cons (ps_set (i := 2) sc_law_under.nd rfl (by first | exact Or.inl rfl | exact Or.inr rfl) (pe_lst (pa_cons pe_str (pa_cons pe_str (pa_cons pe_str (pa_cons pe_str (pa_cons pe_str pa_nil)))))))
      (pss_cons (ps_set (i := 3) sc_law_under.nd rfl (by first | exact Or.inl rfl | exact Or.inr rfl) (pe_lst (pa_cons pe_str (pa_cons pe_str (pa_cons pe_str (pa_cons pe_str pa_nil))))))
      (pss_cons (ps_if (PW.pt (pw_and (pt_cmpR (op_inn hu) (pv 0) (pv 2) (by rfl)) (pw_and1 (pt_cmpR (op_inn hu) (pv 1) (pv 2) (by rfl))))) (pss_one (ps_ret (pe_cmpR op_le (pe_bm PySem.F.plainAttrs_list PySem.F.slot_list_index PySem.F.type_list_index mt_index (pv 2) (pa_cons (pv 0) pa_nil)) (pe_bm PySem.F.plainAttrs_list PySem.F.slot_list_index PySem.F.type_list_index mt_index (pv 2) (pa_cons (pv 1) pa_nil)) (nomark _)))) pss_nil)
      (pss_cons (ps_if (PW.pt (pw_and (pt_cmpR (op_inn hu) (pv 0) (pv 3) (by rfl)) (pw_and1 (pt_cmpR (op_inn hu) (pv 1) (pv 3) (by rfl))))) (pss_one (ps_ret (pe_cmpR op_le (pe_bm PySem.F.plainAttrs_list PySem.F.slot_list_index PySem.F.type_list_index mt_index (pv 3) (pa_cons (pv 0) pa_nil)) (pe_bm PySem.F.plainAttrs_list PySem.F.slot_list_index PySem.F.type_list_index mt_index (pv 3) (pa_cons (pv 1) pa_nil)) (nomark _)))) pss_nil)
      (pss_one (ps_ret pe_bl)))))), ?_⟩
  obtain ⟨x_lower, x_upper, v_lower, v_upper, rfl, G0, F0, post, px, hp, hm, hQ⟩ := h
  have hx := hx0 (K := K) (C := ct T) (R := R0) (G0 := G0) (F0 := F0) (px := px)
  walk_at "start"
  unfold m_law_under at hm
  refine s_seq ?_
  refine s_set (fun v_chain => [some v_lower, some v_upper, some v_chain, none]) (fun _ => rfl) hp hx hm (EV.lstP (EA.consP EV.str (EA.consP EV.str (EA.consP EV.str (EA.consP EV.str (EA.consP EV.str EA.nil))))) rfl (Nat.le_of_ble_eq_true rfl)) (fun x_chain v_chain H hp hm => ?_)
  refine s_seq ?_
  refine s_set (fun v_other => [some v_lower, some v_upper, some v_chain, some v_other]) (fun _ => rfl) hp hx hm (EV.lstP (EA.consP EV.str (EA.consP EV.str (EA.consP EV.str (EA.consP EV.str EA.nil)))) rfl (Nat.le_of_ble_eq_true rfl)) (fun x_other v_other H hp hm => ?_)
  refine s_seq ?_
  refine s_if hp hx hm (ET.andP (ET.test (EV.inSP (EV.var rfl (.tail _ (.tail _ (.head _)))) (EV.var rfl (.tail _ (.head _))))) (ET.test (EV.inSP (EV.var rfl (.tail _ (.tail _ (.tail _ (.head _))))) (EV.var rfl (.tail _ (.head _)))))) (fun H hp hm => ?_) (fun H hp hm => ?_)
  · refine s_ret1 hp hx hm (EV.leI (EV.idxLP (EV.var rfl (.tail _ (.head _))) (EV.var rfl (.tail _ (.tail _ (.head _))))) (EV.idxLP (EV.var rfl (.tail _ (.head _))) (EV.var rfl (.tail _ (.tail _ (.tail _ (.head _))))))) (fun a v H hp hm => hQ a v H hp.fin hm)
  · refine s_next ?_
    refine s_seq ?_
    refine s_if hp hx hm (ET.andP (ET.test (EV.inSP (EV.var rfl (.tail _ (.tail _ (.head _)))) (EV.var rfl (.head _)))) (ET.test (EV.inSP (EV.var rfl (.tail _ (.tail _ (.tail _ (.head _))))) (EV.var rfl (.head _))))) (fun H hp hm => ?_) (fun H hp hm => ?_)
    · refine s_ret1 hp hx hm (EV.leI (EV.idxLP (EV.var rfl (.head _)) (EV.var rfl (.tail _ (.tail _ (.head _))))) (EV.idxLP (EV.var rfl (.head _)) (EV.var rfl (.tail _ (.tail _ (.tail _ (.head _))))))) (fun a v H hp hm => hQ a v H hp.fin hm)
    · refine s_next ?_
      refine s_ret1 hp hx hm EV.bl (fun a v H hp hm => hQ a v H hp.fin hm)
noncomputable def m_law_gap (x_upper : Str) (x_lower : Str) (x_late : (Option Int)) (x_far : (Option Int)) : M (Option Int) := mite (m_law_under x_upper x_lower) ((mr (some (0 : Int)))) (mite (mr (decide (x_lower = ("done" : Str)))) ((mr x_late)) (mite (mr ((decide (x_lower = ("owed" : Str))) && (decide (x_upper = ("done" : Str))))) ((mr x_far)) (mite (mr ((decide (x_lower = ("owed" : Str))) && ((x_late).isSome && (x_far).isSome))) ((mb (mb (mget x_late) fun a => mb (mget x_far) fun b => mr (a + b)) fun a => mr (Option.some a))) ((mr (none : (Option Int)))))))
def sp_law_gap (K : PySem.W.Frag) (C : CT) : Sp := fun vs H Q E => ∃ (x_upper : Str) (x_lower : Str) (x_late : (Option Int)) (x_far : (Option Int)) (v_upper v_lower v_late v_far : V), vs = [v_upper, v_lower, v_late, v_far] ∧ CallN K C R0 [(v_upper, enc x_upper), (v_lower, enc x_lower), (v_late, enc x_late), (v_far, enc x_far)] (m_law_gap x_upper x_lower x_late x_far) H Q
theorem ok_law_gap (T : Txt P w K mg)  : FnOk P w K mg base CX0 (2) T.a_law_gap T.d_law_gap ["upper", "lower", "late", "far"] (sp_law_gap K (ct T)) := by
  refine T.F_law_gap.ok sc_law_gap (fun vs H Q E h => by obtain ⟨_, _, _, _, _, _, _, _, rfl, _⟩ := h; rfl) (fun cdv A outer s H vs Q E hr h => ?_)
  have hu := hu_of hr
  have hu64 := hr.units
  refine ⟨_, (pss_cons (ps_if (pt_val (pe_call (ok_law_under T) (hr.mono (by first | decide | omega)) (by rfl) T.m_law_under T.F_law_under.kp T.b_law_under .nil pass0 (pa_cons (pv 0) (pa_cons (pv 1) pa_nil)))) (pss_one (ps_ret pe_int)) pss_nil)
      (pss_cons (ps_if (pt_cmpR (op_eqq hu64) (pv 1) pe_str (nomark _)) (pss_one (ps_ret (pv 2))) pss_nil)
      (pss_cons (ps_if (PW.pt (pw_and (pt_cmpR (op_eqq hu64) (pv 1) pe_str (nomark _)) (pw_and1 (pt_cmpR (op_eqq hu64) (pv 0) pe_str (nomark _))))) (pss_one (ps_ret (pv 3))) pss_nil)
      (pss_cons (ps_if (PW.pt (pw_and (pt_cmpR (op_eqq hu64) (pv 1) pe_str (nomark _)) (pw_and (pt_cmpR op_notNA (pv 2) pe_non (nomark _)) (pw_and1 (pt_cmpR op_notNA (pv 3) pe_non (nomark _)))))) (pss_one (ps_ret (pe_op op_plus (pv 2) (pv 3)))) pss_nil)
      (pss_one (ps_ret pe_non)))))), ?_⟩
  obtain ⟨x_upper, x_lower, x_late, x_far, v_upper, v_lower, v_late, v_far, rfl, G0, F0, post, px, hp, hm, hQ⟩ := h
  have hx := hx0 (K := K) (C := ct T) (R := R0) (G0 := G0) (F0 := F0) (px := px)
  walk_at "start"
  unfold m_law_gap at hm
  refine s_seq ?_
  refine s_if hp hx hm (ET.test (EV.callNP (EA.consP (EV.var rfl (.head _)) (EA.consP (EV.var rfl (.tail _ (.head _))) EA.nil)) (hcN2 fun v0 v1 H Q h => ⟨x_upper, x_lower, v0, v1, rfl, h⟩))) (fun H hp hm => ?_) (fun H hp hm => ?_)
  · refine s_ret1 hp hx hm (EV.opt EV.int) (fun a v H hp hm => hQ a v H hp.fin hm)
  · refine s_next ?_
    refine s_seq ?_
    refine s_if hp hx hm (ET.test (EV.eqSP (EV.var rfl (.tail _ (.head _))) EV.str)) (fun H hp hm => ?_) (fun H hp hm => ?_)
    · refine s_ret1 hp hx hm (EV.var rfl (.tail _ (.tail _ (.head _)))) (fun a v H hp hm => hQ a v H hp.fin hm)
    · refine s_next ?_
      refine s_seq ?_
      refine s_if hp hx hm (ET.andP (ET.test (EV.eqSP (EV.var rfl (.tail _ (.head _))) EV.str)) (ET.test (EV.eqSP (EV.var rfl (.head _)) EV.str))) (fun H hp hm => ?_) (fun H hp hm => ?_)
      · refine s_ret1 hp hx hm (EV.var rfl (.tail _ (.tail _ (.tail _ (.head _))))) (fun a v H hp hm => hQ a v H hp.fin hm)
      · refine s_next ?_
        refine s_seq ?_
        refine s_if hp hx hm (ET.andP (ET.test (EV.eqSP (EV.var rfl (.tail _ (.head _))) EV.str)) (ET.andP (ET.test (EV.notNP (EV.var rfl (.tail _ (.tail _ (.head _)))) EV.unit)) (ET.test (EV.notNP (EV.var rfl (.tail _ (.tail _ (.tail _ (.head _))))) EV.unit)))) (fun H hp hm => ?_) (fun H hp hm => ?_)
        · refine s_ret1 hp hx hm (EV.optM (EV.addI (EV.get (EV.var rfl (.tail _ (.tail _ (.head _))))) (EV.get (EV.var rfl (.tail _ (.tail _ (.tail _ (.head _)))))))) (fun a v H hp hm => hQ a v H hp.fin hm)
        · refine s_next ?_
          refine s_ret1 hp hx hm EV.optN (fun a v H hp hm => hQ a v H hp.fin hm)
noncomputable def m_law_seven  : M (List Str) := (mr ([("zero" : Str), ("calm" : Str), ("owed" : Str), ("done" : Str), ("end" : Str), ("own" : Str), ("got" : Str)] : (List Str)))
def sp_law_seven (K : PySem.W.Frag) (C : CT) : Sp := fun vs H Q E => vs = [] ∧ CallN K C R0 [] (m_law_seven) H Q
theorem ok_law_seven (T : Txt P w K mg)  : FnOk P w K mg base CX0 (1) T.a_law_seven T.d_law_seven [] (sp_law_seven K (ct T)) := by
  refine T.F_law_seven.ok sc_law_seven (fun vs H Q E h => by obtain ⟨rfl, _⟩ := h; rfl) (fun cdv A outer s H vs Q E hr h => ?_)
  have hu := hu_of hr
  have hu64 := hr.units
  refine ⟨_, (pss_one (ps_ret (pe_lst (pa_cons pe_str (pa_cons pe_str (pa_cons pe_str (pa_cons pe_str (pa_cons pe_str (pa_cons pe_str (pa_cons pe_str pa_nil)))))))))), ?_⟩
  obtain ⟨rfl, G0, F0, post, px, hp, hm, hQ⟩ := h
  have hx := hx0 (K := K) (C := ct T) (R := R0) (G0 := G0) (F0 := F0) (px := px)
  walk_at "start"
  unfold m_law_seven at hm
  refine s_ret1 hp hx hm (EV.lstP (EA.consP EV.str (EA.consP EV.str (EA.consP EV.str (EA.consP EV.str (EA.consP EV.str (EA.consP EV.str (EA.consP EV.str EA.nil))))))) rfl (Nat.le_of_ble_eq_true rfl)) (fun a v H hp hm => hQ a v H hp.fin hm)
noncomputable def m_law_least (x_clause : (List (Str × Int))) (x_high : Int) (x_late : (Option Int)) (x_far : (Option Int)) : M (Dt Int) := mb (mb (mb (mr (0 : Int)) fun a => mb (mr ()) fun g => mr (a, g)) fun g_ => mr (⟨[("zero", g_.1)]⟩ : (Dt Int))) fun x_found => mb (mr ([("calm" : Str), ("owed" : Str), ("done" : Str), ("end" : Str), ("own" : Str), ("got" : Str)] : (List Str))) fun xs_ => mb (forM xs_ (x_found) (fun x_mark c_ => ((fun x_found => mb (mr (0 : Int)) fun x_place => mb (mr x_clause) fun xs_ => mb (forM xs_ (x_place) (fun x_term c_ => ((fun x_place => mb (m_law_gap x_term.1 x_mark x_late x_far) fun x_gap => mite (mand (mr (x_gap).isSome) (mb (mb (mr (x_term.2 + x_high)) fun a => mb (mget x_gap) fun b => mr (a - b)) fun a => mb (mr x_place) fun b => mr (decide (b < a)))) (mb (mb (mr (x_term.2 + x_high)) fun a => mb (mget x_gap) fun b => mr (a - b)) fun x_place => mr (x_place)) (mr (x_place))) c_))) fun c_ => ((fun x_place => mb (mr x_place) fun a_ => mb (mr x_mark) fun j_ => mb (mdput x_found j_ a_) fun x_found => mr (x_found)) c_)) c_))) fun c_ => ((fun x_found => (mr x_found)) c_)
def sp_law_least (K : PySem.W.Frag) (C : CT) : Sp := fun vs H Q E => ∃ (x_clause : (List (Str × Int))) (x_high : Int) (x_late : (Option Int)) (x_far : (Option Int)) (v_clause v_high v_late v_far : V), vs = [v_clause, v_high, v_late, v_far] ∧ CallN K C R0 [(v_clause, enc x_clause), (v_high, enc x_high), (v_late, enc x_late), (v_far, enc x_far)] (m_law_least x_clause x_high x_late x_far) H Q
theorem ok_law_least (T : Txt P w K mg)  : FnOk P w K mg base CX0 (3) T.a_law_least T.d_law_least ["clause", "high", "late", "far"] (sp_law_least K (ct T)) := by
  refine T.F_law_least.ok sc_law_least (fun vs H Q E h => by obtain ⟨_, _, _, _, _, _, _, _, rfl, _⟩ := h; rfl) (fun cdv A outer s H vs Q E hr h => ?_)
  have hu := hu_of hr
  have hu64 := hr.units
  refine ⟨_, (pss_cons (ps_set (i := 4) sc_law_least.nd rfl (by first | exact Or.inl rfl | exact Or.inr rfl) (pe_disp (pps_cons pe_str pe_int pps_nil) (by rfl) (by rfl) (fun z => by cases z) (by decide)))
      (pss_cons (ps_for PassesOwn.never rfl (pi_list (pe_lst (pa_cons pe_str (pa_cons pe_str (pa_cons pe_str (pa_cons pe_str (pa_cons pe_str (pa_cons pe_str pa_nil)))))))) (pg_name (i := 5) sc_law_least.nd rfl (by first | exact Or.inl rfl | exact Or.inr rfl))
      (pss_cons (ps_set (i := 6) sc_law_least.nd rfl (by first | exact Or.inl rfl | exact Or.inr rfl) pe_int)
      (pss_cons (ps_for PassesOwn.never rfl (pi_list (pv 0)) (pg_name (i := 7) sc_law_least.nd rfl (by first | exact Or.inl rfl | exact Or.inr rfl))
      (pss_cons (ps_set (i := 8) sc_law_least.nd rfl (by first | exact Or.inl rfl | exact Or.inr rfl) (pe_call (ok_law_gap T) (hr.mono (by first | decide | omega)) (by rfl) T.m_law_gap T.F_law_gap.kp T.b_law_gap .nil pass0 (pa_cons (pe_ix (ix_any hu) (pv 7) pe_int (fun _ _ => rfl)) (pa_cons (pv 5) (pa_cons (pv 2) (pa_cons (pv 3) pa_nil))))))
      (pss_one (ps_if (PW.pt (pw_and (pt_cmpR op_notNA (pv 8) pe_non (nomark _)) (pw_and1 (pt_cmpR op_gt (pe_op op_sub (pe_op op_plus (pe_ix (ix_any hu) (pv 7) pe_int (fun _ _ => rfl)) (pv 1)) (pv 8)) (pv 6) (nomark _))))) (pss_one (ps_set (i := 6) sc_law_least.nd rfl (by first | exact Or.inl rfl | exact Or.inr rfl) (pe_op op_sub (pe_op op_plus (pe_ix (ix_any hu) (pv 7) pe_int (fun _ _ => rfl)) (pv 1)) (pv 8)))) pss_nil))))
      (pss_one (ps_asg (pv 6) (pg_sub (pv 4) (pv 5) (set_any hu)))))))
      (pss_one (ps_ret (pv 4))))), ?_⟩
  obtain ⟨x_clause, x_high, x_late, x_far, v_clause, v_high, v_late, v_far, rfl, G0, F0, post, px, hp, hm, hQ⟩ := h
  have hx := hx0 (K := K) (C := ct T) (R := R0) (G0 := G0) (F0 := F0) (px := px)
  walk_at "start"
  unfold m_law_least at hm
  refine s_seq ?_
  refine s_setDisp (γ := (Int × Unit)) (ks := ["zero"]) (ds := fun g_ => [enc g_.1]) (fun g_ => (⟨[("zero", g_.1)]⟩ : (Dt Int))) (fun p_found => [some v_clause, some v_high, some v_late, some v_far, some (.ref p_found), none, none, none, none]) (fun _ => rfl) hp hx hm (fun q_ => (EP.cons EV.int EP.nil)) (by decide) (by decide) (fun _ => rfl) (fun _ => rfl) (fun x_found p_found H hp hm => ?_)
  refine s_seq ?_
  refine s_forM (γ := ((Dt Int))) (ι := (Addr × Option V × Option V × Option V × Option V)) hp hx hm (EI.list (EV.lstP (EA.consP EV.str (EA.consP EV.str (EA.consP EV.str (EA.consP EV.str (EA.consP EV.str (EA.consP EV.str EA.nil)))))) rfl (Nat.le_of_ble_eq_true rfl))) (fun r c => [some v_clause, some v_high, some v_late, some v_far, some (.ref r.1), r.2.1, r.2.2.1, r.2.2.2.1, r.2.2.2.2]) (fun w7 r c => [w7, (v_clause, enc x_clause), (v_high, enc x_high), (v_late, enc x_late), (v_far, enc x_far)]) (fun r c => ([(r.1, enc c)] : List (Addr × Mi.D))) (fun w H hp => ⟨(p_found, none, none, none, none), rfl, hp.less (pk (.head _) (pk (.tail _ (.head _)) (pk (.tail _ (.tail _ (.head _))) (pk (.tail _ (.tail _ (.tail _ (.head _)))) (pk (.tail _ (.tail _ (.tail _ (.tail _ (.head _))))) pk0)))))⟩) (fun _ _ _ => .head _) (fun w7 r x_found v_mark x_mark rest H hp hm => ?_) (fun w r x_found H hp hm => ?_)
  · obtain ⟨p_found, o_mark, o_place, o_term, o_gap⟩ := r
    refine g_one' (fun v_mark => [some v_clause, some v_high, some v_late, some v_far, some (.ref p_found), some v_mark, o_place, o_term, o_gap]) (fun _ => rfl) hp (fun hp => ?_)
    refine s_seq ?_
    refine s_set (fun v_place => [some v_clause, some v_high, some v_late, some v_far, some (.ref p_found), some v_mark, some v_place, o_term, o_gap]) (fun _ => rfl) hp hx hm EV.int (fun x_place v_place H hp hm => ?_)
    refine s_seq ?_
    refine s_forM (γ := (Int)) (ι := (V × Option V × Option V)) hp hx hm (EI.list (EV.var rfl (.tail _ (.tail _ (.tail _ (.head _)))))) (fun r c => [some v_clause, some v_high, some v_late, some v_far, some (.ref p_found), some v_mark, some r.1, r.2.1, r.2.2]) (fun w12 r c => [w12, (r.1, enc c), (v_clause, enc x_clause), (v_high, enc x_high), (v_late, enc x_late), (v_far, enc x_far), (v_mark, enc x_mark), w7]) (fun r c => ([(p_found, enc x_found)] : List (Addr × Mi.D))) (fun w H hp => ⟨(v_place, o_term, o_gap), rfl, hp.less (pk (.head _) (pk (.tail _ (.head _)) (pk (.tail _ (.tail _ (.tail _ (.tail _ (.head _))))) (pk (.tail _ (.tail _ (.tail _ (.tail _ (.tail _ (.head _)))))) (pk (.tail _ (.tail _ (.tail _ (.tail _ (.tail _ (.tail _ (.head _))))))) (pk (.tail _ (.tail _ (.tail _ (.tail _ (.tail _ (.tail _ (.tail _ (.head _)))))))) (pk (.tail _ (.tail _ (.head _))) (pk (.tail _ (.tail _ (.tail _ (.head _)))) pk0))))))))⟩) (fun _ _ _ => .head _) (fun w12 r x_place v_term x_term rest H hp hm => ?_) (fun w r x_place H hp hm => ?_)
    · obtain ⟨v_place, o_term, o_gap⟩ := r
      refine g_one' (fun v_term => [some v_clause, some v_high, some v_late, some v_far, some (.ref p_found), some v_mark, some v_place, some v_term, o_gap]) (fun _ => rfl) hp (fun hp => ?_)
      refine s_seq ?_
      refine s_set (fun v_gap => [some v_clause, some v_high, some v_late, some v_far, some (.ref p_found), some v_mark, some v_place, some v_term, some v_gap]) (fun _ => rfl) hp hx hm (EV.callNP (EA.consP (EV.projP (EV.var rfl (.head _)) ⟨_, .inl rfl, rfl⟩) (EA.consP (EV.var rfl (.tail _ (.tail _ (.tail _ (.tail _ (.tail _ (.tail _ (.tail _ (.head _))))))))) (EA.consP (EV.var rfl (.tail _ (.tail _ (.tail _ (.tail _ (.tail _ (.head _))))))) (EA.consP (EV.var rfl (.tail _ (.tail _ (.tail _ (.tail _ (.tail _ (.tail _ (.head _)))))))) EA.nil)))) (hcN4 fun v0 v1 v2 v3 H Q h => ⟨x_term.1, x_mark, x_late, x_far, v0, v1, v2, v3, rfl, h⟩)) (fun x_gap v_gap H hp hm => ?_)
      refine s_if hp hx hm (ET.and (ET.test (EV.notNP (EV.var rfl (.head _)) EV.unit)) (ET.test (EV.gtI (EV.subI (EV.addIP (EV.projP (EV.var rfl (.tail _ (.head _))) ⟨_, .inl rfl, rfl⟩) (EV.var rfl (.tail _ (.tail _ (.tail _ (.tail _ (.tail _ (.head _)))))))) (EV.get (EV.var rfl (.head _)))) (EV.var rfl (.tail _ (.tail _ (.tail _ (.head _)))))))) (fun H hp hm => ?_) (fun H hp hm => ?_)
      · refine s_set (fun v_place => [some v_clause, some v_high, some v_late, some v_far, some (.ref p_found), some v_mark, some v_place, some v_term, some v_gap]) (fun _ => rfl) hp hx hm (EV.subI (EV.addIP (EV.projP (EV.var rfl (.tail _ (.head _))) ⟨_, .inl rfl, rfl⟩) (EV.var rfl (.tail _ (.tail _ (.tail _ (.tail _ (.tail _ (.head _)))))))) (EV.get (EV.var rfl (.head _)))) (fun x_place v_place H hp hm => ?_)
        exact ⟨(v_place, some v_term, some v_gap), (x_place), rfl, (hp.less (pk (.tail _ (.tail _ (.tail _ (.head _)))) (pk (.head _) (pk (.tail _ (.tail _ (.tail _ (.tail _ (.tail _ (.head _)))))) (pk (.tail _ (.tail _ (.tail _ (.tail _ (.tail _ (.tail _ (.head _))))))) (pk (.tail _ (.tail _ (.tail _ (.tail _ (.tail _ (.tail _ (.tail _ (.head _)))))))) (pk (.tail _ (.tail _ (.tail _ (.tail _ (.tail _ (.tail _ (.tail _ (.tail _ (.head _))))))))) (pk (.tail _ (.tail _ (.tail _ (.tail _ (.tail _ (.tail _ (.tail _ (.tail _ (.tail _ (.head _)))))))))) (pk (.tail _ (.tail _ (.tail _ (.tail _ (.tail _ (.tail _ (.tail _ (.tail _ (.tail _ (.tail _ (.head _))))))))))) pk0))))))))), hm⟩
      · refine s_next ?_
        exact ⟨(v_place, some v_term, some v_gap), (x_place), rfl, (hp.less (pk (.tail _ (.tail _ (.head _))) (pk (.tail _ (.tail _ (.tail _ (.head _)))) (pk (.tail _ (.tail _ (.tail _ (.tail _ (.head _))))) (pk (.tail _ (.tail _ (.tail _ (.tail _ (.tail _ (.head _)))))) (pk (.tail _ (.tail _ (.tail _ (.tail _ (.tail _ (.tail _ (.head _))))))) (pk (.tail _ (.tail _ (.tail _ (.tail _ (.tail _ (.tail _ (.tail _ (.head _)))))))) (pk (.tail _ (.tail _ (.tail _ (.tail _ (.tail _ (.tail _ (.tail _ (.tail _ (.head _))))))))) (pk (.tail _ (.tail _ (.tail _ (.tail _ (.tail _ (.tail _ (.tail _ (.tail _ (.tail _ (.head _)))))))))) pk0))))))))), hm⟩
    · obtain ⟨v_place, o_term, o_gap⟩ := r
      refine s_putDt rfl (.head _) hp hx hm (EV.var rfl (.tail _ (.head _))) (EV.var rfl (.tail _ (.tail _ (.tail _ (.tail _ (.tail _ (.tail _ (.head _)))))))) (fun _ => .hd) (fun x_found H hp hm => ?_)
      exact ⟨(p_found, some v_mark, some v_place, o_term, o_gap), (x_found), rfl, (hp.less (pk (.tail _ (.tail _ (.tail _ (.tail _ (.tail _ (.tail _ (.tail _ (.head _)))))))) (pk (.tail _ (.tail _ (.head _))) (pk (.tail _ (.tail _ (.tail _ (.head _)))) (pk (.tail _ (.tail _ (.tail _ (.tail _ (.head _))))) (pk (.tail _ (.tail _ (.tail _ (.tail _ (.tail _ (.head _)))))) pk0)))))), hm⟩
  · obtain ⟨p_found, o_mark, o_place, o_term, o_gap⟩ := r
    have hp := hp.freeze .hd
    refine s_ret1 hp hx hm (EV.var rfl (.head _)) (fun a v H hp hm => hQ a v H hp.fin hm)
noncomputable def m_law_stranger  : M Str := mb (mr ([("" : Str), ("Done" : Str), ("owed " : Str), ("en" : Str), ("gotten" : Str)] : (List Str))) fun x_spare => mb (m_law_draw (6 : Int)) fun x_pick => mite (mr (decide (x_pick < (5 : Int)))) ((mix x_spare x_pick)) (mb (m_law_word) fun x_word => (mite (mb (mr x_word) fun a => mb (m_law_seven) fun b => mr (decide (a ∈ b))) (maddS x_word ("x" : Str)) (mr x_word)))
def sp_law_stranger (K : PySem.W.Frag) (C : CT) : Sp := fun vs H Q E => ∃ (p_st : Addr), vs = [.ref p_st] ∧ CallN K C (RS p_st) [] (m_law_stranger) H Q
theorem ok_law_stranger (T : Txt P w K mg)  : FnOk P w K mg base CX0 (4) T.a_law_stranger T.d_law_stranger ["state"] (sp_law_stranger K (ct T)) := by
  refine T.F_law_stranger.ok sc_law_stranger (fun vs H Q E h => by obtain ⟨_, rfl, _⟩ := h; rfl) (fun cdv A outer s H vs Q E hr h => ?_)
  have hu := hu_of hr
  have hu64 := hr.units
  refine ⟨_, (pss_cons (ps_set (i := 1) sc_law_stranger.nd rfl (by first | exact Or.inl rfl | exact Or.inr rfl) (pe_lst (pa_cons pe_str (pa_cons pe_str (pa_cons pe_str (pa_cons pe_str (pa_cons pe_str pa_nil)))))))
      (pss_cons (ps_set (i := 2) sc_law_stranger.nd rfl (by first | exact Or.inl rfl | exact Or.inr rfl) (pe_call (draw_ok (C := ct T) (ok_law_draw T)) (hr.mono (by first | decide | omega)) (by rfl) T.m_law_draw T.F_law_draw.kp T.b_law_draw .nil pass0 (pa_cons (pv 0) (pa_cons pe_int pa_nil))))
      (pss_cons (ps_if (pt_cmpR op_lt (pv 2) pe_int (nomark _)) (pss_one (ps_ret (pe_ix (ix_any hu) (pv 1) (pv 2) (fun _ _ => rfl)))) pss_nil)
      (pss_cons (ps_set (i := 3) sc_law_stranger.nd rfl (by first | exact Or.inl rfl | exact Or.inr rfl) (pe_call (ok_law_word T) (hr.mono (by first | decide | omega)) (by rfl) T.m_law_word T.F_law_word.kp T.b_law_word .nil pass0 (pa_cons (pv 0) pa_nil)))
      (pss_one (ps_ret (pe_ifExp (pt_cmpR (op_inn hu) (pv 3) (pe_call0 (ok_law_seven T) (hr.mono (by first | decide | omega)) (by rfl) T.m_law_seven T.F_law_seven.kp T.b_law_seven .nil pass0) (by rfl)) (pe_op op_plus (pv 3) pe_str) (pv 3)))))))), ?_⟩
  obtain ⟨p_st, rfl, G0, F0, post, px, hp, hm, hQ⟩ := h
  have hx := hx0 (K := K) (C := ct T) (R := RS p_st) (G0 := G0) (F0 := F0) (px := px)
  walk_at "start"
  unfold m_law_stranger at hm
  refine s_seq ?_
  refine s_set (fun v_spare => [some (.ref p_st), some v_spare, none, none]) (fun _ => rfl) hp hx hm (EV.lstP (EA.consP EV.str (EA.consP EV.str (EA.consP EV.str (EA.consP EV.str (EA.consP EV.str EA.nil))))) rfl (Nat.le_of_ble_eq_true rfl)) (fun x_spare v_spare H hp hm => ?_)
  refine s_seq ?_
  refine s_set (fun v_pick => [some (.ref p_st), some v_spare, some v_pick, none]) (fun _ => rfl) hp hx hm (EV.callWP rfl (EA.consP EV.int EA.nil) (hcW1 fun v0 H Q h => ⟨_, (6 : Int), v0, rfl, h⟩)) (fun x_pick v_pick H hp hm => ?_)
  refine s_seq ?_
  refine s_if hp hx hm (ET.test (EV.ltIP (EV.var rfl (.head _)) EV.int)) (fun H hp hm => ?_) (fun H hp hm => ?_)
  · refine s_ret1 hp hx hm (EV.ixLP (EV.var rfl (.tail _ (.head _))) (EV.var rfl (.head _))) (fun a v H hp hm => hQ a v H hp.fin hm)
  · refine s_next ?_
    refine s_seq ?_
    refine s_set (fun v_word => [some (.ref p_st), some v_spare, some v_pick, some v_word]) (fun _ => rfl) hp hx hm (EV.callWP rfl EA.nil (hcW0 fun  H Q h => ⟨_, rfl, h⟩)) (fun x_word v_word H hp hm => ?_)
    refine s_ret1 hp hx hm (EV.ite (ET.test (EV.inS (EV.var rfl (.head _)) (EV.callNP EA.nil (hcN0 fun  H Q h => ⟨rfl, h⟩)))) (EV.addSP (EV.var rfl (.head _)) EV.str) (EV.var rfl (.head _))) (fun a v H hp hm => hQ a v H hp.fin hm)
noncomputable def m_law_refused (x_world : Wld) (x_upper : Str) (x_lower : Str) : M Mi.D := mb (mtry0 (τ := (Unit ⊕ Mi.D)) ["UnknownMark"] (mb (mb (mr x_world) fun a_ => mb (mr (x_upper, (x_lower, ()))) fun g_ => m_World_gap a_ g_.1 g_.2.1) fun _ => mr (Sum.inl ())) (fun e_ => if e_.cls = "UnknownMark" then (mite (mr ((!true) || (false || false))) (mb (mr (enc () : Mi.D)) fun a => mr (Sum.inr a)) (mb (mexf e_.ns e_.ds "mark") fun a => mr (Sum.inr a))) else mstuck)) fun o_ => match o_ with | .inl c_ => ((mr (enc () : Mi.D))) | .inr o_ => mr o_
def sp_law_refused (K : PySem.W.Frag) (C : CT) : Sp := fun vs H Q E => ∃ (x_world : Wld) (x_upper : Str) (x_lower : Str) (v_world v_upper v_lower : V), vs = [v_world, v_upper, v_lower] ∧ CallN K C R0 [(v_world, enc x_world), (v_upper, enc x_upper), (v_lower, enc x_lower)] (m_law_refused x_world x_upper x_lower) H Q
theorem ok_law_refused (T : Txt P w K mg)  : FnOk P w K mg base CX0 (4) T.a_law_refused T.d_law_refused ["world", "upper", "lower"] (sp_law_refused K (ct T)) := by
  refine T.F_law_refused.ok sc_law_refused (fun vs H Q E h => by obtain ⟨_, _, _, _, _, _, rfl, _⟩ := h; rfl) (fun cdv A outer s H vs Q E hr h => ?_)
  have hu := hu_of hr
  have hu64 := hr.units
  refine ⟨_, (pss_cons (ps_try_asM (i := 3) rfl rfl sc_law_refused.nd rfl rfl (by exact ⟨rfl, by decide, Or.inl T.mc_UnknownMark⟩) takes0
      (fun W => ⟨_, fun pn xe tk _ => (pss_one (ps_expr (pe_methT (pv 0) T.cl_World T.me_World_gap (ok_World_gap T) (hr.mono (by first | decide | omega)) T.b_World_gap (fun σ => passAt tk σ) (pa_cons (pv 1) (pa_cons (pv 2) pa_nil)))))⟩)
      (fun a cls d => ⟨_, fun oe pn hz hf => (pss_cons (ps_if (PW.pt (pw_or (pt_not (pt_val (pe_callB (call_isD hz hf) (by rfl) T.z_isinstance (by decide +kernel) (pa_cons (pv 3) (pa_cons (pe_glob (v := .ref T.c_SlotError) (by rfl) T.mc_SlotError rfl) pa_nil))))) (pw_or (pt_val (pe_callB (call_isD hz hf) (by rfl) T.z_isinstance (by decide +kernel) (pa_cons (pv 3) (pa_cons (pe_glob (v := .ref T.c_MissingMark) (by rfl) T.mc_MissingMark rfl) pa_nil)))) (pw_or1 (pt_val (pe_callB (call_isD hz hf) (by rfl) T.z_isinstance (by decide +kernel) (pa_cons (pv 3) (pa_cons (pe_glob (v := .ref T.c_WrongMark) (by rfl) T.mc_WrongMark rfl) pa_nil)))))))) (pss_one (ps_ret pe_non)) pss_nil)
      (pss_one (ps_ret (pe_fldE hz hf (pv 3)))))⟩) rfl)
      (pss_one (ps_ret pe_non))), ?_⟩
  dsimp only
  obtain ⟨x_world, x_upper, x_lower, v_world, v_upper, v_lower, rfl, G0, F0, post, px, hp, hm, hQ⟩ := h
  have hx := hx0 (K := K) (C := ct T) (R := R0) (G0 := G0) (F0 := F0) (px := px)
  walk_at "start"
  unfold m_law_refused at hm
  refine s_seq ?_
  refine s_tryJ (ι := (Unit)) (γ := Unit) Sum.inl (fun r c => [some v_world, some v_upper, some v_lower, none]) (fun r c => []) hp hm ?tc (fun nx_ G_ F_ px_ hj hbk_ hp hx hm => ?_) ?tsu (fun r c H hp hm => ?_)
  case tc =>
    intro c_ hk_ A_ hA_
    simp only [List.mem_cons, List.not_mem_nil, or_false] at hk_
    have ek_ := hk_
    · subst ek_
      obtain rfl := Option.some.inj (hA_.symm.trans (ct_UnknownMark T))
      exact T.sup_UnknownMark.te
  case tsu =>
    intro nx_ hj e_ a_ A_ dd_ H hk_ hA_ hf_ hn_ hp hm
    simp only [List.mem_cons, List.not_mem_nil, or_false] at hk_
    have ek_ := hk_
    · obtain rfl := Option.some.inj (((congrArg (ct T) ek_).symm.trans hA_).symm.trans (ct_UnknownMark T))
      have hm := if_here ek_ hm
      refine s_seq ?_
      refine s_if hp hx hm (ET.orP (ET.notP (ET.test (EV.isE (a := a_) (d := dd_) (e := e_) rfl T.xc_UnknownMark (.head _) (c := .ref T.c_SlotError) (cv := .ref T.c_SlotError) (fun _ h => h) T.kt_UnknownMark_SlotError))) (ET.orP (ET.test (EV.isE (a := a_) (d := dd_) (e := e_) rfl T.xc_UnknownMark (.head _) (c := .ref T.c_MissingMark) (cv := .ref T.c_MissingMark) (fun _ h => h) T.kt_UnknownMark_MissingMark)) (ET.test (EV.isE (a := a_) (d := dd_) (e := e_) rfl T.xc_UnknownMark (.head _) (c := .ref T.c_WrongMark) (cv := .ref T.c_WrongMark) (fun _ h => h) T.kt_UnknownMark_WrongMark)))) (fun H hp hm => ?_) (fun H hp hm => ?_)
      · refine s_ret (α := Mi.D) hp hx hm (EV.toD EV.unit) (fun a v H hp hm => hQ a v H hp.fin hm)
      · refine s_next ?_
        refine s_ret (α := Mi.D) hp hx hm (EV.fldE (a := a_) (d := dd_) (e := e_) rfl hn_ ⟨T.sup_UnknownMark.ga, T.sup_UnknownMark.gg, T.sup_UnknownMark.exC, T.sup_UnknownMark.hdC, T.sup_UnknownMark.noN⟩ (.head _)) (fun a v H hp hm => hQ a v H hp.fin hm)
  · have hQ := fun a v H hp hm => hQ a v H (hbk_ _ H hp) hm
    refine s_drop hp hx hm (EV.methS (f := "gap") (γ := (Str × Str × Unit)) (k := fun a_ g_ => m_World_gap a_ g_.1 g_.2.1) rfl (EV.var rfl (.head _)) (EA.cons (EV.var rfl (.tail _ (.head _))) (EA.cons (EV.var rfl (.tail _ (.tail _ (.head _)))) EA.nil)) (ct_World T) (fun _ => ⟨_, _, rfl, by decide⟩) (fun a_ x g_ vs H Q hl h => match vs, hl, h with | [v0, v1], _, h => ⟨a_, g_.1, g_.2.1, x, v0, v1, rfl, h⟩)) (fun _ H hp hm => ?_)
    exact hj () () _ ((hp.less pk0).lessO (List.nil_sublist _)) hm
  · refine s_ret1 hp hx hm (EV.toD EV.unit) (fun a v H hp hm => hQ a v H hp.fin hm)
noncomputable def m_law_attained (x_world : Wld) (x_upper : Str) (x_great : Int) (x_late : (Option Int)) (x_far : (Option Int)) : M Bool := mb (mr (if (decide (x_upper = ("zero" : Str))) = true then (0 : Int) else x_great)) fun x_high => mb (m_law_least ([(x_upper, (0 : Int))] : (List (Str × Int))) x_high x_late x_far) fun x_marks => mite (mor (mb (mr x_marks) fun b => mb (mr x_world) fun a => mb (m_Worlddd__containsdd_ a b) fun r => mr (!r)) (mb (mdget x_marks x_upper) fun a => mb (mr x_high) fun b => mr (!decide (a = b)))) ((mr false)) (mb (m_law_seven) fun xs_ => mb (forR (ρ := Bool) xs_ () (fun x_lower c_ => (mb (mb (mr x_world) fun a_ => mb (mr (x_upper, (x_lower, ()))) fun g_ => m_World_gap a_ g_.1 g_.2.1) fun x_told => mb (mite (mr (x_told).isNone) (mr x_high) (mget x_told)) fun x_due => mite (mb (mb (mdget x_marks x_upper) fun a => mb (mdget x_marks x_lower) fun b => mr (a - b)) fun a => mb (mr x_due) fun b => mr (!decide (a = b))) (mb (mr false) fun a => mr (Stp.ret a)) (mr (Stp.next ()))))) fun o_ => match o_ with | .inl c_ => ((mr true)) | .inr r_ => mr r_)
def sp_law_attained (K : PySem.W.Frag) (C : CT) : Sp := fun vs H Q E => ∃ (x_world : Wld) (x_upper : Str) (x_great : Int) (x_late : (Option Int)) (x_far : (Option Int)) (v_world v_upper v_great v_late v_far : V), vs = [v_world, v_upper, v_great, v_late, v_far] ∧ Call K C R0 [(v_world, enc x_world), (v_upper, enc x_upper), (v_great, enc x_great), (v_late, enc x_late), (v_far, enc x_far)] (m_law_attained x_world x_upper x_great x_late x_far) H Q E
theorem ok_law_attained (T : Txt P w K mg)  : FnOk P w K mg base (L2.CX P w) (5) T.a_law_attained T.d_law_attained ["world", "upper", "great", "late", "far"] (sp_law_attained K (ct T)) := by
  refine T.F_law_attained.okX sc_law_attained (fun vs H Q E h => by obtain ⟨_, _, _, _, _, _, _, _, _, _, rfl, _⟩ := h; rfl) (fun cdv A outer s H vs Q E hr h => ?_)
  have hu := hu_of hr
  have hu64 := hr.units
  refine ⟨_, (pss_cons (ps_set (i := 5) sc_law_attained.nd rfl (by first | exact Or.inl rfl | exact Or.inr rfl) (pe_ifExp (pt_cmpR (op_eqq hu64) (pv 1) pe_str (nomark _)) pe_int (pv 2)))
      (pss_cons (ps_set (i := 6) sc_law_attained.nd rfl (by first | exact Or.inl rfl | exact Or.inr rfl) (pe_call (ok_law_least T) (hr.mono (by first | decide | omega)) (by rfl) T.m_law_least T.F_law_least.kp T.b_law_least .nil pass0 (pa_cons (pe_lst (pa_cons (pe_tup (pa_cons (pv 1) (pa_cons pe_int pa_nil))) pa_nil)) (pa_cons (pv 5) (pa_cons (pv 3) (pa_cons (pv 4) pa_nil))))))
      (pss_cons (ps_if (PW.pt (pw_or (pt_cmpS (op_ownNotInR T.om_Worlddd__containsdd_ (ok_Worlddd__containsdd_ T) (hr.mono (by first | decide | omega)) T.b_Worlddd__containsdd_ (passAll pass0)) (pv 6) (pv 0) (by rfl)) (pw_or1 (pt_cmpR (op_neq hu64) (pe_ix (ix_any hu) (pv 6) (pv 1) (fun _ _ => rfl)) (pv 5) (nomark _))))) (pss_one (ps_ret pe_bl)) pss_nil)
      (pss_cons (ps_for (passes_of rfl) rfl (pi_list (pe_call0 (ok_law_seven T) (hr.mono (by first | decide | omega)) (by rfl) T.m_law_seven T.F_law_seven.kp T.b_law_seven .nil pass0)) (pg_name (i := 7) sc_law_attained.nd rfl (by first | exact Or.inl rfl | exact Or.inr rfl))
      (pss_cons (ps_set (i := 8) sc_law_attained.nd rfl (by first | exact Or.inl rfl | exact Or.inr rfl) (pe_meth (pv 0) T.cl_World T.me_World_gap (ok_World_gap T) (hr.mono (by first | decide | omega)) T.b_World_gap .nil (passes_call (takes_of rfl rfl rfl rfl) (fun _ _ _ _ h => h)) (pa_cons (pv 1) (pa_cons (pv 7) pa_nil))))
      (pss_cons (ps_set (i := 9) sc_law_attained.nd rfl (by first | exact Or.inl rfl | exact Or.inr rfl) (pe_ifExp (pt_cmpR op_isNA (pv 8) pe_non (nomark _)) (pv 5) (pv 8)))
      (pss_one (ps_if (pt_cmpR (op_neq hu64) (pe_op op_sub (pe_ix (ix_any hu) (pv 6) (pv 1) (fun _ _ => rfl)) (pe_ix (ix_any hu) (pv 6) (pv 7) (fun _ _ => rfl))) (pv 9) (nomark _)) (pss_one (ps_ret pe_bl)) pss_nil)))))
      (pss_one (ps_ret pe_bl)))))), ?_⟩
  obtain ⟨x_world, x_upper, x_great, x_late, x_far, v_world, v_upper, v_great, v_late, v_far, rfl, G0, F0, post, px, hp, hm, hx, hQ⟩ := h
  walk_at "start"
  unfold m_law_attained at hm
  refine s_seq ?_
  refine s_set (fun v_high => [some v_world, some v_upper, some v_great, some v_late, some v_far, some v_high, none, none, none, none]) (fun _ => rfl) hp hx hm (EV.iteP (ET.test (EV.eqSP (EV.var rfl (.tail _ (.head _))) EV.str)) EV.int (EV.var rfl (.tail _ (.tail _ (.head _))))) (fun x_high v_high H hp hm => ?_)
  refine s_seq ?_
  refine s_set (fun v_marks => [some v_world, some v_upper, some v_great, some v_late, some v_far, some v_high, some v_marks, none, none, none]) (fun _ => rfl) hp hx hm (EV.callNP (EA.consP (EV.lstP (EA.consP (EV.tupP (EA.consP (EV.var rfl (.tail _ (.tail _ (.head _)))) (EA.consP EV.int EA.nil)) rfl (Nat.le_of_ble_eq_true rfl)) EA.nil) rfl (Nat.le_of_ble_eq_true rfl)) (EA.consP (EV.var rfl (.head _)) (EA.consP (EV.var rfl (.tail _ (.tail _ (.tail _ (.tail _ (.head _)))))) (EA.consP (EV.var rfl (.tail _ (.tail _ (.tail _ (.tail _ (.tail _ (.head _))))))) EA.nil)))) (hcN4 fun v0 v1 v2 v3 H Q h => ⟨([(x_upper, (0 : Int))] : (List (Str × Int))), x_high, x_late, x_far, v0, v1, v2, v3, rfl, h⟩)) (fun x_marks v_marks H hp hm => ?_)
  refine s_seq ?_
  refine s_if hp hx hm (ET.or (ET.test (EV.ownNin (k := fun a b => m_Worlddd__containsdd_ a b) (EV.var rfl (.head _)) (EV.var rfl (.tail _ (.tail _ (.head _)))) (ct_World T) (fun _ => ⟨_, _, rfl⟩) (fun a b x y H Q h => ⟨a, b, x, y, rfl, h⟩))) (ET.test (EV.neS (EV.ixDtP (EV.var rfl (.head _)) (EV.var rfl (.tail _ (.tail _ (.tail _ (.head _)))))) (EV.var rfl (.tail _ (.head _)))))) (fun H hp hm => ?_) (fun H hp hm => ?_)
  · refine s_ret1 hp hx hm EV.bl (fun a v H hp hm => hQ a v H hp.fin hm)
  · refine s_next ?_
    refine s_seq ?_
    refine s_for (γ := Unit) (ι := (Option V × Option V × Option V)) (ρ' := Bool) hp hx hm (EI.list (EV.callNP EA.nil (hcN0 fun  H Q h => ⟨rfl, h⟩))) (fun r c => [some v_world, some v_upper, some v_great, some v_late, some v_far, some v_high, some v_marks, r.1, r.2.1, r.2.2]) (fun w8 r c => [w8, (v_world, enc x_world), (v_upper, enc x_upper), (v_high, enc x_high), (v_marks, enc x_marks)]) (fun r c => ([] : List (Addr × Mi.D))) (fun w H hp => ⟨(none, none, none), rfl, hp.less (pk (.head _) (pk (.tail _ (.tail _ (.tail _ (.head _)))) (pk (.tail _ (.tail _ (.tail _ (.tail _ (.head _))))) (pk (.tail _ (.tail _ (.head _))) (pk (.tail _ (.head _)) pk0)))))⟩) (fun _ _ _ => .head _) (fun nx_ hbk_ w8 r c v_lower x_lower rest H hp hm => ?_) (fun w r c H hp hm => ?_)
    · obtain ⟨o_lower, o_told, o_due⟩ := r
      refine g_one' (fun v_lower => [some v_world, some v_upper, some v_great, some v_late, some v_far, some v_high, some v_marks, some v_lower, o_told, o_due]) (fun _ => rfl) hp (fun hp => ?_)
      refine s_seq ?_
      refine s_set (fun v_told => [some v_world, some v_upper, some v_great, some v_late, some v_far, some v_high, some v_marks, some v_lower, some v_told, o_due]) (fun _ => rfl) hp hx hm (EV.methX (f := "gap") (γ := (Str × Str × Unit)) (k := fun a_ g_ => m_World_gap a_ g_.1 g_.2.1) (EV.var rfl (.tail _ (.tail _ (.head _)))) (EA.cons (EV.var rfl (.tail _ (.tail _ (.tail _ (.head _))))) (EA.cons (EV.var rfl (.head _)) EA.nil)) (ct_World T) (fun _ => ⟨_, _, rfl, by decide⟩) (fun a_ x g_ vs H Q hl h => match vs, hl, h with | [v0, v1], _, h => ⟨a_, g_.1, g_.2.1, x, v0, v1, rfl, h⟩)) (fun x_told v_told H hp hm => ?_)
      refine s_seq ?_
      refine s_set (fun v_due => [some v_world, some v_upper, some v_great, some v_late, some v_far, some v_high, some v_marks, some v_lower, some v_told, some v_due]) (fun _ => rfl) hp hx hm (EV.ite (ET.test (EV.isNP (EV.var rfl (.head _)) EV.unit)) (EV.var rfl (.tail _ (.tail _ (.tail _ (.tail _ (.tail _ (.head _))))))) (EV.get (EV.var rfl (.head _)))) (fun x_due v_due H hp hm => ?_)
      refine s_if hp hx hm (ET.test (EV.neS (EV.subI (EV.ixDtP (EV.var rfl (.tail _ (.tail _ (.tail _ (.tail _ (.tail _ (.tail _ (.tail _ (.head _))))))))) (EV.var rfl (.tail _ (.tail _ (.tail _ (.tail _ (.tail _ (.head _)))))))) (EV.ixDtP (EV.var rfl (.tail _ (.tail _ (.tail _ (.tail _ (.tail _ (.tail _ (.tail _ (.head _))))))))) (EV.var rfl (.tail _ (.tail _ (.head _)))))) (EV.var rfl (.head _)))) (fun H hp hm => ?_) (fun H hp hm => ?_)
      · refine s_ret (α := Bool) hp hx hm EV.bl (fun a v H hp hm => hQ a v H hp.fin hm)
      · refine s_next ?_
        exact ⟨(some v_lower, some v_told, some v_due), (), rfl, (hp.less (pk (.tail _ (.tail _ (.tail _ (.head _)))) (pk (.tail _ (.tail _ (.tail _ (.tail _ (.head _))))) (pk (.tail _ (.tail _ (.tail _ (.tail _ (.tail _ (.head _)))))) (pk (.tail _ (.tail _ (.tail _ (.tail _ (.tail _ (.tail _ (.head _))))))) (pk (.tail _ (.tail _ (.tail _ (.tail _ (.tail _ (.tail _ (.tail _ (.head _)))))))) pk0)))))), hm⟩
    · obtain ⟨o_lower, o_told, o_due⟩ := r
      refine s_ret1 hp hx hm EV.bl (fun a v H hp hm => hQ a v H hp.fin hm)
noncomputable def m_law_never_more (x_world : Wld) (x_marks : (Dt Int)) : M Bool := mite (mb (mr x_marks) fun b => mb (mr x_world) fun a => mb (m_Worlddd__containsdd_ a b) fun r => mr (!r)) ((mr false)) (mb (m_law_seven) fun xs_ => mb (forR (ρ := Bool) xs_ () (fun x_upper c_ => (mb (m_law_seven) fun xs_ => mb (forR (ρ := Bool) xs_ () (fun x_lower c_ => (mb (mb (mr x_world) fun a_ => mb (mr (x_upper, (x_lower, ()))) fun g_ => m_World_gap a_ g_.1 g_.2.1) fun x_told => mite (mand (mr (x_told).isSome) (mb (mb (mdget x_marks x_upper) fun a => mb (mdget x_marks x_lower) fun b => mr (a - b)) fun a => mb (mget x_told) fun b => mr (decide (b < a)))) (mb (mr false) fun a => mr (Stp.ret a)) (mr (Stp.next ()))))) fun o_ => match o_ with | .inl c_ => (mr (Stp.next ())) | .inr r_ => mr (Stp.ret r_)))) fun o_ => match o_ with | .inl c_ => ((mr true)) | .inr r_ => mr r_)
def sp_law_never_more (K : PySem.W.Frag) (C : CT) : Sp := fun vs H Q E => ∃ (x_world : Wld) (x_marks : (Dt Int)) (v_world v_marks : V), vs = [v_world, v_marks] ∧ Call K C R0 [(v_world, enc x_world), (v_marks, enc x_marks)] (m_law_never_more x_world x_marks) H Q E
theorem ok_law_never_more (T : Txt P w K mg)  : FnOk P w K mg base (L2.CX P w) (5) T.a_law_never_more T.d_law_never_more ["world", "marks"] (sp_law_never_more K (ct T)) := by
  refine T.F_law_never_more.okX sc_law_never_more (fun vs H Q E h => by obtain ⟨_, _, _, _, rfl, _⟩ := h; rfl) (fun cdv A outer s H vs Q E hr h => ?_)
  have hu := hu_of hr
  have hu64 := hr.units
  refine ⟨_, (pss_cons (ps_if (pt_cmpS (op_ownNotInR T.om_Worlddd__containsdd_ (ok_Worlddd__containsdd_ T) (hr.mono (by first | decide | omega)) T.b_Worlddd__containsdd_ (passAll pass0)) (pv 1) (pv 0) (by rfl)) (pss_one (ps_ret pe_bl)) pss_nil)
      (pss_cons (ps_for (passes_of rfl) rfl (pi_list (pe_call0 (ok_law_seven T) (hr.mono (by first | decide | omega)) (by rfl) T.m_law_seven T.F_law_seven.kp T.b_law_seven .nil pass0)) (pg_name (i := 2) sc_law_never_more.nd rfl (by first | exact Or.inl rfl | exact Or.inr rfl))
      (pss_one (ps_for (passes_of rfl) rfl (pi_list (pe_call0 (ok_law_seven T) (hr.mono (by first | decide | omega)) (by rfl) T.m_law_seven T.F_law_seven.kp T.b_law_seven .nil pass0)) (pg_name (i := 3) sc_law_never_more.nd rfl (by first | exact Or.inl rfl | exact Or.inr rfl))
      (pss_cons (ps_set (i := 4) sc_law_never_more.nd rfl (by first | exact Or.inl rfl | exact Or.inr rfl) (pe_meth (pv 0) T.cl_World T.me_World_gap (ok_World_gap T) (hr.mono (by first | decide | omega)) T.b_World_gap .nil (passes_call (takes_of rfl rfl rfl rfl) (fun _ _ _ _ h => h)) (pa_cons (pv 2) (pa_cons (pv 3) pa_nil))))
      (pss_one (ps_if (PW.pt (pw_and (pt_cmpR op_notNA (pv 4) pe_non (nomark _)) (pw_and1 (pt_cmpR op_gt (pe_op op_sub (pe_ix (ix_any hu) (pv 1) (pv 2) (fun _ _ => rfl)) (pe_ix (ix_any hu) (pv 1) (pv 3) (fun _ _ => rfl))) (pv 4) (nomark _))))) (pss_one (ps_ret pe_bl)) pss_nil))))))
      (pss_one (ps_ret pe_bl)))), ?_⟩
  obtain ⟨x_world, x_marks, v_world, v_marks, rfl, G0, F0, post, px, hp, hm, hx, hQ⟩ := h
  walk_at "start"
  unfold m_law_never_more at hm
  refine s_seq ?_
  refine s_if hp hx hm (ET.test (EV.ownNin (k := fun a b => m_Worlddd__containsdd_ a b) (EV.var rfl (.tail _ (.head _))) (EV.var rfl (.head _)) (ct_World T) (fun _ => ⟨_, _, rfl⟩) (fun a b x y H Q h => ⟨a, b, x, y, rfl, h⟩))) (fun H hp hm => ?_) (fun H hp hm => ?_)
  · refine s_ret1 hp hx hm EV.bl (fun a v H hp hm => hQ a v H hp.fin hm)
  · refine s_next ?_
    refine s_seq ?_
    refine s_for (γ := Unit) (ι := (Option V × Option V × Option V)) (ρ' := Bool) hp hx hm (EI.list (EV.callNP EA.nil (hcN0 fun  H Q h => ⟨rfl, h⟩))) (fun r c => [some v_world, some v_marks, r.1, r.2.1, r.2.2]) (fun w3 r c => [w3, (v_world, enc x_world), (v_marks, enc x_marks)]) (fun r c => ([] : List (Addr × Mi.D))) (fun w H hp => ⟨(none, none, none), rfl, hp.less (pk (.head _) (pk (.tail _ (.head _)) (pk (.tail _ (.tail _ (.head _))) pk0)))⟩) (fun _ _ _ => .head _) (fun nx_ hbk_ w3 r c v_upper x_upper rest H hp hm => ?_) (fun w r c H hp hm => ?_)
    · obtain ⟨o_upper, o_lower, o_told⟩ := r
      refine g_one' (fun v_upper => [some v_world, some v_marks, some v_upper, o_lower, o_told]) (fun _ => rfl) hp (fun hp => ?_)
      refine s_for (γ := Unit) (ι := (Option V × Option V)) (ρ' := Bool) hp hx hm (EI.list (EV.callNP EA.nil (hcN0 fun  H Q h => ⟨rfl, h⟩))) (fun r c => [some v_world, some v_marks, some v_upper, r.1, r.2]) (fun w6 r c => [w6, (v_world, enc x_world), (v_marks, enc x_marks), (v_upper, enc x_upper), w3]) (fun r c => ([] : List (Addr × Mi.D))) (fun w H hp => ⟨(o_lower, o_told), rfl, hp.less (pk (.head _) (pk (.tail _ (.tail _ (.tail _ (.head _)))) (pk (.tail _ (.tail _ (.tail _ (.tail _ (.head _))))) (pk (.tail _ (.head _)) (pk (.tail _ (.tail _ (.head _))) pk0)))))⟩) (fun _ _ _ => .head _) (fun nx_ hbk_ w6 r c v_lower x_lower rest H hp hm => ?_) (fun w r c H hp hm => ?_)
      · obtain ⟨o_lower, o_told⟩ := r
        refine g_one' (fun v_lower => [some v_world, some v_marks, some v_upper, some v_lower, o_told]) (fun _ => rfl) hp (fun hp => ?_)
        refine s_seq ?_
        refine s_set (fun v_told => [some v_world, some v_marks, some v_upper, some v_lower, some v_told]) (fun _ => rfl) hp hx hm (EV.methX (f := "gap") (γ := (Str × Str × Unit)) (k := fun a_ g_ => m_World_gap a_ g_.1 g_.2.1) (EV.var rfl (.tail _ (.tail _ (.head _)))) (EA.cons (EV.var rfl (.tail _ (.tail _ (.tail _ (.tail _ (.head _)))))) (EA.cons (EV.var rfl (.head _)) EA.nil)) (ct_World T) (fun _ => ⟨_, _, rfl, by decide⟩) (fun a_ x g_ vs H Q hl h => match vs, hl, h with | [v0, v1], _, h => ⟨a_, g_.1, g_.2.1, x, v0, v1, rfl, h⟩)) (fun x_told v_told H hp hm => ?_)
        refine s_if hp hx hm (ET.and (ET.test (EV.notNP (EV.var rfl (.head _)) EV.unit)) (ET.test (EV.gtI (EV.subI (EV.ixDtP (EV.var rfl (.tail _ (.tail _ (.tail _ (.tail _ (.head _)))))) (EV.var rfl (.tail _ (.tail _ (.tail _ (.tail _ (.tail _ (.head _)))))))) (EV.ixDtP (EV.var rfl (.tail _ (.tail _ (.tail _ (.tail _ (.head _)))))) (EV.var rfl (.tail _ (.head _))))) (EV.get (EV.var rfl (.head _)))))) (fun H hp hm => ?_) (fun H hp hm => ?_)
        · refine s_ret (α := Bool) hp hx hm EV.bl (fun a v H hp hm => hQ a v H hp.fin hm)
        · refine s_next ?_
          exact ⟨(some v_lower, some v_told), (), rfl, (hp.less (pk (.tail _ (.tail _ (.head _))) (pk (.tail _ (.tail _ (.tail _ (.head _)))) (pk (.tail _ (.tail _ (.tail _ (.tail _ (.head _))))) (pk (.tail _ (.tail _ (.tail _ (.tail _ (.tail _ (.head _)))))) (pk (.tail _ (.tail _ (.tail _ (.tail _ (.tail _ (.tail _ (.head _))))))) pk0)))))), hm⟩
      · obtain ⟨o_lower, o_told⟩ := r
        exact ⟨(some v_upper, o_lower, o_told), (), rfl, (hp.less (pk (.tail _ (.tail _ (.tail _ (.tail _ (.head _))))) (pk (.tail _ (.head _)) (pk (.tail _ (.tail _ (.head _))) pk0)))), hm⟩
    · obtain ⟨o_upper, o_lower, o_told⟩ := r
      refine s_ret1 hp hx hm EV.bl (fun a v H hp hm => hQ a v H hp.fin hm)
noncomputable def m_law : M Bool := mb (m_law_bound (49 : Int)) fun x_late => mb (m_law_bound (49 : Int)) fun x_far => mb (m_law_bound (49 : Int)) fun x_later => mb (m_law_bound (49 : Int)) fun x_farther => mb (mb (mr (100 : Int)) fun a => mb (m_law_draw (1000000000000000000000000000000 : Int)) fun b => mr (a + b)) fun x_great => mb (m_World_init x_late x_far) fun x_world => mb (m_World_init x_later x_farther) fun x_other => mb (m_law_seven) fun xs_ => mb (forR (ρ := Bool) xs_ () (fun x_upper c_ => (mb (m_law_seven) fun xs_ => mb (forR (ρ := Bool) xs_ () (fun x_lower c_ => (mite (mb (mb (mb (mb (mb (mr x_world) fun a_ => mb (mr (x_upper, (x_lower, ()))) fun g_ => mno (m_World_gap a_ g_.1 g_.2.1)) fun a => mr (enc a : Mi.D)) fun a => mb (mb (mb (m_law_gap x_upper x_lower x_late x_far) fun a => mr (enc a : Mi.D)) fun a => mb (mr ()) fun g => mr (a, g)) fun g => mr (a, g)) fun g_ => (m_law_same g_.1 g_.2.1)) fun a => mr (!a)) (mb (mr false) fun a => mr (Stp.ret a)) (mite (mb (mb (mb (mb (mb (mr x_other) fun a_ => mb (mr (x_upper, (x_lower, ()))) fun g_ => mno (m_World_gap a_ g_.1 g_.2.1)) fun a => mr (enc a : Mi.D)) fun a => mb (mb (mb (m_law_gap x_upper x_lower x_later x_farther) fun a => mr (enc a : Mi.D)) fun a => mb (mr ()) fun g => mr (a, g)) fun g => mr (a, g)) fun g_ => (m_law_same g_.1 g_.2.1)) fun a => mr (!a)) (mb (mr false) fun a => mr (Stp.ret a)) (mr (Stp.next ())))))) fun o_ => match o_ with | .inl c_ => (mr (Stp.next ())) | .inr r_ => mr (Stp.ret r_)))) fun o_ => match o_ with | .inl c_ => (mb (m_law_seven) fun xs_ => mb (forR (ρ := Bool) xs_ () (fun x_upper c_ => (mite (mb (mno (m_law_attained x_world x_upper x_great x_late x_far)) fun a => mr (!a)) (mb (mr false) fun a => mr (Stp.ret a)) (mr (Stp.next ()))))) fun o_ => match o_ with | .inl c_ => (mb (mrange 0 (6 : Int)) fun xs_ => mb (forR (ρ := Bool) xs_ () (fun x_k c_ => (mite (mb (mb (mb (mr x_world) fun a => mb (mb (m_law_ladder x_late x_far) fun a => mb (mr ()) fun g => mr (a, g)) fun g => mr (a, g)) fun g_ => (mno (m_law_never_more g_.1 g_.2.1))) fun a => mr (!a)) (mb (mr false) fun a => mr (Stp.ret a)) (mr (Stp.next ()))))) fun o_ => match o_ with | .inl c_ => (mb (m_law_stranger) fun x_first => mb (m_law_stranger) fun x_second => mb (mb (m_law_seven) fun a => mb (m_law_draw (7 : Int)) fun b => mix a b) fun x_mark => mb (mb (mb (mr x_world) fun a => mb (mb (mr x_other) fun a => mb (mb (mb (mr ()) fun g_ => m_World_wide) fun a => mb (mr ()) fun g => mr (a, g)) fun g => mr (a, g)) fun g => mr (a, g)) fun g_ => mr ([g_.1, g_.2.1, g_.2.2.1] : (List Wld))) fun xs_ => mb (forR (ρ := Bool) xs_ () (fun x_one c_ => (mite (mor (mb (mb (mb (m_law_refused x_one x_first x_mark) fun a => mb (mb (mr (enc x_first : Mi.D)) fun a => mb (mr ()) fun g => mr (a, g)) fun g => mr (a, g)) fun g_ => (m_law_same g_.1 g_.2.1)) fun a => mr (!a)) (mb (mb (mb (m_law_refused x_one x_first x_second) fun a => mb (mb (mr (enc x_first : Mi.D)) fun a => mb (mr ()) fun g => mr (a, g)) fun g => mr (a, g)) fun g_ => (m_law_same g_.1 g_.2.1)) fun a => mr (!a))) (mb (mr false) fun a => mr (Stp.ret a)) (mite (mb (mb (mb (m_law_refused x_one x_mark x_second) fun a => mb (mb (mr (enc x_second : Mi.D)) fun a => mb (mr ()) fun g => mr (a, g)) fun g => mr (a, g)) fun g_ => (m_law_same g_.1 g_.2.1)) fun a => mr (!a)) (mb (mr false) fun a => mr (Stp.ret a)) (mr (Stp.next ())))))) fun o_ => match o_ with | .inl c_ => ((mb (mb (mb (mb (mr x_world) fun a_ => mb (mr (("end" : Str), (x_mark, ()))) fun g_ => mno (m_World_gap a_ g_.1 g_.2.1)) fun a => mr (enc a : Mi.D)) fun a => mb (mb (mb (m_law_gap ("end" : Str) x_mark x_late x_far) fun a => mr (enc a : Mi.D)) fun a => mb (mr ()) fun g => mr (a, g)) fun g => mr (a, g)) fun g_ => (m_law_same g_.1 g_.2.1))) | .inr r_ => mr r_) | .inr r_ => mr r_) | .inr r_ => mr r_) | .inr r_ => mr r_
def gp (lag len : Option Int) (u l : Str) : Option Int :=
  if bl u l = true then some 0 else if l = "done" then lag else if l = "owed" then (if u = "done" then len else (match lag, len with | some a, some b => some (a + b) | _, _ => none)) else none
def tle (lag len : Option Int) (a b : Tm) : Bool := decide (a.1 = "zero") || (match gp lag len a.1 b.1 with | some g => decide (g ≤ a.2 - b.2) | none => false)
def cle (lag len : Option Int) (a b : List Tm) : Bool := b.all fun u => a.any fun l => tle lag len l u
def rle (lag len : Option Int) (A B : List (List Tm)) : Bool := A.all fun a => B.any fun b => cle lag len a b
theorem gap_ok {u l : Str} {lag len : Option Int} (h : u ∈ l_MARKS) : Ret (m_mark_gap u l lag len) (gp lag len u l) := by
  unfold m_mark_gap gp
  refine .ite' (stands_ok h) (fun _ => .r) fun _ => ?_
  refine .of (.ite' (c := decide (l = "done")) .r (fun _ => .r) fun _ => .ite' (c := decide (l = "owed")) .r (fun _ => .ite' (c := decide (u = "done")) .r (fun _ => .r) fun _ => (show Ret _ (match lag, len with | some a, some b => some (a + b) | _, _ => none) from ?_)) fun _ => .r) ?_
  · unfold m_sum_of
    simp only [mb_mr, mb_mb]
    cases lag with
    | none => exact .iteT .r .r
    | some a =>
      cases len with
      | none => exact .iteT .r .r
      | some b => exact .iteF .r (.b (b := a) .r (.b (b := b) .r .r))
  · simp only [decide_eq_true_eq]
/-! gaps -/
def gc (u l : Str) : Option (Nat × Nat) := if bl u l = true then some (0, 0) else if l = "done" then some (1, 0) else if l = "owed" then (if u = "done" then some (0, 1) else some (1, 1)) else none
def wt (lag len : Option Int) (c : Nat × Nat) : Option Int := match c with
  | (0, 0) => some 0
  | (1, 0) => lag
  | (0, 1) => len
  | _ => match lag, len with | some a, some b => some (a + b) | _, _ => none
theorem gp_gc (lag len : Option Int) (u l : Str) : gp lag len u l = (gc u l).bind (wt lag len) := by
  unfold gp gc
  by_cases h1 : bl u l = true
  · rw [if_pos h1, if_pos h1]; rfl
  · rw [if_neg h1, if_neg h1]
    by_cases h2 : l = "done"
    · rw [if_pos h2, if_pos h2]; rfl
    · rw [if_neg h2, if_neg h2]
      by_cases h3 : l = "owed"
      · rw [if_pos h3, if_pos h3]
        by_cases h4 : u = "done"
        · rw [if_pos h4, if_pos h4]; rfl
        · rw [if_neg h4, if_neg h4]; rfl
      · rw [if_neg h3, if_neg h3]; rfl
theorem gc_tri : ∀ a ∈ l_MARKS, ∀ b ∈ l_MARKS, ∀ c ∈ l_MARKS, (match gc a b, gc b c, gc a c with
  | some x, some y, some z => decide (z.1 ≤ x.1 + y.1) && decide (z.2 ≤ x.2 + y.2)
  | some _, some _, none => false
  | _, _, _ => true) = true := by decide +kernel
theorem gc_01 : ∀ a ∈ l_MARKS, ∀ b ∈ l_MARKS, (match gc a b with | some (0, 0) | some (1, 0) | some (0, 1) | some (1, 1) | none => true | _ => false) = true := by decide +kernel
theorem gc_self : ∀ a ∈ l_MARKS, gc a a = some (0, 0) := by decide +kernel
theorem bl_self : ∀ a ∈ l_MARKS, bl a a = true := by decide +kernel
theorem bl_anti : ∀ a ∈ l_MARKS, ∀ b ∈ l_MARKS, bl a b = true → bl b a = true → a = b := by decide +kernel
theorem gc_zero : ∀ a ∈ l_MARKS, a ≠ "zero" → gc a "zero" = none := by decide +kernel
theorem zero_mem : ("zero" : Str) ∈ l_MARKS := by decide +kernel
/-- lag and length are no less than 0 -/
def NN (o : Option Int) : Prop := ∀ x, o = some x → 0 ≤ x
theorem wt_nn {lag len : Option Int} (h1 : NN lag) (h2 : NN len) {c : Nat × Nat} {x : Int} (h : wt lag len c = some x) : 0 ≤ x := by
  unfold wt at h
  split at h
  · cases h; decide
  · exact h1 x h
  · exact h2 x h
  · cases lag with
    | none => cases h
    | some a => cases len with
      | none => cases h
      | some b => cases h; have := h1 a rfl; have := h2 b rfl; omega
theorem gp_nn {lag len : Option Int} (h1 : NN lag) (h2 : NN len) {u l : Str} {x : Int} (h : gp lag len u l = some x) : 0 ≤ x := by
  rw [gp_gc] at h
  cases e : gc u l with
  | none => rw [e] at h; cases h
  | some c => rw [e] at h; exact wt_nn h1 h2 h
theorem gp_tri {lag len : Option Int} (h1 : NN lag) (h2 : NN len) {a b c : Str} (ha : a ∈ l_MARKS) (hb : b ∈ l_MARKS) (hc : c ∈ l_MARKS) {x y : Int} (e1 : gp lag len a b = some x) (e2 : gp lag len b c = some y) : ∃ z, gp lag len a c = some z ∧ z ≤ x + y := by
  have t := gc_tri a ha b hb c hc
  have k1 := gc_01 a ha b hb
  have k2 := gc_01 b hb c hc
  have k3 := gc_01 a ha c hc
  rw [gp_gc] at e1 e2 ⊢
  cases q1 : gc a b with
  | none => rw [q1] at e1; cases e1
  | some c1 =>
    cases q2 : gc b c with
    | none => rw [q2] at e2; cases e2
    | some c2 =>
      cases q3 : gc a c with
      | none => rw [q1, q2, q3] at t; cases t
      | some c3 =>
        rw [q1] at e1 k1
        rw [q2] at e2 k2
        rw [q3] at k3
        rw [q1, q2, q3] at t
        obtain ⟨p1, r1⟩ := c1
        obtain ⟨p2, r2⟩ := c2
        obtain ⟨p3, r3⟩ := c3
        simp only [Bool.and_eq_true, decide_eq_true_eq] at t
        have z1 : (p1 = 0 ∨ p1 = 1) ∧ (r1 = 0 ∨ r1 = 1) := by
          rcases p1 with _ | _ | p1 <;> rcases r1 with _ | _ | r1 <;> first | exact ⟨by omega, by omega⟩ | cases k1
        have z2 : (p2 = 0 ∨ p2 = 1) ∧ (r2 = 0 ∨ r2 = 1) := by
          rcases p2 with _ | _ | p1 <;> rcases r2 with _ | _ | r1 <;> first | exact ⟨by omega, by omega⟩ | cases k2
        have z3 : (p3 = 0 ∨ p3 = 1) ∧ (r3 = 0 ∨ r3 = 1) := by
          rcases p3 with _ | _ | p1 <;> rcases r3 with _ | _ | r1 <;> first | exact ⟨by omega, by omega⟩ | cases k3
        have e1 : wt lag len (p1, r1) = some x := e1
        have e2 : wt lag len (p2, r2) = some y := e2
        show ∃ z, wt lag len (p3, r3) = some z ∧ z ≤ x + y
        have W : ∀ p r (x : Int), (p = 0 ∨ p = 1) ∧ (r = 0 ∨ r = 1) → wt lag len (p, r) = some x → (p = 1 → ∃ a, lag = some a) ∧ (r = 1 → ∃ b, len = some b) ∧ (∀ a b, (p = 1 → lag = some a) → (r = 1 → len = some b) → x = p * a + r * b) := by
          rintro p r x ⟨rfl | rfl, rfl | rfl⟩ h
          · cases h; exact ⟨fun h => (by cases h), fun h => (by cases h), fun a b _ _ => by omega⟩
          · exact ⟨fun h => (by cases h), fun _ => ⟨x, h⟩, fun a b _ q => by rw [show len = some x from h] at q; cases q rfl; omega⟩
          · exact ⟨fun _ => ⟨x, h⟩, fun h => (by cases h), fun a b q _ => by rw [show lag = some x from h] at q; cases q rfl; omega⟩
          · cases lag with
            | none => cases h
            | some a =>
              cases len with
              | none => cases h
              | some b => cases h; exact ⟨fun _ => ⟨a, rfl⟩, fun _ => ⟨b, rfl⟩, fun c d q1 q2 => by cases q1 rfl; cases q2 rfl; omega⟩
        have V : ∀ p r (a b : Int), (p = 0 ∨ p = 1) ∧ (r = 0 ∨ r = 1) → (p = 1 → lag = some a) → (r = 1 → len = some b) → wt lag len (p, r) = some (p * a + r * b) := by
          rintro p r a b ⟨rfl | rfl, rfl | rfl⟩ h h'
          · show some (0 : Int) = some _; simp
          · show len = _; rw [h' rfl]; simp
          · show lag = _; rw [h rfl]; simp
          · show (match lag, len with | some a, some b => some (a + b) | _, _ => none) = _
            rw [h rfl, h' rfl]; simp
        obtain ⟨w1, w2, w3⟩ := W _ _ _ z1 e1
        obtain ⟨w4, w5, w6⟩ := W _ _ _ z2 e2
        have A : ∃ a : Int, (p1 = 1 → lag = some a) ∧ (p2 = 1 → lag = some a) ∧ (p3 = 1 → lag = some a) ∧ ((p1 = 1 ∨ p2 = 1) → 0 ≤ a) := by
          cases lag with
          | none => exact ⟨0, fun h => absurd (w1 h) (by simp), fun h => absurd (w4 h) (by simp), fun h => by
              have : p1 = 1 ∨ p2 = 1 := by omega
              rcases this with h | h
              · exact absurd (w1 h) (by simp)
              · exact absurd (w4 h) (by simp), fun _ => Int.le_refl _⟩
          | some a => exact ⟨a, fun _ => rfl, fun _ => rfl, fun _ => rfl, fun _ => h1 a rfl⟩
        have B : ∃ a : Int, (r1 = 1 → len = some a) ∧ (r2 = 1 → len = some a) ∧ (r3 = 1 → len = some a) ∧ ((r1 = 1 ∨ r2 = 1) → 0 ≤ a) := by
          cases len with
          | none => exact ⟨0, fun h => absurd (w2 h) (by simp), fun h => absurd (w5 h) (by simp), fun h => by
              have : r1 = 1 ∨ r2 = 1 := by omega
              rcases this with h | h
              · exact absurd (w2 h) (by simp)
              · exact absurd (w5 h) (by simp), fun _ => Int.le_refl _⟩
          | some a => exact ⟨a, fun _ => rfl, fun _ => rfl, fun _ => rfl, fun _ => h2 a rfl⟩
        obtain ⟨a, a1, a2, a3, a4⟩ := A
        obtain ⟨b, b1, b2, b3, b4⟩ := B
        have x1 := w3 a b a1 b1
        have y1 := w6 a b a2 b2
        refine ⟨_, V _ _ a b z3 a3 b3, ?_⟩
        rw [x1, y1]
        obtain ⟨rfl | rfl, rfl | rfl⟩ := z1 <;> obtain ⟨rfl | rfl, rfl | rfl⟩ := z2 <;> obtain ⟨rfl | rfl, rfl | rfl⟩ := z3 <;> simp at a4 b4 t ⊢ <;> omega
/-! the order of terms and clauses -/
section
variable {lag len : Option Int}
def In7 (c : List Tm) : Prop := ∀ t ∈ c, t.1 ∈ l_MARKS
theorem tle_refl {t : Tm} (h : t.1 ∈ l_MARKS) : tle lag len t t = true := by
  unfold tle
  rw [gp_gc, gc_self _ h]
  show (_ || decide ((0 : Int) ≤ t.2 - t.2)) = true
  rw [decide_eq_true (show (0 : Int) ≤ t.2 - t.2 by omega)]
  simp
theorem tle_iff {a b : Tm} : tle lag len a b = true ↔ a.1 = "zero" ∨ ∃ g, gp lag len a.1 b.1 = some g ∧ g ≤ a.2 - b.2 := by
  unfold tle
  rw [Bool.or_eq_true, decide_eq_true_eq]
  cases gp lag len a.1 b.1 with
  | none => simp
  | some g => simp
theorem tle_trans (h1 : NN lag) (h2 : NN len) {a b c : Tm} (ha : a.1 ∈ l_MARKS) (hb : b.1 ∈ l_MARKS) (hc : c.1 ∈ l_MARKS) (e1 : tle lag len a b = true) (e2 : tle lag len b c = true) : tle lag len a c = true := by
  rw [tle_iff] at *
  rcases e1 with e1 | ⟨g, e1, l1⟩
  · exact .inl e1
  · rcases e2 with e2 | ⟨g', e2, l2⟩
    · by_cases z : a.1 = "zero"
      · exact .inl z
      · rw [e2, gp_gc, gc_zero _ ha z] at e1; cases e1
    · obtain ⟨z, e3, l3⟩ := gp_tri h1 h2 ha hb hc e1 e2
      exact .inr ⟨z, e3, by omega⟩
theorem cle_iff {a b : List Tm} : cle lag len a b = true ↔ ∀ u ∈ b, ∃ l ∈ a, tle lag len l u = true := by
  unfold cle
  simp only [List.all_eq_true, List.any_eq_true]
theorem rle_iff {A B : List (List Tm)} : rle lag len A B = true ↔ ∀ a ∈ A, ∃ b ∈ B, cle lag len a b = true := by
  unfold rle
  simp only [List.all_eq_true, List.any_eq_true]
theorem cle_refl {a : List Tm} (h : In7 a) : cle lag len a a = true := cle_iff.mpr fun u hu => ⟨u, hu, tle_refl (h u hu)⟩
theorem cle_trans (h1 : NN lag) (h2 : NN len) {a b c : List Tm} (ha : In7 a) (hb : In7 b) (hc : In7 c) (e1 : cle lag len a b = true) (e2 : cle lag len b c = true) : cle lag len a c = true := by
  rw [cle_iff] at *
  intro u hu
  obtain ⟨l, hl, k1⟩ := e2 u hu
  obtain ⟨m, hm, k2⟩ := e1 l hl
  exact ⟨m, hm, tle_trans h1 h2 (ha m hm) (hb l hl) (hc u hu) k2 k1⟩
def Is7 (A : List (List Tm)) : Prop := ∀ c ∈ A, In7 c
theorem rle_refl {A : List (List Tm)} (h : Is7 A) : rle lag len A A = true := rle_iff.mpr fun u hu => ⟨u, hu, cle_refl (h u hu)⟩
theorem rle_trans (h1 : NN lag) (h2 : NN len) {A B C : List (List Tm)} (ha : Is7 A) (hb : Is7 B) (hc : Is7 C) (e1 : rle lag len A B = true) (e2 : rle lag len B C = true) : rle lag len A C = true := by
  rw [rle_iff] at *
  intro a h
  obtain ⟨b, hb', k1⟩ := e1 a h
  obtain ⟨c, hc', k2⟩ := e2 b hb'
  exact ⟨c, hc', cle_trans h1 h2 (ha a h) (hb b hb') (hc c hc') k1 k2⟩
/-! values -/
def tv (v : Str → Int) (t : Tm) : Int := if t.1 = "zero" then 0 else if v t.1 > t.2 then v t.1 - t.2 else 0
def Cmin (v : Str → Int) (c : List Tm) (n : Int) : Prop := (∃ t ∈ c, tv v t = n) ∧ ∀ t ∈ c, n ≤ tv v t
def Rmax (v : Str → Int) (A : List (List Tm)) (n : Int) : Prop := (∃ c ∈ A, Cmin v c n) ∧ ∀ c ∈ A, ∀ m, Cmin v c m → m ≤ n
structure Wv (lag len : Option Int) (v : Str → Int) : Prop where
  z : v "zero" = 0
  p : ∀ m ∈ l_MARKS, 0 ≤ v m
  g : ∀ u ∈ l_MARKS, ∀ l ∈ l_MARKS, ∀ x, gp lag len u l = some x → v u - v l ≤ x
theorem tv_nn (v : Str → Int) (t : Tm) : 0 ≤ tv v t := by
  unfold tv
  split
  · exact Int.le_refl _
  · split <;> omega
theorem tle_sound {v : Str → Int} (w : Wv lag len v) {a b : Tm} (ha : a.1 ∈ l_MARKS) (hb : b.1 ∈ l_MARKS) (e : tle lag len a b = true) : tv v a ≤ tv v b := by
  rcases tle_iff.mp e with e | ⟨g, e, l⟩
  · rw [show tv v a = 0 by unfold tv; rw [if_pos e]]; exact tv_nn v b
  · have h := w.g _ ha _ hb g e
    have hb0 := tv_nn v b
    unfold tv at hb0 ⊢
    by_cases z : a.1 = "zero"
    · rw [if_pos z]; exact hb0
    · rw [if_neg z]
      by_cases z2 : b.1 = "zero"
      · rw [z2, gp_gc, gc_zero _ ha z] at e; cases e
      · rw [if_neg z2] at hb0 ⊢
        split <;> split <;> omega
theorem cle_sound {v : Str → Int} (w : Wv lag len v) {a b : List Tm} (ha : In7 a) (hb : In7 b) (e : cle lag len a b = true) {m n : Int} (hm : Cmin v a m) (hn : Cmin v b n) : m ≤ n := by
  obtain ⟨⟨u, hu, rfl⟩, _⟩ := hn
  obtain ⟨l, hl, k⟩ := cle_iff.mp e u hu
  exact Int.le_trans (hm.2 l hl) (tle_sound w (ha l hl) (hb u hu) k)
theorem cmin_ex (v : Str → Int) {c : List Tm} (h : c ≠ []) : ∃ n, Cmin v c n := by
  induction c with
  | nil => exact absurd rfl h
  | cons t c ih =>
    by_cases z : c = []
    · subst z
      exact ⟨tv v t, ⟨t, List.mem_cons_self, rfl⟩, fun s hs => by rw [List.mem_singleton.mp hs]; exact Int.le_refl _⟩
    · obtain ⟨n, ⟨s, hs, e⟩, k⟩ := ih z
      by_cases q : tv v t ≤ n
      · exact ⟨tv v t, ⟨t, List.mem_cons_self, rfl⟩, fun r hr => by
          rcases List.mem_cons.mp hr with rfl | hr
          · exact Int.le_refl _
          · have := k r hr; omega⟩
      · exact ⟨n, ⟨s, List.mem_cons_of_mem _ hs, e⟩, fun r hr => by
          rcases List.mem_cons.mp hr with rfl | hr
          · omega
          · exact k r hr⟩
theorem cmin_uniq {v : Str → Int} {c : List Tm} {m n : Int} (h : Cmin v c m) (k : Cmin v c n) : m = n := by
  obtain ⟨⟨s, hs, e⟩, h2⟩ := h
  obtain ⟨⟨r, hr, e'⟩, k2⟩ := k
  have := h2 r hr
  have := k2 s hs
  omega
theorem rle_sound {v : Str → Int} (w : Wv lag len v) {A B : List (List Tm)} (ha : Is7 A) (hb : Is7 B) (nb : ∀ c ∈ B, c ≠ []) (e : rle lag len A B = true) {m n : Int} (hm : Rmax v A m) (hn : Rmax v B n) : m ≤ n := by
  obtain ⟨⟨c, hc, k⟩, _⟩ := hm
  obtain ⟨d, hd, l⟩ := rle_iff.mp e c hc
  obtain ⟨p, hp⟩ := cmin_ex v (nb d hd)
  exact Int.le_trans (cle_sound w (ha c hc) (hb d hd) l k hp) (hn.2 d hd p hp)
theorem rmax_ex (v : Str → Int) {A : List (List Tm)} (h : A ≠ []) (hn : ∀ c ∈ A, c ≠ []) : ∃ n, Rmax v A n := by
  induction A with
  | nil => exact absurd rfl h
  | cons a A ih =>
    obtain ⟨n, hn'⟩ := cmin_ex v (hn a List.mem_cons_self)
    by_cases z : A = []
    · subst z
      exact ⟨n, ⟨a, List.mem_cons_self, hn'⟩, fun c hc m hm => by rw [List.mem_singleton.mp hc] at hm; rw [cmin_uniq hm hn']; exact Int.le_refl _⟩
    · obtain ⟨p, ⟨c, hc, k⟩, q⟩ := ih z fun c hc => hn c (List.mem_cons_of_mem _ hc)
      by_cases l : n ≤ p
      · exact ⟨p, ⟨c, List.mem_cons_of_mem _ hc, k⟩, fun d hd m hm => by
          rcases List.mem_cons.mp hd with rfl | hd
          · rw [cmin_uniq hm hn']; exact l
          · exact q d hd m hm⟩
      · exact ⟨n, ⟨a, List.mem_cons_self, hn'⟩, fun d hd m hm => by
          rcases List.mem_cons.mp hd with rfl | hd
          · rw [cmin_uniq hm hn']; exact Int.le_refl _
          · have := q d hd m hm; omega⟩
theorem rmax_uniq {v : Str → Int} {A : List (List Tm)} {m n : Int} (h : Rmax v A m) (k : Rmax v A n) : m = n := by
  obtain ⟨⟨c, hc, e⟩, h2⟩ := h
  obtain ⟨⟨d, hd, e'⟩, k2⟩ := k
  have := h2 d hd _ e'
  have := k2 c hc _ e
  omega
end
theorem nn0 : NN none := fun _ h => by cases h
def Mk (d : Dt Int) (v : Str → Int) : Prop := ∀ m ∈ l_MARKS, d.l.lookup m = some (v m)
theorem Mk.get {d : Dt Int} {v : Str → Int} (h : Mk d v) {m : Str} (hm : m ∈ l_MARKS) : Ret (mdget d m) (v m) := by
  unfold mdget
  rw [h m hm]; exact .r
/-! the law's own words about marks -/
def und (a b : Str) : Bool := if decide (a ∈ (["zero", "calm", "owed", "done", "end"] : List Str)) && decide (b ∈ (["zero", "calm", "owed", "done", "end"] : List Str)) then decide ((["zero", "calm", "owed", "done", "end"] : List Str).idxOf a ≤ (["zero", "calm", "owed", "done", "end"] : List Str).idxOf b) else if decide (a ∈ (["zero", "own", "got", "end"] : List Str)) && decide (b ∈ (["zero", "own", "got", "end"] : List Str)) then decide ((["zero", "own", "got", "end"] : List Str).idxOf a ≤ (["zero", "own", "got", "end"] : List Str).idxOf b) else false
theorem und_bl : ∀ a ∈ l_MARKS, ∀ b ∈ l_MARKS, und a b = bl a b := by decide +kernel
theorem under_ok {a b : Str} (ha : a ∈ l_MARKS) (hb : b ∈ l_MARKS) : Ret (m_law_under a b) (bl a b) := by
  rw [← und_bl a ha b hb]
  unfold m_law_under und
  simp only [mb_mr, mb_mb]
  have idx : ∀ (l : List Str), (decide (a ∈ l) && decide (b ∈ l)) = true → Ret (mb (midx l a) fun x => mb (midx l b) fun y => mr (decide (x ≤ y))) (decide (l.idxOf a ≤ l.idxOf b)) := fun l h => by
    simp only [Bool.and_eq_true, decide_eq_true_eq] at h
    refine .b (b := (l.idxOf a : Int)) (.req h.1 .r) (.b (b := (l.idxOf b : Int)) (.req h.2 .r) (.of .r ?_))
    by_cases z : l.idxOf a ≤ l.idxOf b
    · rw [decide_eq_true z, decide_eq_true (Int.ofNat_le.mpr z)]
    · rw [decide_eq_false z, decide_eq_false (fun q => z (Int.ofNat_le.mp q))]
  exact .ite' .r (fun h => idx _ h) fun _ => .ite' .r (fun h => idx _ h) fun _ => .r
theorem lgap_ok {u l : Str} {late far : Option Int} (hu : u ∈ l_MARKS) (hl : l ∈ l_MARKS) : Ret (m_law_gap u l late far) (gp late far u l) := by
  unfold m_law_gap gp
  simp only [mb_mr, mb_mb]
  refine .ite' (under_ok hu hl) (fun _ => .r) fun _ => ?_
  refine .of (.ite' (c := decide (l = "done")) .r (fun _ => .r) fun _ => .ite' (c := decide (l = "owed") && decide (u = "done")) .r (fun _ => .r) fun _ => .ite' (a := match late, far with | some a, some b => some (a + b) | _, _ => none) (c := decide (l = "owed") && (late.isSome && far.isSome)) .r (fun h => ?_) (fun _ => .r)) ?_
  · simp only [Bool.and_eq_true] at h
    obtain ⟨_, h1, h2⟩ := h
    obtain ⟨a, rfl⟩ := Option.isSome_iff_exists.mp h1
    obtain ⟨b, rfl⟩ := Option.isSome_iff_exists.mp h2
    exact .b (b := a) .r (.b (b := b) .r .r)
  · simp only [Bool.and_eq_true, decide_eq_true_eq]
    by_cases h1 : l = "done"
    · rw [if_pos h1, if_pos h1]
    · rw [if_neg h1, if_neg h1]
      by_cases h2 : l = "owed"
      · by_cases h3 : u = "done"
        · rw [if_pos ⟨h2, h3⟩, if_pos h2, if_pos h3]
        · rw [if_neg (fun z => h3 z.2), if_pos h2, if_neg h3]
          cases late with
          | none => rw [if_neg (by simp)]
          | some a => cases far with
            | none => rw [if_neg (by simp)]
            | some b => rw [if_pos ⟨h2, rfl, rfl⟩]
      · rw [if_neg (fun z => h2 z.1), if_neg (fun z => h2 z.1), if_neg h2]
/-- numbers that a draw may give -/
def Wi (bound : Option Int) (d : Int) : Prop := 0 ≤ d ∧ (∀ b, bound = some b → d ≤ b) ∧ d ≤ 10000000000000000000000000000000
theorem within_ok {bound : Option Int} (hb : ∀ b, bound = some b → 0 ≤ b ∧ b ≤ 10000000000000000000000000000000) : Any (m_law_within bound) (Wi bound) := by
  unfold m_law_within
  simp only [mb_mr, mb_mb]
  refine .bd (by omega) fun d d0 d1 => ?_
  refine .ite .r (fun _ => .r ⟨Int.le_refl _, fun b e => (hb b e).1, by decide⟩) fun _ => ?_
  cases bound with
  | some b =>
    have := hb b rfl
    refine .ite (c := true) .r (fun _ => ?_) (fun z => by cases z)
    refine .ite .r (fun _ => Ret.any (a := b) .r ⟨this.1, fun c e => by cases e; exact Int.le_refl _, this.2⟩) fun _ => ?_
    refine .bR (a := b) .r ?_
    refine (Any.draw (by omega)).mono fun d hd => ⟨hd.1, fun c e => by cases e; omega, by omega⟩
  | none =>
    refine .ite (c := false) .r (fun z => by cases z) fun _ => ?_
    refine .ite .r (fun _ => .bd (by omega) fun e e0 e1 => .r ⟨by omega, fun c e => (by cases e), by omega⟩) fun _ => ?_
    exact (Any.draw (by omega)).mono fun d hd => ⟨hd.1, fun c e => (by cases e), by omega⟩
/-- seven places as a function of the marks -/
def vf (calm owed done en own got : Int) (m : Str) : Int := if m = "calm" then calm else if m = "owed" then owed else if m = "done" then done else if m = "end" then en else if m = "own" then own else if m = "got" then got else 0
theorem vf_wv {late far : Option Int} {calm owed done en own got : Int} (h1 : NN late) (h2 : NN far) (h : 0 ≤ calm ∧ calm ≤ owed ∧ owed ≤ done ∧ done ≤ en ∧ 0 ≤ own ∧ own ≤ got ∧ got ≤ en) (hf : ∀ b, far = some b → done - owed ≤ b) (hl : ∀ b, late = some b → en - done ≤ b) : Wv late far (vf calm owed done en own got) := by
  have tab : ∀ u ∈ l_MARKS, ∀ l ∈ l_MARKS, (match gc u l with
    | some (0, 0) => vf calm owed done en own got u ≤ vf calm owed done en own got l
    | some (1, 0) => vf calm owed done en own got u - vf calm owed done en own got l ≤ en - done
    | some (0, 1) => vf calm owed done en own got u - vf calm owed done en own got l ≤ done - owed
    | some (1, 1) => vf calm owed done en own got u - vf calm owed done en own got l ≤ en - owed
    | _ => True) := by
    have z1 : vf calm owed done en own got "zero" = 0 := rfl
    have z2 : vf calm owed done en own got "calm" = calm := rfl
    have z3 : vf calm owed done en own got "owed" = owed := rfl
    have z4 : vf calm owed done en own got "done" = done := rfl
    have z5 : vf calm owed done en own got "end" = en := rfl
    have z6 : vf calm owed done en own got "own" = own := rfl
    have z7 : vf calm owed done en own got "got" = got := rfl
    intro u hu l hl
    simp only [List.mem_cons, List.not_mem_nil, or_false] at hu hl
    rcases hu with rfl | rfl | rfl | rfl | rfl | rfl | rfl <;> rcases hl with rfl | rfl | rfl | rfl | rfl | rfl | rfl <;> simp only [z1, z2, z3, z4, z5, z6, z7] <;> first
      | exact trivial
      | (show (_ : Int) ≤ _; omega)
      | (show (_ : Int) - _ ≤ _; omega)
  refine ⟨rfl, fun m hm => ?_, fun u hu l hl' x e => ?_⟩
  · simp only [List.mem_cons, List.not_mem_nil, or_false] at hm
    rcases hm with rfl | rfl | rfl | rfl | rfl | rfl | rfl
    · exact Int.le_refl _
    · show 0 ≤ calm; omega
    · show 0 ≤ owed; omega
    · show 0 ≤ done; omega
    · show 0 ≤ en; omega
    · show 0 ≤ own; omega
    · show 0 ≤ got; omega
  · have t := tab u hu l hl'
    rw [gp_gc] at e
    have k := gc_01 u hu l hl'
    generalize vf calm owed done en own got u = A at t ⊢
    generalize vf calm owed done en own got l = B at t ⊢
    cases q : gc u l with
    | none => rw [q] at e; cases e
    | some c =>
      rw [q] at t e k
      obtain ⟨p, r⟩ := c
      rcases p with _ | _ | p
      · rcases r with _ | _ | r
        · have e : some 0 = some x := e
          cases e
          have t : A ≤ B := t
          omega
        · have e : far = some x := e
          have := hf x e
          have t : A - B ≤ done - owed := t
          omega
        · cases k
      · rcases r with _ | _ | r
        · have e : late = some x := e
          have := hl x e
          have t : A - B ≤ en - done := t
          omega
        · cases late with
          | none => cases e
          | some a => cases far with
            | none => cases e
            | some b =>
              have e : some (a + b) = some x := e
              cases e
              have := hl a rfl
              have := hf b rfl
              have t : A - B ≤ en - owed := t
              omega
        · cases k
      · cases r <;> cases k
def Ld (late far : Option Int) (d : Dt Int) : Prop := ∃ v, Mk d v ∧ Wv late far v ∧ (d.l.map (·.1)) = l_MARKS
theorem ladder_ok {late far : Option Int} (hl : ∀ b, late = some b → 0 ≤ b ∧ b ≤ 10000000000000000000000000000000) (hf : ∀ b, far = some b → 0 ≤ b ∧ b ≤ 10000000000000000000000000000000) : Any (m_law_ladder late far) (Ld late far) := by
  unfold m_law_ladder
  simp only [mb_mr, mb_mb]
  have hn : ∀ b, (none : Option Int) = some b → 0 ≤ b ∧ b ≤ 10000000000000000000000000000000 := fun b e => by cases e
  refine .b (within_ok hn) fun a ha => .b (within_ok hn) fun b hb => .b (within_ok hf) fun c hc => .b (within_ok hl) fun e he => ?_
  have ha1 := ha.1
  have ha2 := ha.2.2
  have hb1 := hb.1
  have hb2 := hb.2.2
  have hc1 := hc.1
  have hc2 := hc.2.2
  have he1 := he.1
  have he2 := he.2.2
  have pick : ∀ n : Int, 0 ≤ n → n ≤ 100000000000000000000000000000000 → Any (mite (mb (m_law_draw 2) fun a => mr (decide (a = 0))) (mr n) (m_law_draw (n + 1))) fun x => 0 ≤ x ∧ x ≤ n := fun n h0 h1 => by
    have : mite (mb (m_law_draw 2) fun a => mr (decide (a = 0))) (mr n) (m_law_draw (n + 1)) = mb (m_law_draw 2) fun a => if decide (a = 0) = true then mr n else m_law_draw (n + 1) := by
      unfold mite
      simp only [mb_mr, mb_mb]
    rw [this]
    exact .bd (by omega) fun d _ _ => .if' (fun _ => .r ⟨h0, Int.le_refl _⟩) fun _ => (Any.draw (by omega)).mono fun x hx => ⟨hx.1, by omega⟩
  refine .b (pick _ (by omega) (by omega)) fun got hg => .b (pick _ (by omega) (by omega)) fun own ho => .r ?_
  refine ⟨vf a (a + b) (a + b + c) (a + b + c + e) own got, fun m hm => ?_, vf_wv (fun x h => (hl x h).1) (fun x h => (hf x h).1) (by omega) (fun x h => by have := hc.2.1 x h; omega) (fun x h => by have := he.2.1 x h; omega), rfl⟩
  simp only [List.mem_cons, List.not_mem_nil, or_false] at hm
  rcases hm with rfl | rfl | rfl | rfl | rfl | rfl | rfl <;> rfl
/-! marks at which a clause has a value and those that are not above it have less -/
def stv (late far : Option Int) (high : Int) (m : Str) (p : Int) (t : Tm) : Int := match gp late far t.1 m with
  | some g => if p < t.2 + high - g then t.2 + high - g else p
  | none => p
theorem stv_n {late far : Option Int} {high p : Int} {m : Str} {t : Tm} (h : gp late far t.1 m = none) : stv late far high m p t = p := by unfold stv; rw [h]
theorem stv_s {late far : Option Int} {high p g : Int} {m : Str} {t : Tm} (h : gp late far t.1 m = some g) : stv late far high m p t = if p < t.2 + high - g then t.2 + high - g else p := by unfold stv; rw [h]
def vw (late far : Option Int) (c : List Tm) (high : Int) (m : Str) : Int := if m = "zero" then 0 else c.foldl (stv late far high m) 0
theorem vw_fold (late far : Option Int) (c : List Tm) (high : Int) (m : Str) (p : Int) :
    (p ≤ c.foldl (stv late far high m) p) ∧
    (∀ t ∈ c, ∀ g, gp late far t.1 m = some g → t.2 + high - g ≤ c.foldl (stv late far high m) p) ∧
    ((c.foldl (stv late far high m) p = p) ∨ ∃ t ∈ c, ∃ g, gp late far t.1 m = some g ∧ c.foldl (stv late far high m) p = t.2 + high - g) := by
  induction c generalizing p with
  | nil => exact ⟨Int.le_refl _, fun t h => (by cases h), .inl rfl⟩
  | cons a c ih =>
    obtain ⟨h1, h2, h3⟩ := ih (stv late far high m p a)
    rw [List.foldl_cons]
    have ge : p ≤ stv late far high m p a := by
      cases q : gp late far a.1 m with
      | none => rw [stv_n q]; exact Int.le_refl _
      | some g => rw [stv_s q]; split <;> omega
    refine ⟨Int.le_trans ge h1, fun t ht g e => ?_, ?_⟩
    · rcases List.mem_cons.mp ht with rfl | ht
      · refine Int.le_trans ?_ h1
        rw [stv_s e]
        split <;> omega
      · exact h2 t ht g e
    · rcases h3 with h3 | ⟨t, ht, g, e, h3⟩
      · rw [h3]
        cases q : gp late far a.1 m with
        | none => exact .inl (stv_n q)
        | some g =>
          rw [stv_s q]
          by_cases z : p < a.2 + high - g
          · rw [if_pos z]; exact .inr ⟨a, List.mem_cons_self, g, q, rfl⟩
          · rw [if_neg z]; exact .inl rfl
      · exact .inr ⟨t, List.mem_cons_of_mem _ ht, g, e, h3⟩
theorem vw_wv {late far : Option Int} (h1 : NN late) (h2 : NN far) {c : List Tm} (hc : In7 c) (high : Int) : Wv late far (vw late far c high) := by
  have nn : ∀ m, 0 ≤ vw late far c high m := fun m => by
    unfold vw
    split
    · exact Int.le_refl _
    · exact (vw_fold late far c high m 0).1
  refine ⟨if_pos rfl, fun m _ => nn m, fun u hu l hl x e => ?_⟩
  have x0 := gp_nn h1 h2 e
  by_cases zu : u = "zero"
  · have : vw late far c high u = 0 := by unfold vw; rw [if_pos zu]
    have := nn l
    omega
  · by_cases zl : l = "zero"
    · rw [zl, gp_gc, gc_zero u hu zu] at e; cases e
    · have l2 : vw late far c high l = _ := if_neg zl
      obtain ⟨k1, k2, _⟩ := vw_fold late far c high l 0
      have u2 : vw late far c high u = _ := if_neg zu
      rcases (vw_fold late far c high u 0).2.2 with q | ⟨t, ht, g, e1, q⟩
      · rw [u2, q]; have := nn l; omega
      · obtain ⟨y, e2, y2⟩ := gp_tri h1 h2 (hc t ht) hu hl e1 e
        have := k2 t ht y e2
        rw [u2, q, l2]; omega
theorem lookup_putD {l : List (Str × Int)} {k z : Str} {a : Int} : (putD l k a).lookup z = if z = k then some a else l.lookup z := by
  unfold putD
  by_cases h : (l.lookup k).isSome = true
  · rw [if_pos h]
    induction l with
    | nil => cases h
    | cons p l ih =>
      obtain ⟨y, b⟩ := p
      rw [List.lookup_cons] at h
      rw [List.map_cons]
      by_cases e : k = y
      · subst e
        rw [if_pos rfl, List.lookup_cons, List.lookup_cons]
        by_cases w : z = k
        · subst w; rw [beq_self_eq_true, if_pos rfl]
        · rw [beq_false_of_ne w, if_neg w]
          clear ih h
          show List.lookup z (l.map _) = List.lookup z l
          induction l with
          | nil => rfl
          | cons q l ih =>
            rw [List.map_cons, List.lookup_cons]
            by_cases r : q.1 = k
            · rw [if_pos r, List.lookup_cons]
              have : (z == q.1) = false := beq_false_of_ne fun y => w (y.trans r)
              rw [this]; exact ih
            · rw [if_neg r, List.lookup_cons]
              cases (z == q.1) with
              | true => rfl
              | false => exact ih
      · have : (k == y) = false := beq_false_of_ne e
        rw [this] at h
        rw [if_neg (show ¬ (y, b).1 = k from fun q => e q.symm), List.lookup_cons, List.lookup_cons, ih h]
        by_cases w : z = y
        · subst w; simp [show ¬ z = k from fun q => e q.symm]
        · simp [beq_false_of_ne w]
  · rw [if_neg h, List.lookup_append]
    by_cases w : z = k
    · subst w
      have : l.lookup z = none := by
        cases q : l.lookup z with
        | none => rfl
        | some x => rw [q] at h; exact absurd rfl h
      rw [this, if_pos rfl]
      show List.lookup z [(z, a)] = _
      rw [List.lookup_cons, beq_self_eq_true]
    · rw [if_neg w]
      have : List.lookup z [(k, a)] = none := by rw [List.lookup_cons, beq_false_of_ne w]; rfl
      rw [this, Option.or_none]
theorem least_ok {late far : Option Int} {c : List Tm} (hc : In7 c) {high : Int} : ∃ d, Ret (m_law_least c high late far) d ∧ Mk d (vw late far c high) ∧ d.l.length ≤ 7 ∧ (d.l.map (·.1)) = l_MARKS := by
  unfold m_law_least
  simp only [mb_mr, mb_mb]
  have inner : ∀ m ∈ l_MARKS, m ≠ "zero" → Ret (Mi.forM c (0 : Int) fun x_term c_ => mb (m_law_gap x_term.1 m late far) fun x_gap => mite (mand (mr x_gap.isSome) (mb (mget x_gap) fun a => mr (decide (c_ < x_term.2 + high - a)))) (mb (mget x_gap) fun b => mr (x_term.2 + high - b)) (mr c_)) (vw late far c high m) := fun m hm z => by
    unfold vw
    rw [if_neg z]
    refine Ret.forMg (fun (t : Tm) (p : Int) => stv late far high m p t) (fun _ _ => True) trivial (fun i t p hx _ => ?_) fun _ _ _ _ _ => trivial
    refine .b (lgap_ok (hc t (List.mem_of_getElem? hx)) hm) ?_
    cases q : gp late far t.1 m with
    | none =>
      rw [stv_n q]
      exact .iteF (.of (.and (a := false) (b := false) .r fun y => by cases y) rfl) .r
    | some g =>
      rw [stv_s q]
      refine .of (.ite' (c := decide (p < t.2 + high - g)) (.of (.and (a := true) (b := decide (p < t.2 + high - g)) .r fun _ => .b (b := g) .r .r) (Bool.true_and _)) (fun _ => .b (b := g) .r .r) fun _ => .r) ?_
      simp only [decide_eq_true_eq]
  have put : ∀ (l : List (Str × Int)) (k : Str) (a : Int), l.length ≤ 100 → Ret (mdput (⟨l⟩ : Dt Int) k a) ⟨putD l k a⟩ := fun l k a h => .req (by show l.length < 1000000; omega) .r
  have nz : ∀ m ∈ (["calm", "owed", "done", "end", "own", "got"] : List Str), m ∈ l_MARKS ∧ m ≠ "zero" := by decide +kernel
  refine ⟨⟨(["zero", "calm", "owed", "done", "end", "own", "got"] : List Str).map fun m => (m, vw late far c high m)⟩, ?_, fun m hm => ?_, by simp, rfl⟩
  · have st : ∀ (n : Nat) (m : Str), (["calm", "owed", "done", "end", "own", "got"] : List Str)[n]? = some m → putD ((("zero" : Str) :: (["calm", "owed", "done", "end", "own", "got"] : List Str).take n).map fun m => (m, vw late far c high m)) m (vw late far c high m) = (("zero" : Str) :: (["calm", "owed", "done", "end", "own", "got"] : List Str).take (n + 1)).map fun m => (m, vw late far c high m) := by
      intro n m h
      have hn : n < 6 := (List.getElem?_eq_some_iff.mp h).1
      rcases n with _ | _ | _ | _ | _ | _ | n
      all_goals first
        | (cases h; rfl)
        | omega
    obtain ⟨r, h1, h2⟩ := Ret.forMe (xs := (["calm", "owed", "done", "end", "own", "got"] : List Str)) (c0 := (⟨[("zero", 0)]⟩ : Dt Int)) (f := fun x_mark c_ => mb (Mi.forM c (0 : Int) fun x_term c_ => mb (m_law_gap x_term.1 x_mark late far) fun x_gap => mite (mand (mr x_gap.isSome) (mb (mget x_gap) fun a => mr (decide (c_ < x_term.2 + high - a)))) (mb (mget x_gap) fun b => mr (x_term.2 + high - b)) (mr c_)) fun a_ => mdput c_ x_mark a_) (fun i d => d = ⟨(("zero" : Str) :: (["calm", "owed", "done", "end", "own", "got"] : List Str).take i).map fun m => (m, vw late far c high m)⟩) rfl (by
        rintro i m d hx rfl
        have hm := nz m (List.mem_of_getElem? hx)
        refine ⟨_, .b (inner m hm.1 hm.2) (put _ _ _ (by
          rw [List.length_map, List.length_cons]
          have q1 := List.length_take_le' i (["calm", "owed", "done", "end", "own", "got"] : List Str)
          have q2 : (["calm", "owed", "done", "end", "own", "got"] : List Str).length = 6 := rfl
          omega)), ?_⟩
        rw [st i m hx])
    exact h2 ▸ h1
  · simp only [List.mem_cons, List.not_mem_nil, or_false] at hm
    rcases hm with rfl | rfl | rfl | rfl | rfl | rfl | rfl <;> rfl
theorem seven_ok : Ret m_law_seven l_MARKS := by unfold m_law_seven; exact .r
theorem wv_weak {late far : Option Int} {v : Str → Int} (w : Wv late far v) : Wv none none v := ⟨w.z, w.p, fun u hu l hl x e => by
  refine w.g u hu l hl x ?_
  unfold gp at e ⊢
  by_cases h : bl u l = true
  · rw [if_pos h] at e ⊢; exact e
  · rw [if_neg h] at e
    split at e
    · cases e
    · split at e
      · split at e <;> cases e
      · cases e⟩
theorem dt_plain (d : Dt Int) (h : d.l.length ≤ 900) : plainD (enc d) = true ∧ (enc d : Mi.D).depth ≤ 6 := by
  refine ⟨?_, ?_⟩
  · show (decide ((d.l.map fun p => (enc p.2 : Mi.D)).length ≤ 900) && plainDs (d.l.map fun p => (enc p.2 : Mi.D))) = true
    rw [decide_eq_true (by rw [List.length_map]; exact h), Bool.true_and]
    have := pls_p (d.l.map fun p => p.2)
    rw [List.map_map] at this
    exact this
  · have := pls_d (d.l.map fun p => p.2)
    rw [List.map_map] at this
    have e : D.depths (d.l.map fun p => (enc p.2 : Mi.D)) ≤ 0 := this
    show D.depths (d.l.map fun p => (enc p.2 : Mi.D)) + 2 ≤ 6
    omega
theorem mixS_b {z : Str} {i : Int} {post : Str → Prop} {px : Exn → Prop} (h0 : 0 ≤ i) (h1 : i < z.length) (l : z.length ≤ 1000000) (k : ∀ y : Str, y.length ≤ 1 → post y) : mixS z i post px := by
  obtain ⟨j, rfl⟩ := Int.eq_ofNat_of_zero_le h0
  have hl : z.cps.toList.length = z.length := Array.length_toList
  have hj : j < z.cps.toList.length := by omega
  exact Ret.ixS (c := z.cps.toList[j]) (by have := sizeLine_eq; omega) (L2.atI_nat (List.getElem?_eq_getElem hj)) _ _ (k _ (Nat.le_refl _))

def Bd (b : Option Int) : Prop := ∀ x, b = some x → 0 ≤ x ∧ x ≤ 49
theorem Bd.nn {b : Option Int} (h : Bd b) : NN b := fun x e => (h x e).1
theorem whole_ok (i : Int) : Ret (m_is_whole (.int i)) true := by
  unfold m_is_whole
  exact .of (.and (a := true) (b := true) (.isD trivial) fun _ => .b (.isD trivial) .r) rfl
theorem bound_ok {b : Option Int} (h : Bd b) : Ret (m_is_bound b) true := by
  unfold m_is_bound
  simp only [mb_mr, mb_mb]
  cases b with
  | none => exact .iteF (.of (.and (a := false) (b := false) .r fun z => by cases z) rfl) (.of (.or (a := true) (b := true) .r fun z => by cases z) rfl)
  | some x =>
    have hx := h x rfl
    refine .iteF (.of (.and (a := true) (b := false) .r fun _ => .b (whole_ok x) .r) rfl) (.of (.or (a := false) (b := true) .r fun _ => .b (b := x) .r ?_) rfl)
    rw [if_pos (decide_eq_true hx.1)]
    exact .of .r (decide_eq_true hx.2)
theorem winit_ok {a b : Option Int} (ha : Bd a) (hb : Bd b) : Ret (m_World_init a b) ⟨a, b⟩ := by
  unfold m_World_init
  try simp only [mb_mr, mb_mb]
  exact .iteF (.of (.or (a := false) (b := false) (.b (bound_ok ha) .r) fun _ => .b (bound_ok hb) .r) rfl) .r
theorem bd0 : Bd none := fun _ e => by cases e
theorem wide_ok : Ret m_World_wide ⟨none, none⟩ := by
  unfold m_World_wide
  try simp only [mb_mr, mb_mb]
  exact winit_ok bd0 bd0
theorem gapw_ok {w : Wld} {u l : Str} (hu : u ∈ l_MARKS) (hl : l ∈ l_MARKS) : Ret (m_World_gap w u l) (gp w.lag w.length u l) := by
  unfold m_World_gap
  try simp only [mb_mr, mb_mb]
  exact .b (check_mark_ok hu) (.b (check_mark_ok hl) (gap_ok hu))
theorem check_bad {m : Str} (h : m ∉ l_MARKS) : Rai (m_check_mark m) ⟨"UnknownMark", ["mark"], [.str m]⟩ := by
  unfold m_check_mark
  try simp only [mb_mr, mb_mb]
  exact .iteT (.of .r (by rw [decide_eq_false (show ¬ m ∈ (⟨l_MARKS⟩ : Tp Str).l from h)]; rfl)) .x
theorem gapw_1 {w : Wld} {u l : Str} (hu : u ∉ l_MARKS) : Rai (m_World_gap w u l) ⟨"UnknownMark", ["mark"], [.str u]⟩ := by
  unfold m_World_gap
  try simp only [mb_mr, mb_mb]
  exact .b1 (check_bad hu)
theorem gapw_2 {w : Wld} {u l : Str} (hu : u ∈ l_MARKS) (hl : l ∉ l_MARKS) : Rai (m_World_gap w u l) ⟨"UnknownMark", ["mark"], [.str l]⟩ := by
  unfold m_World_gap
  try simp only [mb_mr, mb_mb]
  exact .b (check_mark_ok hu) (.b1 (check_bad hl))
theorem refusedw {w : Wld} {u l m : Str} (h : Rai (m_World_gap w u l) ⟨"UnknownMark", ["mark"], [.str m]⟩) : Ret (m_law_refused w u l) (.str m) := by
  unfold m_law_refused
  try simp only [mb_mr, mb_mb]
  refine .b (b := Sum.inr (.str m)) (.tryX (.b1 h) (by simp) ?_) (show Ret (mr (Mi.D.str m)) _ from .r)
  rw [if_pos rfl]
  exact .iteF (.of .r rfl) (.b (b := .str m) (.exf rfl) .r)
def bam (a b : Option Int) : Bool := match b with
  | none => true
  | some y => match a with
    | none => false
    | some x => decide (x ≤ y)
theorem bam_ok (a b : Option Int) : Ret (m_bound_at_most a b) (bam a b) := by
  unfold m_bound_at_most bam
  try simp only [mb_mr, mb_mb]
  cases b with
  | none => exact .of (.or (a := true) (b := true) .r fun z => by cases z) rfl
  | some y => cases a with
    | none => exact .of (.or (a := false) (b := false) .r fun _ => .of (.and (a := false) (b := false) .r fun z => by cases z) rfl) rfl
    | some x => exact .of (.or (a := false) (b := decide (x ≤ y)) .r fun _ => .of (.and (a := true) (b := decide (x ≤ y)) .r fun _ => .b (b := x) .r (.b (b := y) .r .r)) (Bool.true_and _)) (Bool.false_or _)
theorem gp_ed (a b : Option Int) : gp a b "end" "done" = a := by
  unfold gp
  rw [if_neg (by decide +kernel), if_pos rfl]
theorem gp_do (a b : Option Int) : gp a b "done" "owed" = b := by
  unfold gp
  rw [if_neg (by decide +kernel), if_neg (by decide +kernel), if_pos rfl, if_pos rfl]
theorem bl_gp {a b : Option Int} {u l : Str} (h : bl u l = true) : gp a b u l = some 0 := by
  unfold gp
  rw [if_pos h]
theorem marks_nd : l_MARKS.Nodup := by decide +kernel
theorem onl_ok {d : Dt Int} {v : Str → Int} {a b : Option Int} (h : Mk d v) (w : Wv a b v) (k : d.l.map (·.1) = l_MARKS) : onl d = true := by
  have hv : ∀ p ∈ d.l, p.1 ∈ l_MARKS ∧ p.2 = v p.1 := fun p hp => by
    have m : p.1 ∈ l_MARKS := k ▸ List.mem_map.mpr ⟨p, hp, rfl⟩
    have e := lookup_nd (k ▸ marks_nd) hp
    rw [h _ m] at e
    exact ⟨m, (Option.some.inj e).symm⟩
  unfold onl
  rw [h "zero" (by decide +kernel), show (some (v "zero")).getD 0 = v "zero" from rfl, w.z, decide_eq_true rfl, Bool.true_and, List.all_eq_true]
  intro p hp
  obtain ⟨m, e⟩ := hv p hp
  rw [decide_eq_true (by rw [e]; exact w.p _ m), Bool.true_and, List.all_eq_true]
  intro q hq
  obtain ⟨m2, e2⟩ := hv q hq
  cases hb : bl p.1 q.1 with
  | false => rfl
  | true =>
    have := w.g _ m _ m2 0 (bl_gp hb)
    rw [decide_eq_false (by rw [e, e2]; omega)]; rfl
theorem has_ok {d : Dt Int} {v : Str → Int} (h : Mk d v) {m : Str} (hm : m ∈ l_MARKS) : hasD d m = true := by unfold hasD; rw [h m hm]; rfl
theorem on_ok {d : Dt Int} {v : Str → Int} {a b : Option Int} (h : Mk d v) (w : Wv a b v) (k : d.l.map (·.1) = l_MARKS) : Ret (m_on_ladder d) true := by
  unfold m_on_ladder
  exact .req (fun p hp => k ▸ List.mem_map.mpr ⟨p, hp, rfl⟩) (.of .r (onl_ok h w k))
theorem in_ok {d : Dt Int} {v : Str → Int} {a b : Option Int} (h : Mk d v) (w : Wv a b v) (k : d.l.map (·.1) = l_MARKS) : Ret (m_Worlddd__containsdd_ ⟨a, b⟩ d) true := by
  unfold m_Worlddd__containsdd_
  try simp only [mb_mr, mb_mb]
  have c : ∀ m ∈ (["owed", "done", "end"] : List Str), m ∈ l_MARKS := by decide +kernel
  have me : ("end" : Str) ∈ l_MARKS := by decide +kernel
  have md : ("done" : Str) ∈ l_MARKS := by decide +kernel
  have mo : ("owed" : Str) ∈ l_MARKS := by decide +kernel
  refine .b (b := ()) ?_ ?_
  · obtain ⟨r, h1, _⟩ := Ret.forMe (xs := (["owed", "done", "end"] : List Str)) (c0 := ()) (f := fun x_mark c_ => mite (mr !hasD d x_mark) (mstuck : M Unit) (mr ())) (fun _ _ => True) trivial fun i m c' hx _ => ⟨(), .iteF (.of .r (by rw [has_ok h (c m (List.mem_of_getElem? hx))]; rfl)) .r, trivial⟩
    exact h1
  have bm : ∀ (x : Int) (o : Option Int), (∀ y, o = some y → x ≤ y) → bam (some x) o = true := fun x o q => by
    unfold bam
    cases o with
    | none => rfl
    | some y => exact decide_eq_true (q y rfl)
  refine .iteF (.of (.b (on_ok h w k) .r) rfl) (.iteF (.b (h.get me) (.b (h.get md) (.of (.b (bam_ok _ _) .r) ?_))) (.b (h.get md) (.b (h.get mo) (.of (bam_ok _ _) ?_))))
  · rw [bm _ _ fun y e => w.g _ me _ md y (by rw [gp_ed]; exact e)]; rfl
  · exact bm _ _ fun y e => w.g _ md _ mo y (by rw [gp_do]; exact e)
theorem gp_le {a b : Option Int} (ha : Bd a) (hb : Bd b) {u l : Str} {g : Int} (h : gp a b u l = some g) : 0 ≤ g ∧ g ≤ 98 := by
  unfold gp at h
  split at h
  · cases h; omega
  · split at h
    · have := ha g h; omega
    · split at h
      · split at h
        · have := hb g h; omega
        · cases a with
          | none => cases h
          | some x => cases b with
            | none => cases h
            | some y =>
              have := ha x rfl
              have := hb y rfl
              cases h; omega
      · cases h
theorem gp_self {a b : Option Int} {u : Str} (h : u ∈ l_MARKS) : gp a b u u = some 0 := by rw [gp_gc, gc_self u h]; rfl
theorem zero_bl : ∀ l ∈ l_MARKS, bl "zero" l = true := by decide +kernel
theorem att_val {a b : Option Int} (ha : Bd a) (hb : Bd b) {u : Str} (hu : u ∈ l_MARKS) {n : Int} (hn : 100 ≤ n) (l : Str) (hl : l ∈ l_MARKS) : vw a b [(u, 0)] (if u = "zero" then 0 else n) u - vw a b [(u, 0)] (if u = "zero" then 0 else n) l = (gp a b u l).getD (if u = "zero" then 0 else n) ∧ vw a b [(u, 0)] (if u = "zero" then 0 else n) u = (if u = "zero" then 0 else n) := by
  have one : ∀ m : Str, m ≠ "zero" → vw a b [(u, 0)] (if u = "zero" then 0 else n) m = stv a b (if u = "zero" then 0 else n) m 0 (u, 0) := fun m z => by unfold vw; rw [if_neg z]; rfl
  have zz : vw a b [(u, 0)] (if u = "zero" then 0 else n) "zero" = 0 := by unfold vw; rw [if_pos rfl]
  by_cases z : u = "zero"
  · subst z
    rw [if_pos rfl] at *
    rw [zz, bl_gp (zero_bl l hl)]
    have : vw a b [("zero", 0)] 0 l = 0 := by
      by_cases q : l = "zero"
      · rw [q]; exact zz
      · rw [one l q, stv_s (t := ("zero", 0)) (g := 0) (bl_gp (zero_bl l hl))]; rfl
    rw [this]; exact ⟨rfl, rfl⟩
  · rw [if_neg z] at *
    have e : vw a b [(u, 0)] n u = n := by
      rw [one u z, stv_s (t := (u, 0)) (g := 0) (gp_self hu)]
      show (if (0 : Int) < 0 + n - 0 then 0 + n - 0 else 0) = n
      rw [if_pos (by omega)]; omega
    refine ⟨?_, e⟩
    rw [e]
    by_cases q : l = "zero"
    · rw [q, zz, gp_gc, gc_zero u hu z]
      show n - 0 = n
      omega
    · rw [one l q]
      cases g : gp a b u l with
      | none => rw [stv_n g]; show n - 0 = n; omega
      | some x =>
        have := gp_le ha hb g
        rw [stv_s (t := (u, 0)) g]
        show n - (if (0 : Int) < 0 + n - x then 0 + n - x else 0) = x
        rw [if_pos (by omega)]; omega
theorem attained_ok {a b : Option Int} (ha : Bd a) (hb : Bd b) {u : Str} (hu : u ∈ l_MARKS) {n : Int} (hn : 100 ≤ n) : Ret (m_law_attained ⟨a, b⟩ u n a b) true := by
  unfold m_law_attained
  simp only [mb_mr, mb_mb, decide_eq_true_eq]
  have i7 : In7 [(u, (0 : Int))] := fun t ht => by rw [List.mem_singleton.mp ht]; exact hu
  obtain ⟨d, d1, d2, _, d4⟩ := least_ok (late := a) (far := b) (c := [(u, 0)]) i7 (high := if u = "zero" then 0 else n)
  have w := vw_wv ha.nn hb.nn i7 (if u = "zero" then 0 else n)
  have val := att_val ha hb hu hn
  refine .b d1 (.iteF (.of (.or (a := false) (b := false) (.b (in_ok d2 w d4) .r) fun _ => .b (d2.get hu) (.of .r ?_)) rfl) (.b seven_ok ?_))
  · rw [decide_eq_true (val u hu).2]; rfl
  refine .bA (Any.forR (fun _ => True) trivial fun l hl _ _ => Ret.any (.b (gapw_ok hu hl) (.b (b := (gp a b u l).getD (if u = "zero" then 0 else n)) ?_ (.iteF (.b (d2.get hu) (.b (d2.get hl) (.of .r ?_))) .r))) ⟨(), rfl, trivial⟩) ?_
  · cases gp a b u l with
    | none => exact .iteT .r .r
    | some x => exact .iteF .r .r
  · rw [decide_eq_true (val l hl).1]; rfl
  · rintro o ⟨c, rfl, _⟩
    exact .r
theorem never_ok {a b : Option Int} {d : Dt Int} (h : Ld a b d) : Ret (m_law_never_more ⟨a, b⟩ d) true := by
  obtain ⟨v, m, w, k⟩ := h
  unfold m_law_never_more
  try simp only [mb_mr, mb_mb]
  refine .iteF (.b (in_ok m w k) .r) (.b seven_ok ?_)
  refine .bA (Any.forR (fun _ => True) trivial fun u hu _ _ => .bR seven_ok (.b (Any.forR (fun _ => True) trivial fun l hl _ _ => Ret.any (.b (gapw_ok hu hl) (.iteF ?_ .r)) ⟨(), rfl, trivial⟩) ?_)) ?_
  · show Ret (mand (mr (gp a b u l).isSome) _) false
    cases g : gp a b u l with
    | none => exact .of (.and (a := false) (b := false) .r fun z => by cases z) rfl
    | some x =>
      refine .of (.and (a := true) (b := false) .r fun _ => .b (m.get hu) (.b (m.get hl) (.b (b := x) .r (.of .r (decide_eq_false ?_))))) rfl
      have := w.g u hu l hl x g
      omega
  · rintro o ⟨c, rfl, _⟩
    exact .r ⟨(), rfl, trivial⟩
  · rintro o ⟨c, rfl, _⟩
    exact .r
theorem sign_any {i : Int} (h0 : 0 ≤ i) (h1 : i < 26) : Any (mixS ("abcdefghijklmnopqrstuvwxyz" : Str) i) fun y => y.length ≤ 1 := fun post px q => mixS_b h0 (by show i < ((26 : Nat) : Int); omega) (by show 26 ≤ 1000000; decide) q
theorem app_len (a b : Str) : (a ++ b).length = a.length + b.length := by
  show (a.cps ++ b.cps).size = _
  rw [Array.size_append]; rfl
theorem word_any : Any m_law_word fun y => y.length ≤ 100 := by
  unfold m_law_word
  try simp only [mb_mr, mb_mb]
  refine .bd (by omega) fun a a0 a1 => .bd (by omega) fun k k0 k1 => .bd (by omega) fun b b0 b1 => .b (sign_any b0 b1) fun s hs => .bd (by omega) fun t t0 t1 => .bR (.range (lo := 0) (hi := 1 + a) (by omega)) ?_
  refine .b (P := fun y : Str => y.length ≤ 100) ?_ fun y hy => .r hy
  refine (Any.forM (fun i (w : Str) => w.length ≤ i) (Nat.le_refl _) ?_).mono fun w hw => ?_
  · rintro i x w hx hw
    have hi := (List.getElem?_eq_some_iff.mp hx).1
    rw [List.length_map, List.length_range] at hi
    refine .ite .r (fun _ => .bd (by omega) fun c c0 c1 => .b (sign_any c0 c1) fun z hz => .bR (.addS (by omega)) (.r ?_)) fun _ => .bR (.addS (by omega)) (.r ?_)
    · rw [app_len]; omega
    · rw [app_len]; omega
  · have hw : w.length ≤ _ := hw
    rw [List.length_map, List.length_range] at hw
    omega
theorem word_x : ∀ m ∈ l_MARKS, (m ++ ("x" : Str)) ∉ l_MARKS := by decide +kernel
theorem stranger_any : Any m_law_stranger fun y => y ∉ l_MARKS := by
  unfold m_law_stranger
  try simp only [mb_mr, mb_mb]
  refine .bd (by omega) fun p p0 p1 => .ite .r (fun h => ?_) fun _ => .b word_any fun y hy => .ite (.b seven_ok .r) (fun h => ?_) fun h => .r ?_
  · have h := of_decide_eq_true h
    refine (Any.mix p0 (by show p < 5; exact h)).mono fun y hy => ?_
    have : ∀ y ∈ (["", "Done", "owed ", "en", "gotten"] : List Str), y ∉ l_MARKS := by decide +kernel
    exact this y hy
  · have h := of_decide_eq_true h
    exact Ret.any (.addS (by show y.length + 1 ≤ 1000; omega)) (word_x y h)
  · exact of_decide_eq_false h
theorem bound_any : Any (m_law_bound 49) Bd := by
  unfold m_law_bound
  have e : mite (mb (m_law_draw 3) fun a => mr (decide (a = 0))) (mr (none : Option Int)) (mb (m_law_draw (49 + 1)) fun a => mr (some a)) = mb (m_law_draw 3) fun a => if decide (a = 0) = true then mr none else mb (m_law_draw (49 + 1)) fun a => mr (some a) := by
    unfold mite
    try simp only [mb_mr, mb_mb]
  simp only [mb_mr, mb_mb] at e ⊢
  rw [e]
  exact .bd (by omega) fun a _ _ => .if' (fun _ => .r bd0) fun _ => .bd (by omega) fun x x0 x1 => .r fun y hy => by cases hy; omega
theorem gap_same {w : Wld} {u l : Str} (hu : u ∈ l_MARKS) (hl : l ∈ l_MARKS) : Ret (mb (mno (m_World_gap w u l)) fun a => mb (m_law_gap u l w.lag w.length) fun a_1 => m_law_same (enc a) (enc a_1)) true :=
  .b (gapw_ok hu hl).no (.b (lgap_ok hu hl) (Ret.sameE (gp w.lag w.length u l) (by show 0 < 8; decide)))
theorem any_ite_b {α β : Type} {m : M α} {k : α → M Bool} {A B : M β} {P : α → Prop} {R : β → Prop} (h : Any m P) (h2 : ∀ a, P a → Any (mite (k a) A B) R) : Any (mite (mb m k) A B) R := fun post px q => h _ _ fun a p => h2 a p post px q
theorem m_law_ok : m_law (fun b => b = true) (fun _ => False) := by
  suffices h : Ret m_law true from h _ _ rfl
  unfold m_law
  try simp only [mb_mr, mb_mb]
  refine .bA bound_any fun a ha => .bA bound_any fun b hb => .bA bound_any fun a' ha' => .bA bound_any fun b' hb' => .bd (by omega) fun n n0 n1 => .b (winit_ok ha hb) (.b (winit_ok ha' hb') (.b seven_ok ?_))
  refine .bA (Any.forR (fun _ => True) trivial fun u hu _ _ => .bR seven_ok (.b (Any.forR (fun _ => True) trivial fun l hl _ _ => Ret.any (.iteF ?_ (.iteF ?_ .r)) ⟨(), rfl, trivial⟩) ?_)) ?_
  · exact .b (gapw_ok hu hl).no (.b (lgap_ok hu hl) (.b (Ret.sameE (gp a b u l) (by show 0 < 8; decide)) .r))
  · exact .b (gapw_ok hu hl).no (.b (lgap_ok hu hl) (.b (Ret.sameE (gp a' b' u l) (by show 0 < 8; decide)) .r))
  · rintro o ⟨c, rfl, _⟩
    exact .r ⟨(), rfl, trivial⟩
  rintro o ⟨c, rfl, _⟩
  refine .b seven_ok (.bA (Any.forR (fun _ => True) trivial fun u hu _ _ => Ret.any (.iteF (.b (attained_ok ha hb hu (by omega)).no .r) .r) ⟨(), rfl, trivial⟩) ?_)
  rintro o ⟨c, rfl, _⟩
  have big : ∀ {o : Option Int}, Bd o → ∀ b, o = some b → 0 ≤ b ∧ b ≤ 10000000000000000000000000000000 := fun h x e => by have := h x e; omega
  refine .b (.range (lo := 0) (hi := 6) (by omega)) (.bA (Any.forR (fun _ => True) trivial fun k hk _ _ => ?_) ?_)
  · exact any_ite_b (ladder_ok (big ha) (big hb)) fun d hd => Ret.any (.iteF (.b (never_ok hd).no .r) .r) ⟨(), rfl, trivial⟩
  rintro o ⟨c, rfl, _⟩
  refine .bA stranger_any fun s1 h1 => .bA stranger_any fun s2 h2 => .b seven_ok (.bd (by omega) fun p p0 p1 => .bix p0 (by show p < 7; exact p1) fun m hm => .b wide_ok ?_)
  refine .bA (Any.forR (fun _ => True) trivial fun w hw _ _ => Ret.any (.iteF (.of (.or (a := false) (b := false) (.b (refusedw (gapw_1 h1)) (.b (Ret.sameE s1 (by show 0 < 8; decide)) .r)) fun _ => .b (refusedw (gapw_1 h1)) (.b (Ret.sameE s1 (by show 0 < 8; decide)) .r)) rfl) (.iteF (.b (refusedw (gapw_2 hm h2)) (.b (Ret.sameE s2 (by show 0 < 8; decide)) .r)) .r)) ⟨(), rfl, trivial⟩) ?_
  rintro o ⟨c, rfl, _⟩
  exact gap_same (w := ⟨a, b⟩) (by decide +kernel) hm

def spLaw (K : PySem.W.Frag) : Sp := fun vs H Q _ => ∃ (a : Addr) (ns : List Int), vs = [.ref a] ∧ SqL K H a (ns.map V.int) ∧ ns.length ≤ 63 ∧ ∀ H', Q (.bl true) H'
theorem ok_law (T : Txt P w K mg)  : FnOk P w K mg base CX0 (9) T.a_law T.d_law ["script"] (spLaw K) := by
  refine T.F_law.ok sc_law (fun vs H Q E h => by obtain ⟨_, _, rfl, _⟩ := h; rfl) (fun cdv A outer s H vs Q E hr h => ?_)
  have hu := hu_of hr
  have hu64 := hr.units
  refine ⟨_, (pss_cons (ps_set (i := 1) sc_law.nd rfl (by first | exact Or.inl rfl | exact Or.inr rfl) (pe_call (ok_law_start T) (hr.mono (by first | decide | omega)) (by rfl) T.m_law_start T.F_law_start.kp T.b_law_start .nil pass0 (pa_cons (pv 0) pa_nil)))
      (pss_cons (ps_set (i := 2) sc_law.nd rfl (by first | exact Or.inl rfl | exact Or.inr rfl) (pe_call (ok_law_bound T) (hr.mono (by first | decide | omega)) (by rfl) T.m_law_bound T.F_law_bound.kp T.b_law_bound .nil pass0 (pa_cons (pv 1) (pa_cons pe_int pa_nil))))
      (pss_cons (ps_set (i := 3) sc_law.nd rfl (by first | exact Or.inl rfl | exact Or.inr rfl) (pe_call (ok_law_bound T) (hr.mono (by first | decide | omega)) (by rfl) T.m_law_bound T.F_law_bound.kp T.b_law_bound .nil pass0 (pa_cons (pv 1) (pa_cons pe_int pa_nil))))
      (pss_cons (ps_set (i := 4) sc_law.nd rfl (by first | exact Or.inl rfl | exact Or.inr rfl) (pe_call (ok_law_bound T) (hr.mono (by first | decide | omega)) (by rfl) T.m_law_bound T.F_law_bound.kp T.b_law_bound .nil pass0 (pa_cons (pv 1) (pa_cons pe_int pa_nil))))
      (pss_cons (ps_set (i := 5) sc_law.nd rfl (by first | exact Or.inl rfl | exact Or.inr rfl) (pe_call (ok_law_bound T) (hr.mono (by first | decide | omega)) (by rfl) T.m_law_bound T.F_law_bound.kp T.b_law_bound .nil pass0 (pa_cons (pv 1) (pa_cons pe_int pa_nil))))
      (pss_cons (ps_set (i := 6) sc_law.nd rfl (by first | exact Or.inl rfl | exact Or.inr rfl) (pe_op op_plus pe_int (pe_call (draw_ok (C := ct T) (ok_law_draw T)) (hr.mono (by first | decide | omega)) (by rfl) T.m_law_draw T.F_law_draw.kp T.b_law_draw .nil pass0 (pa_cons (pv 1) (pa_cons (pe_op op_pow pe_int pe_int) pa_nil)))))
      (pss_cons (ps_set (i := 7) sc_law.nd rfl (by first | exact Or.inl rfl | exact Or.inr rfl) (pe_make T.mk_World (ok_World_init T) (hr.mono (by first | decide | omega)) (by rfl) T.mc_World (Classical.choose_spec T.bd_World_init_2).2 (Classical.choose_spec T.bd_World_init_2).1 pass0 (pa_cons (pv 2) (pa_cons (pv 3) pa_nil))))
      (pss_cons (ps_set (i := 8) sc_law.nd rfl (by first | exact Or.inl rfl | exact Or.inr rfl) (pe_make T.mk_World (ok_World_init T) (hr.mono (by first | decide | omega)) (by rfl) T.mc_World (Classical.choose_spec T.bd_World_init_2).2 (Classical.choose_spec T.bd_World_init_2).1 pass0 (pa_cons (pv 4) (pa_cons (pv 5) pa_nil))))
      (pss_cons (ps_for PassesOwn.never rfl (pi_list (pe_call0 (ok_law_seven T) (hr.mono (by first | decide | omega)) (by rfl) T.m_law_seven T.F_law_seven.kp T.b_law_seven .nil pass0)) (pg_name (i := 9) sc_law.nd rfl (by first | exact Or.inl rfl | exact Or.inr rfl))
      (pss_one (ps_for PassesOwn.never rfl (pi_list (pe_call0 (ok_law_seven T) (hr.mono (by first | decide | omega)) (by rfl) T.m_law_seven T.F_law_seven.kp T.b_law_seven .nil pass0)) (pg_name (i := 10) sc_law.nd rfl (by first | exact Or.inl rfl | exact Or.inr rfl))
      (pss_cons (ps_if (pt_not (pt_val (pe_call (same_ok (same_all T 8)) (hr.mono (by first | decide | omega)) (by rfl) T.m_law_same T.F_law_same.kp T.b_law_same .nil pass0 (pa_cons (pe_meth (pv 7) T.cl_World T.me_World_gap (ok_World_gap T) (hr.mono (by first | decide | omega)) T.b_World_gap .nil passN (pa_cons (pv 9) (pa_cons (pv 10) pa_nil))) (pa_cons (pe_call (ok_law_gap T) (hr.mono (by first | decide | omega)) (by rfl) T.m_law_gap T.F_law_gap.kp T.b_law_gap .nil pass0 (pa_cons (pv 9) (pa_cons (pv 10) (pa_cons (pv 2) (pa_cons (pv 3) pa_nil))))) pa_nil))))) (pss_one (ps_ret pe_bl)) pss_nil)
      (pss_one (ps_if (pt_not (pt_val (pe_call (same_ok (same_all T 8)) (hr.mono (by first | decide | omega)) (by rfl) T.m_law_same T.F_law_same.kp T.b_law_same .nil pass0 (pa_cons (pe_meth (pv 8) T.cl_World T.me_World_gap (ok_World_gap T) (hr.mono (by first | decide | omega)) T.b_World_gap .nil passN (pa_cons (pv 9) (pa_cons (pv 10) pa_nil))) (pa_cons (pe_call (ok_law_gap T) (hr.mono (by first | decide | omega)) (by rfl) T.m_law_gap T.F_law_gap.kp T.b_law_gap .nil pass0 (pa_cons (pv 9) (pa_cons (pv 10) (pa_cons (pv 4) (pa_cons (pv 5) pa_nil))))) pa_nil))))) (pss_one (ps_ret pe_bl)) pss_nil))))))
      (pss_cons (ps_for PassesOwn.never rfl (pi_list (pe_call0 (ok_law_seven T) (hr.mono (by first | decide | omega)) (by rfl) T.m_law_seven T.F_law_seven.kp T.b_law_seven .nil pass0)) (pg_name (i := 9) sc_law.nd rfl (by first | exact Or.inl rfl | exact Or.inr rfl))
      (pss_one (ps_if (pt_not (pt_val (pe_call (ok_law_attained T) (hr.mono (by first | decide | omega)) (by rfl) T.m_law_attained T.F_law_attained.kp T.b_law_attained .nil passN (pa_cons (pv 7) (pa_cons (pv 9) (pa_cons (pv 6) (pa_cons (pv 2) (pa_cons (pv 3) pa_nil)))))))) (pss_one (ps_ret pe_bl)) pss_nil)))
      (pss_cons (ps_for PassesOwn.never rfl (pi_range1 (by rfl) T.z_range (pa_cons pe_int pa_nil)) (pg_name (i := 11) sc_law.nd rfl (by first | exact Or.inl rfl | exact Or.inr rfl))
      (pss_one (ps_if (pt_not (pt_val (pe_call (ok_law_never_more T) (hr.mono (by first | decide | omega)) (by rfl) T.m_law_never_more T.F_law_never_more.kp T.b_law_never_more .nil passN (pa_cons (pv 7) (pa_cons (pe_call (ok_law_ladder T) (hr.mono (by first | decide | omega)) (by rfl) T.m_law_ladder T.F_law_ladder.kp T.b_law_ladder .nil pass0 (pa_cons (pv 1) (pa_cons (pv 2) (pa_cons (pv 3) pa_nil)))) pa_nil))))) (pss_one (ps_ret pe_bl)) pss_nil)))
      (pss_cons (ps_set (i := 12) sc_law.nd rfl (by first | exact Or.inl rfl | exact Or.inr rfl) (pe_call (ok_law_stranger T) (hr.mono (by first | decide | omega)) (by rfl) T.m_law_stranger T.F_law_stranger.kp T.b_law_stranger .nil pass0 (pa_cons (pv 1) pa_nil)))
      (pss_cons (ps_set (i := 13) sc_law.nd rfl (by first | exact Or.inl rfl | exact Or.inr rfl) (pe_call (ok_law_stranger T) (hr.mono (by first | decide | omega)) (by rfl) T.m_law_stranger T.F_law_stranger.kp T.b_law_stranger .nil pass0 (pa_cons (pv 1) pa_nil)))
      (pss_cons (ps_set (i := 14) sc_law.nd rfl (by first | exact Or.inl rfl | exact Or.inr rfl) (pe_ix (ix_any hu) (pe_call0 (ok_law_seven T) (hr.mono (by first | decide | omega)) (by rfl) T.m_law_seven T.F_law_seven.kp T.b_law_seven .nil pass0) (pe_call (draw_ok (C := ct T) (ok_law_draw T)) (hr.mono (by first | decide | omega)) (by rfl) T.m_law_draw T.F_law_draw.kp T.b_law_draw .nil pass0 (pa_cons (pv 1) (pa_cons pe_int pa_nil))) (fun _ _ => rfl)))
      (pss_cons (ps_for PassesOwn.never rfl (pi_list (pe_lst (pa_cons (pv 7) (pa_cons (pv 8) (pa_cons (pe_smeth0 (pe_glob (v := .ref T.c_World) (by rfl) T.mc_World rfl) T.cr_World T.sm_World_wide ((ok_World_wide T).raw T.b_World_wide .nil) (hr.mono (by first | decide | omega)) pass0) pa_nil))))) (pg_name (i := 15) sc_law.nd rfl (by first | exact Or.inl rfl | exact Or.inr rfl))
      (pss_cons (ps_if (PW.pt (pw_or (pt_not (pt_val (pe_call (same_ok (same_all T 8)) (hr.mono (by first | decide | omega)) (by rfl) T.m_law_same T.F_law_same.kp T.b_law_same .nil pass0 (pa_cons (pe_call (ok_law_refused T) (hr.mono (by first | decide | omega)) (by rfl) T.m_law_refused T.F_law_refused.kp T.b_law_refused .nil pass0 (pa_cons (pv 15) (pa_cons (pv 12) (pa_cons (pv 14) pa_nil)))) (pa_cons (pv 12) pa_nil))))) (pw_or1 (pt_not (pt_val (pe_call (same_ok (same_all T 8)) (hr.mono (by first | decide | omega)) (by rfl) T.m_law_same T.F_law_same.kp T.b_law_same .nil pass0 (pa_cons (pe_call (ok_law_refused T) (hr.mono (by first | decide | omega)) (by rfl) T.m_law_refused T.F_law_refused.kp T.b_law_refused .nil pass0 (pa_cons (pv 15) (pa_cons (pv 12) (pa_cons (pv 13) pa_nil)))) (pa_cons (pv 12) pa_nil)))))))) (pss_one (ps_ret pe_bl)) pss_nil)
      (pss_one (ps_if (pt_not (pt_val (pe_call (same_ok (same_all T 8)) (hr.mono (by first | decide | omega)) (by rfl) T.m_law_same T.F_law_same.kp T.b_law_same .nil pass0 (pa_cons (pe_call (ok_law_refused T) (hr.mono (by first | decide | omega)) (by rfl) T.m_law_refused T.F_law_refused.kp T.b_law_refused .nil pass0 (pa_cons (pv 15) (pa_cons (pv 14) (pa_cons (pv 13) pa_nil)))) (pa_cons (pv 13) pa_nil))))) (pss_one (ps_ret pe_bl)) pss_nil))))
      (pss_one (ps_ret (pe_call (same_ok (same_all T 8)) (hr.mono (by first | decide | omega)) (by rfl) T.m_law_same T.F_law_same.kp T.b_law_same .nil pass0 (pa_cons (pe_meth (pv 7) T.cl_World T.me_World_gap (ok_World_gap T) (hr.mono (by first | decide | omega)) T.b_World_gap .nil passN (pa_cons pe_str (pa_cons (pv 14) pa_nil))) (pa_cons (pe_call (ok_law_gap T) (hr.mono (by first | decide | omega)) (by rfl) T.m_law_gap T.F_law_gap.kp T.b_law_gap .nil pass0 (pa_cons pe_str (pa_cons (pv 14) (pa_cons (pv 2) (pa_cons (pv 3) pa_nil))))) pa_nil)))))))))))))))))))), ?_⟩
  obtain ⟨p_sc, ns_, rfl, hs_, _, hQ⟩ := h
  walk_at "start"
  refine s_seq ?_
  refine s_start (fun p_st => [some (.ref p_sc), some (.ref p_st), none, none, none, none, none, none, none, none, none, none, none, none, none, none]) (fun _ => rfl) rfl hs_ (fun p_st q_st H S_ => ?_)
  have hp := pt_start (K := K) (C := ct T) S_
  have hx := hx0 (K := K) (C := ct T) (R := RS p_st) (G0 := fun _ => none) (F0 := fun _ => none) (px := fun _ => False)
  have hm := m_law_ok
  have hQ := law_end (Z := ⟨K, ct T, RS p_st, fun _ => none, fun _ => none, ET0⟩) hQ
  unfold m_law at hm
  refine s_seq ?_
  refine s_set (fun v_late => [some (.ref p_sc), some (.ref p_st), some v_late, none, none, none, none, none, none, none, none, none, none, none, none, none]) (fun _ => rfl) hp hx hm (EV.callWP rfl (EA.consP EV.int EA.nil) (hcW1 fun v0 H Q h => ⟨_, (49 : Int), v0, rfl, h⟩)) (fun x_late v_late H hp hm => ?_)
  refine s_seq ?_
  refine s_set (fun v_far => [some (.ref p_sc), some (.ref p_st), some v_late, some v_far, none, none, none, none, none, none, none, none, none, none, none, none]) (fun _ => rfl) hp hx hm (EV.callWP rfl (EA.consP EV.int EA.nil) (hcW1 fun v0 H Q h => ⟨_, (49 : Int), v0, rfl, h⟩)) (fun x_far v_far H hp hm => ?_)
  refine s_seq ?_
  refine s_set (fun v_later => [some (.ref p_sc), some (.ref p_st), some v_late, some v_far, some v_later, none, none, none, none, none, none, none, none, none, none, none]) (fun _ => rfl) hp hx hm (EV.callWP rfl (EA.consP EV.int EA.nil) (hcW1 fun v0 H Q h => ⟨_, (49 : Int), v0, rfl, h⟩)) (fun x_later v_later H hp hm => ?_)
  refine s_seq ?_
  refine s_set (fun v_farther => [some (.ref p_sc), some (.ref p_st), some v_late, some v_far, some v_later, some v_farther, none, none, none, none, none, none, none, none, none, none]) (fun _ => rfl) hp hx hm (EV.callWP rfl (EA.consP EV.int EA.nil) (hcW1 fun v0 H Q h => ⟨_, (49 : Int), v0, rfl, h⟩)) (fun x_farther v_farther H hp hm => ?_)
  refine s_seq ?_
  refine s_set (fun v_great => [some (.ref p_sc), some (.ref p_st), some v_late, some v_far, some v_later, some v_farther, some v_great, none, none, none, none, none, none, none, none, none]) (fun _ => rfl) hp hx hm (EV.addI EV.int (EV.callWP rfl (EA.consP (EV.powC ⟨by decide, by decide, by decide⟩ (by decide)) EA.nil) (hcW1 fun v0 H Q h => ⟨_, (1000000000000000000000000000000 : Int), v0, rfl, h⟩))) (fun x_great v_great H hp hm => ?_)
  refine s_seq ?_
  refine s_set (fun v_world => [some (.ref p_sc), some (.ref p_st), some v_late, some v_far, some v_later, some v_farther, some v_great, some v_world, none, none, none, none, none, none, none, none]) (fun _ => rfl) hp hx hm (EV.makeNP (EA.consP (EV.var rfl (.tail _ (.tail _ (.tail _ (.tail _ (.head _)))))) (EA.consP (EV.var rfl (.tail _ (.tail _ (.tail _ (.head _))))) EA.nil)) (ct_World T) (hcI2 fun x v0 v1 H Q h => ⟨x, x_late, x_far, v0, v1, rfl, h⟩)) (fun x_world v_world H hp hm => ?_)
  refine s_seq ?_
  refine s_set (fun v_other => [some (.ref p_sc), some (.ref p_st), some v_late, some v_far, some v_later, some v_farther, some v_great, some v_world, some v_other, none, none, none, none, none, none, none]) (fun _ => rfl) hp hx hm (EV.makeNP (EA.consP (EV.var rfl (.tail _ (.tail _ (.tail _ (.head _))))) (EA.consP (EV.var rfl (.tail _ (.tail _ (.head _)))) EA.nil)) (ct_World T) (hcI2 fun x v0 v1 H Q h => ⟨x, x_later, x_farther, v0, v1, rfl, h⟩)) (fun x_other v_other H hp hm => ?_)
  refine s_seq ?_
  refine s_for (γ := Unit) (ι := (Option V × Option V)) (ρ' := Bool) hp hx hm (EI.list (EV.callNP EA.nil (hcN0 fun  H Q h => ⟨rfl, h⟩))) (fun r c => [some (.ref p_sc), some (.ref p_st), some v_late, some v_far, some v_later, some v_farther, some v_great, some v_world, some v_other, r.1, r.2, none, none, none, none, none]) (fun w9 r c => [w9, (v_late, enc x_late), (v_far, enc x_far), (v_later, enc x_later), (v_farther, enc x_farther), (v_great, enc x_great), (v_world, enc x_world), (v_other, enc x_other)]) (fun r c => ([] : List (Addr × Mi.D))) (fun w H hp => ⟨(none, none), rfl, hp.less (pk (.head _) (pk (.tail _ (.tail _ (.tail _ (.tail _ (.tail _ (.tail _ (.tail _ (.head _)))))))) (pk (.tail _ (.tail _ (.tail _ (.tail _ (.tail _ (.tail _ (.head _))))))) (pk (.tail _ (.tail _ (.tail _ (.tail _ (.tail _ (.head _)))))) (pk (.tail _ (.tail _ (.tail _ (.tail _ (.head _))))) (pk (.tail _ (.tail _ (.tail _ (.head _)))) (pk (.tail _ (.tail _ (.head _))) (pk (.tail _ (.head _)) pk0))))))))⟩) (fun _ _ _ => .head _) (fun nx_ hbk_ w9 r c v_upper x_upper rest H hp hm => ?_) (fun w r c H hp hm => ?_)
  · obtain ⟨o_upper, o_lower⟩ := r
    refine g_one' (fun v_upper => [some (.ref p_sc), some (.ref p_st), some v_late, some v_far, some v_later, some v_farther, some v_great, some v_world, some v_other, some v_upper, o_lower, none, none, none, none, none]) (fun _ => rfl) hp (fun hp => ?_)
    refine s_for (γ := Unit) (ι := (Option V)) (ρ' := Bool) hp hx hm (EI.list (EV.callNP EA.nil (hcN0 fun  H Q h => ⟨rfl, h⟩))) (fun r c => [some (.ref p_sc), some (.ref p_st), some v_late, some v_far, some v_later, some v_farther, some v_great, some v_world, some v_other, some v_upper, r, none, none, none, none, none]) (fun w12 r c => [w12, (v_late, enc x_late), (v_far, enc x_far), (v_later, enc x_later), (v_farther, enc x_farther), (v_great, enc x_great), (v_world, enc x_world), (v_other, enc x_other), (v_upper, enc x_upper), w9]) (fun r c => ([] : List (Addr × Mi.D))) (fun w H hp => ⟨(o_lower), rfl, hp.less (pk (.head _) (pk (.tail _ (.tail _ (.tail _ (.head _)))) (pk (.tail _ (.tail _ (.tail _ (.tail _ (.head _))))) (pk (.tail _ (.tail _ (.tail _ (.tail _ (.tail _ (.head _)))))) (pk (.tail _ (.tail _ (.tail _ (.tail _ (.tail _ (.tail _ (.head _))))))) (pk (.tail _ (.tail _ (.tail _ (.tail _ (.tail _ (.tail _ (.tail _ (.head _)))))))) (pk (.tail _ (.tail _ (.tail _ (.tail _ (.tail _ (.tail _ (.tail _ (.tail _ (.head _))))))))) (pk (.tail _ (.tail _ (.tail _ (.tail _ (.tail _ (.tail _ (.tail _ (.tail _ (.tail _ (.head _)))))))))) (pk (.tail _ (.head _)) (pk (.tail _ (.tail _ (.head _))) pk0))))))))))⟩) (fun _ _ _ => .head _) (fun nx_ hbk_ w12 o_lower c v_lower x_lower rest H hp hm => ?_) (fun w o_lower c H hp hm => ?_)
    · refine g_one' (fun v_lower => [some (.ref p_sc), some (.ref p_st), some v_late, some v_far, some v_later, some v_farther, some v_great, some v_world, some v_other, some v_upper, some v_lower, none, none, none, none, none]) (fun _ => rfl) hp (fun hp => ?_)
      refine s_seq ?_
      refine s_if hp hx hm (ET.not (ET.test (EV.callN (γ := (Mi.D × Mi.D × Unit)) (f := fun g_ => m_law_same g_.1 g_.2.1) (EA.cons (EV.toDM (EV.methF (f := "gap") (γ := (Str × Str × Unit)) (k := fun a_ g_ => m_World_gap a_ g_.1 g_.2.1) (EV.var rfl (.tail _ (.tail _ (.tail _ (.tail _ (.tail _ (.tail _ (.tail _ (.head _))))))))) (EA.cons (EV.var rfl (.tail _ (.tail _ (.tail _ (.tail _ (.tail _ (.tail _ (.tail _ (.tail _ (.tail _ (.head _))))))))))) (EA.cons (EV.var rfl (.head _)) EA.nil)) (ct_World T) (fun _ => ⟨_, _, rfl, by decide⟩) (fun a_ x g_ vs H Q hl h => match vs, hl, h with | [v0, v1], _, h => ⟨a_, g_.1, g_.2.1, x, v0, v1, rfl, h⟩))) (EA.cons (EV.toDM (EV.callNP (EA.consP (EV.var rfl (.tail _ (.tail _ (.tail _ (.tail _ (.tail _ (.tail _ (.tail _ (.tail _ (.tail _ (.head _))))))))))) (EA.consP (EV.var rfl (.head _)) (EA.consP (EV.var rfl (.tail _ (.tail _ (.head _)))) (EA.consP (EV.var rfl (.tail _ (.tail _ (.tail _ (.head _))))) EA.nil)))) (hcN4 fun v0 v1 v2 v3 H Q h => ⟨x_upper, x_lower, x_late, x_far, v0, v1, v2, v3, rfl, h⟩))) EA.nil)) (fun g_ => hcN2 fun v0 v1 H Q h => ⟨g_.1, g_.2.1, v0, v1, rfl, h⟩)))) (fun H hp hm => ?_) (fun H hp hm => ?_)
      · refine s_ret (α := Bool) hp hx hm EV.bl (fun a v H hp hm => hQ a v H hp.fin hm)
      · refine s_next ?_
        refine s_if hp hx hm (ET.not (ET.test (EV.callN (γ := (Mi.D × Mi.D × Unit)) (f := fun g_ => m_law_same g_.1 g_.2.1) (EA.cons (EV.toDM (EV.methF (f := "gap") (γ := (Str × Str × Unit)) (k := fun a_ g_ => m_World_gap a_ g_.1 g_.2.1) (EV.var rfl (.tail _ (.tail _ (.tail _ (.tail _ (.tail _ (.tail _ (.tail _ (.tail _ (.head _)))))))))) (EA.cons (EV.var rfl (.tail _ (.tail _ (.tail _ (.tail _ (.tail _ (.tail _ (.tail _ (.tail _ (.tail _ (.head _))))))))))) (EA.cons (EV.var rfl (.head _)) EA.nil)) (ct_World T) (fun _ => ⟨_, _, rfl, by decide⟩) (fun a_ x g_ vs H Q hl h => match vs, hl, h with | [v0, v1], _, h => ⟨a_, g_.1, g_.2.1, x, v0, v1, rfl, h⟩))) (EA.cons (EV.toDM (EV.callNP (EA.consP (EV.var rfl (.tail _ (.tail _ (.tail _ (.tail _ (.tail _ (.tail _ (.tail _ (.tail _ (.tail _ (.head _))))))))))) (EA.consP (EV.var rfl (.head _)) (EA.consP (EV.var rfl (.tail _ (.tail _ (.tail _ (.tail _ (.head _)))))) (EA.consP (EV.var rfl (.tail _ (.tail _ (.tail _ (.tail _ (.tail _ (.head _))))))) EA.nil)))) (hcN4 fun v0 v1 v2 v3 H Q h => ⟨x_upper, x_lower, x_later, x_farther, v0, v1, v2, v3, rfl, h⟩))) EA.nil)) (fun g_ => hcN2 fun v0 v1 H Q h => ⟨g_.1, g_.2.1, v0, v1, rfl, h⟩)))) (fun H hp hm => ?_) (fun H hp hm => ?_)
        · refine s_ret (α := Bool) hp hx hm EV.bl (fun a v H hp hm => hQ a v H hp.fin hm)
        · refine s_next ?_
          exact ⟨(some v_lower), (), rfl, (hp.less (pk (.tail _ (.head _)) (pk (.tail _ (.tail _ (.head _))) (pk (.tail _ (.tail _ (.tail _ (.head _)))) (pk (.tail _ (.tail _ (.tail _ (.tail _ (.head _))))) (pk (.tail _ (.tail _ (.tail _ (.tail _ (.tail _ (.head _)))))) (pk (.tail _ (.tail _ (.tail _ (.tail _ (.tail _ (.tail _ (.head _))))))) (pk (.tail _ (.tail _ (.tail _ (.tail _ (.tail _ (.tail _ (.tail _ (.head _)))))))) (pk (.tail _ (.tail _ (.tail _ (.tail _ (.tail _ (.tail _ (.tail _ (.tail _ (.head _))))))))) (pk (.tail _ (.tail _ (.tail _ (.tail _ (.tail _ (.tail _ (.tail _ (.tail _ (.tail _ (.head _)))))))))) (pk (.tail _ (.tail _ (.tail _ (.tail _ (.tail _ (.tail _ (.tail _ (.tail _ (.tail _ (.tail _ (.head _))))))))))) pk0))))))))))), hm⟩
    · exact ⟨(some v_upper, o_lower), (), rfl, (hp.less (pk (.tail _ (.tail _ (.tail _ (.tail _ (.tail _ (.tail _ (.tail _ (.tail _ (.tail _ (.head _)))))))))) (pk (.tail _ (.head _)) (pk (.tail _ (.tail _ (.head _))) (pk (.tail _ (.tail _ (.tail _ (.head _)))) (pk (.tail _ (.tail _ (.tail _ (.tail _ (.head _))))) (pk (.tail _ (.tail _ (.tail _ (.tail _ (.tail _ (.head _)))))) (pk (.tail _ (.tail _ (.tail _ (.tail _ (.tail _ (.tail _ (.head _))))))) (pk (.tail _ (.tail _ (.tail _ (.tail _ (.tail _ (.tail _ (.tail _ (.head _)))))))) pk0))))))))), hm⟩
  · obtain ⟨o_upper, o_lower⟩ := r
    refine s_seq ?_
    refine s_for (γ := Unit) (ι := (Option V)) (ρ' := Bool) hp hx hm (EI.list (EV.callNP EA.nil (hcN0 fun  H Q h => ⟨rfl, h⟩))) (fun r c => [some (.ref p_sc), some (.ref p_st), some v_late, some v_far, some v_later, some v_farther, some v_great, some v_world, some v_other, r, o_lower, none, none, none, none, none]) (fun w17 r c => [w17, (v_late, enc x_late), (v_far, enc x_far), (v_great, enc x_great), (v_world, enc x_world), (v_other, enc x_other)]) (fun r c => ([] : List (Addr × Mi.D))) (fun w H hp => ⟨(o_upper), rfl, hp.less (pk (.head _) (pk (.tail _ (.tail _ (.head _))) (pk (.tail _ (.tail _ (.tail _ (.head _)))) (pk (.tail _ (.tail _ (.tail _ (.tail _ (.tail _ (.tail _ (.head _))))))) (pk (.tail _ (.tail _ (.tail _ (.tail _ (.tail _ (.tail _ (.tail _ (.head _)))))))) (pk (.tail _ (.tail _ (.tail _ (.tail _ (.tail _ (.tail _ (.tail _ (.tail _ (.head _))))))))) pk0))))))⟩) (fun _ _ _ => .head _) (fun nx_ hbk_ w17 o_upper c v_upper x_upper rest H hp hm => ?_) (fun w o_upper c H hp hm => ?_)
    · refine g_one' (fun v_upper => [some (.ref p_sc), some (.ref p_st), some v_late, some v_far, some v_later, some v_farther, some v_great, some v_world, some v_other, some v_upper, o_lower, none, none, none, none, none]) (fun _ => rfl) hp (fun hp => ?_)
      refine s_if hp hx hm (ET.not (ET.test (EV.callFP (EA.consP (EV.var rfl (.tail _ (.tail _ (.tail _ (.tail _ (.tail _ (.head _))))))) (EA.consP (EV.var rfl (.head _)) (EA.consP (EV.var rfl (.tail _ (.tail _ (.tail _ (.tail _ (.head _)))))) (EA.consP (EV.var rfl (.tail _ (.tail _ (.head _)))) (EA.consP (EV.var rfl (.tail _ (.tail _ (.tail _ (.head _))))) EA.nil))))) (hcX5 fun v0 v1 v2 v3 v4 H Q h => ⟨x_world, x_upper, x_great, x_late, x_far, v0, v1, v2, v3, v4, rfl, h⟩)))) (fun H hp hm => ?_) (fun H hp hm => ?_)
      · refine s_ret (α := Bool) hp hx hm EV.bl (fun a v H hp hm => hQ a v H hp.fin hm)
      · refine s_next ?_
        exact ⟨(some v_upper), (), rfl, (hp.less (pk (.tail _ (.head _)) (pk (.tail _ (.tail _ (.head _))) (pk (.tail _ (.tail _ (.tail _ (.head _)))) (pk (.tail _ (.tail _ (.tail _ (.tail _ (.head _))))) (pk (.tail _ (.tail _ (.tail _ (.tail _ (.tail _ (.head _)))))) (pk (.tail _ (.tail _ (.tail _ (.tail _ (.tail _ (.tail _ (.head _))))))) pk0))))))), hm⟩
    · refine s_seq ?_
      refine s_for (γ := Unit) (ι := (Option V)) (ρ' := Bool) hp hx hm (EI.range1P EV.int) (fun r c => [some (.ref p_sc), some (.ref p_st), some v_late, some v_far, some v_later, some v_farther, some v_great, some v_world, some v_other, o_upper, o_lower, r, none, none, none, none]) (fun w21 r c => [w21, (v_late, enc x_late), (v_far, enc x_far), (v_world, enc x_world), (v_other, enc x_other)]) (fun r c => ([] : List (Addr × Mi.D))) (fun w H hp => ⟨(none), rfl, hp.less (pk (.head _) (pk (.tail _ (.tail _ (.head _))) (pk (.tail _ (.tail _ (.tail _ (.head _)))) (pk (.tail _ (.tail _ (.tail _ (.tail _ (.tail _ (.head _)))))) (pk (.tail _ (.tail _ (.tail _ (.tail _ (.tail _ (.tail _ (.head _))))))) pk0)))))⟩) (fun _ _ _ => .head _) (fun nx_ hbk_ w21 o_k c v_k x_k rest H hp hm => ?_) (fun w o_k c H hp hm => ?_)
      · refine g_one' (fun v_k => [some (.ref p_sc), some (.ref p_st), some v_late, some v_far, some v_later, some v_farther, some v_great, some v_world, some v_other, o_upper, o_lower, some v_k, none, none, none, none]) (fun _ => rfl) hp (fun hp => ?_)
        refine s_if hp hx hm (ET.not (ET.test (EV.callF (γ := (Wld × (Dt Int) × Unit)) (f := fun g_ => m_law_never_more g_.1 g_.2.1) (EA.cons (EV.var rfl (.tail _ (.tail _ (.tail _ (.tail _ (.head _)))))) (EA.cons (EV.callWP rfl (EA.consP (EV.var rfl (.tail _ (.tail _ (.head _)))) (EA.consP (EV.var rfl (.tail _ (.tail _ (.tail _ (.head _))))) EA.nil)) (hcW2 fun v0 v1 H Q h => ⟨_, x_late, x_far, v0, v1, rfl, h⟩)) EA.nil)) (fun g_ => hcX2 fun v0 v1 H Q h => ⟨g_.1, g_.2.1, v0, v1, rfl, h⟩)))) (fun H hp hm => ?_) (fun H hp hm => ?_)
        · refine s_ret (α := Bool) hp hx hm EV.bl (fun a v H hp hm => hQ a v H hp.fin hm)
        · refine s_next ?_
          exact ⟨(some v_k), (), rfl, (hp.less (pk (.tail _ (.head _)) (pk (.tail _ (.tail _ (.head _))) (pk (.tail _ (.tail _ (.tail _ (.head _)))) (pk (.tail _ (.tail _ (.tail _ (.tail _ (.head _))))) (pk (.tail _ (.tail _ (.tail _ (.tail _ (.tail _ (.head _)))))) pk0)))))), hm⟩
      · refine s_seq ?_
        refine s_set (fun v_first => [some (.ref p_sc), some (.ref p_st), some v_late, some v_far, some v_later, some v_farther, some v_great, some v_world, some v_other, o_upper, o_lower, o_k, some v_first, none, none, none]) (fun _ => rfl) hp hx hm (EV.callWP rfl EA.nil (hcW0 fun  H Q h => ⟨_, rfl, h⟩)) (fun x_first v_first H hp hm => ?_)
        refine s_seq ?_
        refine s_set (fun v_second => [some (.ref p_sc), some (.ref p_st), some v_late, some v_far, some v_later, some v_farther, some v_great, some v_world, some v_other, o_upper, o_lower, o_k, some v_first, some v_second, none, none]) (fun _ => rfl) hp hx hm (EV.callWP rfl EA.nil (hcW0 fun  H Q h => ⟨_, rfl, h⟩)) (fun x_second v_second H hp hm => ?_)
        refine s_seq ?_
        refine s_set (fun v_mark => [some (.ref p_sc), some (.ref p_st), some v_late, some v_far, some v_later, some v_farther, some v_great, some v_world, some v_other, o_upper, o_lower, o_k, some v_first, some v_second, some v_mark, none]) (fun _ => rfl) hp hx hm (EV.ixL (EV.callNP EA.nil (hcN0 fun  H Q h => ⟨rfl, h⟩)) (EV.callWP rfl (EA.consP EV.int EA.nil) (hcW1 fun v0 H Q h => ⟨_, (7 : Int), v0, rfl, h⟩))) (fun x_mark v_mark H hp hm => ?_)
        refine s_seq ?_
        refine s_for (γ := Unit) (ι := (Option V)) (ρ' := Bool) hp hx hm (EI.list (EV.lst (γ := (Wld × Wld × Wld × Unit)) (EA.cons (EV.var rfl (.tail _ (.tail _ (.tail _ (.tail _ (.tail _ (.tail _ (.head _)))))))) (EA.cons (EV.var rfl (.tail _ (.tail _ (.tail _ (.tail _ (.tail _ (.tail _ (.tail _ (.head _))))))))) (EA.cons (EV.smN (γ := (Unit)) (f := fun g_ => m_World_wide) EA.nil (fun g_ vs_ H Q hl_ h => match vs_, hl_, h with | [], _, h => ⟨rfl, h⟩)) EA.nil))) (f := fun g_ => ([g_.1, g_.2.1, g_.2.2.1] : (List Wld))) (fun _ => rfl) (fun _ => by simp))) (fun r c => [some (.ref p_sc), some (.ref p_st), some v_late, some v_far, some v_later, some v_farther, some v_great, some v_world, some v_other, o_upper, o_lower, o_k, some v_first, some v_second, some v_mark, r]) (fun w28 r c => [w28, (v_late, enc x_late), (v_far, enc x_far), (v_world, enc x_world), (v_first, enc x_first), (v_second, enc x_second), (v_mark, enc x_mark)]) (fun r c => ([] : List (Addr × Mi.D))) (fun w H hp => ⟨(none), rfl, hp.less (pk (.head _) (pk (.tail _ (.tail _ (.tail _ (.tail _ (.tail _ (.head _)))))) (pk (.tail _ (.tail _ (.tail _ (.tail _ (.tail _ (.tail _ (.head _))))))) (pk (.tail _ (.tail _ (.tail _ (.tail _ (.tail _ (.tail _ (.tail _ (.head _)))))))) (pk (.tail _ (.tail _ (.tail _ (.head _)))) (pk (.tail _ (.tail _ (.head _))) (pk (.tail _ (.head _)) pk0)))))))⟩) (fun _ _ _ => .head _) (fun nx_ hbk_ w28 o_one c v_one x_one rest H hp hm => ?_) (fun w o_one c H hp hm => ?_)
        · refine g_one' (fun v_one => [some (.ref p_sc), some (.ref p_st), some v_late, some v_far, some v_later, some v_farther, some v_great, some v_world, some v_other, o_upper, o_lower, o_k, some v_first, some v_second, some v_mark, some v_one]) (fun _ => rfl) hp (fun hp => ?_)
          refine s_seq ?_
          refine s_if hp hx hm (ET.or (ET.not (ET.test (EV.callN (γ := (Mi.D × Mi.D × Unit)) (f := fun g_ => m_law_same g_.1 g_.2.1) (EA.cons (EV.callNP (EA.consP (EV.var rfl (.head _)) (EA.consP (EV.var rfl (.tail _ (.tail _ (.tail _ (.tail _ (.tail _ (.head _))))))) (EA.consP (EV.var rfl (.tail _ (.tail _ (.tail _ (.tail _ (.tail _ (.tail _ (.tail _ (.head _))))))))) EA.nil))) (hcN3 fun v0 v1 v2 H Q h => ⟨x_one, x_first, x_mark, v0, v1, v2, rfl, h⟩)) (EA.cons (EV.toD (EV.var rfl (.tail _ (.tail _ (.tail _ (.tail _ (.tail _ (.head _)))))))) EA.nil)) (fun g_ => hcN2 fun v0 v1 H Q h => ⟨g_.1, g_.2.1, v0, v1, rfl, h⟩)))) (ET.not (ET.test (EV.callN (γ := (Mi.D × Mi.D × Unit)) (f := fun g_ => m_law_same g_.1 g_.2.1) (EA.cons (EV.callNP (EA.consP (EV.var rfl (.head _)) (EA.consP (EV.var rfl (.tail _ (.tail _ (.tail _ (.tail _ (.tail _ (.head _))))))) (EA.consP (EV.var rfl (.tail _ (.tail _ (.tail _ (.tail _ (.tail _ (.tail _ (.head _)))))))) EA.nil))) (hcN3 fun v0 v1 v2 H Q h => ⟨x_one, x_first, x_second, v0, v1, v2, rfl, h⟩)) (EA.cons (EV.toD (EV.var rfl (.tail _ (.tail _ (.tail _ (.tail _ (.tail _ (.head _)))))))) EA.nil)) (fun g_ => hcN2 fun v0 v1 H Q h => ⟨g_.1, g_.2.1, v0, v1, rfl, h⟩))))) (fun H hp hm => ?_) (fun H hp hm => ?_)
          · refine s_ret (α := Bool) hp hx hm EV.bl (fun a v H hp hm => hQ a v H hp.fin hm)
          · refine s_next ?_
            refine s_if hp hx hm (ET.not (ET.test (EV.callN (γ := (Mi.D × Mi.D × Unit)) (f := fun g_ => m_law_same g_.1 g_.2.1) (EA.cons (EV.callNP (EA.consP (EV.var rfl (.head _)) (EA.consP (EV.var rfl (.tail _ (.tail _ (.tail _ (.tail _ (.tail _ (.tail _ (.tail _ (.head _))))))))) (EA.consP (EV.var rfl (.tail _ (.tail _ (.tail _ (.tail _ (.tail _ (.tail _ (.head _)))))))) EA.nil))) (hcN3 fun v0 v1 v2 H Q h => ⟨x_one, x_mark, x_second, v0, v1, v2, rfl, h⟩)) (EA.cons (EV.toD (EV.var rfl (.tail _ (.tail _ (.tail _ (.tail _ (.tail _ (.tail _ (.head _))))))))) EA.nil)) (fun g_ => hcN2 fun v0 v1 H Q h => ⟨g_.1, g_.2.1, v0, v1, rfl, h⟩)))) (fun H hp hm => ?_) (fun H hp hm => ?_)
            · refine s_ret (α := Bool) hp hx hm EV.bl (fun a v H hp hm => hQ a v H hp.fin hm)
            · refine s_next ?_
              exact ⟨(some v_one), (), rfl, (hp.less (pk (.tail _ (.head _)) (pk (.tail _ (.tail _ (.head _))) (pk (.tail _ (.tail _ (.tail _ (.head _)))) (pk (.tail _ (.tail _ (.tail _ (.tail _ (.head _))))) (pk (.tail _ (.tail _ (.tail _ (.tail _ (.tail _ (.head _)))))) (pk (.tail _ (.tail _ (.tail _ (.tail _ (.tail _ (.tail _ (.head _))))))) (pk (.tail _ (.tail _ (.tail _ (.tail _ (.tail _ (.tail _ (.tail _ (.head _)))))))) pk0)))))))), hm⟩
        · refine s_ret1 hp hx hm (EV.callN (γ := (Mi.D × Mi.D × Unit)) (f := fun g_ => m_law_same g_.1 g_.2.1) (EA.cons (EV.toDM (EV.methF (f := "gap") (γ := (Str × Str × Unit)) (k := fun a_ g_ => m_World_gap a_ g_.1 g_.2.1) (EV.var rfl (.tail _ (.tail _ (.tail _ (.head _))))) (EA.cons EV.str (EA.cons (EV.var rfl (.tail _ (.tail _ (.tail _ (.tail _ (.tail _ (.tail _ (.head _)))))))) EA.nil)) (ct_World T) (fun _ => ⟨_, _, rfl, by decide⟩) (fun a_ x g_ vs H Q hl h => match vs, hl, h with | [v0, v1], _, h => ⟨a_, g_.1, g_.2.1, x, v0, v1, rfl, h⟩))) (EA.cons (EV.toDM (EV.callNP (EA.consP EV.str (EA.consP (EV.var rfl (.tail _ (.tail _ (.tail _ (.tail _ (.tail _ (.tail _ (.head _)))))))) (EA.consP (EV.var rfl (.tail _ (.head _))) (EA.consP (EV.var rfl (.tail _ (.tail _ (.head _)))) EA.nil)))) (hcN4 fun v0 v1 v2 v3 H Q h => ⟨("end" : Str), x_mark, x_late, x_far, v0, v1, v2, v3, rfl, h⟩))) EA.nil)) (fun g_ => hcN2 fun v0 v1 H Q h => ⟨g_.1, g_.2.1, v0, v1, rfl, h⟩)) (fun a v H hp hm => hQ a v H hp.fin hm)
end
theorem all_mk {l : PySem.W.OpenLaw} {w : World} {K : PySem.W.Frag} {h : Heap} {mg : Str → Option Value} {fa c_World a_law_mixed a_law_draw a_law_start a_law_same a_check_mark a_stands_below a_sum_of a_mark_gap a_on_ladder a_is_whole a_is_bound a_bound_at_most a_World_init dT_World_init a_World_wide p_World_wide a_World_gap a_Worlddd__containsdd_ a_law_word a_law_within a_law_ladder a_law_bound a_law_under a_law_gap a_law_seven a_law_least a_law_stranger a_law_refused a_law_attained a_law_never_more a_law c_UnknownMark c_SlotError c_MissingMark c_WrongMark i_UnknownMark cda_UnknownMark cc_UnknownMark cb0_UnknownMark k_MARKS k_ABOVE k_ABOVE_0 k_ABOVE_1 k_ABOVE_2 k_ABOVE_3 k_ABOVE_4 k_ABOVE_5 k_ABOVE_6 : Addr} (X : K.In h) (G : h.Ns mainGlobals mg) (hfa : mg "law" = some (.ref fa))
    {od_law_mixed an_law_mixed od_law_draw an_law_draw od_law_start an_law_start od_law_same an_law_same od_check_mark an_check_mark od_stands_below an_stands_below od_sum_of an_sum_of od_mark_gap an_mark_gap od_on_ladder an_on_ladder od_is_whole an_is_whole od_is_bound an_is_bound od_bound_at_most an_bound_at_most od_World_init an_World_init od_World_wide an_World_wide od_World_gap an_World_gap od_Worlddd__containsdd_ an_Worlddd__containsdd_ od_law_word an_law_word od_law_within an_law_within od_law_ladder an_law_ladder od_law_bound an_law_bound od_law_under an_law_under od_law_gap an_law_gap od_law_seven an_law_seven od_law_least an_law_least od_law_stranger an_law_stranger od_law_refused an_law_refused od_law_attained an_law_attained od_law_never_more an_law_never_more od_law an_law : Option Addr} {sl_law_mixed sl_law_draw sl_law_start sl_law_same sl_check_mark sl_stands_below sl_sum_of sl_mark_gap sl_on_ladder sl_is_whole sl_is_bound sl_bound_at_most sl_World_init sl_World_wide sl_World_gap sl_Worlddd__containsdd_ sl_law_word sl_law_within sl_law_ladder sl_law_bound sl_law_under sl_law_gap sl_law_seven sl_law_least sl_law_stranger sl_law_refused sl_law_attained sl_law_never_more sl_law : Array (Option Value)} {oc_law_mixed kV_law_mixed dc_law_mixed pm_law_mixed cd_law_mixed ct_law_mixed oc_law_draw kV_law_draw dc_law_draw pm_law_draw cd_law_draw ct_law_draw oc_law_start kV_law_start dc_law_start pm_law_start cd_law_start ct_law_start oc_law_same kV_law_same dc_law_same pm_law_same cd_law_same ct_law_same oc_check_mark kV_check_mark dc_check_mark pm_check_mark cd_check_mark ct_check_mark oc_stands_below kV_stands_below dc_stands_below pm_stands_below cd_stands_below ct_stands_below oc_sum_of kV_sum_of dc_sum_of pm_sum_of cd_sum_of ct_sum_of oc_mark_gap kV_mark_gap dc_mark_gap pm_mark_gap cd_mark_gap ct_mark_gap oc_on_ladder kV_on_ladder dc_on_ladder pm_on_ladder cd_on_ladder ct_on_ladder oc_is_whole kV_is_whole dc_is_whole pm_is_whole cd_is_whole ct_is_whole oc_is_bound kV_is_bound dc_is_bound pm_is_bound cd_is_bound ct_is_bound oc_bound_at_most kV_bound_at_most dc_bound_at_most pm_bound_at_most cd_bound_at_most ct_bound_at_most oc_World_init kV_World_init dc_World_init pm_World_init cd_World_init ct_World_init oc_World_wide kV_World_wide dc_World_wide pm_World_wide cd_World_wide ct_World_wide oc_World_gap kV_World_gap dc_World_gap pm_World_gap cd_World_gap ct_World_gap oc_Worlddd__containsdd_ kV_Worlddd__containsdd_ dc_Worlddd__containsdd_ pm_Worlddd__containsdd_ cd_Worlddd__containsdd_ ct_Worlddd__containsdd_ oc_law_word kV_law_word dc_law_word pm_law_word cd_law_word ct_law_word oc_law_within kV_law_within dc_law_within pm_law_within cd_law_within ct_law_within oc_law_ladder kV_law_ladder dc_law_ladder pm_law_ladder cd_law_ladder ct_law_ladder oc_law_bound kV_law_bound dc_law_bound pm_law_bound cd_law_bound ct_law_bound oc_law_under kV_law_under dc_law_under pm_law_under cd_law_under ct_law_under oc_law_gap kV_law_gap dc_law_gap pm_law_gap cd_law_gap ct_law_gap oc_law_seven kV_law_seven dc_law_seven pm_law_seven cd_law_seven ct_law_seven oc_law_least kV_law_least dc_law_least pm_law_least cd_law_least ct_law_least oc_law_stranger kV_law_stranger dc_law_stranger pm_law_stranger cd_law_stranger ct_law_stranger oc_law_refused kV_law_refused dc_law_refused pm_law_refused cd_law_refused ct_law_refused oc_law_attained kV_law_attained dc_law_attained pm_law_attained cd_law_attained ct_law_attained oc_law_never_more kV_law_never_more dc_law_never_more pm_law_never_more cd_law_never_more ct_law_never_more oc_law kV_law dc_law pm_law cd_law ct_law oc_UnknownMark kV_UnknownMark dc_UnknownMark pm_UnknownMark ct_UnknownMark ccl_UnknownMark cl_UnknownMark : Value} {dc_TWorld_init : Value} {dd_TWorld_init : Option Addr} {dn_TWorld_init : Nat} {ds_TWorld_init : Array (Option Value)} {rest_World_wide : List Value} {nm_UnknownMark q_UnknownMark file_UnknownMark : Str} {tf_UnknownMark : Tok} {N_UnknownMark : Addr} {bs_UnknownMark sub_UnknownMark : List Value} {sn_UnknownMark : List Str} {ab_UnknownMark : Bool} {col_UnknownMark : Option Bool} {dd_UnknownMark : Option Addr} {m0_UnknownMark m1_UnknownMark m2_UnknownMark m3_UnknownMark m5_UnknownMark : Option Value} {od_UnknownMark an_UnknownMark cdd_UnknownMark cld_UnknownMark : Option Addr} {sl_UnknownMark ccs_UnknownMark csl_UnknownMark : Array (Option Value)} {vs_UnknownMark : Array Value} {kt_BOUND_LIMIT : Tok} {u0_MARKS u1_MARKS u2_MARKS u3_MARKS u4_MARKS u5_MARKS u6_MARKS : Tok} {n_MARKS : Nat} {sl_MARKS : Array (Option Value)} {es_ABOVE : Array DictEntry} {n_ABOVE : Nat} {u0_ABOVE_0 u1_ABOVE_0 u2_ABOVE_0 u3_ABOVE_0 u4_ABOVE_0 u5_ABOVE_0 u6_ABOVE_0 : Tok} {n_ABOVE_0 : Nat} {sl_ABOVE_0 : Array (Option Value)} {dd_ABOVE_0 : Option Addr} {u0_ABOVE_1 u1_ABOVE_1 u2_ABOVE_1 u3_ABOVE_1 : Tok} {n_ABOVE_1 : Nat} {sl_ABOVE_1 : Array (Option Value)} {dd_ABOVE_1 : Option Addr} {u0_ABOVE_2 u1_ABOVE_2 u2_ABOVE_2 : Tok} {n_ABOVE_2 : Nat} {sl_ABOVE_2 : Array (Option Value)} {dd_ABOVE_2 : Option Addr} {u0_ABOVE_3 u1_ABOVE_3 : Tok} {n_ABOVE_3 : Nat} {sl_ABOVE_3 : Array (Option Value)} {dd_ABOVE_3 : Option Addr} {u0_ABOVE_4 : Tok} {n_ABOVE_4 : Nat} {sl_ABOVE_4 : Array (Option Value)} {dd_ABOVE_4 : Option Addr} {u0_ABOVE_5 u1_ABOVE_5 u2_ABOVE_5 : Tok} {n_ABOVE_5 : Nat} {sl_ABOVE_5 : Array (Option Value)} {dd_ABOVE_5 : Option Addr} {u0_ABOVE_6 u1_ABOVE_6 : Tok} {n_ABOVE_6 : Nat} {sl_ABOVE_6 : Array (Option Value)} {dd_ABOVE_6 : Option Addr}
    (z_bool : PySem.W.nsIn K mainGlobals "bool" = some none)
    (z_dict : PySem.W.nsIn K mainGlobals "dict" = some none)
    (z_int : PySem.W.nsIn K mainGlobals "int" = some none)
    (z_isinstance : PySem.W.nsIn K mainGlobals "isinstance" = some none)
    (z_len : PySem.W.nsIn K mainGlobals "len" = some none)
    (z_list : PySem.W.nsIn K mainGlobals "list" = some none)
    (z_range : PySem.W.nsIn K mainGlobals "range" = some none)
    (z_str : PySem.W.nsIn K mainGlobals "str" = some none)
    (z_tuple : PySem.W.nsIn K mainGlobals "tuple" = some none)
    (aC_World : PySem.W.nsIn K mainGlobals "World" = some (some (.ref c_World)))
    (pg_World : PySem.W.plainGet K c_World Str.empty = true)
    (hd_World : PySem.W.hasDictIn K c_World = true)
    (po_World : PySem.W.plainOver K c_World = true)
    (sa_World : PySem.W.findIn K (.ref c_World) "__setattr__" = some (some (.builtin "object.__setattr__")))
    (mi_World : PySem.W.makesIn K c_World = true)
    (kc_World : PySem.W.keepIn K (.ref c_World) = true)
    (n_World_lag : PySem.W.findIn K (.ref c_World) "lag" = some none)
    (n_World_length : PySem.W.findIn K (.ref c_World) "length" = some none)
    (n1_law_mixed : PySem.W.nsIn K mainGlobals "_law_mixed" = some (some (.ref a_law_mixed)))
    (l_law_mixed : K.lookup a_law_mixed = some ⟨oc_law_mixed, od_law_mixed, .func (PySem.W.fnOf "_law_mixed" "_law_mixed" (defArgs s_law_mixed) (defBody s_law_mixed) (defScope s_law_mixed) .none kV_law_mixed dc_law_mixed pm_law_mixed an_law_mixed cd_law_mixed ct_law_mixed), sl_law_mixed⟩)
    (cc_law_mixed : PySem.W.codeIn K cd_law_mixed "_law_mixed" = true)
    (k_law_mixed : PySem.W.keepIn K (.ref a_law_mixed) = true)
    (n1_law_draw : PySem.W.nsIn K mainGlobals "_law_draw" = some (some (.ref a_law_draw)))
    (l_law_draw : K.lookup a_law_draw = some ⟨oc_law_draw, od_law_draw, .func (PySem.W.fnOf "_law_draw" "_law_draw" (defArgs s_law_draw) (defBody s_law_draw) (defScope s_law_draw) .none kV_law_draw dc_law_draw pm_law_draw an_law_draw cd_law_draw ct_law_draw), sl_law_draw⟩)
    (cc_law_draw : PySem.W.codeIn K cd_law_draw "_law_draw" = true)
    (k_law_draw : PySem.W.keepIn K (.ref a_law_draw) = true)
    (n1_law_start : PySem.W.nsIn K mainGlobals "_law_start" = some (some (.ref a_law_start)))
    (l_law_start : K.lookup a_law_start = some ⟨oc_law_start, od_law_start, .func (PySem.W.fnOf "_law_start" "_law_start" (defArgs s_law_start) (defBody s_law_start) (defScope s_law_start) .none kV_law_start dc_law_start pm_law_start an_law_start cd_law_start ct_law_start), sl_law_start⟩)
    (cc_law_start : PySem.W.codeIn K cd_law_start "_law_start" = true)
    (k_law_start : PySem.W.keepIn K (.ref a_law_start) = true)
    (n1_law_same : PySem.W.nsIn K mainGlobals "_law_same" = some (some (.ref a_law_same)))
    (l_law_same : K.lookup a_law_same = some ⟨oc_law_same, od_law_same, .func (PySem.W.fnOf "_law_same" "_law_same" (defArgs s_law_same) (defBody s_law_same) (defScope s_law_same) .none kV_law_same dc_law_same pm_law_same an_law_same cd_law_same ct_law_same), sl_law_same⟩)
    (cc_law_same : PySem.W.codeIn K cd_law_same "_law_same" = true)
    (k_law_same : PySem.W.keepIn K (.ref a_law_same) = true)
    (n1_check_mark : PySem.W.nsIn K mainGlobals "check_mark" = some (some (.ref a_check_mark)))
    (l_check_mark : K.lookup a_check_mark = some ⟨oc_check_mark, od_check_mark, .func (PySem.W.fnOf "check_mark" "check_mark" (defArgs s_check_mark) (defBody s_check_mark) (defScope s_check_mark) .none kV_check_mark dc_check_mark pm_check_mark an_check_mark cd_check_mark ct_check_mark), sl_check_mark⟩)
    (cc_check_mark : PySem.W.codeIn K cd_check_mark "check_mark" = true)
    (k_check_mark : PySem.W.keepIn K (.ref a_check_mark) = true)
    (n1_stands_below : PySem.W.nsIn K mainGlobals "stands_below" = some (some (.ref a_stands_below)))
    (l_stands_below : K.lookup a_stands_below = some ⟨oc_stands_below, od_stands_below, .func (PySem.W.fnOf "stands_below" "stands_below" (defArgs s_stands_below) (defBody s_stands_below) (defScope s_stands_below) .none kV_stands_below dc_stands_below pm_stands_below an_stands_below cd_stands_below ct_stands_below), sl_stands_below⟩)
    (cc_stands_below : PySem.W.codeIn K cd_stands_below "stands_below" = true)
    (k_stands_below : PySem.W.keepIn K (.ref a_stands_below) = true)
    (n1_sum_of : PySem.W.nsIn K mainGlobals "sum_of" = some (some (.ref a_sum_of)))
    (l_sum_of : K.lookup a_sum_of = some ⟨oc_sum_of, od_sum_of, .func (PySem.W.fnOf "sum_of" "sum_of" (defArgs s_sum_of) (defBody s_sum_of) (defScope s_sum_of) .none kV_sum_of dc_sum_of pm_sum_of an_sum_of cd_sum_of ct_sum_of), sl_sum_of⟩)
    (cc_sum_of : PySem.W.codeIn K cd_sum_of "sum_of" = true)
    (k_sum_of : PySem.W.keepIn K (.ref a_sum_of) = true)
    (n1_mark_gap : PySem.W.nsIn K mainGlobals "mark_gap" = some (some (.ref a_mark_gap)))
    (l_mark_gap : K.lookup a_mark_gap = some ⟨oc_mark_gap, od_mark_gap, .func (PySem.W.fnOf "mark_gap" "mark_gap" (defArgs s_mark_gap) (defBody s_mark_gap) (defScope s_mark_gap) .none kV_mark_gap dc_mark_gap pm_mark_gap an_mark_gap cd_mark_gap ct_mark_gap), sl_mark_gap⟩)
    (cc_mark_gap : PySem.W.codeIn K cd_mark_gap "mark_gap" = true)
    (k_mark_gap : PySem.W.keepIn K (.ref a_mark_gap) = true)
    (n1_on_ladder : PySem.W.nsIn K mainGlobals "on_ladder" = some (some (.ref a_on_ladder)))
    (l_on_ladder : K.lookup a_on_ladder = some ⟨oc_on_ladder, od_on_ladder, .func (PySem.W.fnOf "on_ladder" "on_ladder" (defArgs s_on_ladder) (defBody s_on_ladder) (defScope s_on_ladder) .none kV_on_ladder dc_on_ladder pm_on_ladder an_on_ladder cd_on_ladder ct_on_ladder), sl_on_ladder⟩)
    (cc_on_ladder : PySem.W.codeIn K cd_on_ladder "on_ladder" = true)
    (k_on_ladder : PySem.W.keepIn K (.ref a_on_ladder) = true)
    (n1_is_whole : PySem.W.nsIn K mainGlobals "is_whole" = some (some (.ref a_is_whole)))
    (l_is_whole : K.lookup a_is_whole = some ⟨oc_is_whole, od_is_whole, .func (PySem.W.fnOf "is_whole" "is_whole" (defArgs s_is_whole) (defBody s_is_whole) (defScope s_is_whole) .none kV_is_whole dc_is_whole pm_is_whole an_is_whole cd_is_whole ct_is_whole), sl_is_whole⟩)
    (cc_is_whole : PySem.W.codeIn K cd_is_whole "is_whole" = true)
    (k_is_whole : PySem.W.keepIn K (.ref a_is_whole) = true)
    (n1_is_bound : PySem.W.nsIn K mainGlobals "is_bound" = some (some (.ref a_is_bound)))
    (l_is_bound : K.lookup a_is_bound = some ⟨oc_is_bound, od_is_bound, .func (PySem.W.fnOf "is_bound" "is_bound" (defArgs s_is_bound) (defBody s_is_bound) (defScope s_is_bound) .none kV_is_bound dc_is_bound pm_is_bound an_is_bound cd_is_bound ct_is_bound), sl_is_bound⟩)
    (cc_is_bound : PySem.W.codeIn K cd_is_bound "is_bound" = true)
    (k_is_bound : PySem.W.keepIn K (.ref a_is_bound) = true)
    (n1_bound_at_most : PySem.W.nsIn K mainGlobals "bound_at_most" = some (some (.ref a_bound_at_most)))
    (l_bound_at_most : K.lookup a_bound_at_most = some ⟨oc_bound_at_most, od_bound_at_most, .func (PySem.W.fnOf "bound_at_most" "bound_at_most" (defArgs s_bound_at_most) (defBody s_bound_at_most) (defScope s_bound_at_most) .none kV_bound_at_most dc_bound_at_most pm_bound_at_most an_bound_at_most cd_bound_at_most ct_bound_at_most), sl_bound_at_most⟩)
    (cc_bound_at_most : PySem.W.codeIn K cd_bound_at_most "bound_at_most" = true)
    (k_bound_at_most : PySem.W.keepIn K (.ref a_bound_at_most) = true)
    (n1_World_init : PySem.W.findIn K (.ref c_World) "__init__" = some (some (.ref a_World_init)))
    (i_World_init : PySem.W.isFn K (.ref a_World_init) = true)
    (l_World_init : K.lookup a_World_init = some ⟨oc_World_init, od_World_init, .func (PySem.W.fnOf "__init__" "World.__init__" (defArgs s_World_init) (defBody s_World_init) (defScope s_World_init) (.ref dT_World_init) kV_World_init dc_World_init pm_World_init an_World_init cd_World_init ct_World_init), sl_World_init⟩)
    (cc_World_init : PySem.W.codeIn K cd_World_init "World.__init__" = true)
    (k_World_init : PySem.W.keepIn K (.ref a_World_init) = true)
    (lT_World_init : K.lookup dT_World_init = some ⟨dc_TWorld_init, dd_TWorld_init, .seq ([.none, .none] : List Value).toArray dn_TWorld_init, ds_TWorld_init⟩)
    (crd_World : PySem.W.readsIn K c_World (.type "type") = true)
    (cga_World : PySem.W.specialIn K (.ref c_World) "__getattribute__" = some (some (.builtin "type.__getattribute__")))
    (sma_World_wide : PySem.W.findCls K (.ref c_World) (.type "type") "wide" = some (.get (.builtin "staticmethod.__get__") (.ref p_World_wide) .none (.ref c_World)))
    (smr_World_wide : PySem.W.recIn K p_World_wide "staticmethod" = some (.ref a_World_wide :: rest_World_wide))
    (smk_World_wide : PySem.W.keepIn K (.ref a_World_wide) = true)
    (l_World_wide : K.lookup a_World_wide = some ⟨oc_World_wide, od_World_wide, .func (PySem.W.fnOf "wide" "World.wide" (defArgs s_World_wide) (defBody s_World_wide) (defScope s_World_wide) .none kV_World_wide dc_World_wide pm_World_wide an_World_wide cd_World_wide ct_World_wide), sl_World_wide⟩)
    (cc_World_wide : PySem.W.codeIn K cd_World_wide "World.wide" = true)
    (k_World_wide : PySem.W.keepIn K (.ref a_World_wide) = true)
    (n1_World_gap : PySem.W.findIn K (.ref c_World) "gap" = some (some (.ref a_World_gap)))
    (i_World_gap : PySem.W.isFn K (.ref a_World_gap) = true)
    (l_World_gap : K.lookup a_World_gap = some ⟨oc_World_gap, od_World_gap, .func (PySem.W.fnOf "gap" "World.gap" (defArgs s_World_gap) (defBody s_World_gap) (defScope s_World_gap) .none kV_World_gap dc_World_gap pm_World_gap an_World_gap cd_World_gap ct_World_gap), sl_World_gap⟩)
    (cc_World_gap : PySem.W.codeIn K cd_World_gap "World.gap" = true)
    (k_World_gap : PySem.W.keepIn K (.ref a_World_gap) = true)
    (n1_Worlddd__containsdd_ : PySem.W.findIn K (.ref c_World) "__contains__" = some (some (.ref a_Worlddd__containsdd_)))
    (i_Worlddd__containsdd_ : PySem.W.isFn K (.ref a_Worlddd__containsdd_) = true)
    (l_Worlddd__containsdd_ : K.lookup a_Worlddd__containsdd_ = some ⟨oc_Worlddd__containsdd_, od_Worlddd__containsdd_, .func (PySem.W.fnOf "__contains__" "World.__contains__" (defArgs s_Worlddd__containsdd_) (defBody s_Worlddd__containsdd_) (defScope s_Worlddd__containsdd_) .none kV_Worlddd__containsdd_ dc_Worlddd__containsdd_ pm_Worlddd__containsdd_ an_Worlddd__containsdd_ cd_Worlddd__containsdd_ ct_Worlddd__containsdd_), sl_Worlddd__containsdd_⟩)
    (cc_Worlddd__containsdd_ : PySem.W.codeIn K cd_Worlddd__containsdd_ "World.__contains__" = true)
    (k_Worlddd__containsdd_ : PySem.W.keepIn K (.ref a_Worlddd__containsdd_) = true)
    (n1_law_word : PySem.W.nsIn K mainGlobals "_law_word" = some (some (.ref a_law_word)))
    (l_law_word : K.lookup a_law_word = some ⟨oc_law_word, od_law_word, .func (PySem.W.fnOf "_law_word" "_law_word" (defArgs s_law_word) (defBody s_law_word) (defScope s_law_word) .none kV_law_word dc_law_word pm_law_word an_law_word cd_law_word ct_law_word), sl_law_word⟩)
    (cc_law_word : PySem.W.codeIn K cd_law_word "_law_word" = true)
    (k_law_word : PySem.W.keepIn K (.ref a_law_word) = true)
    (n1_law_within : PySem.W.nsIn K mainGlobals "_law_within" = some (some (.ref a_law_within)))
    (l_law_within : K.lookup a_law_within = some ⟨oc_law_within, od_law_within, .func (PySem.W.fnOf "_law_within" "_law_within" (defArgs s_law_within) (defBody s_law_within) (defScope s_law_within) .none kV_law_within dc_law_within pm_law_within an_law_within cd_law_within ct_law_within), sl_law_within⟩)
    (cc_law_within : PySem.W.codeIn K cd_law_within "_law_within" = true)
    (k_law_within : PySem.W.keepIn K (.ref a_law_within) = true)
    (n1_law_ladder : PySem.W.nsIn K mainGlobals "_law_ladder" = some (some (.ref a_law_ladder)))
    (l_law_ladder : K.lookup a_law_ladder = some ⟨oc_law_ladder, od_law_ladder, .func (PySem.W.fnOf "_law_ladder" "_law_ladder" (defArgs s_law_ladder) (defBody s_law_ladder) (defScope s_law_ladder) .none kV_law_ladder dc_law_ladder pm_law_ladder an_law_ladder cd_law_ladder ct_law_ladder), sl_law_ladder⟩)
    (cc_law_ladder : PySem.W.codeIn K cd_law_ladder "_law_ladder" = true)
    (k_law_ladder : PySem.W.keepIn K (.ref a_law_ladder) = true)
    (n1_law_bound : PySem.W.nsIn K mainGlobals "_law_bound" = some (some (.ref a_law_bound)))
    (l_law_bound : K.lookup a_law_bound = some ⟨oc_law_bound, od_law_bound, .func (PySem.W.fnOf "_law_bound" "_law_bound" (defArgs s_law_bound) (defBody s_law_bound) (defScope s_law_bound) .none kV_law_bound dc_law_bound pm_law_bound an_law_bound cd_law_bound ct_law_bound), sl_law_bound⟩)
    (cc_law_bound : PySem.W.codeIn K cd_law_bound "_law_bound" = true)
    (k_law_bound : PySem.W.keepIn K (.ref a_law_bound) = true)
    (n1_law_under : PySem.W.nsIn K mainGlobals "_law_under" = some (some (.ref a_law_under)))
    (l_law_under : K.lookup a_law_under = some ⟨oc_law_under, od_law_under, .func (PySem.W.fnOf "_law_under" "_law_under" (defArgs s_law_under) (defBody s_law_under) (defScope s_law_under) .none kV_law_under dc_law_under pm_law_under an_law_under cd_law_under ct_law_under), sl_law_under⟩)
    (cc_law_under : PySem.W.codeIn K cd_law_under "_law_under" = true)
    (k_law_under : PySem.W.keepIn K (.ref a_law_under) = true)
    (n1_law_gap : PySem.W.nsIn K mainGlobals "_law_gap" = some (some (.ref a_law_gap)))
    (l_law_gap : K.lookup a_law_gap = some ⟨oc_law_gap, od_law_gap, .func (PySem.W.fnOf "_law_gap" "_law_gap" (defArgs s_law_gap) (defBody s_law_gap) (defScope s_law_gap) .none kV_law_gap dc_law_gap pm_law_gap an_law_gap cd_law_gap ct_law_gap), sl_law_gap⟩)
    (cc_law_gap : PySem.W.codeIn K cd_law_gap "_law_gap" = true)
    (k_law_gap : PySem.W.keepIn K (.ref a_law_gap) = true)
    (n1_law_seven : PySem.W.nsIn K mainGlobals "_law_seven" = some (some (.ref a_law_seven)))
    (l_law_seven : K.lookup a_law_seven = some ⟨oc_law_seven, od_law_seven, .func (PySem.W.fnOf "_law_seven" "_law_seven" (defArgs s_law_seven) (defBody s_law_seven) (defScope s_law_seven) .none kV_law_seven dc_law_seven pm_law_seven an_law_seven cd_law_seven ct_law_seven), sl_law_seven⟩)
    (cc_law_seven : PySem.W.codeIn K cd_law_seven "_law_seven" = true)
    (k_law_seven : PySem.W.keepIn K (.ref a_law_seven) = true)
    (n1_law_least : PySem.W.nsIn K mainGlobals "_law_least" = some (some (.ref a_law_least)))
    (l_law_least : K.lookup a_law_least = some ⟨oc_law_least, od_law_least, .func (PySem.W.fnOf "_law_least" "_law_least" (defArgs s_law_least) (defBody s_law_least) (defScope s_law_least) .none kV_law_least dc_law_least pm_law_least an_law_least cd_law_least ct_law_least), sl_law_least⟩)
    (cc_law_least : PySem.W.codeIn K cd_law_least "_law_least" = true)
    (k_law_least : PySem.W.keepIn K (.ref a_law_least) = true)
    (n1_law_stranger : PySem.W.nsIn K mainGlobals "_law_stranger" = some (some (.ref a_law_stranger)))
    (l_law_stranger : K.lookup a_law_stranger = some ⟨oc_law_stranger, od_law_stranger, .func (PySem.W.fnOf "_law_stranger" "_law_stranger" (defArgs s_law_stranger) (defBody s_law_stranger) (defScope s_law_stranger) .none kV_law_stranger dc_law_stranger pm_law_stranger an_law_stranger cd_law_stranger ct_law_stranger), sl_law_stranger⟩)
    (cc_law_stranger : PySem.W.codeIn K cd_law_stranger "_law_stranger" = true)
    (k_law_stranger : PySem.W.keepIn K (.ref a_law_stranger) = true)
    (n1_law_refused : PySem.W.nsIn K mainGlobals "_law_refused" = some (some (.ref a_law_refused)))
    (l_law_refused : K.lookup a_law_refused = some ⟨oc_law_refused, od_law_refused, .func (PySem.W.fnOf "_law_refused" "_law_refused" (defArgs s_law_refused) (defBody s_law_refused) (defScope s_law_refused) .none kV_law_refused dc_law_refused pm_law_refused an_law_refused cd_law_refused ct_law_refused), sl_law_refused⟩)
    (cc_law_refused : PySem.W.codeIn K cd_law_refused "_law_refused" = true)
    (k_law_refused : PySem.W.keepIn K (.ref a_law_refused) = true)
    (n1_law_attained : PySem.W.nsIn K mainGlobals "_law_attained" = some (some (.ref a_law_attained)))
    (l_law_attained : K.lookup a_law_attained = some ⟨oc_law_attained, od_law_attained, .func (PySem.W.fnOf "_law_attained" "_law_attained" (defArgs s_law_attained) (defBody s_law_attained) (defScope s_law_attained) .none kV_law_attained dc_law_attained pm_law_attained an_law_attained cd_law_attained ct_law_attained), sl_law_attained⟩)
    (cc_law_attained : PySem.W.codeIn K cd_law_attained "_law_attained" = true)
    (k_law_attained : PySem.W.keepIn K (.ref a_law_attained) = true)
    (n1_law_never_more : PySem.W.nsIn K mainGlobals "_law_never_more" = some (some (.ref a_law_never_more)))
    (l_law_never_more : K.lookup a_law_never_more = some ⟨oc_law_never_more, od_law_never_more, .func (PySem.W.fnOf "_law_never_more" "_law_never_more" (defArgs s_law_never_more) (defBody s_law_never_more) (defScope s_law_never_more) .none kV_law_never_more dc_law_never_more pm_law_never_more an_law_never_more cd_law_never_more ct_law_never_more), sl_law_never_more⟩)
    (cc_law_never_more : PySem.W.codeIn K cd_law_never_more "_law_never_more" = true)
    (k_law_never_more : PySem.W.keepIn K (.ref a_law_never_more) = true)
    (n1_law : PySem.W.nsIn K mainGlobals "law" = some (some (.ref a_law)))
    (l_law : K.lookup a_law = some ⟨oc_law, od_law, .func (PySem.W.fnOf "law" "law" (defArgs s_law) (defBody s_law) (defScope s_law) .none kV_law dc_law pm_law an_law cd_law ct_law), sl_law⟩)
    (cc_law : PySem.W.codeIn K cd_law "law" = true)
    (k_law : PySem.W.keepIn K (.ref a_law) = true)
    (aC_UnknownMark : PySem.W.nsIn K mainGlobals "UnknownMark" = some (some (.ref c_UnknownMark)))
    (aC_SlotError : PySem.W.nsIn K mainGlobals "SlotError" = some (some (.ref c_SlotError)))
    (aC_MissingMark : PySem.W.nsIn K mainGlobals "MissingMark" = some (some (.ref c_MissingMark)))
    (aC_WrongMark : PySem.W.nsIn K mainGlobals "WrongMark" = some (some (.ref c_WrongMark)))
    (eHn : PySem.W.specialIn K (.builtin "object.__class__") "__get__" = some (some (.builtin "getset_descriptor.__get__")))
    (eHt : PySem.W.takesIn K (.builtin "object.__class__") = some true)
    (z_super : PySem.W.nsIn K mainGlobals "super" = some none)
    (opq : PySem.W.nsIn K PySem.cStatics "thirdparty.any" = some none)
    (topS : (l.prog.main.scope.names.lookup ("super" : Str)).isSome = false)
    (xL_UnknownMark : K.lookup c_UnknownMark = some (PySem.excClassObj nm_UnknownMark q_UnknownMark c_UnknownMark N_UnknownMark bs_UnknownMark [.ref cb0_UnknownMark, .type "ValueError", .type "Exception", .type "BaseException", .type "object"] true sn_UnknownMark sub_UnknownMark ab_UnknownMark col_UnknownMark dd_UnknownMark m0_UnknownMark m1_UnknownMark m2_UnknownMark m3_UnknownMark m5_UnknownMark "ValueError.__new__"))
    (sa_UnknownMark : PySem.W.findIn K (.ref c_UnknownMark) "__setattr__" = some (some (.builtin "object.__setattr__")))
    (ga_UnknownMark : PySem.W.findIn K (.ref c_UnknownMark) "__getattribute__" = some (some (.builtin "BaseException.__getattribute__")))
    (gg_UnknownMark : PySem.W.findIn K (.ref c_UnknownMark) "__getattr__" = some none)
    (nb_UnknownMark : PySem.W.findIn K (.ref c_UnknownMark) "mark" = some none)
    (a1_UnknownMark : PySem.W.findIn K (.ref c_UnknownMark) "__init__" = some (some (.ref i_UnknownMark)))
    (t1_UnknownMark : PySem.W.typeIn K (.ref i_UnknownMark) = some (.type "function"))
    (l_UnknownMark : K.lookup i_UnknownMark = some ⟨oc_UnknownMark, od_UnknownMark, .func (PySem.W.ksFn "__init__" "UnknownMark.__init__" (defArgs s_UnknownMark_init) (defBody s_UnknownMark_init) (defScope s_UnknownMark_init) .none kV_UnknownMark dc_UnknownMark pm_UnknownMark an_UnknownMark (.ref cda_UnknownMark) ct_UnknownMark cc_UnknownMark), sl_UnknownMark⟩)
    (cd_UnknownMark : PySem.W.codeIn K (.ref cda_UnknownMark) "UnknownMark.__init__" = true)
    (lc_UnknownMark : K.lookup cda_UnknownMark = some ⟨ccl_UnknownMark, cdd_UnknownMark, .fields vs_UnknownMark, ccs_UnknownMark⟩)
    (vf_UnknownMark : vs_UnknownMark[2]? = some (.str file_UnknownMark tf_UnknownMark))
    (ff_UnknownMark : ((l.prog.main.file : Str) == file_UnknownMark) = true)
    (ce_UnknownMark : K.lookup cc_UnknownMark = some ⟨cl_UnknownMark, cld_UnknownMark, .cell (some (.ref c_UnknownMark)), csl_UnknownMark⟩)
    (kC_UnknownMark : PySem.W.keepIn K (.ref c_UnknownMark) = true)
    (eC_UnknownMark : PySem.W.subIn K (.ref c_UnknownMark) (.type "BaseException") = some true)
    (tC_UnknownMark : PySem.W.typeIn K (.ref c_UnknownMark) = some (.type "type"))
    (hC_UnknownMark : PySem.W.hasDictIn K c_UnknownMark = true)
    (sC_UnknownMark : PySem.W.subIn K (.ref c_UnknownMark) (.ref c_UnknownMark) = some true)
    (su_UnknownMark : PySem.W.ks_superIn K c_UnknownMark c_UnknownMark "__init__" = some (some (.builtin "ValueError.__init__")))
    (vE_UnknownMark : PySem.W.subIn K (.ref c_UnknownMark) (.type "ValueError") = some true)
    (mD_UnknownMark : PySem.W.mroIn K c_UnknownMark (.ref c_UnknownMark) = some true)
    (eA_UnknownMark : PySem.W.findIn K (.ref c_UnknownMark) "__class__" = some (some (.builtin "object.__class__")))
    (eM_UnknownMark : PySem.W.mroIn K c_UnknownMark (.type "object") = some true)
    (eC_SlotError : PySem.W.subIn K (.ref c_SlotError) (.type "BaseException") = some true)
    (tC_SlotError : PySem.W.typeIn K (.ref c_SlotError) = some (.type "type"))
    (hC_SlotError : PySem.W.hasDictIn K c_SlotError = true)
    (eC_MissingMark : PySem.W.subIn K (.ref c_MissingMark) (.type "BaseException") = some true)
    (tC_MissingMark : PySem.W.typeIn K (.ref c_MissingMark) = some (.type "type"))
    (hC_MissingMark : PySem.W.hasDictIn K c_MissingMark = true)
    (eC_WrongMark : PySem.W.subIn K (.ref c_WrongMark) (.type "BaseException") = some true)
    (tC_WrongMark : PySem.W.typeIn K (.ref c_WrongMark) = some (.type "type"))
    (hC_WrongMark : PySem.W.hasDictIn K c_WrongMark = true)
    (sb_UnknownMark_SlotError : PySem.W.subIn K (.ref c_UnknownMark) (.ref c_SlotError) = some true)
    (sb_UnknownMark_MissingMark : PySem.W.subIn K (.ref c_UnknownMark) (.ref c_MissingMark) = some false)
    (sb_UnknownMark_WrongMark : PySem.W.subIn K (.ref c_UnknownMark) (.ref c_WrongMark) = some false)
    (aK_BOUND_LIMIT : PySem.W.nsIn K mainGlobals "BOUND_LIMIT" = some (some (.int (49) kt_BOUND_LIMIT)))
    (aK_MARKS : PySem.W.nsIn K mainGlobals "MARKS" = some (some (.ref k_MARKS)))
    (lK_MARKS : K.lookup k_MARKS = some ⟨.type "tuple", none, .seq ([.str "zero" u0_MARKS, .str "calm" u1_MARKS, .str "owed" u2_MARKS, .str "done" u3_MARKS, .str "end" u4_MARKS, .str "own" u5_MARKS, .str "got" u6_MARKS] : List Value).toArray n_MARKS, sl_MARKS⟩)
    (aK_ABOVE : PySem.W.nsIn K mainGlobals "ABOVE" = some (some (.ref k_ABOVE)))
    (lK_ABOVE : K.lookup k_ABOVE = some ⟨.type "dict", none, .dict es_ABOVE n_ABOVE, #[]⟩)
    (kl_ABOVE : PySem.W.KeysLit w.params es_ABOVE.toList)
    (nK_ABOVE_0 : PySem.W.nsIn K k_ABOVE "zero" = some (some (.ref k_ABOVE_0)))
    (lK_ABOVE_0 : K.lookup k_ABOVE_0 = some ⟨.type "tuple", dd_ABOVE_0, .seq ([.str "zero" u0_ABOVE_0, .str "calm" u1_ABOVE_0, .str "owed" u2_ABOVE_0, .str "done" u3_ABOVE_0, .str "end" u4_ABOVE_0, .str "own" u5_ABOVE_0, .str "got" u6_ABOVE_0] : List Value).toArray n_ABOVE_0, sl_ABOVE_0⟩)
    (nK_ABOVE_1 : PySem.W.nsIn K k_ABOVE "calm" = some (some (.ref k_ABOVE_1)))
    (lK_ABOVE_1 : K.lookup k_ABOVE_1 = some ⟨.type "tuple", dd_ABOVE_1, .seq ([.str "calm" u0_ABOVE_1, .str "owed" u1_ABOVE_1, .str "done" u2_ABOVE_1, .str "end" u3_ABOVE_1] : List Value).toArray n_ABOVE_1, sl_ABOVE_1⟩)
    (nK_ABOVE_2 : PySem.W.nsIn K k_ABOVE "owed" = some (some (.ref k_ABOVE_2)))
    (lK_ABOVE_2 : K.lookup k_ABOVE_2 = some ⟨.type "tuple", dd_ABOVE_2, .seq ([.str "owed" u0_ABOVE_2, .str "done" u1_ABOVE_2, .str "end" u2_ABOVE_2] : List Value).toArray n_ABOVE_2, sl_ABOVE_2⟩)
    (nK_ABOVE_3 : PySem.W.nsIn K k_ABOVE "done" = some (some (.ref k_ABOVE_3)))
    (lK_ABOVE_3 : K.lookup k_ABOVE_3 = some ⟨.type "tuple", dd_ABOVE_3, .seq ([.str "done" u0_ABOVE_3, .str "end" u1_ABOVE_3] : List Value).toArray n_ABOVE_3, sl_ABOVE_3⟩)
    (nK_ABOVE_4 : PySem.W.nsIn K k_ABOVE "end" = some (some (.ref k_ABOVE_4)))
    (lK_ABOVE_4 : K.lookup k_ABOVE_4 = some ⟨.type "tuple", dd_ABOVE_4, .seq ([.str "end" u0_ABOVE_4] : List Value).toArray n_ABOVE_4, sl_ABOVE_4⟩)
    (nK_ABOVE_5 : PySem.W.nsIn K k_ABOVE "own" = some (some (.ref k_ABOVE_5)))
    (lK_ABOVE_5 : K.lookup k_ABOVE_5 = some ⟨.type "tuple", dd_ABOVE_5, .seq ([.str "own" u0_ABOVE_5, .str "got" u1_ABOVE_5, .str "end" u2_ABOVE_5] : List Value).toArray n_ABOVE_5, sl_ABOVE_5⟩)
    (nK_ABOVE_6 : PySem.W.nsIn K k_ABOVE "got" = some (some (.ref k_ABOVE_6)))
    (lK_ABOVE_6 : K.lookup k_ABOVE_6 = some ⟨.type "tuple", dd_ABOVE_6, .seq ([.str "got" u0_ABOVE_6, .str "end" u1_ABOVE_6] : List Value).toArray n_ABOVE_6, sl_ABOVE_6⟩)
    : ∃ fd : FuncData, (∀ (s : Shared) (v : Value), BindsTo s fd ⟨[v], []⟩ [("script", v)]) ∧ ∀ base : Heap, K.In base → base.Ns mainGlobals mg → FnOk l.prog w K mg base CX0 9 fa fd ["script"] (spLaw K) := by
  have e := hfa.symm.trans (PySem.W.mg_of X G n1_law)
  cases e
  have F_law_mixed := fun_mk (st := s_law_mixed) l_law_mixed cc_law_mixed k_law_mixed
  have b_law_mixed := F_law_mixed.binds (ps := ["cell", "turn", "limit"]) fun _ _ _ _ _ _ us hl => match us, hl with | [_, _, _], _ => rfl
  have F_law_draw := fun_mk (st := s_law_draw) l_law_draw cc_law_draw k_law_draw
  have b_law_draw := F_law_draw.binds (ps := ["state", "limit"]) fun _ _ _ _ _ _ us hl => match us, hl with | [_, _], _ => rfl
  have F_law_start := fun_mk (st := s_law_start) l_law_start cc_law_start k_law_start
  have b_law_start := F_law_start.binds (ps := ["script"]) fun _ _ _ _ _ _ us hl => match us, hl with | [_], _ => rfl
  have F_law_same := fun_mk (st := s_law_same) l_law_same cc_law_same k_law_same
  have b_law_same := F_law_same.binds (ps := ["here", "there"]) fun _ _ _ _ _ _ us hl => match us, hl with | [_, _], _ => rfl
  have F_check_mark := fun_mk (st := s_check_mark) l_check_mark cc_check_mark k_check_mark
  have b_check_mark := F_check_mark.binds (ps := ["mark"]) fun _ _ _ _ _ _ us hl => match us, hl with | [_], _ => rfl
  have F_stands_below := fun_mk (st := s_stands_below) l_stands_below cc_stands_below k_stands_below
  have b_stands_below := F_stands_below.binds (ps := ["lower", "upper"]) fun _ _ _ _ _ _ us hl => match us, hl with | [_, _], _ => rfl
  have F_sum_of := fun_mk (st := s_sum_of) l_sum_of cc_sum_of k_sum_of
  have b_sum_of := F_sum_of.binds (ps := ["first", "second"]) fun _ _ _ _ _ _ us hl => match us, hl with | [_, _], _ => rfl
  have F_mark_gap := fun_mk (st := s_mark_gap) l_mark_gap cc_mark_gap k_mark_gap
  have b_mark_gap := F_mark_gap.binds (ps := ["upper", "lower", "lag", "length"]) fun _ _ _ _ _ _ us hl => match us, hl with | [_, _, _, _], _ => rfl
  have F_on_ladder := fun_mk (st := s_on_ladder) l_on_ladder cc_on_ladder k_on_ladder
  have b_on_ladder := F_on_ladder.binds (ps := ["marks"]) fun _ _ _ _ _ _ us hl => match us, hl with | [_], _ => rfl
  have F_is_whole := fun_mk (st := s_is_whole) l_is_whole cc_is_whole k_is_whole
  have b_is_whole := F_is_whole.binds (ps := ["value"]) fun _ _ _ _ _ _ us hl => match us, hl with | [_], _ => rfl
  have F_is_bound := fun_mk (st := s_is_bound) l_is_bound cc_is_bound k_is_bound
  have b_is_bound := F_is_bound.binds (ps := ["value"]) fun _ _ _ _ _ _ us hl => match us, hl with | [_], _ => rfl
  have F_bound_at_most := fun_mk (st := s_bound_at_most) l_bound_at_most cc_bound_at_most k_bound_at_most
  have b_bound_at_most := F_bound_at_most.binds (ps := ["first", "second"]) fun _ _ _ _ _ _ us hl => match us, hl with | [_, _], _ => rfl
  have F_World_init : FunD K "__init__" "World.__init__" (defArgs s_World_init) (defBody s_World_init) (defScope s_World_init) [.non, .non] [] a_World_init _ := ⟨⟨_, _, _, _, _, _, _, _, _, _, rfl, l_World_init, cc_World_init, .inr ⟨by simp, _, _, [.none, .none], _, rfl, lT_World_init, rfl, (.cons rfl (.cons rfl .nil))⟩, .inl rfl⟩, k_World_init⟩
  have bd_World_init_0 := F_World_init.binds1 (ps := ["self", "lag", "length"]) 1 0 (by simp) rfl fun _ _ _ _ _ _ _ us its hu hi => match us, hu, its, hi with | [_], _, [_, _], _ => ⟨_, rfl, rfl⟩
  have bd_World_init_2 := F_World_init.binds1 (ps := ["self", "lag", "length"]) 3 2 (by simp) rfl fun _ _ _ _ _ _ _ us its hu hi => match us, hu, its, hi with | [_, _, _], _, [_, _], _ => ⟨_, rfl, rfl⟩
  have F_World_wide := fun_mk (st := s_World_wide) l_World_wide cc_World_wide k_World_wide
  have b_World_wide := F_World_wide.binds (ps := []) fun _ _ _ _ _ _ us hl => match us, hl with | [], _ => rfl
  have F_World_gap := fun_mk (st := s_World_gap) l_World_gap cc_World_gap k_World_gap
  have b_World_gap := F_World_gap.binds (ps := ["self", "upper", "lower"]) fun _ _ _ _ _ _ us hl => match us, hl with | [_, _, _], _ => rfl
  have F_Worlddd__containsdd_ := fun_mk (st := s_Worlddd__containsdd_) l_Worlddd__containsdd_ cc_Worlddd__containsdd_ k_Worlddd__containsdd_
  have b_Worlddd__containsdd_ := F_Worlddd__containsdd_.binds (ps := ["self", "x"]) fun _ _ _ _ _ _ us hl => match us, hl with | [_, _], _ => rfl
  have F_law_word := fun_mk (st := s_law_word) l_law_word cc_law_word k_law_word
  have b_law_word := F_law_word.binds (ps := ["state"]) fun _ _ _ _ _ _ us hl => match us, hl with | [_], _ => rfl
  have F_law_within := fun_mk (st := s_law_within) l_law_within cc_law_within k_law_within
  have b_law_within := F_law_within.binds (ps := ["state", "bound"]) fun _ _ _ _ _ _ us hl => match us, hl with | [_, _], _ => rfl
  have F_law_ladder := fun_mk (st := s_law_ladder) l_law_ladder cc_law_ladder k_law_ladder
  have b_law_ladder := F_law_ladder.binds (ps := ["state", "late", "far"]) fun _ _ _ _ _ _ us hl => match us, hl with | [_, _, _], _ => rfl
  have F_law_bound := fun_mk (st := s_law_bound) l_law_bound cc_law_bound k_law_bound
  have b_law_bound := F_law_bound.binds (ps := ["state", "limit"]) fun _ _ _ _ _ _ us hl => match us, hl with | [_, _], _ => rfl
  have F_law_under := fun_mk (st := s_law_under) l_law_under cc_law_under k_law_under
  have b_law_under := F_law_under.binds (ps := ["lower", "upper"]) fun _ _ _ _ _ _ us hl => match us, hl with | [_, _], _ => rfl
  have F_law_gap := fun_mk (st := s_law_gap) l_law_gap cc_law_gap k_law_gap
  have b_law_gap := F_law_gap.binds (ps := ["upper", "lower", "late", "far"]) fun _ _ _ _ _ _ us hl => match us, hl with | [_, _, _, _], _ => rfl
  have F_law_seven := fun_mk (st := s_law_seven) l_law_seven cc_law_seven k_law_seven
  have b_law_seven := F_law_seven.binds (ps := []) fun _ _ _ _ _ _ us hl => match us, hl with | [], _ => rfl
  have F_law_least := fun_mk (st := s_law_least) l_law_least cc_law_least k_law_least
  have b_law_least := F_law_least.binds (ps := ["clause", "high", "late", "far"]) fun _ _ _ _ _ _ us hl => match us, hl with | [_, _, _, _], _ => rfl
  have F_law_stranger := fun_mk (st := s_law_stranger) l_law_stranger cc_law_stranger k_law_stranger
  have b_law_stranger := F_law_stranger.binds (ps := ["state"]) fun _ _ _ _ _ _ us hl => match us, hl with | [_], _ => rfl
  have F_law_refused := fun_mk (st := s_law_refused) l_law_refused cc_law_refused k_law_refused
  have b_law_refused := F_law_refused.binds (ps := ["world", "upper", "lower"]) fun _ _ _ _ _ _ us hl => match us, hl with | [_, _, _], _ => rfl
  have F_law_attained := fun_mk (st := s_law_attained) l_law_attained cc_law_attained k_law_attained
  have b_law_attained := F_law_attained.binds (ps := ["world", "upper", "great", "late", "far"]) fun _ _ _ _ _ _ us hl => match us, hl with | [_, _, _, _, _], _ => rfl
  have F_law_never_more := fun_mk (st := s_law_never_more) l_law_never_more cc_law_never_more k_law_never_more
  have b_law_never_more := F_law_never_more.binds (ps := ["world", "marks"]) fun _ _ _ _ _ _ us hl => match us, hl with | [_, _], _ => rfl
  have F_law := fun_mk (st := s_law) l_law cc_law k_law
  have b_law := F_law.binds (ps := ["script"]) fun _ _ _ _ _ _ us hl => match us, hl with | [_], _ => rfl
  let T : Txt l.prog w K mg := { z_bool := PySem.W.mg_none_of X G z_bool, z_dict := PySem.W.mg_none_of X G z_dict, z_int := PySem.W.mg_none_of X G z_int, z_isinstance := PySem.W.mg_none_of X G z_isinstance, z_len := PySem.W.mg_none_of X G z_len, z_list := PySem.W.mg_none_of X G z_list, z_range := PySem.W.mg_none_of X G z_range, z_str := PySem.W.mg_none_of X G z_str, z_tuple := PySem.W.mg_none_of X G z_tuple, c_World := c_World, cl_World := ⟨pg_World, hd_World, po_World, sa_World⟩, mc_World := PySem.W.mg_of X G aC_World, n_World_lag := n_World_lag, n_World_length := n_World_length, a_law_mixed := a_law_mixed, d_law_mixed := _, F_law_mixed := F_law_mixed, b_law_mixed := b_law_mixed, m_law_mixed := PySem.W.mg_of X G n1_law_mixed, a_law_draw := a_law_draw, d_law_draw := _, F_law_draw := F_law_draw, b_law_draw := b_law_draw, m_law_draw := PySem.W.mg_of X G n1_law_draw, a_law_start := a_law_start, d_law_start := _, F_law_start := F_law_start, b_law_start := b_law_start, m_law_start := PySem.W.mg_of X G n1_law_start, a_law_same := a_law_same, d_law_same := _, F_law_same := F_law_same, b_law_same := b_law_same, m_law_same := PySem.W.mg_of X G n1_law_same, a_check_mark := a_check_mark, d_check_mark := _, F_check_mark := F_check_mark, b_check_mark := b_check_mark, m_check_mark := PySem.W.mg_of X G n1_check_mark, a_stands_below := a_stands_below, d_stands_below := _, F_stands_below := F_stands_below, b_stands_below := b_stands_below, m_stands_below := PySem.W.mg_of X G n1_stands_below, a_sum_of := a_sum_of, d_sum_of := _, F_sum_of := F_sum_of, b_sum_of := b_sum_of, m_sum_of := PySem.W.mg_of X G n1_sum_of, a_mark_gap := a_mark_gap, d_mark_gap := _, F_mark_gap := F_mark_gap, b_mark_gap := b_mark_gap, m_mark_gap := PySem.W.mg_of X G n1_mark_gap, a_on_ladder := a_on_ladder, d_on_ladder := _, F_on_ladder := F_on_ladder, b_on_ladder := b_on_ladder, m_on_ladder := PySem.W.mg_of X G n1_on_ladder, a_is_whole := a_is_whole, d_is_whole := _, F_is_whole := F_is_whole, b_is_whole := b_is_whole, m_is_whole := PySem.W.mg_of X G n1_is_whole, a_is_bound := a_is_bound, d_is_bound := _, F_is_bound := F_is_bound, b_is_bound := b_is_bound, m_is_bound := PySem.W.mg_of X G n1_is_bound, a_bound_at_most := a_bound_at_most, d_bound_at_most := _, F_bound_at_most := F_bound_at_most, b_bound_at_most := b_bound_at_most, m_bound_at_most := PySem.W.mg_of X G n1_bound_at_most, a_World_init := a_World_init, d_World_init := _, F_World_init := F_World_init, bd_World_init_0 := bd_World_init_0, bd_World_init_2 := bd_World_init_2, mk_World := ⟨mi_World, n1_World_init, i_World_init, kc_World⟩, a_World_wide := a_World_wide, d_World_wide := _, F_World_wide := F_World_wide, b_World_wide := b_World_wide, cr_World := ⟨crd_World, cga_World⟩, p_World_wide := p_World_wide, sm_World_wide := ⟨sma_World_wide, ⟨_, smr_World_wide⟩, smk_World_wide⟩, a_World_gap := a_World_gap, d_World_gap := _, F_World_gap := F_World_gap, b_World_gap := b_World_gap, me_World_gap := ⟨n1_World_gap, i_World_gap, k_World_gap⟩, a_Worlddd__containsdd_ := a_Worlddd__containsdd_, d_Worlddd__containsdd_ := _, F_Worlddd__containsdd_ := F_Worlddd__containsdd_, b_Worlddd__containsdd_ := b_Worlddd__containsdd_, om_Worlddd__containsdd_ := ⟨n1_Worlddd__containsdd_, i_Worlddd__containsdd_⟩, a_law_word := a_law_word, d_law_word := _, F_law_word := F_law_word, b_law_word := b_law_word, m_law_word := PySem.W.mg_of X G n1_law_word, a_law_within := a_law_within, d_law_within := _, F_law_within := F_law_within, b_law_within := b_law_within, m_law_within := PySem.W.mg_of X G n1_law_within, a_law_ladder := a_law_ladder, d_law_ladder := _, F_law_ladder := F_law_ladder, b_law_ladder := b_law_ladder, m_law_ladder := PySem.W.mg_of X G n1_law_ladder, a_law_bound := a_law_bound, d_law_bound := _, F_law_bound := F_law_bound, b_law_bound := b_law_bound, m_law_bound := PySem.W.mg_of X G n1_law_bound, a_law_under := a_law_under, d_law_under := _, F_law_under := F_law_under, b_law_under := b_law_under, m_law_under := PySem.W.mg_of X G n1_law_under, a_law_gap := a_law_gap, d_law_gap := _, F_law_gap := F_law_gap, b_law_gap := b_law_gap, m_law_gap := PySem.W.mg_of X G n1_law_gap, a_law_seven := a_law_seven, d_law_seven := _, F_law_seven := F_law_seven, b_law_seven := b_law_seven, m_law_seven := PySem.W.mg_of X G n1_law_seven, a_law_least := a_law_least, d_law_least := _, F_law_least := F_law_least, b_law_least := b_law_least, m_law_least := PySem.W.mg_of X G n1_law_least, a_law_stranger := a_law_stranger, d_law_stranger := _, F_law_stranger := F_law_stranger, b_law_stranger := b_law_stranger, m_law_stranger := PySem.W.mg_of X G n1_law_stranger, a_law_refused := a_law_refused, d_law_refused := _, F_law_refused := F_law_refused, b_law_refused := b_law_refused, m_law_refused := PySem.W.mg_of X G n1_law_refused, a_law_attained := a_law_attained, d_law_attained := _, F_law_attained := F_law_attained, b_law_attained := b_law_attained, m_law_attained := PySem.W.mg_of X G n1_law_attained, a_law_never_more := a_law_never_more, d_law_never_more := _, F_law_never_more := F_law_never_more, b_law_never_more := b_law_never_more, m_law_never_more := PySem.W.mg_of X G n1_law_never_more, a_law := fa, d_law := _, F_law := F_law, b_law := b_law, m_law := PySem.W.mg_of X G n1_law, c_UnknownMark := c_UnknownMark, mc_UnknownMark := PySem.W.mg_of X G aC_UnknownMark, c_SlotError := c_SlotError, mc_SlotError := PySem.W.mg_of X G aC_SlotError, c_MissingMark := c_MissingMark, mc_MissingMark := PySem.W.mg_of X G aC_MissingMark, c_WrongMark := c_WrongMark, mc_WrongMark := PySem.W.mg_of X G aC_WrongMark, i_UnknownMark := i_UnknownMark, sup_UnknownMark := { gC := PySem.W.mg_of X G aC_UnknownMark, gS := PySem.W.mg_none_of X G z_super, cls := ⟨_, _, _, _, _, _, _, _, _, _, _, _, _, _, _, xL_UnknownMark, by rfl⟩, sa := sa_UnknownMark, ga := ga_UnknownMark, gg := gg_UnknownMark, noN := nb_UnknownMark, iC := a1_UnknownMark, tC := t1_UnknownMark, kC := kC_UnknownMark, exC := eC_UnknownMark, tyC := tC_UnknownMark, hdC := hC_UnknownMark, te := PySem.W.exm_ref eC_UnknownMark hC_UnknownMark tC_UnknownMark sC_UnknownMark, sup := su_UnknownMark, opq := opq, vE := vE_UnknownMark, mroD := mD_UnknownMark, clD := cls_of hC_UnknownMark, fo := { ks := rfl, kc := rfl, ka := rfl, kf := rfl, db := by decide, nes := by decide }, top := topS, fn := ⟨"UnknownMark.__init__", _, defArgs s_UnknownMark_init, _, kV_UnknownMark, _, _, _, _, _, _, _, _, _, _, _, _, cda_UnknownMark, cc_UnknownMark, vs_UnknownMark, _, _, _, _, _, _, _, _, _, _, _, _, _, _, l_UnknownMark, cd_UnknownMark, lc_UnknownMark, vf_UnknownMark, ff_UnknownMark, ce_UnknownMark, rfl, rfl, rfl, fun s x v => .of_eq rfl⟩ }, xc_UnknownMark := ⟨ga_UnknownMark, gg_UnknownMark, eC_UnknownMark, hC_UnknownMark, eA_UnknownMark, eHn, eHt, eM_UnknownMark⟩, kt_UnknownMark_SlotError := kit_ref hC_SlotError tC_SlotError sC_UnknownMark sb_UnknownMark_SlotError, em_UnknownMark_SlotError := PySem.W.exm_ref eC_SlotError hC_SlotError tC_SlotError sb_UnknownMark_SlotError, kt_UnknownMark_MissingMark := kit_ref hC_MissingMark tC_MissingMark sC_UnknownMark sb_UnknownMark_MissingMark, em_UnknownMark_MissingMark := PySem.W.exm_ref eC_MissingMark hC_MissingMark tC_MissingMark sb_UnknownMark_MissingMark, kt_UnknownMark_WrongMark := kit_ref hC_WrongMark tC_WrongMark sC_UnknownMark sb_UnknownMark_WrongMark, em_UnknownMark_WrongMark := PySem.W.exm_ref eC_WrongMark hC_WrongMark tC_WrongMark sb_UnknownMark_WrongMark, kt_BOUND_LIMIT := kt_BOUND_LIMIT, k_BOUND_LIMIT := PySem.W.mg_of X G aK_BOUND_LIMIT, k_MARKS := k_MARKS, mk_MARKS := PySem.W.mg_of X G aK_MARKS, tk_MARKS := fun H => .inr ⟨_, _, _, lK_MARKS, rfl, rfl, (by show 7 ≤ sizeLine; decide), (.cons ⟨_, rfl⟩ (.cons ⟨_, rfl⟩ (.cons ⟨_, rfl⟩ (.cons ⟨_, rfl⟩ (.cons ⟨_, rfl⟩ (.cons ⟨_, rfl⟩ (.cons ⟨_, rfl⟩ .nil)))))))⟩, to_MARKS := ⟨_, lK_MARKS, rfl, rfl⟩, k_ABOVE := k_ABOVE, mk_ABOVE := PySem.W.mg_of X G aK_ABOVE, k_ABOVE_0 := k_ABOVE_0, tk_ABOVE_0 := fun H => .inr ⟨_, _, _, lK_ABOVE_0, rfl, rfl, (by show 7 ≤ sizeLine; decide), (.cons ⟨_, rfl⟩ (.cons ⟨_, rfl⟩ (.cons ⟨_, rfl⟩ (.cons ⟨_, rfl⟩ (.cons ⟨_, rfl⟩ (.cons ⟨_, rfl⟩ (.cons ⟨_, rfl⟩ .nil)))))))⟩, dk_ABOVE_0 := ⟨_, _, _, lK_ABOVE, kl_ABOVE, nK_ABOVE_0, rfl⟩, k_ABOVE_1 := k_ABOVE_1, tk_ABOVE_1 := fun H => .inr ⟨_, _, _, lK_ABOVE_1, rfl, rfl, (by show 4 ≤ sizeLine; decide), (.cons ⟨_, rfl⟩ (.cons ⟨_, rfl⟩ (.cons ⟨_, rfl⟩ (.cons ⟨_, rfl⟩ .nil))))⟩, dk_ABOVE_1 := ⟨_, _, _, lK_ABOVE, kl_ABOVE, nK_ABOVE_1, rfl⟩, k_ABOVE_2 := k_ABOVE_2, tk_ABOVE_2 := fun H => .inr ⟨_, _, _, lK_ABOVE_2, rfl, rfl, (by show 3 ≤ sizeLine; decide), (.cons ⟨_, rfl⟩ (.cons ⟨_, rfl⟩ (.cons ⟨_, rfl⟩ .nil)))⟩, dk_ABOVE_2 := ⟨_, _, _, lK_ABOVE, kl_ABOVE, nK_ABOVE_2, rfl⟩, k_ABOVE_3 := k_ABOVE_3, tk_ABOVE_3 := fun H => .inr ⟨_, _, _, lK_ABOVE_3, rfl, rfl, (by show 2 ≤ sizeLine; decide), (.cons ⟨_, rfl⟩ (.cons ⟨_, rfl⟩ .nil))⟩, dk_ABOVE_3 := ⟨_, _, _, lK_ABOVE, kl_ABOVE, nK_ABOVE_3, rfl⟩, k_ABOVE_4 := k_ABOVE_4, tk_ABOVE_4 := fun H => .inr ⟨_, _, _, lK_ABOVE_4, rfl, rfl, (by show 1 ≤ sizeLine; decide), (.cons ⟨_, rfl⟩ .nil)⟩, dk_ABOVE_4 := ⟨_, _, _, lK_ABOVE, kl_ABOVE, nK_ABOVE_4, rfl⟩, k_ABOVE_5 := k_ABOVE_5, tk_ABOVE_5 := fun H => .inr ⟨_, _, _, lK_ABOVE_5, rfl, rfl, (by show 3 ≤ sizeLine; decide), (.cons ⟨_, rfl⟩ (.cons ⟨_, rfl⟩ (.cons ⟨_, rfl⟩ .nil)))⟩, dk_ABOVE_5 := ⟨_, _, _, lK_ABOVE, kl_ABOVE, nK_ABOVE_5, rfl⟩, k_ABOVE_6 := k_ABOVE_6, tk_ABOVE_6 := fun H => .inr ⟨_, _, _, lK_ABOVE_6, rfl, rfl, (by show 2 ≤ sizeLine; decide), (.cons ⟨_, rfl⟩ (.cons ⟨_, rfl⟩ .nil))⟩, dk_ABOVE_6 := ⟨_, _, _, lK_ABOVE, kl_ABOVE, nK_ABOVE_6, rfl⟩ }
  exact ⟨PySem.W.fnOf "law" "law" (defArgs s_law) (defBody s_law) (defScope s_law) .none kV_law dc_law pm_law an_law cd_law ct_law, fun s v => .of_eq rfl, fun base _ _ => ok_law T⟩
theorem walk {l : PySem.W.OpenLaw} {q : Program} {loose : List Str} {XP : (Str → Option Value) → Heap → Prop} {YP : World → Heap → Prop} {d : DefRec} {K : Params → PySem.W.Frag} (hn : l.most = some 63) (hdf : d.params.defaults = [])
    (hY : ∀ (w : World) (h : Heap), YP w h → (K w.params).In h)
    (F : ∀ (w : World) (mg : Str → Option Value) (fa : Addr) (h : Heap), (K w.params).In h → h.Ns mainGlobals mg → mg d.name = some (.ref fa) →
      ∃ fd : FuncData, (∀ (s : Shared) (u : Value), BindsTo s fd ⟨[u], []⟩ [("script", u)]) ∧ ∀ base : Heap, (K w.params).In base → base.Ns mainGlobals mg → FnOk l.prog w (K w.params) mg base CX0 9 fa fd ["script"] (spLaw (K w.params))) :
    PySem.W.WalkO q loose XP YP l.row.toRowW d [] (fun f vs => PySem.call f vs) :=
  L2.walk_of (n := 63) (k := 9) (x := "script") (CX := fun _ => CX0) (sp := fun w => spLaw (K w.params)) hn (by decide) hdf ⟨rfl, by decide, by decide⟩ hY F (fun _ _ a ns hl _ hS => ⟨a, ns, rfl, hS, hl, fun _ => rfl⟩) fun _ _ _ _ _ z => z
end K
open PySem PySem.W PyProof.Rows
set_option maxRecDepth 100000 in
set_option maxHeartbeats 0 in
theorem PySem.Challenge.cw_copiesfollow_k40_whole_world_gaps_holds : PySem.Challenge.rw_copiesfollow_k40_whole_world_gaps.Holds := by
  w_on; o_law; k_head; (case hw => w_witness2)
  k_fill
  refine K.walk (l := PySem.Challenge.rw_copiesfollow_k40_whole_world_gaps) rfl rfl (fun w h Y => PySem.W.kIn_of Y) ?F
  case F =>
    intro w mg fa h KX G hmg
    refine' K.all_mk KX G hmg ?z_bool ?z_dict ?z_int ?z_isinstance ?z_len ?z_list ?z_range ?z_str ?z_tuple ?aC_World ?pg_World ?hd_World ?po_World ?sa_World ?mi_World ?kc_World ?n_World_lag ?n_World_length ?n1_law_mixed ?l_law_mixed ?cc_law_mixed ?k_law_mixed ?n1_law_draw ?l_law_draw ?cc_law_draw ?k_law_draw ?n1_law_start ?l_law_start ?cc_law_start ?k_law_start ?n1_law_same ?l_law_same ?cc_law_same ?k_law_same ?n1_check_mark ?l_check_mark ?cc_check_mark ?k_check_mark ?n1_stands_below ?l_stands_below ?cc_stands_below ?k_stands_below ?n1_sum_of ?l_sum_of ?cc_sum_of ?k_sum_of ?n1_mark_gap ?l_mark_gap ?cc_mark_gap ?k_mark_gap ?n1_on_ladder ?l_on_ladder ?cc_on_ladder ?k_on_ladder ?n1_is_whole ?l_is_whole ?cc_is_whole ?k_is_whole ?n1_is_bound ?l_is_bound ?cc_is_bound ?k_is_bound ?n1_bound_at_most ?l_bound_at_most ?cc_bound_at_most ?k_bound_at_most ?n1_World_init ?i_World_init ?l_World_init ?cc_World_init ?k_World_init ?lT_World_init ?crd_World ?cga_World ?sma_World_wide ?smr_World_wide ?smk_World_wide ?l_World_wide ?cc_World_wide ?k_World_wide ?n1_World_gap ?i_World_gap ?l_World_gap ?cc_World_gap ?k_World_gap ?n1_Worlddd__containsdd_ ?i_Worlddd__containsdd_ ?l_Worlddd__containsdd_ ?cc_Worlddd__containsdd_ ?k_Worlddd__containsdd_ ?n1_law_word ?l_law_word ?cc_law_word ?k_law_word ?n1_law_within ?l_law_within ?cc_law_within ?k_law_within ?n1_law_ladder ?l_law_ladder ?cc_law_ladder ?k_law_ladder ?n1_law_bound ?l_law_bound ?cc_law_bound ?k_law_bound ?n1_law_under ?l_law_under ?cc_law_under ?k_law_under ?n1_law_gap ?l_law_gap ?cc_law_gap ?k_law_gap ?n1_law_seven ?l_law_seven ?cc_law_seven ?k_law_seven ?n1_law_least ?l_law_least ?cc_law_least ?k_law_least ?n1_law_stranger ?l_law_stranger ?cc_law_stranger ?k_law_stranger ?n1_law_refused ?l_law_refused ?cc_law_refused ?k_law_refused ?n1_law_attained ?l_law_attained ?cc_law_attained ?k_law_attained ?n1_law_never_more ?l_law_never_more ?cc_law_never_more ?k_law_never_more ?n1_law ?l_law ?cc_law ?k_law ?aC_UnknownMark ?aC_SlotError ?aC_MissingMark ?aC_WrongMark ?eHn ?eHt ?z_super ?opq ?topS ?xL_UnknownMark ?sa_UnknownMark ?ga_UnknownMark ?gg_UnknownMark ?nb_UnknownMark ?a1_UnknownMark ?t1_UnknownMark ?l_UnknownMark ?cd_UnknownMark ?lc_UnknownMark ?vf_UnknownMark ?ff_UnknownMark ?ce_UnknownMark ?kC_UnknownMark ?eC_UnknownMark ?tC_UnknownMark ?hC_UnknownMark ?sC_UnknownMark ?su_UnknownMark ?vE_UnknownMark ?mD_UnknownMark ?eA_UnknownMark ?eM_UnknownMark ?eC_SlotError ?tC_SlotError ?hC_SlotError ?eC_MissingMark ?tC_MissingMark ?hC_MissingMark ?eC_WrongMark ?tC_WrongMark ?hC_WrongMark ?sb_UnknownMark_SlotError ?sb_UnknownMark_MissingMark ?sb_UnknownMark_WrongMark ?aK_BOUND_LIMIT ?aK_MARKS ?lK_MARKS ?aK_ABOVE ?lK_ABOVE ?kl_ABOVE ?nK_ABOVE_0 ?lK_ABOVE_0 ?nK_ABOVE_1 ?lK_ABOVE_1 ?nK_ABOVE_2 ?lK_ABOVE_2 ?nK_ABOVE_3 ?lK_ABOVE_3 ?nK_ABOVE_4 ?lK_ABOVE_4 ?nK_ABOVE_5 ?lK_ABOVE_5 ?nK_ABOVE_6 ?lK_ABOVE_6
    (case z_bool => k_is)
    (case z_dict => k_is)
    (case z_int => k_is)
    (case z_isinstance => k_is)
    (case z_len => k_is)
    (case z_list => k_is)
    (case z_range => k_is)
    (case z_str => k_is)
    (case z_tuple => k_is)
    (case aC_World => k_is)
    (case pg_World => k_is)
    (case hd_World => k_is)
    (case po_World => k_is)
    (case sa_World => k_is)
    (case mi_World => k_is)
    (case kc_World => k_is)
    (case n_World_lag => k_is)
    (case n_World_length => k_is)
    (case n1_law_mixed => k_is)
    (case l_law_mixed => k_is)
    (case cc_law_mixed => k_is)
    (case k_law_mixed => k_is)
    (case n1_law_draw => k_is)
    (case l_law_draw => k_is)
    (case cc_law_draw => k_is)
    (case k_law_draw => k_is)
    (case n1_law_start => k_is)
    (case l_law_start => k_is)
    (case cc_law_start => k_is)
    (case k_law_start => k_is)
    (case n1_law_same => k_is)
    (case l_law_same => k_is)
    (case cc_law_same => k_is)
    (case k_law_same => k_is)
    (case n1_check_mark => k_is)
    (case l_check_mark => k_is)
    (case cc_check_mark => k_is)
    (case k_check_mark => k_is)
    (case n1_stands_below => k_is)
    (case l_stands_below => k_is)
    (case cc_stands_below => k_is)
    (case k_stands_below => k_is)
    (case n1_sum_of => k_is)
    (case l_sum_of => k_is)
    (case cc_sum_of => k_is)
    (case k_sum_of => k_is)
    (case n1_mark_gap => k_is)
    (case l_mark_gap => k_is)
    (case cc_mark_gap => k_is)
    (case k_mark_gap => k_is)
    (case n1_on_ladder => k_is)
    (case l_on_ladder => k_is)
    (case cc_on_ladder => k_is)
    (case k_on_ladder => k_is)
    (case n1_is_whole => k_is)
    (case l_is_whole => k_is)
    (case cc_is_whole => k_is)
    (case k_is_whole => k_is)
    (case n1_is_bound => k_is)
    (case l_is_bound => k_is)
    (case cc_is_bound => k_is)
    (case k_is_bound => k_is)
    (case n1_bound_at_most => k_is)
    (case l_bound_at_most => k_is)
    (case cc_bound_at_most => k_is)
    (case k_bound_at_most => k_is)
    (case n1_World_init => k_is)
    (case i_World_init => k_is)
    (case l_World_init => k_is)
    (case cc_World_init => k_is)
    (case k_World_init => k_is)
    (case lT_World_init => k_is)
    (case crd_World => k_is)
    (case cga_World => k_is)
    (case sma_World_wide => k_is)
    (case smr_World_wide => k_is)
    (case smk_World_wide => k_is)
    (case l_World_wide => k_is)
    (case cc_World_wide => k_is)
    (case k_World_wide => k_is)
    (case n1_World_gap => k_is)
    (case i_World_gap => k_is)
    (case l_World_gap => k_is)
    (case cc_World_gap => k_is)
    (case k_World_gap => k_is)
    (case n1_Worlddd__containsdd_ => k_is)
    (case i_Worlddd__containsdd_ => k_is)
    (case l_Worlddd__containsdd_ => k_is)
    (case cc_Worlddd__containsdd_ => k_is)
    (case k_Worlddd__containsdd_ => k_is)
    (case n1_law_word => k_is)
    (case l_law_word => k_is)
    (case cc_law_word => k_is)
    (case k_law_word => k_is)
    (case n1_law_within => k_is)
    (case l_law_within => k_is)
    (case cc_law_within => k_is)
    (case k_law_within => k_is)
    (case n1_law_ladder => k_is)
    (case l_law_ladder => k_is)
    (case cc_law_ladder => k_is)
    (case k_law_ladder => k_is)
    (case n1_law_bound => k_is)
    (case l_law_bound => k_is)
    (case cc_law_bound => k_is)
    (case k_law_bound => k_is)
    (case n1_law_under => k_is)
    (case l_law_under => k_is)
    (case cc_law_under => k_is)
    (case k_law_under => k_is)
    (case n1_law_gap => k_is)
    (case l_law_gap => k_is)
    (case cc_law_gap => k_is)
    (case k_law_gap => k_is)
    (case n1_law_seven => k_is)
    (case l_law_seven => k_is)
    (case cc_law_seven => k_is)
    (case k_law_seven => k_is)
    (case n1_law_least => k_is)
    (case l_law_least => k_is)
    (case cc_law_least => k_is)
    (case k_law_least => k_is)
    (case n1_law_stranger => k_is)
    (case l_law_stranger => k_is)
    (case cc_law_stranger => k_is)
    (case k_law_stranger => k_is)
    (case n1_law_refused => k_is)
    (case l_law_refused => k_is)
    (case cc_law_refused => k_is)
    (case k_law_refused => k_is)
    (case n1_law_attained => k_is)
    (case l_law_attained => k_is)
    (case cc_law_attained => k_is)
    (case k_law_attained => k_is)
    (case n1_law_never_more => k_is)
    (case l_law_never_more => k_is)
    (case cc_law_never_more => k_is)
    (case k_law_never_more => k_is)
    (case n1_law => k_is)
    (case l_law => k_is)
    (case cc_law => k_is)
    (case k_law => k_is)
    (case aC_UnknownMark => k_is)
    (case aC_SlotError => k_is)
    (case aC_MissingMark => k_is)
    (case aC_WrongMark => k_is)
    (case eHn => k_is)
    (case eHt => k_is)
    (case z_super => k_is)
    (case opq => k_is)
    (case topS => first | rfl | decide +kernel)
    (case xL_UnknownMark => k_is)
    (case sa_UnknownMark => k_is)
    (case ga_UnknownMark => k_is)
    (case gg_UnknownMark => k_is)
    (case nb_UnknownMark => k_is)
    (case a1_UnknownMark => k_is)
    (case t1_UnknownMark => k_is)
    (case l_UnknownMark => k_is)
    (case cd_UnknownMark => k_is)
    (case lc_UnknownMark => k_is)
    (case vf_UnknownMark => first | rfl | decide +kernel)
    (case ff_UnknownMark => first | rfl | decide +kernel)
    (case ce_UnknownMark => k_is)
    (case kC_UnknownMark => k_is)
    (case eC_UnknownMark => k_is)
    (case tC_UnknownMark => k_is)
    (case hC_UnknownMark => k_is)
    (case sC_UnknownMark => k_is)
    (case su_UnknownMark => ks_is)
    (case vE_UnknownMark => k_is)
    (case mD_UnknownMark => k_is)
    (case eA_UnknownMark => k_is)
    (case eM_UnknownMark => k_is)
    (case eC_SlotError => k_is)
    (case tC_SlotError => k_is)
    (case hC_SlotError => k_is)
    (case eC_MissingMark => k_is)
    (case tC_MissingMark => k_is)
    (case hC_MissingMark => k_is)
    (case eC_WrongMark => k_is)
    (case tC_WrongMark => k_is)
    (case hC_WrongMark => k_is)
    (case sb_UnknownMark_SlotError => k_is)
    (case sb_UnknownMark_MissingMark => k_is)
    (case sb_UnknownMark_WrongMark => k_is)
    (case aK_BOUND_LIMIT => k_is)
    (case aK_MARKS => k_is)
    (case lK_MARKS => k_is)
    (case aK_ABOVE => k_is)
    (case lK_ABOVE => k_is)
    (case kl_ABOVE => repeat (first | exact trivial | refine ⟨⟨_, _, rfl, rfl⟩, ?_⟩))
    (case nK_ABOVE_0 => k_is)
    (case lK_ABOVE_0 => k_is)
    (case nK_ABOVE_1 => k_is)
    (case lK_ABOVE_1 => k_is)
    (case nK_ABOVE_2 => k_is)
    (case lK_ABOVE_2 => k_is)
    (case nK_ABOVE_3 => k_is)
    (case lK_ABOVE_3 => k_is)
    (case nK_ABOVE_4 => k_is)
    (case lK_ABOVE_4 => k_is)
    (case nK_ABOVE_5 => k_is)
    (case lK_ABOVE_5 => k_is)
    (case nK_ABOVE_6 => k_is)
    (case lK_ABOVE_6 => k_is)
#print axioms PySem.Challenge.cw_copiesfollow_k40_whole_world_gaps_holds
