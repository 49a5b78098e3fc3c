import PyProof.Rows.All
import Wide.All
import OpenK.AllK
import Wide.FinOn
import HandS.ForMost
import HandS.Wide
import HandS.Small
import HandS.IsInst
import HandS.Property
import HandS.ForExc
import HandS.ExcSuper
import HandS.ExcIs
import HandS.TryMany
import KE.KExcSuper
import KE.KExcIs
import HandS.WrittenGet
import HandS.Text
import KE.RegKSuper
import HandS.Conv
import HandS.Walk
import HandS.Iter
import HandS.Deep
import HandS.FStr
import OpenK.KMeth
import KE.KOpsOwn
import KE.KCallOwn
import HandS.Steps
import HandS.RaiseMore
import HandS.OwnIter
import HandS.IterNext
import HandS.Defaults
import HandS.Star
import HandS.ClsMeth
import HandS.Codes
import HandS.SortInts
import PySem.Challenge.RW_copiesfollow_k06_whole_cover_pieces
set_option Elab.async false
set_option linter.all false
set_option maxRecDepth 100000
set_option maxHeartbeats 4000000
namespace Cf
open PySem L2 PySem.Spec PyProof.Rows
/-! ## operators that fit every kind of value -/
section
variable {X : Cx}
/-- nothing is tracked there -/
def Fresh (H : Hp) (p : Addr) : Prop := H p = none
def rPlus : R2 := fun x y H Q => rI0 (fun i j => .int (i + j)) x y H Q ∨ ((∃ i j, x = .str i ∧ y = .str j ∧ i.length + j.length ≤ sizeLine ∧ Q (.str (i ++ j)) H) ∨ rCat x y H Q)
theorem op_plus : OpR X (binaryOp .Add) rPlus := op_add.or (op_add_str.or op_cat)
def rTimes : R2 := fun x y H Q => rI CMul (fun i j => .int (i * j)) x y H Q ∨ rRep x y H Q
theorem op_times : OpR X (binaryOp .Mult) rTimes := op_mul.or op_rep
def rEqq (K : PySem.W.Frag) : R2 := fun x y H Q => rEq x y H Q ∨ rEqD K x y H Q
theorem op_eqq (hu : X.A.units + 64 < cLine) : OpR X (compareOp .Eq) (rEqq X.K) := op_eq.or (op_eqD hu)
def rNeq (K : PySem.W.Frag) : R2 := fun x y H Q => rNe x y H Q ∨ rNeD K x y H Q
theorem op_neq (hu : X.A.units + 64 < cLine) : OpR X (compareOp .NotEq) (rNeq X.K) := op_ne.or (op_neD hu)
def rDIn : R2 := fun y x H Q => ∃ a o, x = .ref a ∧ DGet H a y o ∧ Q (.bl o.isSome) H
theorem op_din (hu : X.A.units + 1 < cLine) : OpR X (compareOp .In) rDIn := by
  intro pins s σ H y x u v Q I ry rx h
  obtain ⟨a, o, rfl, g, q⟩ := h
  obtain rfl : v = Value.ref a := rx
  exact d_in hu I g ry fun s3 I3 => ⟨.bl o.isSome, H, I3, rfl, q⟩
def rDNotIn : R2 := fun y x H Q => ∃ a o, x = .ref a ∧ DGet H a y o ∧ Q (.bl (!o.isSome)) H
theorem op_dnotin (hu : X.A.units + 1 < cLine) : OpR X (compareOp .NotIn) rDNotIn := by
  intro pins s σ H y x u v Q I ry rx h
  obtain ⟨a, o, rfl, g, q⟩ := h
  obtain rfl : v = Value.ref a := rx
  exact d_notIn hu I g ry fun s3 I3 => ⟨.bl (!o.isSome), H, I3, rfl, q⟩
def rInn (K : PySem.W.Frag) : R2 := fun x y H Q => rIn K false x y H Q ∨ rDIn x y H Q
theorem op_inn (hu : X.A.units + 1 < cLine) : OpR X (compareOp .In) (rInn X.K) := op_in_seq.or (op_din hu)
def rNotInn (K : PySem.W.Frag) : R2 := fun x y H Q => rIn K true x y H Q ∨ rDNotIn x y H Q
theorem op_notInn (hu : X.A.units + 1 < cLine) : OpR X (compareOp .NotIn) (rNotInn X.K) := op_notIn_seq.or (op_dnotin hu)
def rIxD : R2 := fun x y H Q => ∃ a v, x = .ref a ∧ DGet H a y (some v) ∧ Q v H
theorem ix_dict (hu : X.A.units + 1 < cLine) : IxR X rIxD := by
  intro value slice pins s σ H x y v u Q I rx ry h hs
  obtain ⟨a, z, rfl, g, q⟩ := h
  obtain rfl : v = Value.ref a := rx
  exact tail_any (dict_typeIs I g) PySem.F.slot_dict_getitem.lookup (d_getItem hu I g ry fun w' s3 I3 rw' => ⟨z, H, I3, rw', q⟩) hs
def rIxx (K : PySem.W.Frag) : R2 := fun x y H Q => rIx K x y H Q ∨ rIxD x y H Q
theorem ix_any (hu : X.A.units + 1 < cLine) : IxR X (rIxx X.K) := ix_seq.or (ix_dict hu)
theorem PSet.or {r r' : TSet} (h : PSet X r) (h' : PSet X r') : PSet X (fun o i v H Q => r o i v H Q ∨ r' o i v H Q) := by
  intro pins s σ H o i v ov iv u Q I ro ri rv q
  rcases q with q | q
  · exact h pins s σ H o i v ov iv u Q I ro ri rv q
  · exact h' pins s σ H o i v ov iv u Q I ro ri rv q
def rSett : TSet := fun o i v H Q => rSetL o i v H Q ∨ rSetD o i v H Q
theorem set_any (hu : X.A.units + 1 < cLine) : PSet X rSett := PSet.or set_list (set_dict hu)
def rLen (K : PySem.W.Frag) : List V → Hp → VK → Prop := fun xs H Q => (∃ p ys, xs = [.ref p] ∧ (SqL K H p ys ∨ SqT K H p ys) ∧ Q (.int ys.length) H) ∨ (∃ z, xs = [.str z] ∧ z.length ≤ sizeLine ∧ Q (.int z.length) H)
def rIsN : R2 := fun x y H Q => y = .non ∧ Q (.bl (decide (x = .non))) H
theorem op_isNA : OpR X (compareOp .Is) rIsN := op_isN
def rNotN : R2 := fun x y H Q => y = .non ∧ Q (.bl (!decide (x = .non))) H
theorem op_notNA : OpR X (compareOp .IsNot) rNotN := op_notN
def rInt : List V → Hp → VK → Prop := fun xs H Q => ∃ i, xs = [.int i] ∧ Q (.int i) H
theorem call_intA : CallR X (.type "int") rInt := fun pins s σ H xs us Q I r h => call_int1 pins s σ H xs us Q I r (.inl h)
def rListOf (K : PySem.W.Frag) : List V → Hp → VK → Prop := fun xs H Q => ∃ p ys, xs = [.ref p] ∧ (SqL K H p ys ∨ SqT K H p ys) ∧ ∀ l, H l = none → Q (.ref l) (upd H l (.lst ys))
theorem call_listA : CallR X (.type "list") (rListOf X.K) := call_list_of
def rTupOf (K : PySem.W.Frag) : List V → Hp → VK → Prop := fun xs H Q => ∃ p ys, xs = [.ref p] ∧ ((SqL K H p ys ∧ ∀ l, H l = none → Q (.ref l) (upd H l (.tup ys))) ∨ (SqT K H p ys ∧ Q (.ref p) H))
theorem call_tupleA : CallR X (.type "tuple") (rTupOf X.K) := call_tuple_of
theorem call_lenA : CallR X (.builtin "len") (rLen X.K) := CallR.or call_len_seq call_len_str
end
/-! the same in a block whose context is not X itself -/
section
variable {X : Cx} {K : PySem.W.Frag}
theorem ix_anyK (h : X.K = K) (hu : X.A.units + 1 < cLine) : IxR X (rIxx K) := h ▸ ix_any hu
theorem op_eqqK (h : X.K = K) (hu : X.A.units + 64 < cLine) : OpR X (compareOp .Eq) (rEqq K) := h ▸ op_eqq hu
theorem op_neqK (h : X.K = K) (hu : X.A.units + 64 < cLine) : OpR X (compareOp .NotEq) (rNeq K) := h ▸ op_neq hu
theorem op_innK (h : X.K = K) (hu : X.A.units + 1 < cLine) : OpR X (compareOp .In) (rInn K) := h ▸ op_inn hu
theorem op_notInnK (h : X.K = K) (hu : X.A.units + 1 < cLine) : OpR X (compareOp .NotIn) (rNotInn K) := h ▸ op_notInn hu
theorem call_lenAK (h : X.K = K) : CallR X (.builtin "len") (rLen K) := h ▸ call_lenA
theorem call_listAK (h : X.K = K) : CallR X (.type "list") (rListOf K) := h ▸ call_listA
theorem call_tupleAK (h : X.K = K) : CallR X (.type "tuple") (rTupOf K) := h ▸ call_tupleA
theorem call_isiK' (h : X.K = K) : CallR X (.builtin "isinstance") (rIsi K) := h ▸ call_isi
theorem sl_listK (h : X.K = K) : SlR X (rSlL K) := h ▸ sl_list
theorem pe_fldK {e : Expr} {f : Str} {pos : Pos} {ta : TE} (h : X.K = K) (he : PE X e ta) (hb : attributeBase e f X.env (eval e X.env) = eval e X.env) : PE X (.Attribute e f pos) (tFld K ta f) := h ▸ pe_fld he hb
theorem pi_listK {tg l : Expr} {tl : TE} (h : X.K = K) (hl : PE X l tl) : PI X tg l (iList K tl) := h ▸ pi_list hl
end
end Cf
namespace Cf
open PySem L2 PySem.Spec PyProof.Rows
/-! ## steps of a reading, by its head -/
def TFld (K : PySem.W.Frag) (f : Str) (x : V) (H1 : Hp) (Q : VK) : Prop := ∃ a C dx fs v, x = .ref a ∧ H1 a = some (.ins C dx fs) ∧ Cls K C ∧ NoAttr K C f ∧ fs.lookup f = some v ∧ Q v H1
def TProp (C : Addr) (sp : Sp) (dvs : List V) (E : XK) (x : V) (H1 : Hp) (Q : VK) : Prop := ∃ a dx fs, x = .ref a ∧ H1 a = some (.ins C dx fs) ∧ sp (.ref a :: dvs) H1 Q E
def SFld (K : PySem.W.Frag) (f : Str) (y x : V) (H2 : Hp) (R : Hp → Prop) : Prop := ∃ a C dx fs, x = .ref a ∧ H2 a = some (.ins C dx fs) ∧ Cls K C ∧ NoAttr K C f ∧ fs.length < 1000 ∧ R (upd H2 a (.ins C dx (putF f y fs)))
def TMeth (C : Addr) (m : Str) (x : V) (H1 : Hp) (R : Prop) : Prop := ∃ a dx fs, x = .ref a ∧ H1 a = some (.ins C dx fs) ∧ fs.lookup m = none ∧ R
def tTru (K : PySem.W.Frag) (ta : TE) : TT := fun σ H Q => ta σ H fun x H' => ∃ k, TruV K x H' k ∧ Q k H'
theorem pt_tru {X : Cx} {a : Expr} {ta : TE} (ha : PE X a ta) (he : ∀ whole, isTrue a X.env whole = (do let v ← whole; standAt a.pos; holding [v] (truthy v))) : PT X a (tTru X.K ta) := pt_truth ha he
section
variable {K : PySem.W.Frag} {σ : L2.St} {H : Hp} {D : Ends} {ta tb te : TE} {t u : TT} {tA tr : TA} {a b : TS} {r : R2} {C : Addr} {sp : Sp} {dvs : List V} {E : XK}
theorem k_var {i : Nat} {v : V} {Q : VK} (e : σ[i]? = some (some v)) (h : Q v H) : tVar i σ H Q := ⟨v, e, h⟩
theorem k_c {v : V} {Q : VK} (h : Q v H) : tC v σ H Q := h
theorem k_op {Q : VK} (h : ta σ H fun x H1 => tb σ H1 fun y H2 => r x y H2 Q) : tOp r ta tb σ H Q := h
theorem k_un {r : V → Hp → VK → Prop} {Q : VK} (h : ta σ H fun x H1 => r x H1 Q) : tUn r ta σ H Q := h
theorem k_test {Q : Bool → Hp → Prop} (h : ta σ H fun x H' => ∃ k, x = .bl k ∧ Q k H') : tTest ta σ H Q := h
theorem k_tB {Q : Bool → Hp → Prop} (h : ta σ H fun x H' => ∃ k, x = .bl k ∧ Q k H') : tB ta σ H Q := h
theorem k_tru {Q : Bool → Hp → Prop} (h : ta σ H fun x H' => ∃ k, TruV K x H' k ∧ Q k H') : tTru K ta σ H Q := h
theorem k_ex {b : Bool} {P : Bool → Prop} (h : P b) : ∃ k, V.bl b = .bl k ∧ P k := ⟨b, rfl, h⟩
theorem k_exT {b : Bool} {P : Bool → Prop} (h : P b) : ∃ k, TruV K (V.bl b) H k ∧ P k := ⟨b, rfl, h⟩
theorem k_exI {i : Int} {P : Bool → Prop} (h : P (i != 0)) : ∃ k, TruV K (V.int i) H k ∧ P k := ⟨_, rfl, h⟩
theorem k_and {Q : Bool → Hp → Prop} (h : t σ H fun c H1 => if c = true then u σ H1 Q else Q false H1) : tAnd t u σ H Q := h
theorem k_or {Q : Bool → Hp → Prop} (h : t σ H fun c H1 => if c = true then Q true H1 else u σ H1 Q) : tOr t u σ H Q := h
theorem k_not {Q : Bool → Hp → Prop} (h : t σ H fun c H1 => Q (!c) H1) : tNot t σ H Q := h
theorem k_andV {Q : VK} (h : ta σ H fun x H1 => ∃ c, x = .bl c ∧ if c = true then tb σ H1 Q else Q (.bl false) H1) : tAndV ta tb σ H Q := h
theorem k_orV {Q : VK} (h : ta σ H fun x H1 => ∃ c, x = .bl c ∧ if c = true then Q (.bl true) H1 else tb σ H1 Q) : tOrV ta tb σ H Q := h
theorem k_notV {Q : VK} (h : ta σ H fun x H1 => ∃ c, x = .bl c ∧ Q (.bl (!c)) H1) : tNotV ta σ H Q := h
theorem k_ifE {Q : VK} (h : t σ H fun c H1 => if c = true then ta σ H1 Q else tb σ H1 Q) : tIf t ta tb σ H Q := h
theorem k_cons {Q : List V → Hp → Prop} (h : ta σ H fun x H1 => tr σ H1 fun xs H2 => Q (x :: xs) H2) : tCons ta tr σ H Q := h
theorem k_nil {Q : List V → Hp → Prop} (h : Q [] H) : tNil σ H Q := h
theorem k_tup {Q : VK} (h : tA σ H fun xs H1 => xs.length ≤ sizeLine ∧ ∀ p, Fresh H1 p → Q (.ref p) (upd H1 p (.tup xs))) : tTup tA σ H Q := h
theorem k_lst {Q : VK} (h : tA σ H fun xs H1 => xs.length ≤ sizeLine ∧ ∀ p, Fresh H1 p → Q (.ref p) (upd H1 p (.lst xs))) : tLst tA σ H Q := h
theorem k_call {Q : VK} (h : tA σ H fun vs H1 => sp (vs ++ dvs) H1 Q E) : tCall sp dvs E tA σ H Q := h
theorem k_cb {r : List V → Hp → VK → Prop} {Q : VK} (h : tA σ H fun vs H1 => r vs H1 Q) : tCB r tA σ H Q := h
theorem k_bm0 {T : String} {r : V → List V → Hp → VK → Prop} {Q : VK} (h : te σ H fun x H1 => tyV K T x H1 ∧ r x [] H1 Q) : tBM0 K T r te σ H Q := h
theorem k_bm {T : String} {r : V → List V → Hp → VK → Prop} {Q : VK} (h : te σ H fun x H1 => tyV K T x H1 ∧ tA σ H1 fun xs H2 => r x xs H2 Q) : tBM K T r te tA σ H Q := h
theorem k_fld {f : Str} {Q : VK} (h : ta σ H fun x H1 => TFld K f x H1 Q) : tFld K ta f σ H Q := h
theorem k_prop {Q : VK} (h : ta σ H fun x H1 => TProp C sp dvs E x H1 Q) : tProp C sp dvs E ta σ H Q := h
theorem k_sl {r : V → Option Int → Option Int → Hp → VK → Prop} {tl th : TO} {Q : VK} (h : te σ H fun x H1 => tl σ H1 fun l H2 => th σ H2 fun u H3 => r x l u H3 Q) : tSl r te tl th σ H Q := h
theorem k_nopart {Q : Option Int → Hp → Prop} (h : Q none H) : tNoPart σ H Q := h
theorem k_part {Q : Option Int → Hp → Prop} (h : te σ H fun x H1 => ∃ i, x = .int i ∧ Q (some i) H1) : tPart te σ H Q := h
theorem k_exint {i : Int} {P : Int → Prop} (h : P i) : ∃ k, V.int i = .int k ∧ P k := ⟨i, rfl, h⟩
-- statements
variable {nx : L2.St → Hp → Prop} {rt : VK} {bk ct : L2.St → Hp → Prop}
theorem k_next (h : nx σ H) : tNext ⟨nx, rt, bk, ct⟩ σ H := h
theorem k_brk (h : bk σ H) : tBreak ⟨nx, rt, bk, ct⟩ σ H := h
theorem k_cont (h : ct σ H) : tCont ⟨nx, rt, bk, ct⟩ σ H := h
theorem k_seq (h : a ⟨b ⟨nx, rt, bk, ct⟩, rt, bk, ct⟩ σ H) : tSeq a b ⟨nx, rt, bk, ct⟩ σ H := h
theorem k_drop (h : te σ H fun _ H1 => nx σ H1) : tDrop te ⟨nx, rt, bk, ct⟩ σ H := h
theorem k_ret (h : te σ H rt) : tRet te ⟨nx, rt, bk, ct⟩ σ H := h
theorem k_retN (h : rt .non H) : tRetN ⟨nx, rt, bk, ct⟩ σ H := h
theorem k_ifs (h : t σ H fun b' H1 => if b' = true then a D σ H1 else b D σ H1) : tIfS t a b D σ H := h
theorem k_asg {g : TG} (h : te σ H fun x H1 => g x σ H1 nx) : tAsg te g ⟨nx, rt, bk, ct⟩ σ H := h
theorem k_gname {i : Nat} {v : V} {σ' : L2.St} {Q : L2.St → Hp → Prop} (e : σ.set i (some v) = σ') (h : Q σ' H) : gName i v σ H Q := by subst e; exact h
theorem k_gsub {to ti : TE} {st : TSet} {v : V} {Q : L2.St → Hp → Prop} (h : to σ H fun o H1 => ti σ H1 fun i H2 => st o i v H2 fun H3 => Q σ H3) : gSub to ti st v σ H Q := h
theorem k_sfld {tv : TE} {f : Str} (h : tv σ H fun y H1 => ta σ H1 fun x H2 => SFld K f y x H2 (nx σ)) : sFld K ta tv f ⟨nx, rt, bk, ct⟩ σ H := h
/-- a loop over J, from H1 -/
def ForE (g : TG) (tb : TS) (D : Ends) (J : It) (σ : L2.St) (H1 : Hp) : Prop := ∃ W : Nat → Nat → L2.St → Hp → Prop, (∃ m, W 0 m σ H1) ∧ ∀ i m σ H, W i m σ H →
  (J.stop i H ∧ D.nx σ H) ∨ (J.go i H ∧ ∃ N : L2.St → Hp → Prop, (∀ σ' H', N σ' H' → ∃ m', m' < m ∧ W (i + 1) m' σ' H') ∧ ∀ x H', J.yld i H x H' → g x σ H' fun σ2 H2 => tb { D with nx := N, ct := N, bk := D.nx } σ2 H2)
theorem k_for {wi : TI} {g : TG} {tb : TS} (h : wi σ H fun J H1 => ForE g tb ⟨nx, rt, bk, ct⟩ J σ H1) : tFor wi g tb ⟨nx, rt, bk, ct⟩ σ H := h
theorem k_rng1 {R : It → Hp → Prop} (h : tA σ H fun vs H1 => ∃ j : Int, vs = [.int j] ∧ -(2 ^ 62) ≤ j ∧ j < 2 ^ 62 ∧ R (Itr 0 j.toNat) H1) : iRng1 tA σ H R := h
theorem k_rng2 {R : It → Hp → Prop} (h : tA σ H fun vs H1 => ∃ i j : Int, vs = [.int i, .int j] ∧ (-(2 ^ 62) ≤ i ∧ i < 2 ^ 62 ∧ -(2 ^ 62) ≤ j ∧ j < 2 ^ 62) ∧ R (Itr i (j - i).toNat) H1) : iRng2 tA σ H R := h
theorem k_ilist {tl : TE} {R : It → Hp → Prop} (h : tl σ H fun x H1 => ∃ a, x = .ref a ∧ (∃ xs, SqL K H1 a xs) ∧ R (Itl K a) H1) : iList K tl σ H R := h
theorem k_itup {tl : TE} {R : It → Hp → Prop} (h : tl σ H fun x H1 => ∃ a, x = .ref a ∧ (∃ xs, SqT K H1 a xs) ∧ R (Itt K a) H1) : iTup K tl σ H R := h
theorem k_exrng {n : Int} {R : Int → Prop} (h : -(2 ^ 62) ≤ n ∧ n < 2 ^ 62) (q : R n) : ∃ j : Int, [V.int n] = [.int j] ∧ -(2 ^ 62) ≤ j ∧ j < 2 ^ 62 ∧ R j := ⟨n, rfl, h.1, h.2, q⟩
theorem k_exrng2 {m n : Int} {R : Int → Int → Prop} (h : -(2 ^ 62) ≤ m ∧ m < 2 ^ 62 ∧ -(2 ^ 62) ≤ n ∧ n < 2 ^ 62) (q : R m n) : ∃ i j : Int, [V.int m, V.int n] = [.int i, .int j] ∧ (-(2 ^ 62) ≤ i ∧ i < 2 ^ 62 ∧ -(2 ^ 62) ≤ j ∧ j < 2 ^ 62) ∧ R i j := ⟨m, n, rfl, h, q⟩
theorem k_exlst {a : Addr} {xs : List V} {R : Addr → Prop} (h : H a = some (.lst xs)) (q : R a) : ∃ b, V.ref a = .ref b ∧ (∃ xs, SqL K H b xs) ∧ R b := ⟨a, rfl, ⟨xs, SqL.of h⟩, q⟩
theorem k_extup {a : Addr} {xs : List V} {R : Addr → Prop} (h : H a = some (.tup xs)) (q : R a) : ∃ b, V.ref a = .ref b ∧ (∃ xs, SqT K H b xs) ∧ R b := ⟨a, rfl, ⟨xs, SqT.of h⟩, q⟩
theorem for_r {g : TG} {tb : TS} {n : Nat} (Pv : Nat → L2.St → Hp → Prop) (h0 : Pv 0 σ H)
    (hs : ∀ (i : Nat) σ H, i < n → Pv i σ H → g (.int i) σ H fun σ2 H2 => tb ⟨Pv (i + 1), rt, nx, Pv (i + 1)⟩ σ2 H2) (hd : ∀ σ H, Pv n σ H → nx σ H) : ForE g tb ⟨nx, rt, bk, ct⟩ (Itr 0 n) σ H :=
  for_range (D := ⟨nx, rt, bk, ct⟩) Pv h0 (fun i σ H hi p => by
    have e := hs i σ H hi p
    have z : (0 : Int) + (i : Int) = (i : Int) := Int.zero_add _
    rw [z]
    exact e) hd
theorem for_rl {g : TG} {tb : TS} {n : Nat} {lo : Int} (Pv : Nat → L2.St → Hp → Prop) (h0 : Pv 0 σ H)
    (hs : ∀ (i : Nat) σ H, i < n → Pv i σ H → g (.int (lo + i)) σ H fun σ2 H2 => tb ⟨Pv (i + 1), rt, nx, Pv (i + 1)⟩ σ2 H2) (hd : ∀ σ H, Pv n σ H → nx σ H) : ForE g tb ⟨nx, rt, bk, ct⟩ (Itr lo n) σ H :=
  for_range (D := ⟨nx, rt, bk, ct⟩) Pv h0 hs hd
theorem for_l {g : TG} {tb : TS} {p : Addr} (xs : List V) (Pv : Nat → L2.St → Hp → Prop) (h0 : Pv 0 σ H) (hl : ∀ i σ H, i ≤ xs.length → Pv i σ H → SqL K H p xs)
    (hs : ∀ (i : Nat) x σ H, xs[i]? = some x → Pv i σ H → g x σ H fun σ2 H2 => tb ⟨Pv (i + 1), rt, nx, Pv (i + 1)⟩ σ2 H2) (hd : ∀ σ H, Pv xs.length σ H → nx σ H) : ForE g tb ⟨nx, rt, bk, ct⟩ (Itl K p) σ H :=
  for_list (D := ⟨nx, rt, bk, ct⟩) Pv h0 hl hs hd
theorem for_t {g : TG} {tb : TS} {p : Addr} (xs : List V) (Pv : Nat → L2.St → Hp → Prop) (h0 : Pv 0 σ H) (hl : ∀ i σ H, i ≤ xs.length → Pv i σ H → SqT K H p xs)
    (hs : ∀ (i : Nat) x σ H, xs[i]? = some x → Pv i σ H → g x σ H fun σ2 H2 => tb ⟨Pv (i + 1), rt, nx, Pv (i + 1)⟩ σ2 H2) (hd : ∀ σ H, Pv xs.length σ H → nx σ H) : ForE g tb ⟨nx, rt, bk, ct⟩ (Itt K p) σ H :=
  for_tup (D := ⟨nx, rt, bk, ct⟩) Pv h0 hl hs hd
/-- a comprehension over J, its list at L -/
def LcE (g : TG) (tt : TT) (te : TE) (vs : List Nat) (J : It) (σ : L2.St) (L : Addr) (H1 : Hp) (Qd : Hp → Prop) : Prop := ∃ W : Nat → Nat → Hp → Prop, (∃ m, W 0 m (upd H1 L (.lst []))) ∧ ∀ i m H, W i m H →
  (J.stop i H ∧ Qd H) ∨ (J.go i H ∧ ∃ Nx : Hp → Prop, (∀ H', Nx H' → ∃ m', m' < m ∧ W (i + 1) m' H') ∧ ∀ x H', J.yld i H x H' → g x (wipe σ vs) H' fun σ2 H2 => wipe σ2 vs = wipe σ vs ∧ tt σ2 H2 fun b H3 =>
    if b = true then te σ2 H3 fun y H4 => ∃ acc, H4 L = some (.lst acc) ∧ acc.length < sizeLine ∧ Nx (upd H4 L (.lst (acc ++ [y]))) else Nx H3)
theorem k_lc {wi : TI} {g : TG} {tt : TT} {te : TE} {vs : List Nat} {Q : VK} (h : wi σ H fun J H1 => ∀ L, Fresh H1 L → LcE g tt te vs J σ L H1 (Q (.ref L))) : tLc wi g tt te vs σ H Q := h
theorem k_yes {Q : Bool → Hp → Prop} (h : Q true H) : tYes σ H Q := h
theorem lc_r {g : TG} {tt : TT} {vs : List Nat} {n : Nat} {L : Addr} {Qd : Hp → Prop} (Pv : Nat → Hp → Prop) (h0 : Pv 0 (upd H L (.lst [])))
    (hs : ∀ (i : Nat) H, i < n → Pv i H → g (.int i) (wipe σ vs) H fun σ2 H2 => wipe σ2 vs = wipe σ vs ∧ tt σ2 H2 fun b H3 =>
      if b = true then te σ2 H3 fun y H4 => ∃ acc, H4 L = some (.lst acc) ∧ acc.length < sizeLine ∧ Pv (i + 1) (upd H4 L (.lst (acc ++ [y]))) else Pv (i + 1) H3) (hd : ∀ H, Pv n H → Qd H) : LcE g tt te vs (Itr 0 n) σ L H Qd :=
  lc_range Pv h0 (fun i H hi p => by
    have e := hs i H hi p
    have z : (0 : Int) + (i : Int) = (i : Int) := Int.zero_add _
    rw [z]
    exact e) hd
theorem lc_l {g : TG} {tt : TT} {vs : List Nat} {p : Addr} {L : Addr} {Qd : Hp → Prop} (xs : List V) (Pv : Nat → Hp → Prop) (h0 : Pv 0 (upd H L (.lst []))) (hl : ∀ i H, i ≤ xs.length → Pv i H → SqL K H p xs)
    (hs : ∀ (i : Nat) x H, xs[i]? = some x → Pv i H → g x (wipe σ vs) H fun σ2 H2 => wipe σ2 vs = wipe σ vs ∧ tt σ2 H2 fun b H3 =>
      if b = true then te σ2 H3 fun y H4 => ∃ acc, H4 L = some (.lst acc) ∧ acc.length < sizeLine ∧ Pv (i + 1) (upd H4 L (.lst (acc ++ [y]))) else Pv (i + 1) H3) (hd : ∀ H, Pv xs.length H → Qd H) : LcE g tt te vs (Itl K p) σ L H Qd :=
  lc_list (K := K) Pv h0 hl hs hd
/-- the end of a comprehension's turn -/
theorem lc_put {L : Addr} {acc : List V} {y : V} {N : Hp → Prop} (h : H L = some (.lst acc)) (hl : acc.length < 1000) (q : N (upd H L (.lst (acc ++ [y])))) : ∃ acc, H L = some (.lst acc) ∧ acc.length < sizeLine ∧ N (upd H L (.lst (acc ++ [y]))) := ⟨acc, h, small1000 (Nat.le_of_lt hl), q⟩
theorem k_meth {m : Str} {Q : VK} (h : ta σ H fun x H1 => TMeth C m x H1 (tA σ H1 fun vs H2 => sp (x :: (vs ++ dvs)) H2 Q E)) : tMeth C m sp dvs E ta tA σ H Q := h
theorem k_make {Q : VK} (h : tA σ H fun vs H1 => ∀ x dx, Fresh H1 x → Fresh H1 dx → dx ≠ x → sp (.ref x :: (vs ++ dvs)) (upd (upd H1 dx (.own x)) x (.ins C dx [])) (fun v H2 => v = .non ∧ Q (.ref x) H2) E) : tMake C sp dvs E tA σ H Q := h
theorem k_disp {trs : List (TE × TE)} {Q : VK} (h : ∀ p, Fresh H p → tPairs trs σ (upd H p (.dK [])) fun ps H2 => H2 p = some (.dK []) ∧ ∃ kvs : List (Key × V), ps = kvs.map (fun kv => (kV kv.1, kv.2)) ∧ kvs.length ≤ 15 ∧ Q (.ref p) (upd H2 p (.dK (mergeK [] kvs)))) : tDisp trs σ H Q := h
theorem kr_meth {r dx : Addr} {fs : List (Str × V)} {m : Str} {R : Prop} (h : H r = some (.ins C dx fs)) (l : fs.lookup m = none) (q : R) : TMeth C m (.ref r) H R := ⟨r, dx, fs, rfl, h, l, q⟩
theorem kr_fld {r C dx : Addr} {fs : List (Str × V)} {f : Str} {v : V} {Q : VK} (h : H r = some (.ins C dx fs)) (c : Cls K C) (n : NoAttr K C f) (l : fs.lookup f = some v) (q : Q v H) : TFld K f (.ref r) H Q := ⟨r, C, dx, fs, v, rfl, h, c, n, l, q⟩
theorem kr_sfld {r C dx : Addr} {fs fs' : List (Str × V)} {f : Str} {y : V} {R : Hp → Prop} (h : H r = some (.ins C dx fs)) (c : Cls K C) (n : NoAttr K C f) (l : fs.length < 1000) (e : putF f y fs = fs') (q : R (upd H r (.ins C dx fs'))) : SFld K f y (.ref r) H R := by
  subst e; exact ⟨r, C, dx, fs, rfl, h, c, n, l, q⟩
theorem kr_prop {r dx : Addr} {fs : List (Str × V)} {Q : VK} (h : H r = some (.ins C dx fs)) (q : sp (.ref r :: dvs) H Q E) : TProp C sp dvs E (.ref r) H Q := ⟨r, dx, fs, rfl, h, q⟩
theorem k_tyL {l : Addr} {xs : List V} {R : Prop} (h : H l = some (.lst xs)) (q : R) : tyV K "list" (.ref l) H ∧ R := ⟨.inl ⟨rfl, xs, SqL.of h⟩, q⟩
theorem kr_inI {p : Addr} {xs : List V} {x : V} {b : Bool} {Q : VK} (h : H p = some (.lst xs)) (f : flatV x = true) (g : xs.all flatV = true) (e : inV x xs = b) (q : Q (.bl b) H) : rInn K x (.ref p) H Q := by
  subst e; exact .inl ⟨p, xs, rfl, .inl (SqL.of h), f, g, q⟩
theorem kr_inT {p : Addr} {xs : List V} {x : V} {b : Bool} {Q : VK} (h : H p = some (.tup xs)) (f : flatV x = true) (g : xs.all flatV = true) (e : inV x xs = b) (q : Q (.bl b) H) : rInn K x (.ref p) H Q := by
  subst e; exact .inl ⟨p, xs, rfl, .inr (SqT.of h), f, g, q⟩
theorem kr_inD {d : Addr} {kvs : List (Key × V)} {s : Str} {b : Bool} {Q : VK} (h : H d = some (.dK kvs)) (e : (valV kvs (Sum.inr s)).isSome = b) (q : Q (.bl b) H) : rInn K (.str s) (.ref d) H Q := by
  subst e; exact .inr ⟨d, _, rfl, DGet.k (k := Sum.inr s) h, q⟩
theorem kr_notInI {p : Addr} {xs : List V} {x : V} {b : Bool} {Q : VK} (h : H p = some (.lst xs)) (f : flatV x = true) (g : xs.all flatV = true) (e : inV x xs = b) (q : Q (.bl (!b)) H) : rNotInn K x (.ref p) H Q := by
  subst e; exact .inl ⟨p, xs, rfl, .inl (SqL.of h), f, g, q⟩
theorem kr_notInT {p : Addr} {xs : List V} {x : V} {b : Bool} {Q : VK} (h : H p = some (.tup xs)) (f : flatV x = true) (g : xs.all flatV = true) (e : inV x xs = b) (q : Q (.bl (!b)) H) : rNotInn K x (.ref p) H Q := by
  subst e; exact .inl ⟨p, xs, rfl, .inr (SqT.of h), f, g, q⟩
theorem kr_notInD {d : Addr} {kvs : List (Key × V)} {s : Str} {b : Bool} {Q : VK} (h : H d = some (.dK kvs)) (e : (valV kvs (Sum.inr s)).isSome = b) (q : Q (.bl (!b)) H) : rNotInn K (.str s) (.ref d) H Q := by
  subst e; exact .inr ⟨d, _, rfl, DGet.k (k := Sum.inr s) h, q⟩
theorem kr_slL {p : Addr} {xs : List V} {lo hi : Option Int} {Q : VK} (h : H p = some (.lst xs)) (q : ∀ l, Fresh H l → Q (.ref l) (upd H l (.lst (cutV xs lo hi)))) : rSlL K (.ref p) lo hi H Q := ⟨p, xs, rfl, SqL.of h, q⟩
theorem kr_append {l : Addr} {xs : List V} {y : V} {Q : VK} (h : H l = some (.lst xs)) (hl : xs.length < sizeLine) (q : Q .non (upd H l (.lst (xs ++ [y])))) : rAppend (.ref l) [y] H Q := ⟨l, xs, y, rfl, rfl, h, hl, q⟩
theorem kr_pop0 {l : Addr} {xs : List V} {x : V} {Q : VK} (h : H l = some (.lst (x :: xs))) (q : Q x (upd H l (.lst xs))) : rPopAt (.ref l) [.int 0] H Q :=
  ⟨l, x :: xs, 0, 0, x, rfl, rfl, h, by decide, by decide, by simp [seqIndex?], rfl, q⟩
theorem k_pairs_nil {Q : List (V × V) → Hp → Prop} (h : Q [] H) : tPairs [] σ H Q := h
theorem k_pairs {tk tv : TE} {r : List (TE × TE)} {Q : List (V × V) → Hp → Prop} (h : tk σ H fun x H1 => tv σ H1 fun y H2 => tPairs r σ H2 fun ps H3 => Q ((x, y) :: ps) H3) : tPairs ((tk, tv) :: r) σ H Q := h
-- operators
theorem kr_I0 {g : Int → Int → V} {i j : Int} {Q : VK} (h : Q (g i j) H) : rI0 g (.int i) (.int j) H Q := ⟨i, j, rfl, rfl, h⟩
theorem kr_I {Co : Int → Int → Prop} {g : Int → Int → V} {i j : Int} {Q : VK} (hc : Co i j) (h : Q (g i j) H) : rI Co g (.int i) (.int j) H Q := ⟨i, j, rfl, rfl, hc, h⟩
theorem kr_U {g : Int → V} {i : Int} {Q : VK} (h : Q (g i) H) : rU g (.int i) H Q := ⟨i, rfl, h⟩
theorem kr_plus {i j : Int} {Q : VK} (h : Q (.int (i + j)) H) : rPlus (.int i) (.int j) H Q := .inl ⟨i, j, rfl, rfl, h⟩
theorem kr_plusS {i j : Str} {Q : VK} (hl : i.length + j.length ≤ sizeLine) (h : Q (.str (i ++ j)) H) : rPlus (.str i) (.str j) H Q := .inr (.inl ⟨i, j, rfl, rfl, hl, h⟩)
theorem kr_plusL {l q : Addr} {xs zs : List V} {Q : VK} (h1 : H l = some (.lst xs)) (h2 : H q = some (.lst zs)) (hl : xs.length + zs.length ≤ sizeLine) (h : ∀ p, Fresh H p → Q (.ref p) (upd H p (.lst (xs ++ zs)))) : rPlus (.ref l) (.ref q) H Q :=
  .inr (.inr ⟨l, q, xs, zs, rfl, rfl, h1, h2, hl, h⟩)
theorem kr_times {i j : Int} {Q : VK} (hc : CMul i j) (h : Q (.int (i * j)) H) : rTimes (.int i) (.int j) H Q := .inl ⟨i, j, rfl, rfl, hc, h⟩
theorem kr_eq {x y : V} {Q : VK} (hc : scal x y = true) (h : Q (.bl (decide (x = y))) H) : rEqq K x y H Q := .inl ⟨hc, h⟩
theorem kr_ne {x y : V} {Q : VK} (hc : scal x y = true) (h : Q (.bl (!decide (x = y))) H) : rNeq K x y H Q := .inl ⟨hc, h⟩
theorem kr_ixL {p : Addr} {xs : List V} {i : Int} {v : V} {Q : VK} (h : H p = some (.lst xs)) (ha : atI xs i = some v) (q : Q v H) : rIxx K (.ref p) (.int i) H Q := .inl (.inl ⟨p, xs, i, v, rfl, rfl, SqL.of h, ha, q⟩)
theorem kr_ixT {p : Addr} {xs : List V} {i : Int} {v : V} {Q : VK} (h : H p = some (.tup xs)) (ha : atI xs i = some v) (q : Q v H) : rIxx K (.ref p) (.int i) H Q := .inl (.inr (.inl ⟨p, xs, i, v, rfl, rfl, SqT.of h, ha, q⟩))
theorem kr_ixS {z : Str} {i : Int} {c : Nat} {Q : VK} (hz : z.length ≤ sizeLine) (ha : atI z.cps.toList i = some c) (q : Q (.str ⟨#[c]⟩) H) : rIxx K (.str z) (.int i) H Q := .inl (.inr (.inr ⟨z, i, c, rfl, rfl, hz, ha, q⟩))
theorem kr_ixD {d : Addr} {kvs : List (Key × V)} {s : Str} {v : V} {Q : VK} (h : H d = some (.dK kvs)) (ha : valV kvs (Sum.inr s) = some v) (q : Q v H) : rIxx K (.ref d) (.str s) H Q :=
  .inr ⟨d, v, rfl, ha ▸ DGet.k (k := Sum.inr s) h, q⟩
theorem kr_ixDi {d : Addr} {kvs : List (Key × V)} {s : Int} {v : V} {Q : VK} (h : H d = some (.dK kvs)) (ha : valV kvs (Sum.inl s) = some v) (q : Q v H) : rIxx K (.ref d) (.int s) H Q :=
  .inr ⟨d, v, rfl, ha ▸ DGet.k (k := Sum.inl s) h, q⟩
theorem kr_setL {p : Addr} {xs xs' : List V} {i : Int} {j : Nat} {v : V} {Q : Hp → Prop} (h : H p = some (.lst xs)) (ha : ixN xs.length i = some j) (e : xs.set j v = xs') (q : Q (upd H p (.lst xs'))) : rSett (.ref p) (.int i) v H Q := by subst e; exact .inl ⟨p, xs, i, j, rfl, rfl, h, ha, q⟩
theorem kr_setD {d : Addr} {kvs kvs' : List (Key × V)} {s : Str} {v : V} {Q : Hp → Prop} (h : H d = some (.dK kvs)) (hl : kvs.length < sizeLine) (e : putK kvs (Sum.inr s) v = kvs') (q : Q (upd H d (.dK kvs'))) : rSett (.ref d) (.str s) v H Q := by
  subst e; exact .inr ⟨d, _, rfl, DPut.k (k := Sum.inr s) h hl, q⟩
theorem kr_int {i : Int} {Q : VK} (q : Q (.int i) H) : rInt [.int i] H Q := ⟨i, rfl, q⟩
theorem kr_listL {p : Addr} {xs : List V} {Q : VK} (h : H p = some (.lst xs)) (q : ∀ l, Fresh H l → Q (.ref l) (upd H l (.lst xs))) : rListOf K [.ref p] H Q := ⟨p, xs, rfl, .inl (SqL.of h), q⟩
theorem kr_listT {p : Addr} {xs : List V} {Q : VK} (h : H p = some (.tup xs)) (q : ∀ l, Fresh H l → Q (.ref l) (upd H l (.lst xs))) : rListOf K [.ref p] H Q := ⟨p, xs, rfl, .inr (SqT.of h), q⟩
theorem kr_tupL {p : Addr} {xs : List V} {Q : VK} (h : H p = some (.lst xs)) (q : ∀ l, Fresh H l → Q (.ref l) (upd H l (.tup xs))) : rTupOf K [.ref p] H Q := ⟨p, xs, rfl, .inl ⟨SqL.of h, q⟩⟩
theorem kr_tupT {p : Addr} {xs : List V} {Q : VK} (h : H p = some (.tup xs)) (q : Q (.ref p) H) : rTupOf K [.ref p] H Q := ⟨p, xs, rfl, .inr ⟨SqT.of h, q⟩⟩
theorem kr_lenL {p : Addr} {xs : List V} {Q : VK} (h : H p = some (.lst xs)) (q : Q (.int xs.length) H) : rLen K [.ref p] H Q := .inl ⟨p, xs, rfl, .inl (SqL.of h), q⟩
theorem kr_lenT {p : Addr} {xs : List V} {Q : VK} (h : H p = some (.tup xs)) (q : Q (.int xs.length) H) : rLen K [.ref p] H Q := .inl ⟨p, xs, rfl, .inr (SqT.of h), q⟩
theorem kr_lenS {z : Str} {Q : VK} (h : z.length ≤ sizeLine) (q : Q (.int z.length) H) : rLen K [.str z] H Q := .inr ⟨z, rfl, h, q⟩
theorem kr_disp {p : Addr} {ps : List (V × V)} {kvs kvs' : List (Key × V)} {Q : VK} (h : H p = some (.dK [])) (e : ps = kvs.map (fun kv => (kV kv.1, kv.2))) (hl : kvs.length ≤ 15) (m : mergeK [] kvs = kvs') (q : Q (.ref p) (upd H p (.dK kvs'))) :
    H p = some (.dK []) ∧ ∃ kvs : List (Key × V), ps = kvs.map (fun kv => (kV kv.1, kv.2)) ∧ kvs.length ≤ 15 ∧ Q (.ref p) (upd H p (.dK (mergeK [] kvs))) := by subst m; exact ⟨h, kvs, e, hl, q⟩
/-- what holds behind a statement, once for all its ways -/
theorem k_cut {R : L2.St → Hp → Prop} (h1 : ∀ B : L2.St → Hp → Prop, (∀ σ' H', R σ' H' → B σ' H') → a ⟨B, rt, bk, ct⟩ σ H) (h2 : ∀ σ' H', R σ' H' → b ⟨nx, rt, bk, ct⟩ σ' H') : tSeq a b ⟨nx, rt, bk, ct⟩ σ H := h1 _ h2
/-- .. behind a test -/
theorem k_cutI {R : Bool → Hp → Prop} (h1 : ∀ B : Bool → Hp → Prop, (∀ c H', R c H' → B c H') → t σ H B) (h2 : ∀ c H', R c H' → if c = true then a D σ H' else b D σ H') : tIfS t a b D σ H := h1 _ h2
/-- .. behind an expression -/
theorem k_cutE {Q : VK} (R : VK) (h1 : ∀ B : VK, (∀ v H', R v H' → B v H') → te σ H B) (h2 : ∀ v H', R v H' → Q v H') : te σ H Q := h1 _ h2
theorem k_size {xs : List V} {R : Prop} (h : Nat.ble xs.length 1000 = true) (q : R) : xs.length ≤ sizeLine ∧ R := ⟨Nat.le_of_lt (small1000 (Nat.le_of_ble_eq_true h)), q⟩
/-- forgetting what the state is made of -/
theorem k_gen {t : TS} {R : L2.St → Hp → Prop} (h : R σ H) (k : ∀ σ' H', R σ' H' → t D σ' H') : t D σ H := k σ H h
theorem k_wipe {a b : L2.St} {vs : List Nat} {R : Prop} (e : wipe a vs = wipe b vs) (q : R) : wipe a vs = wipe b vs ∧ R := ⟨e, q⟩
theorem k_ite {c : Bool} {A B : Prop} (h1 : c = true → A) (h2 : c = false → B) : if c = true then A else B := by
  cases c with
  | true => rw [if_pos rfl]; exact h1 rfl
  | false => rw [if_neg (by decide)]; exact h2 rfl
theorem k_iteT {c : Bool} {A B : Prop} (h : c = true) (k : A) : if c = true then A else B := by rw [if_pos h]; exact k
theorem k_iteF {c : Bool} {A B : Prop} (h : c = false) (k : B) : if c = true then A else B := by rw [h, if_neg (by decide)]; exact k
end
theorem start_cons {n : Str} {N : List Str} {v : V} {vs : List V} : L2.start (n :: N) (v :: vs) = some v :: L2.start N vs := by simp [L2.start]
theorem start_none {n : Str} {N : List Str} : L2.start (n :: N) [] = none :: L2.start N [] := by simp [L2.start, List.replicate_succ]
theorem start_nil : L2.start [] [] = [] := rfl
/-! ## heaps -/
/-- what is tracked is kept, but for the objects at S -/
def Keep (S : List Addr) (H H' : Hp) : Prop := ∀ b o, b ∉ S → H b = some o → H' b = some o
theorem Keep.refl {S : List Addr} (H : Hp) : Keep S H H := fun _ _ _ h => h
theorem Keep.trans {S : List Addr} {H H1 H2 : Hp} (a : Keep S H H1) (b : Keep S H1 H2) : Keep S H H2 := fun c o n h => b c o n (a c o n h)
theorem Keep.mono {S S' : List Addr} {H H' : Hp} (a : Keep S H H') (h : ∀ b, b ∈ S → b ∈ S') : Keep S' H H' := fun c o n e => a c o (fun z => n (h c z)) e
theorem Keep.same {S : List Addr} {H H' : Hp} (a : Keep [] H H') : Keep S H H' := fun c o _ e => a c o (by simp) e
theorem Keep.at {S : List Addr} {H H' : Hp} {b : Addr} {o : HO} (k : Keep S H H') (n : b ∉ S) (h : H b = some o) : H' b = some o := k b o n h
theorem get_new {H : Hp} {r p : Addr} {o u : HO} (hp : Fresh H p) (h : H r = some o) : upd H p u r = some o := by rw [upd_ne (ne_of_none h hp)]; exact h
theorem get_ne {H : Hp} {r p : Addr} {o u : HO} (hn : r ≠ p) (h : H r = some o) : upd H p u r = some o := by rw [upd_ne hn]; exact h
theorem Keep.new {S : List Addr} {H H1 : Hp} {p : Addr} {o : HO} (k : Keep S H H1) (hp : Fresh H1 p) : Keep S H (upd H1 p o) := fun c u n e => get_new hp (k c u n e)
theorem Keep.mut {S : List Addr} {H H1 : Hp} {p : Addr} {o : HO} (k : Keep S H H1) (hp : p ∈ S) : Keep S H (upd H1 p o) := fun c u n e => get_ne (fun z => n (z ▸ hp)) (k c u n e)
/-- an object that was not tracked at H may change -/
theorem Keep.mutN {S : List Addr} {H H1 : Hp} {p : Addr} {o : HO} (k : Keep S H H1) (hp : Fresh H p) : Keep S H (upd H1 p o) := fun c u n e => get_ne (ne_of_none e hp) (k c u n e)
theorem Keep.free' {H H' : Hp} (e : Keep [] H H') {l : Addr} (h : Fresh H' l) : Fresh H l := by
  show H l = Option.none
  have h : H' l = Option.none := h
  cases q : H l with
  | none => rfl
  | some o => rw [e l o (by simp) q] at h; cases h
theorem Keep.free {S : List Addr} {H H' : Hp} (e : Keep S H H') {l : Addr} (h : H' l = Option.none) (hs : ∀ b ∈ S, ∃ o, H' b = some o) : H l = Option.none := by
  cases q : H l with
  | none => rfl
  | some o =>
    by_cases m : l ∈ S
    · obtain ⟨o', e'⟩ := hs l m
      rw [h] at e'; cases e'
    · rw [e l o m q] at h; cases h
theorem upd_none {H : Hp} {p l : Addr} {o : HO} (h : Fresh (upd H p o) l) : l ≠ p ∧ Fresh H l := by
  unfold Fresh upd at h
  by_cases e : l = p
  · rw [if_pos e] at h; cases h
  · rw [if_neg e] at h; exact ⟨e, h⟩
theorem Keep.step {S S' : List Addr} {H H1 H2 : Hp} (k : Keep S' H1 H2) (h : ∀ b, b ∈ S' → b ∈ S) (k0 : Keep S H H1) : Keep S H H2 := k0.trans (k.mono h)
/-- behind a change of objects that are new -/
theorem Keep.stepN {S S' : List Addr} {H H1 H2 : Hp} (k : Keep S' H1 H2) (h : ∀ b, b ∈ S' → b ∈ S ∨ Fresh H b) (k0 : Keep S H H1) : Keep S H H2 := fun c o n e => k.at (fun z => (h c z).elim n fun q => by have q : H c = Option.none := q; rw [q] at e; cases e) (k0 c o n e)
theorem Keep.none {S : List Addr} {H H1 : Hp} {l : Addr} (k : Keep S H H1) (h : Fresh H1 l) (n : l ∉ S) : Fresh H l := by
  show H l = Option.none
  have h : H1 l = Option.none := h
  cases q : H l with
  | none => rfl
  | some o => rw [k l o n q] at h; cases h
theorem nin0 {b : Addr} : b ∉ ([] : List Addr) := by simp
theorem nin1 {b p : Addr} (h : b ≠ p) : b ∉ [p] := by simpa using h
theorem ninc {b p : Addr} {S : List Addr} (h : b ≠ p) (h2 : b ∉ S) : b ∉ p :: S := by simp [h, h2]
/-- something is tracked there -/
def Tr (H : Hp) (p : Addr) : Prop := ∃ o, H p = some o
theorem Tr.of {H : Hp} {p : Addr} {o : HO} (h : H p = some o) : Tr H p := ⟨o, h⟩
theorem Tr.same {H : Hp} {p : Addr} {o : HO} : Tr (upd H p o) p := ⟨o, upd_same⟩
theorem Tr.up {H : Hp} {p r : Addr} {o : HO} (h : Tr H r) : Tr (upd H p o) r := by
  obtain ⟨u, h⟩ := h
  by_cases e : r = p
  · subst e; exact Tr.same
  · exact ⟨u, get_ne e h⟩
theorem Tr.keep {S : List Addr} {H H' : Hp} {r : Addr} (k : Keep S H H') (n : r ∉ S) (h : Tr H r) : Tr H' r := let ⟨o, e⟩ := h; ⟨o, k.at n e⟩
theorem ne_new {H : Hp} {r p : Addr} (hp : Fresh H p) (h : Tr H r) : r ≠ p := let ⟨_, e⟩ := h; ne_of_none e hp
theorem ne_new' {H : Hp} {r p : Addr} (hp : Fresh H p) (h : Tr H r) : p ≠ r := (ne_new hp h).symm
end Cf

namespace Cf
open PySem L2 PySem.Spec PyProof.Rows
/-! ## draws -/
def spMixed : Sp := fun vs H Q _ => ∃ (c t n : Int), vs = [.int c, .int t, .int n] ∧ 0 < n ∧ ∀ d, 0 ≤ d → d < n → Q (.int d) H
/-- the state of a law's draws: the list at p, the script's copy at q -/
structure StAt (H : Hp) (p q : Addr) : Prop where
  ne : q ≠ p
  at_ : ∃ (ns : List Int) (i b c m t : Int), H p = some (.lst [.ref q, .int i, .int b, .int c, .int m, .int t]) ∧ H q = some (.lst (ns.map V.int)) ∧ 0 ≤ i
def spDraw : Sp := fun vs H Q _ => ∃ (p q : Addr) (n : Int), vs = [.ref p, .int n] ∧ StAt H p q ∧ 0 < n ∧ n.natAbs.log2 < 9000 ∧
  ∀ d H', 0 ≤ d → d < n → StAt H' p q → Keep [p] H H' → Q (.int d) H'
section
variable {H H' : Hp} {p q : Addr} {S : List Addr} {Q : VK} {E : XK} {n c t : Int}
theorem StAt.keep (h : StAt H p q) (k : Keep S H H') (hp : p ∉ S) (hq : q ∉ S) : StAt H' p q := by
  obtain ⟨ne, ns, i, b, c, m, t, h1, h2, h3⟩ := h
  exact ⟨ne, ns, i, b, c, m, t, k.at hp h1, k.at hq h2, h3⟩
theorem StAt.new {r : Addr} {o : HO} (h : StAt H p q) (hr : Fresh H r) : StAt (upd H r o) p q := h.keep (S := []) ((Keep.refl H).new hr) nin0 nin0
theorem StAt.mut {r : Addr} {o : HO} (h : StAt H p q) (h1 : r ≠ p) (h2 : r ≠ q) : StAt (upd H r o) p q := h.keep (S := [r]) ((Keep.refl H).mut (by simp)) (nin1 h1.symm) (nin1 h2.symm)
theorem StAt.p_some (h : StAt H p q) : ∃ o, H p = some o := let ⟨_, _, _, _, _, _, h, _, _⟩ := h.at_; ⟨_, h⟩
theorem StAt.q_some (h : StAt H p q) : ∃ o, H q = some o := let ⟨_, _, _, _, _, _, _, h, _⟩ := h.at_; ⟨_, h⟩
theorem StAt.tp (h : StAt H p q) : Tr H p := h.p_some
theorem StAt.tq (h : StAt H p q) : Tr H q := h.q_some
theorem StAt.p_ne {r : Addr} (h : StAt H p q) (hr : Fresh H r) : p ≠ r := let ⟨_, e⟩ := h.p_some; ne_of_none e hr
theorem StAt.q_ne {r : Addr} (h : StAt H p q) (hr : Fresh H r) : q ≠ r := let ⟨_, e⟩ := h.q_some; ne_of_none e hr
theorem use_mixed (h0 : 0 < n) (k : ∀ d, 0 ≤ d → d < n → Q (.int d) H) : spMixed ([.int c, .int t, .int n] ++ []) H Q E := ⟨c, t, n, rfl, h0, k⟩
theorem use_draw (h : StAt H p q) (h0 : 0 < n) (h1 : n.natAbs.log2 < 9000) (k : ∀ d H', 0 ≤ d → d < n → StAt H' p q → Keep [p] H H' → Q (.int d) H') : spDraw ([.ref p, .int n] ++ []) H Q E := ⟨p, q, n, rfl, h, h0, h1, k⟩
end
theorem atI_zero {α : Type} {x : α} {xs : List α} : atI (x :: xs) 0 = some x := atI_nat (j := 0) (xs := x :: xs) rfl
theorem atI_lt {α : Type} {xs : List α} {i : Int} (h0 : 0 ≤ i) (h : i < xs.length) : ∃ x, x ∈ xs ∧ atI xs i = some x := by
  have hk : i.toNat < xs.length := by omega
  have ek : i = ((i.toNat : Nat) : Int) := by omega
  refine ⟨xs[i.toNat], List.getElem_mem hk, ?_⟩
  have e := atI_nat (List.getElem?_eq_getElem hk)
  rw [← ek] at e
  exact e
theorem atI_ints {ns : List Int} {i : Int} (h0 : 0 ≤ i) (h : i < ns.length) : ∃ x, x ∈ ns ∧ atI (ns.map V.int) i = some (.int x) := by
  obtain ⟨v, hv, e⟩ := atI_lt (xs := ns.map V.int) h0 (by simpa using h)
  obtain ⟨x, hx, rfl⟩ := List.mem_map.mp hv
  exact ⟨x, hx, e⟩
def spStart (K : PySem.W.Frag) : Sp := fun vs H Q _ => ∃ (a : Addr) (ns : List Int), vs = [.ref a] ∧ SqL K H a (ns.map V.int) ∧ ∀ p q H', Fresh H p → Fresh H q → StAt H' p q → Keep [] H H' → Q (.ref p) H'
def Small (s : Str) : Prop := s.length ≤ 8 ∧ 1 ≤ s.length ∧ ∀ c ∈ s.cps.toList, 97 ≤ c ∧ c ≤ 122
def spWord : Sp := fun vs H Q _ => ∃ (p q : Addr), vs = [.ref p] ∧ StAt H p q ∧ ∀ s H', Small s → StAt H' p q → Keep [p] H H' → Q (.str s) H'
abbrev abc : Str := Str.ofString "abcdefghijklmnopqrstuvwxyz"
theorem abc_list : abc.cps.toList = (List.range 26).map (97 + ·) := by decide +kernel
theorem abc_len : abc.length ≤ sizeLine := by decide +kernel
theorem abc_at {d : Int} (h0 : 0 ≤ d) (h : d < 26) : ∃ c, (97 ≤ c ∧ c ≤ 122) ∧ atI abc.cps.toList d = some c := by
  obtain ⟨c, hc, e⟩ := atI_lt (xs := abc.cps.toList) h0 (by rw [abc_list]; simpa using h)
  refine ⟨c, ?_, e⟩
  rw [abc_list] at hc
  obtain ⟨k, hk, rfl⟩ := List.mem_map.mp hc
  have := List.mem_range.mp hk
  omega
theorem str_app (x y : Str) : (x ++ y).cps.toList = x.cps.toList ++ y.cps.toList := by
  show (x.cps ++ y.cps).toList = _
  simp
theorem str_len (x : Str) : x.length = x.cps.toList.length := by simp [Str.length]
theorem app_len (x y : Str) : (x ++ y).length = x.length + y.length := by rw [str_len, str_app, List.length_append, ← str_len, ← str_len]
theorem one_len (c : Nat) : (⟨#[c]⟩ : Str).length = 1 := rfl
theorem size_ok {n : Nat} (h : n ≤ 1000) : n ≤ sizeLine := Nat.le_of_lt (small1000 h)
theorem log_ok {n : Int} (h : n.natAbs < 2 ^ 64) : n.natAbs.log2 < 9000 := Nat.lt_of_lt_of_le (PySem.Flt.log2_lt_of (by decide) h) (by decide)
theorem small_ext {z : Str} {c : Nat} (ha : ∀ x ∈ z.cps.toList, 97 ≤ x ∧ x ≤ 122) (hc : 97 ≤ c ∧ c ≤ 122) : ∀ x ∈ (z ++ (⟨#[c]⟩ : Str)).cps.toList, 97 ≤ x ∧ x ≤ 122 := by
  intro x hx
  rw [str_app] at hx
  rcases List.mem_append.mp hx with h | h
  · exact ha x h
  · have e : x = c := by simpa using h
    rw [e]
    exact hc
def spValue : Sp := fun vs H Q _ => ∃ (p q : Addr), vs = [.ref p] ∧ StAt H p q ∧ ∀ i H', StAt H' p q → Keep [p] H H' → Q (.int i) H'
theorem use_value {H : Hp} {p q : Addr} {Q : VK} {E : XK} (h : StAt H p q) (k : ∀ i H', StAt H' p q → Keep [p] H H' → Q (.int i) H') : spValue ([.ref p] ++ []) H Q E := ⟨p, q, rfl, h, k⟩
theorem use_word {H : Hp} {p q : Addr} {Q : VK} {E : XK} (h : StAt H p q) (k : ∀ s H', Small s → StAt H' p q → Keep [p] H H' → Q (.str s) H') : spWord ([.ref p] ++ []) H Q E := ⟨p, q, rfl, h, k⟩
theorem use_start {K : PySem.W.Frag} {H : Hp} {a : Addr} {ns : List Int} {Q : VK} {E : XK} (h : SqL K H a (ns.map V.int)) (k : ∀ p q H', Fresh H p → Fresh H q → StAt H' p q → Keep [] H H' → Q (.ref p) H') : spStart K ([.ref a] ++ []) H Q E := ⟨a, ns, rfl, h, k⟩
theorem cmulR {i j : Int} (h : -(2 ^ 64) < j ∧ j < 2 ^ 64) : CMul i j := .inr h
end Cf

namespace Cf
open PySem L2 PySem.Spec PyProof.Rows
/-! ## plain data -/
inductive D where
  | non
  | bl (b : Bool)
  | int (i : Int)
  | str (s : Str)
  | lst (ds : List D)
  | tup (ds : List D)
  | dic (ks : List Key) (ds : List D)
mutual
def D.depth : D → Nat
  | .lst ds => D.depths ds + 1
  | .tup ds => D.depths ds + 1
  | .dic _ ds => D.depths ds + 2
  | _ => 0
def D.depths : List D → Nat
  | [] => 0
  | d :: ds => max d.depth (D.depths ds)
end
theorem depth_mem : ∀ {ds : List D} {d : D}, d ∈ ds → d.depth ≤ D.depths ds
  | e :: r, d, h => by
    unfold D.depths
    rcases List.mem_cons.mp h with h | h
    · subst h; omega
    · have := depth_mem h; omega
mutual
/-- at v stands the datum, none of its objects at S -/
inductive Is (S : List Addr) (H : Hp) : V → D → Prop
  | non : Is S H .non .non
  | bl (b : Bool) : Is S H (.bl b) (.bl b)
  | int (i : Int) : Is S H (.int i) (.int i)
  | str (x : Str) : Is S H (.str x) (.str x)
  | lst {a : Addr} {xs : List V} {ds : List D} (h : H a = some (.lst xs)) (n : a ∉ S) (l : xs.length < 1000000) (t : IsL S H xs ds) : Is S H (.ref a) (.lst ds)
  | tup {a : Addr} {xs : List V} {ds : List D} (h : H a = some (.tup xs)) (n : a ∉ S) (l : xs.length < 1000000) (t : IsL S H xs ds) : Is S H (.ref a) (.tup ds)
  | dic {a : Addr} {kvs : List (Key × V)} {ds : List D} (h : H a = some (.dK kvs)) (n : a ∉ S) (l : kvs.length < 1000) (g : ∀ (i : Nat) (k : Key) (v : V), kvs[i]? = some (k, v) → valV kvs k = some v) (t : IsL S H (kvs.map (·.2)) ds) : Is S H (.ref a) (.dic (kvs.map (·.1)) ds)
inductive IsL (S : List Addr) (H : Hp) : List V → List D → Prop
  | nil : IsL S H [] []
  | cons {v : V} {vs : List V} {d : D} {ds : List D} (h : Is S H v d) (t : IsL S H vs ds) : IsL S H (v :: vs) (d :: ds)
end
mutual
theorem Is.keep {S S' : List Addr} {H H' : Hp} (k : Keep S' H H') (hs : ∀ b ∈ S', b ∈ S) : ∀ {v : V} {d : D}, Is S H v d → Is S H' v d
  | _, _, .non => .non
  | _, _, .bl b => .bl b
  | _, _, .int b => .int b
  | _, _, .str b => .str b
  | _, _, .lst h n l t => .lst (k.at (fun z => n (hs _ z)) h) n l (IsL.keep k hs t)
  | _, _, .tup h n l t => .tup (k.at (fun z => n (hs _ z)) h) n l (IsL.keep k hs t)
  | _, _, .dic h n l g t => .dic (k.at (fun z => n (hs _ z)) h) n l g (IsL.keep k hs t)
theorem IsL.keep {S S' : List Addr} {H H' : Hp} (k : Keep S' H H') (hs : ∀ b ∈ S', b ∈ S) : ∀ {vs : List V} {ds : List D}, IsL S H vs ds → IsL S H' vs ds
  | _, _, .nil => .nil
  | _, _, .cons h t => .cons (Is.keep k hs h) (IsL.keep k hs t)
end
mutual
theorem Is.less {S S' : List Addr} {H : Hp} (hs : ∀ b ∈ S', b ∈ S) : ∀ {v : V} {d : D}, Is S H v d → Is S' H v d
  | _, _, .non => .non
  | _, _, .bl b => .bl b
  | _, _, .int b => .int b
  | _, _, .str b => .str b
  | _, _, .lst h n l t => .lst h (fun z => n (hs _ z)) l (IsL.less hs t)
  | _, _, .tup h n l t => .tup h (fun z => n (hs _ z)) l (IsL.less hs t)
  | _, _, .dic h n l g t => .dic h (fun z => n (hs _ z)) l g (IsL.less hs t)
theorem IsL.less {S S' : List Addr} {H : Hp} (hs : ∀ b ∈ S', b ∈ S) : ∀ {vs : List V} {ds : List D}, IsL S H vs ds → IsL S' H vs ds
  | _, _, .nil => .nil
  | _, _, .cons h t => .cons (Is.less hs h) (IsL.less hs t)
end
theorem Is.free {S : List Addr} {H : Hp} {v : V} {d : D} (h : Is S H v d) : Is [] H v d := h.less (by simp)
theorem IsL.free {S : List Addr} {H : Hp} {v : List V} {d : List D} (h : IsL S H v d) : IsL [] H v d := h.less (by simp)
theorem Is.new {S : List Addr} {H : Hp} {v : V} {d : D} {r : Addr} {o : HO} (h : Is S H v d) (hr : Fresh H r) : Is S (upd H r o) v d := h.keep (S' := []) ((Keep.refl H).new hr) (by simp)
theorem IsL.new {S : List Addr} {H : Hp} {v : List V} {d : List D} {r : Addr} {o : HO} (h : IsL S H v d) (hr : Fresh H r) : IsL S (upd H r o) v d := h.keep (S' := []) ((Keep.refl H).new hr) (by simp)
theorem IsL.len {S : List Addr} {H : Hp} : ∀ {vs : List V} {ds : List D}, IsL S H vs ds → vs.length = ds.length
  | _, _, .nil => rfl
  | _, _, .cons _ t => by rw [List.length_cons, List.length_cons, IsL.len t]
theorem IsL.get {S : List Addr} {H : Hp} : ∀ {vs : List V} {ds : List D} {i : Nat} {v : V}, IsL S H vs ds → vs[i]? = some v → ∃ d, ds[i]? = some d ∧ Is S H v d := by
  intro vs
  induction vs with
  | nil => intro ds i v h e; simp at e
  | cons w vs ih =>
    intro ds i v h e
    cases h with
    | cons h t =>
      cases i with
      | zero => cases e; exact ⟨_, rfl, h⟩
      | succ i =>
        have z := ih t (show vs[i]? = some v from e)
        obtain ⟨d, e1, e2⟩ := z
        exact ⟨d, e1, e2⟩
theorem IsL.app {S : List Addr} {H : Hp} : ∀ {vs : List V} {ds : List D} {ws : List V} {es : List D}, IsL S H vs ds → IsL S H ws es → IsL S H (vs ++ ws) (ds ++ es)
  | _, _, _, _, .nil, h => h
  | _, _, _, _, .cons h t, k => .cons h (IsL.app t k)
theorem IsL.app_inv {S : List Addr} {H : Hp} : ∀ {ds es : List D} {vs : List V}, IsL S H vs (ds ++ es) → ∃ ys zs, vs = ys ++ zs ∧ IsL S H ys ds ∧ IsL S H zs es
  | [], _, vs, h => ⟨[], vs, rfl, .nil, h⟩
  | d :: ds, es, vs, h => by
    have h' : IsL S H vs (d :: (ds ++ es)) := h
    cases h' with
    | cons h t =>
      obtain ⟨ys, zs, e, h1, h2⟩ := IsL.app_inv t
      subst e
      rename_i hh
      exact ⟨_ :: ys, zs, rfl, .cons (by assumption) h1, h2⟩
theorem IsL.snoc_inv {S : List Addr} {H : Hp} {ds : List D} {d : D} {vs : List V} (h : IsL S H vs (ds ++ [d])) : ∃ ys y, vs = ys ++ [y] ∧ IsL S H ys ds ∧ Is S H y d := by
  obtain ⟨ys, zs, e, h1, h2⟩ := h.app_inv
  cases h2 with
  | cons h2 h3 =>
    cases h3
    exact ⟨ys, _, e, h1, h2⟩
theorem IsL.put {S : List Addr} {H : Hp} {vs : List V} {ds : List D} {v : V} {d : D} (t : IsL S H vs ds) (h : Is S H v d) : IsL S H (vs ++ [v]) (ds ++ [d]) := t.app (.cons h .nil)
/-! ## the kinds of data -/
inductive Kd where
  | non | bl | int | str | lst | tup | dic
@[reducible] def Kd.name : Kd → String
  | .non => "NoneType" | .bl => "bool" | .int => "int" | .str => "str" | .lst => "list" | .tup => "tuple" | .dic => "dict"
@[reducible] def isk : Kd → Kd → Bool
  | .non, .non => true | .bl, .bl => true | .bl, .int => true | .int, .int => true | .str, .str => true | .lst, .lst => true | .tup, .tup => true | .dic, .dic => true
  | _, _ => false
theorem kit_isk (a b : Kd) : kitB a.name b.name = some (isk a b) := by
  cases a <;> cases b <;> decide +kernel
inductive KdOf (H : Hp) : V → Kd → Prop
  | non : KdOf H .non .non
  | bl (b : Bool) : KdOf H (.bl b) .bl
  | int (b : Int) : KdOf H (.int b) .int
  | str (b : Str) : KdOf H (.str b) .str
  | lst {a : Addr} {xs : List V} (h : H a = some (.lst xs)) : KdOf H (.ref a) .lst
  | tup {a : Addr} {xs : List V} (h : H a = some (.tup xs)) : KdOf H (.ref a) .tup
  | dic {a : Addr} {xs : List (Key × V)} (h : H a = some (.dK xs)) : KdOf H (.ref a) .dic
theorem KdOf.ty {K : PySem.W.Frag} {H : Hp} {x : V} {a : Kd} (h : KdOf H x a) : TyX K H x (.type a.name) := by
  cases h with
  | non => exact .base .non
  | bl b => exact .base (.bl b)
  | int b => exact .base (.int b)
  | str b => exact .base (.str b)
  | lst h => exact .base (.lst h)
  | tup h => exact .base (.tup h)
  | dic h => exact .base (.dK h)
section
variable {K : PySem.W.Frag} {H : Hp} {x : V} {a : Kd} {Q : VK}
theorem kr_isi (b : Kd) (ty : KdOf H x a) (q : Q (.bl (isk a b)) H) : rIsi K [x, .ty b.name] H Q := ⟨x, .ty b.name, _, _, _, rfl, .ty _, ty.ty, kit_ty (kit_isk a b), q⟩
theorem kr_isi_bool (ty : KdOf H x a) (q : Q (.bl (isk a .bl)) H) : rIsi K [x, .ty "bool"] H Q := kr_isi .bl ty q
theorem kr_isi_int (ty : KdOf H x a) (q : Q (.bl (isk a .int)) H) : rIsi K [x, .ty "int"] H Q := kr_isi .int ty q
theorem kr_isi_str (ty : KdOf H x a) (q : Q (.bl (isk a .str)) H) : rIsi K [x, .ty "str"] H Q := kr_isi .str ty q
theorem kr_isi_list (ty : KdOf H x a) (q : Q (.bl (isk a .lst)) H) : rIsi K [x, .ty "list"] H Q := kr_isi .lst ty q
theorem kr_isi_tuple (ty : KdOf H x a) (q : Q (.bl (isk a .tup)) H) : rIsi K [x, .ty "tuple"] H Q := kr_isi .tup ty q
theorem kr_isi_dict (ty : KdOf H x a) (q : Q (.bl (isk a .dic)) H) : rIsi K [x, .ty "dict"] H Q := kr_isi .dic ty q
theorem kr_isN {x : V} (q : Q (.bl (decide (x = .non))) H) : rIsN x .non H Q := ⟨rfl, q⟩
theorem kr_notN {x : V} (q : Q (.bl (!decide (x = .non))) H) : rNotN x .non H Q := ⟨rfl, q⟩
end
/-! ## the law's own equality -/
def spSame (n : Nat) : Sp := fun vs H Q _ => ∃ (x y : V) (d e : D), vs = [x, y] ∧ Is [] H x d ∧ Is [] H y e ∧ d.depth < n ∧ ∀ (b : Bool) H', (b = true ↔ d = e) → Keep [] H H' → Q (.bl b) H'
theorem use_same {n : Nat} {H : Hp} {x y : V} {d e : D} {Q : VK} {E : XK} (h1 : Is [] H x d) (h2 : Is [] H y e) (h3 : d.depth < n) (k : ∀ (b : Bool) H', (b = true ↔ d = e) → Keep [] H H' → Q (.bl b) H') : spSame n ([x, y] ++ []) H Q E :=
  ⟨x, y, d, e, rfl, h1, h2, h3, k⟩
theorem same_none {P : Program} {w : World} {K : PySem.W.Frag} {mg : Str → Option Value} {base : Heap} {f : Addr} {fd : FuncData} : FnOk P w K mg base CX0 0 f fd ["here", "there"] (spSame 0) := by
  have no : ∀ vs H Q E, ¬ spSame 0 vs H Q E := fun vs H Q E h => by
    obtain ⟨_, _, _, _, _, _, _, h, _⟩ := h
    omega
  exact ⟨fun vs H Q E h => absurd h (no vs H Q E), fun A outer s H args us vs Q E _ _ _ _ h => absurd h (no vs H Q E)⟩
theorem take_eq {α : Type} {ds es : List α} {i : Nat} {d : α} (h : ds.take i = es.take i) (h1 : ds[i]? = some d) (h2 : es[i]? = some d) : ds.take (i + 1) = es.take (i + 1) := by
  rw [List.take_add_one, List.take_add_one, h, h1, h2]
theorem some_of {α : Type} {xs : List α} {i : Nat} (h : i < xs.length) : ∃ x, xs[i]? = some x := ⟨xs[i], List.getElem?_eq_getElem h⟩
theorem take_all {α : Type} {ds es : List α} (hl : ds.length = es.length) (h : ds.take ds.length = es.take ds.length) : ds = es := by
  rw [List.take_length] at h
  rw [hl, List.take_length] at h
  exact h
end Cf

namespace Cf
open PySem L2 PySem.Spec PyProof.Rows
/-! ## footprints: what may change, part by part -/
def Dj (f g : List Addr) : Prop := ∀ x, x ∈ f → x ∉ g
theorem Dj.symm {f g : List Addr} (h : Dj f g) : Dj g f := fun x h1 h2 => h x h2 h1
/-- the parts stand apart, all their objects are tracked -/
structure Wd (H : Hp) (L : List (List Addr)) : Prop where
  pw : L.Pairwise Dj
  tr : ∀ f, f ∈ L → ∀ x, x ∈ f → ∃ o, H x = some o
theorem pw_get {L : List (List Addr)} {i j : Nat} {f g : List Addr} (h : L.Pairwise Dj) (hi : L[i]? = some f) (hj : L[j]? = some g) (n : i ≠ j) : Dj f g := by
  rcases Nat.lt_or_gt_of_ne n with n | n
  · obtain ⟨a, rfl⟩ := List.getElem?_eq_some_iff.mp hi
    obtain ⟨b, rfl⟩ := List.getElem?_eq_some_iff.mp hj
    exact List.pairwise_iff_getElem.mp h i j a b n
  · obtain ⟨a, rfl⟩ := List.getElem?_eq_some_iff.mp hi
    obtain ⟨b, rfl⟩ := List.getElem?_eq_some_iff.mp hj
    exact (List.pairwise_iff_getElem.mp h j i b a n).symm
theorem Wd.dj {H : Hp} {L : List (List Addr)} (w : Wd H L) (i j : Nat) {f g : List Addr} (hi : L[i]? = some f) (hj : L[j]? = some g) (n : i ≠ j := by decide) : Dj f g := pw_get w.pw hi hj n
theorem mem_flat {L : List (List Addr)} {i : Nat} {f : List Addr} {x : Addr} (hi : L[i]? = some f) (h : x ∈ f) : x ∈ L.flatten := List.mem_flatten.mpr ⟨f, List.mem_of_getElem? hi, h⟩
/-- what is new: all that is there is known or new -/
def Grow (H : Hp) (S S' : List Addr) : Prop := ∀ x, x ∈ S' → x ∈ S ∨ Fresh H x
theorem Grow.refl {H : Hp} {S : List Addr} : Grow H S S := fun _ h => .inl h
theorem Wd.same {H H' : Hp} {L : List (List Addr)} (w : Wd H L) (k : Keep [] H H') : Wd H' L := ⟨w.pw, fun f hf x hx => let ⟨o, e⟩ := w.tr f hf x hx; ⟨o, k.at nin0 e⟩⟩
theorem Wd.set {H H' : Hp} {L : List (List Addr)} {f f' : List Addr} (w : Wd H L) (i : Nat) (hi : L[i]? = some f) (k : Keep f H H') (g : Grow H f f') (t : ∀ x, x ∈ f' → ∃ o, H' x = some o) : Wd H' (L.set i f') := by
  have hl : i < L.length := (List.getElem?_eq_some_iff.mp hi).1
  have at_ : ∀ j y, (L.set i f')[j]? = some y → (j = i ∧ y = f') ∨ (j ≠ i ∧ L[j]? = some y) := by
    intro j y h
    by_cases e : j = i
    · subst e
      rw [List.getElem?_set_self hl] at h
      exact .inl ⟨rfl, (Option.some.inj h).symm⟩
    · rw [List.getElem?_set_ne (fun z => e z.symm)] at h
      exact .inr ⟨e, h⟩
  have dj : ∀ j y, j ≠ i → L[j]? = some y → Dj f' y := by
    intro j y n h x h1 h2
    rcases g x h1 with h3 | h3
    · exact pw_get w.pw hi h (fun z => n z.symm) x h3 h2
    · obtain ⟨o, e⟩ := w.tr y (List.mem_of_getElem? h) x h2
      have h3 : H x = none := h3
      rw [h3] at e
      cases e
  refine ⟨?_, ?_⟩
  · refine List.pairwise_iff_getElem.mpr fun a b ha hb n => ?_
    have ea := at_ a _ (List.getElem?_eq_getElem ha)
    have eb := at_ b _ (List.getElem?_eq_getElem hb)
    rcases ea with ⟨e1, e2⟩ | ⟨e1, e2⟩
    · rcases eb with ⟨e3, e4⟩ | ⟨e3, e4⟩
      · omega
      · rw [e2]
        exact dj b _ e3 e4
    · rcases eb with ⟨e3, e4⟩ | ⟨e3, e4⟩
      · rw [e4]
        exact (dj a _ e1 e2).symm
      · exact pw_get w.pw e2 e4 (Nat.ne_of_lt n)
  · intro y hy x hx
    obtain ⟨j, hj⟩ := List.mem_iff_getElem?.mp hy
    rcases at_ j y hj with ⟨e1, e2⟩ | ⟨e1, e2⟩
    · subst e2
      exact t x hx
    · obtain ⟨o, e⟩ := w.tr y (List.mem_of_getElem? e2) x hx
      exact ⟨o, k.at (fun z => pw_get w.pw e2 hi e1 x hx z) e⟩
theorem grow_set {H : Hp} {L : List (List Addr)} {f f' : List Addr} {i : Nat} (hi : L[i]? = some f) (g : Grow H f f') : Grow H L.flatten (L.set i f').flatten := by
  intro x hx
  obtain ⟨y, hy, hxy⟩ := List.mem_flatten.mp hx
  obtain ⟨j, hj⟩ := List.mem_iff_getElem?.mp hy
  have hl : i < L.length := (List.getElem?_eq_some_iff.mp hi).1
  by_cases e : j = i
  · subst e
    rw [List.getElem?_set_self hl] at hj
    cases hj
    rcases g x hxy with h | h
    · exact .inl (mem_flat hi h)
    · exact .inr h
  · rw [List.getElem?_set_ne (fun z => e z.symm)] at hj
    exact .inl (mem_flat hj hxy)
mutual
/-- data stands when a part changes, and beside new parts -/
theorem Is.go {S S' F : List Addr} {H H' : Hp} (k : Keep F H H') (hf : ∀ x, x ∈ F → x ∈ S) (g : Grow H S S') : ∀ {v : V} {d : D}, Is S H v d → Is S' H' v d
  | _, _, .non => .non
  | _, _, .bl b => .bl b
  | _, _, .int b => .int b
  | _, _, .str b => .str b
  | _, _, .lst h n l t => .lst (k.at (fun z => n (hf _ z)) h) (fun z => (g _ z).elim n fun e => by have e : H _ = none := e; rw [e] at h; cases h) l (IsL.go k hf g t)
  | _, _, .tup h n l t => .tup (k.at (fun z => n (hf _ z)) h) (fun z => (g _ z).elim n fun e => by have e : H _ = none := e; rw [e] at h; cases h) l (IsL.go k hf g t)
  | _, _, .dic h n l e2 t => .dic (k.at (fun z => n (hf _ z)) h) (fun z => (g _ z).elim n fun e => by have e : H _ = none := e; rw [e] at h; cases h) l e2 (IsL.go k hf g t)
theorem IsL.go {S S' F : List Addr} {H H' : Hp} (k : Keep F H H') (hf : ∀ x, x ∈ F → x ∈ S) (g : Grow H S S') : ∀ {vs : List V} {ds : List D}, IsL S H vs ds → IsL S' H' vs ds
  | _, _, .nil => .nil
  | _, _, .cons h t => .cons (Is.go k hf g h) (IsL.go k hf g t)
end
/-- while the state is built: the parts L, and other objects N that are no part -/
structure Bd (H : Hp) (L : List (List Addr)) (N : List Addr) : Prop where
  wd : Wd H L
  out : ∀ x, x ∈ N → x ∉ L.flatten ∧ Tr H x
theorem Bd.same {H H' : Hp} {L : List (List Addr)} {N : List Addr} (b : Bd H L N) (k : Keep [] H H') : Bd H' L N := ⟨b.wd.same k, fun x hx => ⟨(b.out x hx).1, (b.out x hx).2.keep k nin0⟩⟩
theorem Wd.fresh {H : Hp} {L : List (List Addr)} (w : Wd H L) {x : Addr} (h : Fresh H x) : x ∉ L.flatten := fun z => by
  obtain ⟨f, hf, hx⟩ := List.mem_flatten.mp z
  obtain ⟨o, e⟩ := w.tr f hf x hx
  have h : H x = none := h
  rw [h] at e
  cases e
theorem Bd.obj {H H' : Hp} {L : List (List Addr)} {N : List Addr} {x : Addr} (b : Bd H L N) (h : Fresh H x) (k : Keep [] H H') (t : Tr H' x) : Bd H' L (x :: N) := by
  have b' := b.same k
  refine ⟨b'.wd, fun y hy => ?_⟩
  rcases List.mem_cons.mp hy with e | e
  · subst e
    exact ⟨b.wd.fresh h, t⟩
  · exact b'.out y e
theorem Bd.part {H H' : Hp} {L : List (List Addr)} {N g : List Addr} (b : Bd H L N) (k : Keep [] H H') (hg : ∀ y, y ∈ g → Fresh H y ∧ Tr H' y) : Bd H' (L ++ [g]) N := by
  have b' := b.same k
  refine ⟨⟨?_, ?_⟩, ?_⟩
  · refine List.pairwise_append.mpr ⟨b.wd.pw, by simp, fun f hf g' hg' => ?_⟩
    have e : g' = g := by simpa using hg'
    subst e
    intro x hx hx'
    exact b.wd.fresh (hg x hx').1 (List.mem_flatten.mpr ⟨f, hf, hx⟩)
  · intro f hf x hx
    rcases List.mem_append.mp hf with h | h
    · exact b'.wd.tr f h x hx
    · have e : f = g := by simpa using h
      subst e
      exact (hg x hx).2
  · intro x hx
    refine ⟨fun z => ?_, (b'.out x hx).2⟩
    rw [List.flatten_append] at z
    rcases List.mem_append.mp z with h | h
    · exact (b.out x hx).1 h
    · have h' : x ∈ g := by simpa using h
      obtain ⟨o, e⟩ := (b.out x hx).2
      have q : H x = none := (hg x h').1
      rw [q] at e
      cases e
theorem Bd.one {H : Hp} {p q : Addr} (s : StAt H p q) : Bd H [[p, q]] [] := by
  refine ⟨⟨by simp, ?_⟩, by simp⟩
  intro f hf x hx
  have e : f = [p, q] := by simpa using hf
  subst e
  simp at hx
  rcases hx with h | h
  · rw [h]; exact s.tp
  · rw [h]; exact s.tq
/-! ## data by its form -/
section
variable {S : List Addr} {H : Hp} {v : V} {vs : List V} {d : D} {ds : List D}
theorem Is.int_inv {i : Int} (h : Is S H v (.int i)) : v = .int i := by cases h; rfl
theorem Is.str_inv {i : Str} (h : Is S H v (.str i)) : v = .str i := by cases h; rfl
theorem Is.bl_inv {i : Bool} (h : Is S H v (.bl i)) : v = .bl i := by cases h; rfl
theorem Is.non_inv (h : Is S H v .non) : v = .non := by cases h; rfl
theorem Is.tup_inv (h : Is S H v (.tup ds)) : ∃ a xs, v = .ref a ∧ H a = some (.tup xs) ∧ a ∉ S ∧ xs.length < 1000000 ∧ IsL S H xs ds := by
  cases h with
  | tup h n l t => exact ⟨_, _, rfl, h, n, l, t⟩
theorem Is.lst_inv (h : Is S H v (.lst ds)) : ∃ a xs, v = .ref a ∧ H a = some (.lst xs) ∧ a ∉ S ∧ xs.length < 1000000 ∧ IsL S H xs ds := by
  cases h with
  | lst h n l t => exact ⟨_, _, rfl, h, n, l, t⟩
theorem IsL.nil_inv (h : IsL S H vs []) : vs = [] := by cases h; rfl
theorem IsL.cons_inv (h : IsL S H vs (d :: ds)) : ∃ x xs, vs = x :: xs ∧ Is S H x d ∧ IsL S H xs ds := by
  cases h with
  | cons h t => exact ⟨_, _, rfl, h, t⟩
theorem IsL.ints : ∀ {ns : List Int}, IsL S H (ns.map V.int) (ns.map D.int)
  | [] => .nil
  | _ :: _ => .cons (.int _) IsL.ints
theorem IsL.ints_inv : ∀ {ns : List Int} {vs : List V}, IsL S H vs (ns.map D.int) → vs = ns.map V.int
  | [], _, h => h.nil_inv
  | n :: ns, _, h => by
    obtain ⟨x, xs, rfl, h1, h2⟩ := IsL.cons_inv (d := .int n) (ds := ns.map D.int) h
    rw [h1.int_inv, IsL.ints_inv h2]
    rfl
theorem inV_ints {n : Int} : ∀ {ns : List Int}, inV (.int n) (ns.map V.int) = decide (n ∈ ns)
  | [] => rfl
  | m :: ns => by
    have ih := inV_ints (n := n) (ns := ns)
    unfold inV at ih ⊢
    rw [List.map_cons, List.any_cons, ih]
    show ((m == n) || decide (n ∈ ns)) = _
    by_cases e : m = n
    · subst e; simp
    · have e' : ¬ n = m := fun z => e z.symm
      simp [e, e']
theorem ints_flat : ∀ {ns : List Int}, (ns.map V.int).all flatV = true
  | [] => rfl
  | m :: ns => by rw [List.map_cons, List.all_cons, ints_flat]; rfl
end
end Cf

/-! own errors whose __init__ says super().__init__('..') and keeps one field -/
namespace PySem
namespace SupX
open PySem.W PySem.Calls PyProof.Rows PySem.HandSPX
section
variable {prog : Program} {w : World} {A : Around} {E : Value → Shared → Prop} {h : Heap} {g : Array GenState} {d : Drawn} {t : Nat} {os : OsState}
variable {nm q : Str} {C N : Addr} {bs bm : List Value} {hdct : Bool} {sn : List Str} {sub : List Value} {ab : Bool} {col : Option Bool} {dd : Option Addr} {k0 k1 k2 k3 k5 : Option Value}
/-- the bound ValueError.__init__ is called: the exception's args are laid anew -/
theorem sup_wrap {u x t0 : Addr} {us : List Value} {Q : Value → Shared → Prop}
    (cC : h.get? C = some (excClassObj nm q C N bs bm hdct sn sub ab col dd k0 k1 k2 k3 k5 "ValueError.__new__")) (cx : h.get? x = some (excO C t0)) (cu : h.get? u = some (kxs_mw "ValueError.__init__" x)) (lus : us.length ≤ sizeLine)
    (hq : ∀ h' t1, (∀ b o, b ≠ x → h.get? b = some o → h'.get? b = some o) → h'.get? x = some (excO C t1) → Q .none ⟨h', g, d, t, os⟩) :
    wpAny (model prog w) A (call (.ref u) us) Q E ⟨h, g, d, t, os⟩ := by
  refine wpAny_call (codeAny_of_tree ?tree)
  show wpAny _ A.in1 (callAny (.ref u) ⟨us, []⟩) _ _ _
  simp only [callAny]
  refine wpAny_bind (wpAny_load cu ?_)
  have mw : (Value.type "method-wrapper" == Value.type "method" || Value.type "method-wrapper" == Value.type "builtin_function_or_method" || Value.type "method-wrapper" == Value.type "method-wrapper") = true := by decide
  simp only [kxs_mw, mw, if_true]
  refine KFB.if_so (by decide) (wpAny_bind (check_bound_init F.excBase_ValueError.toExcCallFacts cC cx rfl ?_))
  refine wpAny_bind (wpAny_pure (wpAny_pure ⟨plainId_quiet F.excBase_ValueError.init.plain _, codeAny_builtin F.excBase_ValueError.initEntry ?_⟩))
  rw [Around.under_plainId F.excBase_ValueError.init.plain _]
  wp_walk
  exact hq _ h.objs.size (fun b o hb ho => by rw [Heap.get?_update_other _ _ (Ne.symm hb)]; exact Heap.get?_push_of_some _ ho)
    (by rw [Heap.get?_update_self _ (Heap.get?_push_of_some _ cx) rfl]; rfl)
end
end SupX
end PySem
namespace PySem
namespace SupX
open PySem.W PySem.Calls PyProof.Rows PySem.HandSPX
/-- def __init__(self, f): super().__init__('..'); self.f = f -/
def sB (fld txt : Str) (kk : Nat) (p0 p1 p2 p3 p4 p5 p6 p7 p8 p9 : Pos) : List Stmt :=
  [.Expr (.Call (.Attribute (.Call (.Name "super" p0) [] [] p1) "__init__" p2) [.Constant (.str txt) kk p3] [] p4) p5, .Assign [.Attribute (.Name "self" p6) fld p7] (.Name fld p8) p9]
def sS (fld : Str) : Scope := { kind := .function, names := [(PySem.Str.ofString "self", .local), (fld, .local), (PySem.Str.ofString "__class__", .free), (PySem.Str.ofString "super", .globalImplicit)], isGenerator := false, isCoroutine := false, more := [] }
structure FldOk (fld : Str) : Prop where
  ks : (sS fld).names.lookup ("super" : Str) = some .globalImplicit
  kc : (sS fld).names.lookup ("__class__" : Str) = some .free
  ka : (sS fld).names.lookup ("self" : Str) = some .local
  kf : (sS fld).names.lookup fld = some .local
  db : (fld == ("__debug__" : Str)) = false
  nes : fld ≠ ("self" : Str)
/-- what the written part says of the class at C and of the __init__ at fI, written in the class at D -/
structure SupTxt (P : Program) (K : Frag) (mg : Str → Option Value) (nm : Str) (C D fI : Addr) (fld : Str) : Prop where
  gC : mg nm = some (.ref C)
  gS : mg "super" = none
  cls : ∃ nm q N bs bm sn sub ab col dd k0 k1 k2 k3 k5, K.lookup C = some (excClassObj nm q C N bs bm true sn sub ab col dd k0 k1 k2 k3 k5 "ValueError.__new__") ∧ refsVE bm = true
  sa : findIn K (.ref C) "__setattr__" = some (some (.builtin "object.__setattr__"))
  ga : findIn K (.ref C) "__getattribute__" = some (some (.builtin "BaseException.__getattribute__"))
  gg : findIn K (.ref C) "__getattr__" = some none
  noN : findIn K (.ref C) fld = some none
  iC : findIn K (.ref C) "__init__" = some (some (.ref fI))
  tC : typeIn K (.ref fI) = some (.type "function")
  kC : keepIn K (.ref C) = true
  exC : subIn K (.ref C) (.type "BaseException") = some true
  tyC : typeIn K (.ref C) = some (.type "type")
  hdC : hasDictIn K C = true
  te : exmOne K (.ref C) (.ref C) = some true
  sup : ks_superIn K C D "__init__" = some (some (.builtin "ValueError.__init__"))
  opq : nsIn K cStatics "thirdparty.any" = some none
  vE : subIn K (.ref C) (.type "ValueError") = some true
  mroD : mroIn K C (.ref D) = some true
  clD : (clsIn K D).isSome = true
  fo : FldOk fld
  top : (P.main.scope.names.lookup ("super" : Str)).isSome = false
  fn : ∃ (qual txt : Str) (params : Arguments) (oc kV doc pm ct ccl cl : Value) (od an cdd cld : Option Addr) (osl ccs csl : Array (Option Value)) (cda cc : Addr) (vs : Array Value) (file : Str) (tf : Tok) (ar : Arg) (kk : Nat) (p0 p1 p2 p3 p4 p5 p6 p7 p8 p9 : Pos),
    K.lookup fI = some ⟨oc, od, .func (ksFn "__init__" qual params (sB fld txt kk p0 p1 p2 p3 p4 p5 p6 p7 p8 p9) (sS fld) .none kV doc pm an (.ref cda) ct cc), osl⟩ ∧ codeIn K (.ref cda) qual = true ∧
    K.lookup cda = some ⟨ccl, cdd, .fields vs, ccs⟩ ∧ vs[2]? = some (.str file tf) ∧ ((P.main.file : Str) == file) = true ∧ K.lookup cc = some ⟨cl, cld, .cell (some (.ref D)), csl⟩ ∧
    (params.posonlyargs ++ params.args).head? = some ar ∧ ar.arg = "self" ∧ (p2.endLine == p4.line) = true ∧
    (∀ (s : Shared) (x v : Value), BindsTo s (ksFn "__init__" qual params (sB fld txt kk p0 p1 p2 p3 p4 p5 p6 p7 p8 p9) (sS fld) .none kV doc pm an (.ref cda) ct cc) ⟨[x, v], []⟩ [("self", x), (fld, v)])
/-- what __init__ leaves of a fresh exception at x -/
structure SupEnd (fld : Str) (h h' : Heap) (x C dx t1 : Addr) (v : Value) : Prop where
  keep : ∀ b o, b ≠ x → h.get? b = some o → h'.get? b = some o
  obj : h'.get? x = some { cls := .ref C, dict := some dx, data := .fields #[.ref t1, .none, .none, .none, .bool false, .none] }
  dbig : h.objs.size ≤ dx
  dne : dx ≠ x
  ns : h'.Ns1 dx (fun y => if y = fld then some v else none)
structure SupMade (fld : Str) (h h' : Heap) (e C d : Addr) (v : Value) : Prop where
  keep : ∀ b o, h.get? b = some o → h'.get? b = some o
  new : h.objs.size ≤ e
  obj : ∃ oe vs, h'.get? e = some oe ∧ oe.cls = .ref C ∧ oe.dict = some d ∧ oe.data = .fields vs ∧ vs[1]? = some .none
  dbig : h.objs.size ≤ d
  dne : d ≠ e
  ns : h'.Ns1 d (fun y => if y = fld then some v else none)
section
variable {prog : Program} {w : World} {A : Around} {E : Value → Shared → Prop} {R : Result → Shared → Prop} {s : Shared} {K : Frag} {mg mb : Str → Option Value} {C D fI : Addr} {nm fld : Str}
theorem sup_init (T : SupTxt prog K mg nm C D fI fld) {x t0 : Addr} {v : Value} (X : K.In s.heap) (hg : s.heap.Ns mainGlobals mg) (hb : s.heap.Ns builtinsNs mb) (hbs : mb "super" = some (.type "super")) (hlim : s.heap.NoLimit)
    (hx : s.heap.get? x = some (excO C t0)) (hnx : K.lookup x = none) (hroom : A.depth < recursionLimit)
    (hq : ∀ h' tk dx t1, SupEnd fld s.heap h' x C dx t1 v → R (.ok (.ret .none)) { s with heap := h', toks := tk }) :
    codeAny (model prog w) A (.call (.ref fI) ⟨[.ref x, v], []⟩) R s := by
  obtain ⟨qual, txt, params, oc, kV, doc, pm, ct, ccl, cl, od, an, cdd, cld, osl, ccs, csl, cda, cc, vs, file, tf, ar, kk, p0, p1, p2, p3, p4, p5, p6, p7, p8, p9, ho, hcd, hcode, hvs, hfile, hcell, hp, har, hline, hbind⟩ := T.fn
  obtain ⟨nmC, q, N, bs, bm, sn, sub, ab, col, dd, k0, k1, k2, k3, k5, hC, hbm⟩ := T.cls
  have hcl : clsIn K C = some { name := nmC, bases := bs, mro := .ref C :: bm, ns := N, qualname := q, hasDict := true, slotNames := sn, subclasses := sub, abstract := ab, collection := col, hasDel := false } := by unfold clsIn; rw [hC] <;> rfl
  obtain ⟨cdD, hclD⟩ := Option.isSome_iff_exists.mp T.clD
  refine ks_codeAny_call_defAt (body := sB fld txt kk p0 p1 p2 p3 p4 p5 p6 p7 p8 p9) hroom (X _ _ ho) rfl hlim (codeRec_of X hcd) rfl (hbind s (.ref x) v) (by intro y hy; simp [ksFn, fnX, sS] at hy; rcases hy with h | h | h | h <;> (rw [h]; simp)) (fun y hy => ?_) (fun h₁ hns hk => ?_) rfl rfl rfl
  · simp at hy
    rcases hy with h | h
    · rw [h]; exact T.fo.ka
    · rw [h]; exact T.fo.kf
  obtain ⟨hh, g, dr, tk, os⟩ := s
  have k : ∀ b o, hh.get? b = some o → h₁.get? b = some o := hk
  have X₁ : K.In h₁ := X.keeps k
  have hx₁ := k _ _ hx
  have lx := Heap.lt_size hx
  have hself : (fun y => List.lookup y ([(PySem.Str.ofString "self", Value.ref x), (fld, v)] : List (Str × Value)).reverse) ("self" : Str) = some (.ref x) := by
    have : (("self" : Str) == fld) = false := by simpa using (Ne.symm T.fo.nes)
    simp [List.lookup, this]
  have hfv : (fun y => List.lookup y ([(PySem.Str.ofString "self", Value.ref x), (fld, v)] : List (Str × Value)).reverse) fld = some v := by
    simp [List.lookup]
  obtain ⟨oD, hD1, hD2⟩ : ∃ oD, h₁.get? D = some oD ∧ oD.data = .cls cdD := by
    unfold clsIn at hclD
    split at hclD
    · rename_i c d cd' sl ho
      cases hclD
      exact ⟨_, X₁ _ _ ho, rfl⟩
    · cases hclD
  have I₁ : InstAt h₁ x (excO C t0) C none := ⟨hx₁, rfl, rfl, trivial⟩
  have hpos : ∀ few o env, methodCallPos few o env p2 p4 = pure p4 := by intro few o env; unfold methodCallPos; simp [hline]
  have he : eval (.Call (.Attribute (.Call (.Name "super" p0) [] [] p1) "__init__" p2) [.Constant (.str txt) kk p3] [] p4) (ksEnv qual (sS fld) hh.objs.size fI (.ref cda) cc) = (do
      let ov ← attributeBase (.Call (.Name "super" p0) [] [] p1) "__init__" (ksEnv qual (sS fld) hh.objs.size fI (.ref cda) cc) (eval (.Call (.Name "super" p0) [] [] p1) (ksEnv qual (sS fld) hh.objs.size fI (.ref cda) cc))
      standAt p2.atName
      let (f, first) ← holding [ov] (getMethod ov "__init__" (do return (← importBound (.Call (.Name "super" p0) [] [] p1) (ksEnv qual (sS fld) hh.objs.size fI (.ref cda) cc)).getD true))
      let cp ← methodCallPos true (.Call (.Name "super" p0) [] [] p1) (ksEnv qual (sS fld) hh.objs.size fI (.ref cda) cc) p2 p4
      callWith cp f first (backTo p4 (starEach [.Constant (.str txt) kk p3] (ksEnv qual (sS fld) hh.objs.size fI (.ref cda) cc))) []) := by rfl
  simp only [hpos, pure_bind] at he
  refine ks_wpAt_execs_cons (ks_wpAt_Expr_any (ks_wpAt_MethodCall (pl := do return (← importBound (.Call (.Name "super" p0) [] [] p1) (ksEnv qual (sS fld) hh.objs.size fI (.ref cda) cc)).getD true) ?_ he))
  refine ks_wpAt_super_base (env := ksEnv qual (sS fld) hh.objs.size fI (.ref cda) cc) T.fo.ks T.fo.kc (by decide) rfl (X₁ _ _ ho) rfl hp rfl (X₁ _ _ hcode) rfl hvs hfile T.top ?_
  refine ks_loadName_global (env := ksEnv qual (sS fld) hh.objs.size fI (.ref cda) cc) rfl T.fo.ks (loadGlobal_builtin (env := ksEnv qual (sS fld) hh.objs.size fI (.ref cda) cc) (hg.keeps k) T.gS (hb.keeps k) hbs ⟨rfl, ?_⟩)
  refine wpAny_loadName_free rfl T.fo.kc rfl ⟨_, X₁ _ _ hcell, rfl⟩ ?_
  rw [har]
  refine wpAny_loadName_local rfl T.fo.ka hns hself ?_
  refine ks_wpAny_isType_cls hD1 hD2 ⟨rfl, ?_⟩
  refine ks_wpAny_call_super hD1 hD2 hx₁ rfl (fun c e => by cases e) (looks_mroIn X₁ T.mroD) (fun h₂ hso k₂ => ?_)
  have X₂ : K.In h₂ := X₁.keeps k₂
  have hx₂ := k₂ _ _ hx₁
  have I₂ : InstAt h₂ x (excO C t0) C none := ⟨hx₂, rfl, rfl, trivial⟩
  have hI : Looks (model prog w) h₂ (isInstance (.ref x) (.type "ValueError")) true := I₂.type.andThen (looks_subIn X₂ T.vE)
  refine kxs_getMethod kxs_ValueError hso (looks_opaque X₂ T.opq) (l₀ := .ref C :: bm) ?_ rfl X₂ (by have := T.sup; unfold ks_superIn at this; rw [hcl] at this; exact this) hI (ks_ne X₂ I₂ hcl) (by decide) ?_
  · exact fun A Q E s k q => wpAny_bind ((looks_clsIn X₂ hcl) A _ E s k (wpAny_pure q))
  have lus : ([Value.str txt (tk + [(PySem.Str.ofString "self", Value.ref x), (fld, v)].length + 1)] : List Value).length ≤ sizeLine := by
    rw [sizeLine_eq]
    exact (by decide : 1 ≤ 16777216)
  have kmw : ∀ b o, h₂.get? b = some o → (h₂.push (kxs_mw "ValueError.__init__" x)).get? b = some o := fun b o e => Heap.get?_push_of_some _ e
  have hmw : (h₂.push (kxs_mw "ValueError.__init__" x)).get? h₂.objs.size = some (kxs_mw "ValueError.__init__" x) := Heap.get?_push_at rfl rfl
  refine kxs_callWith (i := "ValueError.__init__") (x := x) rfl (evalArgs_plain ?_)
  show wpAny _ _ (spliced [(false, eval (.Constant (.str txt) kk p3) _)]) _ _ _
  refine spliced_cons ?_
  refine wpAny_Constant_str ?_
  refine spliced_nil ⟨hmw, ?_⟩
  refine sup_wrap (kmw _ _ (X₂ _ _ hC)) (kmw _ _ hx₂) hmw lus (fun h₃ t1 k₃ hx₃ => ?_)
  refine wpAt_of_wpAny ?_
  have z : ∀ b o, b ≠ x → h₁.get? b = some o → h₃.get? b = some o := fun b o hb e => k₃ b o hb (kmw _ _ (k₂ _ _ e))
  have X₃ : K.In h₃ := fun a o e => z a o (fun q => by rw [q, hnx] at e; cases e) (X₁ a o e)
  have hns₃ : h₃.Ns hh.objs.size (fun y => List.lookup y ([(PySem.Str.ofString "self", Value.ref x), (fld, v)] : List (Str × Value)).reverse) := by
    obtain ⟨o, es, ep, e, r⟩ := hns
    exact ⟨o, es, ep, z _ _ (Nat.ne_of_gt lx) e, r⟩
  refine wpAny_execs_cons (plainObj_wpAny_Assign_Attribute ?_)
  refine wpAny_Name (wpAny_loadName_local rfl T.fo.kf hns₃ hfv ?_) T.fo.db
  refine wpAny_Name (wpAny_loadName_local rfl T.fo.ka hns₃ hself ?_) (by decide)
  refine set_plain X₃ (ox := excO C t1) (od := none) ⟨hx₃, rfl, rfl, trivial⟩ T.sa ?_
  refine exc_osa X₃ hx₃ hcl (show refsVE (.ref C :: bm) = true from hbm) rfl T.noN (fun h₄ tk₄ dx k₄ dn dne hx₄ hn₄ => ?_)
  refine wpAny_execs_nil (hq h₄ tk₄ dx t1 ⟨fun b o hb e => k₄ b o hb (z b o hb (k b o e)), hx₄, Nat.le_of_lt (Nat.lt_of_lt_of_le hns₃.lt dn), dne, hn₄⟩)
theorem one_size (v : Value) : [v].length ≤ sizeLine := by
  rw [sizeLine_eq]
  exact (by decide : 1 ≤ 16777216)
theorem sup_made (T : SupTxt prog K mg nm C D fI fld) {v : Value} (X : K.In s.heap) (hg : s.heap.Ns mainGlobals mg) (hb : s.heap.Ns builtinsNs mb) (hbs : mb "super" = some (.type "super")) (hlim : s.heap.NoLimit) (hroom : A.depth + 1 < recursionLimit)
    (hq : ∀ h' tk e d, SupMade fld s.heap h' e C d v → R (.ok (.ret (.ref e))) { s with heap := h', toks := tk }) :
    codeAny (model prog w) A (.call (.ref C) ⟨[v], []⟩) R s := by
  obtain ⟨nmC, q, N, bs, bm, sn, sub, ab, col, dd, k0, k1, k2, k3, k5, hC, hbm⟩ := T.cls
  obtain ⟨hp, g, dr, tk, os⟩ := s
  have k : ∀ b o, hp.get? b = some o → ((hp.push (kdv_tup [v])).push (excO C hp.objs.size)).get? b = some o := fun b o e => Heap.get?_push_of_some _ (Heap.get?_push_of_some _ e)
  have hget : ((hp.push (kdv_tup [v])).push (excO C hp.objs.size)).get? (hp.objs.size + 1) = some (excO C hp.objs.size) := by heap_get
  have hnx : K.lookup (hp.objs.size + 1) = none := by
    cases e : K.lookup (hp.objs.size + 1) with
    | none => rfl
    | some o =>
      have z : hp.get? (hp.objs.size + 1) = some o := X _ _ e
      exact absurd (Nat.lt_of_succ_lt (Heap.lt_size z)) (Nat.lt_irrefl _)
  refine call_own F.excBase_ValueError (fun X => refsVE_contains X bm hbm) (X _ _ hC) (looks_findIn X T.iC) (fun self => bind_fn X self T.tC) (one_size v) ?_
  refine sup_init (s := ⟨(hp.push (kdv_tup [v])).push (excO C hp.objs.size), g, dr, tk, os⟩) T (X.keeps k) (hg.keeps k) (hb.keeps k) hbs (hlim.keeps k) hget hnx ?_ fun h' tk' dx t1 ⟨k', hx, dn, dne, hns⟩ => ?_
  · show A.depth + 1 < recursionLimit
    exact hroom
  · have old : ∀ b o, hp.get? b = some o → h'.get? b = some o := fun b o e => k' b o (Nat.ne_of_lt (Nat.lt_succ_of_lt (Heap.lt_size e))) (k b o e)
    have z : hp.objs.size + 1 + 1 ≤ dx := by
      first
        | (simpa only [Heap.size_push] using dn)
        | exact dn
        | (have q := dn; rw [Heap.size_push, Heap.size_push] at q; exact q)
    exact ⟨rfl, hq h' tk' (hp.objs.size + 1) dx ⟨old, Nat.le_succ _, ⟨_, _, hx, rfl, rfl, rfl, rfl⟩, Nat.le_trans (Nat.le_trans (Nat.le_succ _) (Nat.le_succ _)) z, dne, hns⟩⟩
end
end SupX
end PySem

namespace L2
open PySem PySem.Spec PyProof.Rows PySem.SupX
theorem relO_fld {fld : Str} {v : V} {v' : Value} (r : RelV v v') (f : Str) : RelO (List.lookup f [((fld : Str), v)]) (if f = fld then some v' else none) := by
  by_cases hw : f = fld
  · subst hw
    rw [if_pos rfl]
    have q : List.lookup f [((f : Str), v)] = some v := by simp [List.lookup]
    rw [q]
    exact r
  · rw [if_neg hw]
    have qw : (f == fld) = false := by simpa using hw
    have q2 : List.lookup f [((fld : Str), v)] = none := by simp [List.lookup, qw]
    rw [q2]
    trivial
section
variable {X : Cx} {C D fI : Addr} {nm fld : Str}
/-- X(e): an own error with one field -/
def tMk1 (C : Addr) (fld : Str) (ta : TA) : St → Hp → XK → Prop := fun σ H Q => ta σ H fun vs H1 => ∃ v, vs = [v] ∧ ∀ d, H1 d = none → Q (.ref C) (some d) (upd H1 d (.xd [((fld : Str), v)]))
theorem pmk_sup {a : Expr} {ta : TA} {p pos : Pos} {k : Nat} (T : SupTxt X.prog X.K X.mg nm C D fI fld) (hr : Room k X.A) (ha : PA X [a] ta) (hdb : (nm == ("__debug__" : Str)) = false := by decide) (hg : Gl X nm := by rfl)
    (he : starEach (a :: []) X.env = (false, eval a X.env) :: starEach [] X.env := by rfl) (hpl : (backTo pos (starEach [] X.env)).any (·.1) = false := by rfl) :
    PMk X (.Call (.Name nm p) [a] [] pos) (tMk1 C fld ta) := by
  intro pins s σ H Q I h
  refine wpAny_Call_Name_kw (ld_glob I hg T.gC ?_ (hd := hdb))
  refine PySem.W.callWith_K (h₀ := X.base) I.ok.mod.kin T.kC (thn (ha.run pos pins s σ H _ I h) fun us s1 hh => ?_) he hpl
  obtain ⟨vs, H1, I1, r1, v, ev, q1⟩ := hh
  subst ev
  refine ⟨I1.kIn, ?_⟩
  cases r1 with
  | cons rv rn =>
    rename_i v' us'
    cases rn
    show wpAny _ _ (call (.ref C) [v']) _ _ _
    have hlim := I1.nolimit
    have hgl := I1.mod.glob.keeps I1.bk
    obtain ⟨mb, hbl, hbe⟩ := I1.mod.blt
    have hbl := hbl.keeps I1.bk
    have hbs : mb "super" = some (.type "super") := (hbe _ (by decide)).trans (by kernel_rfl)
    obtain ⟨hp, g, dr, tk, os⟩ := s1
    refine wpAny_call (sup_made T I1.kIn hgl hbl hbs hlim (by have := hr.dp; omega) fun h' tk' e d M => ?_)
    show MkP X pins σ Q (.ref e) ⟨h', g, dr, tk', os⟩
    obtain ⟨oe, fv, hoe, hc, hd, hdat, h1⟩ := M.obj
    have hns := M.ns
    obtain ⟨G', g1, g2⟩ := restrict h' fun b => decide (b ≠ e)
    have gk : ∀ b, b ≠ e → G'.get? b = h'.get? b := fun b hb => g1 b (decide_eq_true hb)
    have ge : G'.get? e = none := g2 e (by simp)
    have old : ∀ b o, hp.get? b = some o → G'.get? b = some o := fun b o q => (gk b (Nat.ne_of_lt (Nat.lt_of_lt_of_le (Heap.lt_size q) M.new))).trans (M.keep b o q)
    have ob : ObjOk X.prog X.w (upd H1 d (.xd [((fld : Str), v)])) G' d (.xd [((fld : Str), v)]) :=
      ⟨_, hns.at (fun o q => (gk d M.dne).trans q), fun f => relO_fld rv f⟩
    have J : Inv X pins σ (upd H1 d (.xd [((fld : Str), v)])) ⟨G', g, dr, tk', os⟩ := I1.laid (t' := tk') old M.dbig ob
    refine ⟨e, oe, fv, ⟨G', g, dr, tk', os⟩, _, .ref C, some d, rfl, J, fun b o q => ?_, ge, hoe, ⟨hc, hd⟩, hdat, h1, ?_, rfl, I1.bare, raises_own T.exC T.tyC, q1 d (I1.hok.fresh M.dbig)⟩
    · by_cases hb : b = e
      · have q' : G'.get? b = some o := q
        rw [hb, ge] at q'; cases q'
      · exact (gk b hb).symm.trans q
    · rw [upd_ne (Ne.symm M.dne)]
      exact I1.hok.fresh M.new
/-- raise X(e) -/
def tRaise1 (C : Addr) (fld : Str) (W : WX) (ta : TA) : TS := fun _ σ H => tMk1 C fld ta σ H fun cls d H' => W cls d σ H'
theorem ps_raise1 {a : Expr} {ta : TA} {W : WX} {p pos pos2 : Pos} {k : Nat} (hc : X.calm = true) (T : SupTxt X.prog X.K X.mg nm C D fI fld) (hr : Room k X.A) (tk : Takes X W) (ha : PA X [a] ta) (hdb : (nm == ("__debug__" : Str)) = false := by decide) (hg : Gl X nm := by rfl)
    (he : starEach (a :: []) X.env = (false, eval a X.env) :: starEach [] X.env := by rfl) (hpl : (backTo pos (starEach [] X.env)).any (·.1) = false := by rfl) :
    PS X (.Raise (some (.Call (.Name nm p) [a] [] pos)) none pos2) (tRaise1 C fld W ta) := ps_raise hc tk (pmk_sup T hr ha hdb hg he hpl)
/-- what the class at D of a held error says, so that its field is read -/
structure ExcF (K : PySem.W.Frag) (D : Addr) (fld : Str) : Prop where
  ga : PySem.W.findIn K (.ref D) "__getattribute__" = some (some (.builtin "BaseException.__getattribute__"))
  gg : PySem.W.findIn K (.ref D) "__getattr__" = some none
  ex : PySem.W.subIn K (.ref D) (.type "BaseException") = some true
  hd : PySem.W.hasDictIn K D = true
  no : PySem.W.findIn K (.ref D) fld = some none
/-- e.fld, e the exception that the suite holds (at a; its class cls, its dict d) -/
def tFldE (K : PySem.W.Frag) (fld : Str) (a : Addr) (cls : Value) (d : Option Addr) (te : TE) : TE := fun σ H Q => te σ H fun x H1 => x = .ref a ∧ ∃ (C dd : Addr) (fs : List (Str × V)) (v : V), cls = .ref C ∧ ExcF K C fld ∧ d = some dd ∧ H1 dd = some (.xd fs) ∧ fs.lookup fld = some v ∧ Q v H1
theorem pe_fldE {a : Addr} {oe : Obj} {cls : Value} {d : Option Addr} {pn : List (Addr × Obj)} {e : Expr} {te : TE} {pos : Pos} (hz : Zc cls d oe) (hf : ∃ vs, oe.data = .fields vs) (he : PE (X.suite a ((a, oe) :: pn)) e te)
    (hb : attributeBase e fld X.env (eval e X.env) = eval e X.env := by rfl) :
    PE (X.suite a ((a, oe) :: pn)) (.Attribute e fld pos) (tFldE X.K fld a cls d te) := by
  refine ⟨fun pins s σ H Q I h => ?_⟩
  refine attr_of hb (thn (he.run pins s σ H _ I h) fun u s1 hh => ?_)
  obtain ⟨x, H1, I1, rx, ex, C, dd, fs, v, ec, T, ed, ea, ef, q⟩ := hh
  subst ex
  obtain rfl : u = Value.ref a := rx
  subst ec
  subst ed
  obtain ⟨ha, _⟩ := I1.pin (a, oe) (List.mem_append_left _ List.mem_cons_self)
  obtain ⟨vs, hd⟩ := hf
  have hx : ObjOk X.prog X.w H1 s1.heap dd (.xd fs) := I1.hok dd _ ea
  obtain ⟨mA, hns, hr⟩ := hx
  obtain ⟨od, ho, hl⟩ := lookIn_ns hns
  obtain ⟨u, hu, ru⟩ := RelO.some_of (v := v) (o := mA fld) (by rw [← ef]; exact hr fld)
  have J : PySem.W.InstAt s1.heap a oe C (some od) := ⟨ha, hz.1, by unfold PySem.W.notCls; rw [hd] <;> rfl, by rw [hz.2]; exact ho⟩
  exact HandSPX.exc_get I1.kIn J T.ga T.gg T.ex (PySem.W.findObj_own T.hd T.no rfl (by rw [hl, hu])) (handed_of ru) ⟨v, H1, I1.tok _, ru, q⟩
/-- isinstance(e, c), e the exception that the suite holds, with a dict of its own -/
def rIsD (K : PySem.W.Frag) (a : Addr) (cls : Value) (d : Option Addr) : List V → Hp → VK → Prop := fun xs H Q =>
  ∃ (c : V) (cv : Value) (b : Bool) (C dd : Addr) (fs : List (Str × V)), xs = [.ref a, c] ∧ (∀ u, RelV c u → u = cv) ∧ cls = .ref C ∧ ExcC K C ∧ d = some dd ∧ H dd = some (.xd fs) ∧ PySem.W.kitOne K (.ref C) cv = some b ∧ Q (.bl b) H
theorem call_isD {a : Addr} {cls : Value} {d : Option Addr} {oe : Obj} {pn : List (Addr × Obj)} (hz : Zc cls d oe) (hf : ∃ vs, oe.data = .fields vs) : CallR (X.suite a ((a, oe) :: pn)) (.builtin "isinstance") (rIsD X.K a cls d) := by
  intro pins s σ H xs us Q I r h
  obtain ⟨c, cv, b, D, dd, fs, rfl, hcv, ec, T, ed, ea, e, q⟩ := h
  subst ec
  subst ed
  cases r with
  | cons rx rr =>
    cases rr with
    | cons rt rr =>
      cases rr
      cases rx
      have ec := hcv _ rt
      subst ec
      obtain ⟨ha, _⟩ := I.pin (a, oe) (List.mem_append_left _ List.mem_cons_self)
      obtain ⟨vs, hd⟩ := hf
      have hx : ObjOk X.prog X.w H s.heap dd (.xd fs) := I.hok dd _ ea
      obtain ⟨mA, hns, hr⟩ := hx
      obtain ⟨od, ho, hl⟩ := lookIn_ns hns
      have J : PySem.W.InstAt s.heap a oe D (some od) := ⟨ha, hz.1, by unfold PySem.W.notCls; rw [hd] <;> rfl, by rw [hz.2]; exact ho⟩
      have cl : (PySem.W.clsIn X.K D).isSome = true := by obtain ⟨cd, hc, _⟩ := PySem.W.any_some T.hd; rw [hc]; rfl
      exact PySem.W.kia_one (PySem.W.kitx_exc (gt := none) cl T.hg T.hk T.hs T.ha T.hn T.ht T.hm) I.kIn J e (fun z => nomatch z) fun tk => ⟨.bl b, H, I.kept (t' := tk) fun _ _ z => z, rfl, q⟩
end
end L2

namespace L2
open PySem PySem.Spec PyProof.Rows PySem.SupX
section
variable {X : Cx} {x n : Str} {c : Value} {i : Nat} {body suite : List Stmt} {b₀ : Stmt} {np pos pos' : Pos} {Wout : WX}
theorem ps_try_as1 (hs : X.stack = X.env :: X.outer) (hf : X.env.frame = some X.env.locals) (hN : X.N.Nodup) (hi : X.N[i]? = some n) (hln : X.env.kindOf n = some .local) (hc : Names X x c) (tk : Takes X Wout)
    (kb : ∀ W : WX, {t : TS // ∀ (pn : List (Addr × Obj)) (xe : Value → Shared → Prop), Takes (X.tr pn xe) W → PassesOwn (model X.prog X.w) X.A X.env xe → PSs (X.tr pn xe) body t})
    (ks : ∀ (a : Addr) (cls : Value) (d : Option Addr), {t : TS // ∀ (oe : Obj) (pn : List (Addr × Obj)), Zc cls d oe → (∃ vs, oe.data = .fields vs) → PSs (X.suite a ((a, oe) :: pn)) (b₀ :: suite) t}) {t : TS} (ht : (fun D σ H => (kb (wAs X.K c i (fun a cls d => (ks a cls d).1) Wout D)).1 D σ H) = t) :
    PS X (.Try body [.ExceptHandler (some (.Name x np)) (some n) (b₀ :: suite) pos'] [] [] pos) t := by
  rw [← ht]
  exact ps_try_as (tb := fun W => (kb W).1) (ts := fun a cls d => (ks a cls d).1) hs hf hN hi hln hc tk (fun W pn xe a b => (kb W).2 pn xe a b) (fun a oe cls d pn h1 h2 => (ks a cls d).2 oe pn h1 h2)
theorem ps_try_only1 (hs : X.stack = X.env :: X.outer) (hf : X.env.frame = some X.env.locals) (hc : Names X x c) (tk : Takes X Wout)
    (kb : ∀ W : WX, {t : TS // ∀ (pn : List (Addr × Obj)) (xe : Value → Shared → Prop), Takes (X.tr pn xe) W → PassesOwn (model X.prog X.w) X.A X.env xe → PSs (X.tr pn xe) body t})
    (ks : ∀ (a : Addr) (cls : Value) (d : Option Addr), {t : TS // ∀ (oe : Obj) (pn : List (Addr × Obj)), Zc cls d oe → (∃ vs, oe.data = .fields vs) → PSs (X.suite a ((a, oe) :: pn)) (b₀ :: suite) t}) {t : TS} (ht : (fun D σ H => (kb (wOnly X.K c (fun a cls d => (ks a cls d).1) Wout D)).1 D σ H) = t) :
    PS X (.Try body [.ExceptHandler (some (.Name x np)) none (b₀ :: suite) pos'] [] [] pos) t := by
  rw [← ht]
  exact ps_try_only (tb := fun W => (kb W).1) (ts := fun a cls d => (ks a cls d).1) hs hf hc tk (fun W pn xe a b => (kb W).2 pn xe a b) (fun a oe cls d pn h1 h2 => (ks a cls d).2 oe pn h1 h2)
end
theorem excF_of {P : Program} {K : PySem.W.Frag} {mg : Str → Option Value} {nm fld : Str} {C D fI : Addr} (T : SupTxt P K mg nm C D fI fld) : ExcF K C fld := ⟨T.ga, T.gg, T.exC, T.hdC, T.noN⟩
end L2

namespace L2
open PySem PySem.Spec PyProof.Rows
/-- an own def that may raise, called where it does not -/
theorem passN {X : Cx} : Passes (L2.CX X.prog X.w) X (fun _ _ _ => False) := fun _ _ _ _ _ _ _ h => by
  obtain ⟨_, _, _, _, _, _, _, _, _, _, _, _, z⟩ := h
  exact z.elim
theorem FnOk.or {P : Program} {w : World} {K : PySem.W.Frag} {mg : Str → Option Value} {base : Heap} {CX : CXT} {k : Nat} {f : Addr} {fd : FuncData} {ps : List Str} {sp sp' : Sp} (F : FnOk P w K mg base CX k f fd ps sp) (G : FnOk P w K mg base CX k f fd ps sp') :
    FnOk P w K mg base CX k f fd ps (fun vs H Q E => sp vs H Q E ∨ sp' vs H Q E) :=
  ⟨fun vs H Q E h => h.elim (F.len vs H Q E) (G.len vs H Q E), fun A outer s H args us vs Q E hr he hb hv h => h.elim (F.run A outer s H args us vs Q E hr he hb hv) (G.run A outer s H args us vs Q E hr he hb hv)⟩
section
variable {K : PySem.W.Frag} {C S : Addr} {b : Bool}
theorem cls_of (h : PySem.W.hasDictIn K C = true) : (PySem.W.clsIn K C).isSome = true := by
  obtain ⟨cd, hc, _⟩ := PySem.W.any_some h
  rw [hc]
  rfl
theorem kit_ref (hd : PySem.W.hasDictIn K S = true) (ht : PySem.W.typeIn K (.ref S) = some (.type "type")) (hC : PySem.W.subIn K (.ref C) (.ref C) = some true) (h : PySem.W.subIn K (.ref C) (.ref S) = some b) : PySem.W.kitOne K (.ref C) (.ref S) = some b := by
  have e2 : ((PySem.W.clsIn K S).isSome && PySem.W.typeIn K (.ref S) == some (.type "type")) = true := by rw [cls_of hd, ht]; rfl
  have e3 : PySem.W.kitCls K (.ref C) (.ref S) = some b := by
    show (if ((PySem.W.clsIn K S).isSome && PySem.W.typeIn K (.ref S) == some (.type "type")) = true then PySem.W.subIn K (.ref C) (.ref S) else none) = some b
    rw [if_pos e2]
    exact h
  unfold PySem.W.kitOne
  by_cases e : C = S
  · subst e
    rw [hC] at h
    cases h
    rw [if_pos (by simp)]
  · rw [if_neg (by simpa using e)]
    exact e3
theorem kit_type {T : String} (hm : PySem.W.kitMeta T = true) (h : PySem.W.subIn K (.ref C) (.type T) = some b) : PySem.W.kitOne K (.ref C) (.type T) = some b := by
  unfold PySem.W.kitOne PySem.W.kitCls
  rw [if_neg (by simp)]
  dsimp only
  rw [if_pos hm]
  exact h
end
end L2
namespace Cf
open PySem L2 PySem.Spec PyProof.Rows
section
variable {K : PySem.W.Frag} {w : World} {H : Hp} {σ : L2.St} {Q : VK}
/-! ## sequences that the top has written, or that stand in the heap -/
theorem kr_inS {p : Addr} {xs : List V} {x : V} {b : Bool} (h : SqT K H p xs) (f : flatV x = true) (g : xs.all flatV = true) (e : inV x xs = b) (q : Q (.bl b) H) : rInn K x (.ref p) H Q := by
  subst e; exact .inl ⟨p, xs, rfl, .inr h, f, g, q⟩
theorem kr_notInS {p : Addr} {xs : List V} {x : V} {b : Bool} (h : SqT K H p xs) (f : flatV x = true) (g : xs.all flatV = true) (e : inV x xs = b) (q : Q (.bl (!b)) H) : rNotInn K x (.ref p) H Q := by
  subst e; exact .inl ⟨p, xs, rfl, .inr h, f, g, q⟩
theorem kr_ixQ {p : Addr} {xs : List V} {i : Int} {v : V} (h : SqT K H p xs) (ha : atI xs i = some v) (q : Q v H) : rIxx K (.ref p) (.int i) H Q := .inl (.inr (.inl ⟨p, xs, i, v, rfl, rfl, h, ha, q⟩))
theorem kr_lenQ {p : Addr} {xs : List V} (h : SqT K H p xs) (q : Q (.int xs.length) H) : rLen K [.ref p] H Q := .inl ⟨p, xs, rfl, .inr h, q⟩
theorem sqT_ty {p : Addr} {xs : List V} (h : SqT K H p xs) : TyX K H (.ref p) (.type Kd.tup.name) := by
  rcases h with h | ⟨o, its, n, e, c, _⟩
  · rcases h with h | ⟨o, h⟩
    · exact .base (.tup h)
    · exact .fTuple h
  · exact .kTuple e c
theorem kr_isiQ {p : Addr} {xs : List V} (b : Kd) (h : SqT K H p xs) (q : Q (.bl (isk .tup b)) H) : rIsi K [.ref p, .ty b.name] H Q := ⟨.ref p, .ty b.name, _, _, _, rfl, .ty _, sqT_ty h, kit_ty (kit_isk .tup b), q⟩
theorem kr_ixKd {d : Addr} {z : Str} {v : V} (h : KDct K w d z v) (q : Q v H) : L2.rIxD K w (.ref d) (.str z) H Q := ⟨d, z, v, rfl, rfl, h, q⟩
theorem inV_strs {n : Str} : ∀ {ns : List Str}, inV (.str n) (ns.map V.str) = decide (n ∈ ns)
  | [] => rfl
  | m :: ns => by
    have ih := inV_strs (n := n) (ns := ns)
    unfold inV at ih ⊢
    rw [List.map_cons, List.any_cons, ih]
    show ((m == n) || decide (n ∈ ns)) = _
    by_cases e : m = n
    · subst e; simp
    · have e' : ¬ n = m := fun z => e z.symm
      simp [e, e']
theorem strs_flat : ∀ {ns : List Str}, (ns.map V.str).all flatV = true
  | [] => rfl
  | _ :: ns => by
    have ih := strs_flat (ns := ns)
    simp only [List.map_cons, List.all_cons, ih]
    rfl
/-! ## errors -/
theorem k_raise {C : Addr} {fld : Str} {W : WX} {ta : TA} {D : Ends} (h : ta σ H fun vs H1 => ∃ v, vs = [v] ∧ ∀ d, Fresh H1 d → W (.ref C) (some d) σ (upd H1 d (.xd [((fld : Str), v)]))) : tRaise1 C fld W ta D σ H := h
theorem k_ex1 {v : V} {R : V → Prop} (h : R v) : ∃ y, [v] = [y] ∧ R y := ⟨v, rfl, h⟩
theorem k_callS {sp : Sp} {E : L2.St → XK} {t : TA} (h : t σ H fun vs H1 => sp vs H1 Q (E σ)) : tCallS sp E t σ H Q := h
theorem k_as {c cls : Value} {i : Nat} {ts : Addr → Value → Option Addr → TS} {W : WX} {D : Ends} {d : Option Addr} (e : PySem.W.exmOne K cls c = some true)
    (h : ∀ a, Fresh H a → ts a cls d { nx := fun σ' H' => D.nx (σ'.set i none) H', rt := D.rt, bk := fun σ' H' => D.bk (σ'.set i none) H', ct := fun σ' H' => D.ct (σ'.set i none) H' } (σ.set i (some (.ref a))) H) : WE (wAs K c i ts W D) σ cls d H :=
  ⟨true, e, fun _ => h, fun z => by cases z⟩
theorem kr_isD {a C dd : Addr} {fs : List (Str × V)} {c : V} {cv : Value} {b : Bool} (t : ExcC K C) (h : H dd = some (.xd fs)) (hc : ∀ u, RelV c u → u = cv) (e : PySem.W.kitOne K (.ref C) cv = some b) (q : Q (.bl b) H) : rIsD K a (.ref C) (some dd) [.ref a, c] H Q :=
  ⟨c, cv, b, C, dd, fs, rfl, hc, rfl, t, rfl, h, e, q⟩
theorem k_fldE {fld : Str} {a C dd : Addr} {fs : List (Str × V)} {v : V} {te : TE} (t : ExcF K C fld) (l : fs.lookup fld = some v) (h : te σ H fun x H1 => x = .ref a ∧ H1 dd = some (.xd fs) ∧ Q v H1) (hm : ∀ (Q Q' : VK), (∀ x H1, Q x H1 → Q' x H1) → te σ H Q → te σ H Q') : tFldE K fld a (.ref C) (some dd) te σ H Q :=
  hm _ _ (fun x H1 ⟨h1, h2, h3⟩ => ⟨h1, C, dd, fs, v, rfl, t, rfl, h2, l, h3⟩) h
theorem k_fldV {fld : Str} {a C dd : Addr} {fs : List (Str × V)} {v : V} {i : Nat} (t : ExcF K C fld) (hv : σ[i]? = some (some (.ref a))) (l : fs.lookup fld = some v) (h : H dd = some (.xd fs)) (q : Q v H) : tFldE K fld a (.ref C) (some dd) (tVar i) σ H Q :=
  ⟨.ref a, hv, rfl, C, dd, fs, v, rfl, t, rfl, h, l, q⟩
/-! ## the place of a text in a list -/
def idxV (y : Str) : List V → Option Nat
  | [] => none
  | .str x :: r => if x = y then some 0 else (idxV y r).map (· + 1)
  | _ :: _ => none
theorem idxV_at {y : Str} : ∀ {xs : List V} {j : Nat}, idxV y xs = some j → xs[j]? = some (.str y) ∧ ∀ (m : Nat) (z : V), m < j → xs[m]? = some z → eqV z (.str y) = false
  | [], _, h => by cases h
  | .str x :: r, j, h => by
    unfold idxV at h
    by_cases e : x = y
    · rw [if_pos e] at h
      cases h
      subst e
      exact ⟨rfl, fun m z hm => absurd hm (Nat.not_lt_zero _)⟩
    · rw [if_neg e] at h
      cases q : idxV y r with
      | none => rw [q] at h; cases h
      | some k =>
        rw [q] at h
        cases h
        obtain ⟨h1, h2⟩ := idxV_at q
        refine ⟨by simpa using h1, fun m z hm hz => ?_⟩
        cases m with
        | zero =>
          cases (show some (V.str x) = some z from hz)
          show (x == y) = false
          simpa using e
        | succ m => exact h2 m z (Nat.lt_of_succ_lt_succ hm) (by simpa using hz)
  | .non :: _, _, h => by cases h
  | .bl _ :: _, _, h => by cases h
  | .int _ :: _, _, h => by cases h
  | .flt _ :: _, _, h => by cases h
  | .ref _ :: _, _, h => by cases h
  | .byt _ :: _, _, h => by cases h
  | .ty _ :: _, _, h => by cases h
theorem kr_index {p : Addr} {xs : List V} {y : Str} {j : Nat} (h : H p = some (.lst xs)) (g : xs.all flatV = true) (e : idxV y xs = some j) (q : Q (.int (j : Nat)) H) : rIndex K (.ref p) [.str y] H Q :=
  ⟨p, xs, .str y, j, .str y, rfl, rfl, SqL.of h, rfl, g, (idxV_at e).1, (by show (y == y) = true; simp), (idxV_at e).2, q⟩
theorem kr_index2 {p : Addr} {xs : List V} {y : Str} (h : H p = some (.lst xs)) (g : xs.all flatV = true) (e : (idxV y xs).isSome = true) (q : Q (.int (((idxV y xs).getD 0 : Nat))) H) : rIndex K (.ref p) [.str y] H Q := by
  obtain ⟨j, hj⟩ := Option.isSome_iff_exists.mp e
  rw [hj] at q
  exact kr_index h g hj q
theorem q_bl {b c : Bool} (e : c = b) (h : Q (.bl b) H) : Q (.bl c) H := e ▸ h
theorem kr_isiQ_bool {p : Addr} {xs : List V} (h : SqT K H p xs) (q : Q (.bl false) H) : rIsi K [.ref p, .ty "bool"] H Q := kr_isiQ .bl h q
theorem kr_isiQ_int {p : Addr} {xs : List V} (h : SqT K H p xs) (q : Q (.bl false) H) : rIsi K [.ref p, .ty "int"] H Q := kr_isiQ .int h q
theorem kr_isiQ_str {p : Addr} {xs : List V} (h : SqT K H p xs) (q : Q (.bl false) H) : rIsi K [.ref p, .ty "str"] H Q := kr_isiQ .str h q
theorem kr_isiQ_list {p : Addr} {xs : List V} (h : SqT K H p xs) (q : Q (.bl false) H) : rIsi K [.ref p, .ty "list"] H Q := kr_isiQ .lst h q
theorem kr_isiQ_tuple {p : Addr} {xs : List V} (h : SqT K H p xs) (q : Q (.bl true) H) : rIsi K [.ref p, .ty "tuple"] H Q := kr_isiQ .tup h q
theorem kr_isiQ_dict {p : Addr} {xs : List V} (h : SqT K H p xs) (q : Q (.bl false) H) : rIsi K [.ref p, .ty "dict"] H Q := kr_isiQ .dic h q
theorem sqT_keep {H' : Hp} {p : Addr} {xs : List V} (k : Keep [] H H') (h : SqT K H p xs) : SqT K H' p xs := by
  rcases h with h | h
  · rcases h with h | ⟨o, h⟩
    · exact .inl (.inl (k.at nin0 h))
    · exact .inl (.inr ⟨o, k.at nin0 h⟩)
  · exact .inr h
theorem at_strs {ns : List Str} {i : Int} (h0 : 0 ≤ i) (h : i < ns.length) : ∃ x, x ∈ ns ∧ atI (ns.map V.str) i = some (.str x) := by
  obtain ⟨v, hv, e⟩ := atI_lt (xs := ns.map V.str) h0 (by simpa using h)
  obtain ⟨x, hx, rfl⟩ := List.mem_map.mp hv
  exact ⟨x, hx, e⟩
theorem kr_slS {z : Str} {lo hi : Option Int} (h : z.length ≤ sizeLine) (q : Q (.str (cutS z lo hi)) H) : rSlS (.str z) lo hi H Q := ⟨z, rfl, h, q⟩
/-- a written tuple of texts, a tuple of the same texts -/
def spFlat (K : PySem.W.Frag) : Sp := fun vs H Q _ => ∃ (a b : Addr) (ns : List Str), vs = [.ref a, .ref b] ∧ SqT K H a (ns.map V.str) ∧ H b = some (.tup (ns.map V.str)) ∧ ns.length < 1000 ∧ ∀ H', Keep [] H H' → Q (.bl true) H'
def spSameF (K : PySem.W.Frag) (n : Nat) : Sp := fun vs H Q E => spSame n vs H Q E ∨ spFlat K vs H Q E
theorem Keep.trans' {H H1 : Hp} {p : Addr} {o : HO} (k : Keep [] (upd H p o) H1) (hp : Fresh H p) : Keep [] H H1 := fun b u n e => k b u n (get_new hp e)
end
end Cf

namespace Cf
open PySem L2 PySem.Spec PyProof.Rows
/-! ## dicts as data -/
def D.key : Key → D
  | .inl i => .int i
  | .inr s => .str s
theorem is_key {S : List Addr} {H : Hp} : ∀ k : Key, Is S H (kV k) (D.key k)
  | .inl i => .int i
  | .inr s => .str s
theorem is_keys {S : List Addr} {H : Hp} : ∀ kvs : List (Key × V), IsL S H (kvs.map fun kv => kV kv.1) (kvs.map fun kv => D.key kv.1)
  | [] => .nil
  | kv :: r => .cons (is_key kv.1) (is_keys r)
theorem key_inj : ∀ {a b : Key}, D.key a = D.key b → a = b
  | .inl _, .inl _, h => by cases h; rfl
  | .inr _, .inr _, h => by cases h; rfl
  | .inl _, .inr _, h => by cases h
  | .inr _, .inl _, h => by cases h
theorem keys_inj : ∀ {a b : List (Key × V)}, (a.map fun kv => D.key kv.1) = (b.map fun kv => D.key kv.1) ↔ a.map (·.1) = b.map (·.1)
  | [], [] => by simp
  | [], _ :: _ => by simp
  | _ :: _, [] => by simp
  | x :: a, y :: b => by
    simp only [List.map_cons, List.cons.injEq, keys_inj (a := a) (b := b)]
    exact ⟨fun h => ⟨key_inj h.1, h.2⟩, fun h => ⟨congrArg _ h.1, h.2⟩⟩
theorem keys_depth : ∀ kvs : List (Key × V), D.depths (kvs.map fun kv => D.key kv.1) = 0
  | [] => rfl
  | (.inl _, _) :: r => by show max 0 (D.depths (r.map fun kv => D.key kv.1)) = 0; rw [keys_depth r]; rfl
  | (.inr _, _) :: r => by show max 0 (D.depths (r.map fun kv => D.key kv.1)) = 0; rw [keys_depth r]; rfl
section
variable {K : PySem.W.Frag} {H : Hp} {σ : L2.St} {Q : VK}
theorem kr_listD {p : Addr} {kvs : List (Key × V)} (h : H p = some (.dK kvs)) (q : ∀ l, Fresh H l → Q (.ref l) (upd H l (.lst (kvs.map fun kv => kV kv.1)))) : rListD [.ref p] H Q := ⟨p, kvs, rfl, h, q⟩
theorem k_chain {r r' : R2} {ta tb tc : TE} (h : ta σ H fun x H1 => tb σ H1 fun y H2 => r x y H2 fun z H3 => ∃ k, z = .bl k ∧ (if k = true then tc σ H3 fun w' H4 => r' y w' H4 Q else Q (.bl false) H3)) : tChain r r' ta tb tc σ H Q := h
/-- [d[k] for k in d] -/
theorem k_vals {a : Addr} {kvs : List (Key × V)} {i j : Nat} (h : H a = some (.dK kvs)) (l : kvs.length < 1000) (g : ∀ (i : Nat) (k : Key) (v : V), kvs[i]? = some (k, v) → valV kvs k = some v)
    (h0 : σ[i]? = some (some (.ref a))) (h1 : ∀ v, ((wipe σ [j]).set j (some v))[i]? = some (some (.ref a))) (h2 : ∀ v, ((wipe σ [j]).set j (some v))[j]? = some (some v)) (h3 : ∀ v, wipe ((wipe σ [j]).set j (some v)) [j] = wipe σ [j])
    (q : ∀ L H', Fresh H L → H' L = some (.lst (kvs.map (·.2))) → Keep [] H H' → Q (.ref L) H') : tLockE (tLc (iKeys (tVar i)) (gName j) tYes (tOp (rIxx K) (tVar i) (tVar j)) [j]) σ H Q := by
  refine ⟨a, .dK kvs, h, trivial, fun od => ?_⟩
  refine k_lc ?_
  refine ⟨.ref a, h0, a, od, rfl, .inl ⟨kvs, upd_same, fun L fL => ?_⟩⟩
  obtain ⟨nL, fL'⟩ := upd_none fL
  refine lc_it (walk_keys (d := a) (o := od) (kvs := kvs)) (fun m H' => H' = upd (upd H a (.frz od (.dK kvs))) L (.lst ((kvs.map (·.2)).take m))) rfl ?_ ?_ ?_
  · rintro m H' _ rfl
    exact get_ne (Ne.symm nL) upd_same
  · rintro m x H1 H' hm rfl ⟨rfl, k, v, e, rfl⟩
    refine k_gname rfl ⟨h3 _, ?_⟩
    refine k_yes ?_
    rw [if_pos rfl]
    refine k_op (k_var (h1 _) (k_var (h2 _) ?_))
    refine .inr ⟨a, v, rfl, .inl ⟨kvs, k, .inr ⟨od, get_ne (Ne.symm nL) upd_same⟩, rfl, (g m k v e).symm⟩, ?_⟩
    refine ⟨(kvs.map (·.2)).take m, upd_same, small1000 (Nat.le_of_lt (by rw [List.length_take]; omega)), ?_⟩
    show upd (upd _ L _) L _ = upd _ L _
    have e2 : (kvs.map (·.2))[m]? = some v := by rw [List.getElem?_map, e]; rfl
    rw [List.take_add_one, e2]
    funext b
    by_cases hb : b = L
    · subst hb; rw [upd_same, upd_same]; rfl
    · rw [upd_ne hb, upd_ne hb, upd_ne hb]
  · rintro H' rfl
    refine ⟨get_ne (Ne.symm nL) upd_same, ?_⟩
    rw [show (kvs.map (·.2)).take kvs.length = kvs.map (·.2) from List.take_of_length_le (by simp)]
    refine q L _ fL' (get_ne nL upd_same) (fun b o _ e => ?_)
    by_cases hb : b = a
    · subst hb; rw [upd_same, ← h, e]
    · have nb : b ≠ L := ne_of_none e fL'
      rw [upd_ne hb, upd_ne nb, upd_ne hb, e]
end
end Cf

/-! mirrors: values as plain data, defs as transformers of wishes -/
namespace Mi
open PySem L2 PySem.Spec PyProof.Rows
open Cf (Fresh)
/-! ## plain data -/
inductive D where
  | non | bl (b : Bool) | int (i : Int) | str (s : Str) | lst (ds : List D) | tup (ds : List D)
  | dic (ks : List Key) (ds : List D) | obj (c : Str) (ns : List Str) (ds : List D) | xd (ns : List Str) (ds : List D)
abbrev CT := Str → Option Addr
mutual
inductive Is (K : PySem.W.Frag) (C : CT) (G : Hp) : V → D → Prop
  | non : Is K C G .non .non
  | bl (b : Bool) : Is K C G (.bl b) (.bl b)
  | int (i : Int) : Is K C G (.int i) (.int i)
  | str (x : Str) : Is K C G (.str x) (.str x)
  | lst {a : Addr} {xs : List V} {ds : List D} (h : G a = some (.lst xs)) (l : xs.length ≤ 1000000) (t : IsL K C G xs ds) : Is K C G (.ref a) (.lst ds)
  | tup {a : Addr} {xs : List V} {ds : List D} (h : SqT K G a xs) (l : xs.length ≤ 1000000) (t : IsL K C G xs ds) : Is K C G (.ref a) (.tup ds)
  | dic {a : Addr} {kvs : List (Key × V)} {ds : List D} (h : G a = some (.dK kvs)) (n : (kvs.map (·.1)).Nodup) (t : IsL K C G (kvs.map (·.2)) ds) : Is K C G (.ref a) (.dic (kvs.map (·.1)) ds)
  | obj {a A dx : Addr} {fs : List (Str × V)} {ds : List D} {c : Str} (h : G a = some (.ins A dx fs)) (hc : C c = some A) (t : IsL K C G (fs.map (·.2)) ds) : Is K C G (.ref a) (.obj c (fs.map (·.1)) ds)
  | xd {a : Addr} {fs : List (Str × V)} {ds : List D} (h : G a = some (.xd fs)) (t : IsL K C G (fs.map (·.2)) ds) : Is K C G (.ref a) (.xd (fs.map (·.1)) ds)
inductive IsL (K : PySem.W.Frag) (C : CT) (G : Hp) : List V → List D → Prop
  | nil : IsL K C G [] []
  | cons {v : V} {vs : List V} {d : D} {ds : List D} (h : Is K C G v d) (t : IsL K C G vs ds) : IsL K C G (v :: vs) (d :: ds)
end
/-- part of a heap -/
def Sub (G H : Hp) : Prop := ∀ b o, G b = some o → H b = some o
/-- two parts without a common place -/
def Dis (A B : Hp) : Prop := ∀ b, A b = none ∨ B b = none
section
variable {K : PySem.W.Frag} {C : CT} {G G' H H' A B F W : Hp}
theorem Sub.refl (H : Hp) : Sub H H := fun _ _ h => h
theorem Sub.trans (a : Sub G H) (b : Sub H H') : Sub G H' := fun c o h => b c o (a c o h)
theorem Sub.free (a : Sub G H) {p : Addr} (h : Fresh H p) : G p = none := by
  have h : H p = none := h
  cases e : G p with
  | none => rfl
  | some o => rw [a p o e] at h; cases h
theorem Sub.new (a : Sub G H) {p : Addr} {o : HO} (h : Fresh H p) : Sub G (upd H p o) := fun b u e => by
  have n : b ≠ p := fun z => by rw [z, a.free h] at e; cases e
  rw [upd_ne n]; exact a b u e
theorem Sub.upd (a : Sub G H) {p : Addr} {o : HO} : Sub (L2.upd G p o) (L2.upd H p o) := fun b u e => by
  by_cases h : b = p
  · rw [h, upd_same] at e ⊢; exact e
  · rw [upd_ne h] at e ⊢; exact a b u e
theorem Sub.self {p : Addr} {o : HO} (h : G p = none) : Sub G (L2.upd G p o) := fun b u e => by
  have n : b ≠ p := fun z => by rw [z, h] at e; cases e
  rw [upd_ne n]; exact e
theorem Dis.symm (h : Dis A B) : Dis B A := fun b => (h b).symm
theorem Dis.new (h : Dis A B) {p : Addr} {o : HO} (hb : B p = none) : Dis (L2.upd A p o) B := fun b => by
  by_cases e : b = p
  · right; rw [e]; exact hb
  · rw [upd_ne e]; exact h b
theorem Dis.less (h : Dis A B) (s : Sub G A) : Dis G B := fun b => by
  rcases h b with h | h
  · left
    cases e : G b with
    | none => rfl
    | some o => rw [s b o e] at h; cases h
  · exact .inr h
theorem sqL_mono (k : Sub G G') {p : Addr} {xs : List V} (h : SqL K G p xs) : SqL K G' p xs := by
  rcases h with h | h
  · rcases h with h | ⟨o, h⟩
    · exact .inl (.inl (k _ _ h))
    · exact .inl (.inr ⟨o, k _ _ h⟩)
  · exact .inr h
theorem sqT_mono (k : Sub G G') {p : Addr} {xs : List V} (h : SqT K G p xs) : SqT K G' p xs := by
  rcases h with h | h
  · rcases h with h | ⟨o, h⟩
    · exact .inl (.inl (k _ _ h))
    · exact .inl (.inr ⟨o, k _ _ h⟩)
  · exact .inr h
mutual
theorem Is.mono (k : Sub G G') : ∀ {v : V} {d : D}, Is K C G v d → Is K C G' v d
  | _, _, .non => .non
  | _, _, .bl b => .bl b
  | _, _, .int b => .int b
  | _, _, .str b => .str b
  | _, _, .lst h l t => .lst (k _ _ h) l (IsL.mono k t)
  | _, _, .tup h l t => .tup (sqT_mono k h) l (IsL.mono k t)
  | _, _, .dic h n t => .dic (k _ _ h) n (IsL.mono k t)
  | _, _, .obj h n t => .obj (k _ _ h) n (IsL.mono k t)
  | _, _, .xd h t => .xd (k _ _ h) (IsL.mono k t)
theorem IsL.mono (k : Sub G G') : ∀ {vs : List V} {ds : List D}, IsL K C G vs ds → IsL K C G' vs ds
  | _, _, .nil => .nil
  | _, _, .cons h t => .cons (Is.mono k h) (IsL.mono k t)
end
theorem IsL.len : ∀ {vs : List V} {ds : List D}, IsL K C G vs ds → vs.length = ds.length
  | _, _, .nil => rfl
  | _, _, .cons _ t => by rw [List.length_cons, List.length_cons, IsL.len t]
theorem IsL.get : ∀ {vs : List V} {ds : List D} {i : Nat} {v : V}, IsL K C G vs ds → vs[i]? = some v → ∃ d, ds[i]? = some d ∧ Is K C G v d := by
  intro vs
  induction vs with
  | nil => intro ds i v h e; simp at e
  | cons w vs ih =>
    intro ds i v h e
    cases h with
    | cons h t =>
      cases i with
      | zero => cases e; exact ⟨_, rfl, h⟩
      | succ i =>
        obtain ⟨d, e1, e2⟩ := ih t (show vs[i]? = some v from e)
        exact ⟨d, e1, e2⟩
theorem IsL.get' : ∀ {ds : List D} {vs : List V} {i : Nat} {d : D}, IsL K C G vs ds → ds[i]? = some d → ∃ v, vs[i]? = some v ∧ Is K C G v d := by
  intro ds vs i d h e
  have hl := h.len
  have hi : i < ds.length := (List.getElem?_eq_some_iff.mp e).1
  have hv : vs[i]? = some vs[i] := List.getElem?_eq_getElem (by omega)
  obtain ⟨d', e1, e2⟩ := h.get hv
  rw [e] at e1
  cases e1
  exact ⟨_, hv, e2⟩
theorem IsL.app : ∀ {vs : List V} {ds : List D} {ws : List V} {es : List D}, IsL K C G vs ds → IsL K C G ws es → IsL K C G (vs ++ ws) (ds ++ es)
  | _, _, _, _, .nil, h => h
  | _, _, _, _, .cons h t, k => .cons h (IsL.app t k)
theorem IsL.put {vs : List V} {ds : List D} {v : V} {d : D} (t : IsL K C G vs ds) (h : Is K C G v d) : IsL K C G (vs ++ [v]) (ds ++ [d]) := t.app (.cons h .nil)
theorem IsL.drop : ∀ (n : Nat) {vs : List V} {ds : List D}, IsL K C G vs ds → IsL K C G (vs.drop n) (ds.drop n)
  | 0, _, _, h => h
  | n + 1, _, _, .nil => .nil
  | n + 1, _, _, .cons _ t => IsL.drop n t
theorem IsL.take : ∀ (n : Nat) {vs : List V} {ds : List D}, IsL K C G vs ds → IsL K C G (vs.take n) (ds.take n)
  | 0, _, _, h => .nil
  | n + 1, _, _, .nil => .nil
  | n + 1, _, _, .cons h t => .cons h (IsL.take n t)
theorem IsL.set : ∀ (n : Nat) {vs : List V} {ds : List D} {v : V} {d : D}, IsL K C G vs ds → Is K C G v d → IsL K C G (vs.set n v) (ds.set n d)
  | _, _, _, _, _, .nil, _ => .nil
  | 0, _, _, _, _, .cons _ t, h => .cons h t
  | n + 1, _, _, _, _, .cons q t, h => .cons q (IsL.set n t h)
end
/-! ## types as data -/
class Enc (α : Type) where
  enc : α → D
open Enc (enc)
/-- a tuple of things of one kind -/
structure Tp (α : Type) where
  l : List α
structure T3 (α β γ : Type) where
  a : α
  b : β
  c : γ
structure T4 (α β γ δ : Type) where
  a : α
  b : β
  c : γ
  d : δ
/-- a written list of two, of three things -/
structure L1 (α : Type) where
  a : α
structure L2' (α β : Type) where
  a : α
  b : β
structure L3 (α β γ : Type) where
  a : α
  b : β
  c : γ
structure L4 (α β γ δ : Type) where
  a : α
  b : β
  c : γ
  d : δ
/-- a dict -/
structure Dc (κ α : Type) where
  l : List (κ × α)
instance : Enc D := ⟨id⟩
instance : Enc Int := ⟨.int⟩
instance : Enc Bool := ⟨.bl⟩
instance : Enc Str := ⟨.str⟩
instance : Enc Unit := ⟨fun _ => .non⟩
instance {α : Type} [Enc α] : Enc (Option α) := ⟨fun o => match o with | none => .non | some a => enc a⟩
instance {α : Type} [Enc α] : Enc (List α) := ⟨fun l => .lst (l.map enc)⟩
instance {α : Type} [Enc α] : Enc (Tp α) := ⟨fun l => .tup (l.l.map enc)⟩
instance {α β : Type} [Enc α] [Enc β] : Enc (α × β) := ⟨fun p => .tup [enc p.1, enc p.2]⟩
instance {α β γ : Type} [Enc α] [Enc β] [Enc γ] : Enc (T3 α β γ) := ⟨fun p => .tup [enc p.a, enc p.b, enc p.c]⟩
instance {α β γ δ : Type} [Enc α] [Enc β] [Enc γ] [Enc δ] : Enc (T4 α β γ δ) := ⟨fun p => .tup [enc p.a, enc p.b, enc p.c, enc p.d]⟩
instance {α : Type} [Enc α] : Enc (L1 α) := ⟨fun p => .lst [enc p.a]⟩
instance {α β : Type} [Enc α] [Enc β] : Enc (L2' α β) := ⟨fun p => .lst [enc p.a, enc p.b]⟩
instance {α β γ : Type} [Enc α] [Enc β] [Enc γ] : Enc (L3 α β γ) := ⟨fun p => .lst [enc p.a, enc p.b, enc p.c]⟩
instance {α β γ δ : Type} [Enc α] [Enc β] [Enc γ] [Enc δ] : Enc (L4 α β γ δ) := ⟨fun p => .lst [enc p.a, enc p.b, enc p.c, enc p.d]⟩
/-! ## wishes -/
structure Exn where
  cls : Str
  ns : List Str
  ds : List D
abbrev M (α : Type) := (α → Prop) → (Exn → Prop) → Prop
def mr {α : Type} (a : α) : M α := fun post _ => post a
def mb {α β : Type} (m : M α) (k : α → M β) : M β := fun post px => m (fun a => k a post px) px
def mx {α : Type} (e : Exn) : M α := fun _ px => px e
def mstuck {α : Type} : M α := fun _ _ => False
/-- asked: c -/
def mreq {α : Type} (c : Prop) (m : M α) : M α := fun post px => c ∧ m post px
def mite {α : Type} (m : M Bool) (a b : M α) : M α := mb m fun c => if c = true then a else b
def mdraw (n : Int) : M Int := fun post _ => 0 < n ∧ n.natAbs.log2 < 9000 ∧ ∀ d, 0 ≤ d → d < n → post d
/-- a loop's turn: on, broken off, the def's end -/
inductive Stp (γ ρ : Type) where
  | next (c : γ)
  | brk (c : γ)
  | ret (r : ρ)
def forR {α γ ρ : Type} : List α → γ → (α → γ → M (Stp γ ρ)) → M (γ ⊕ ρ)
  | [], c, _ => mr (.inl c)
  | x :: xs, c, f => mb (f x c) fun s => match s with
    | .next c' => forR xs c' f
    | .brk c' => mr (.inl c')
    | .ret r => mr (.inr r)
def forM {α γ : Type} : List α → γ → (α → γ → M γ) → M γ
  | [], c, _ => mr c
  | x :: xs, c, f => mb (f x c) fun c' => forM xs c' f
def mapM {α β : Type} (f : α → M β) : List α → M (List β)
  | [] => mr []
  | x :: xs => mb (f x) fun y => mb (mapM f xs) fun ys => mr (y :: ys)
/-! ## a point of a def's run -/
inductive Cell (K : PySem.W.Frag) (C : CT) (G : Hp) : HO → D → Prop
  | lst {xs : List V} {ds : List D} (l : xs.length ≤ 1000000) (t : IsL K C G xs ds) : Cell K C G (.lst xs) (.lst ds)
  | dic {kvs : List (Key × V)} {ds : List D} (n : (kvs.map (·.1)).Nodup) (t : IsL K C G (kvs.map (·.2)) ds) : Cell K C G (.dK kvs) (.dic (kvs.map (·.1)) ds)
  | obj {A dx : Addr} {fs : List (Str × V)} {ds : List D} {c : Str} (hc : C c = some A) (t : IsL K C G (fs.map (·.2)) ds) : Cell K C G (.ins A dx fs) (.obj c (fs.map (·.1)) ds)
theorem Cell.mono {K : PySem.W.Frag} {C : CT} {G G' : Hp} (k : Sub G G') {o : HO} {d : D} (h : Cell K C G o d) : Cell K C G' o d := by
  cases h with
  | lst l t => exact .lst l (t.mono k)
  | dic n t => exact .dic n (t.mono k)
  | obj hc t => exact .obj hc (t.mono k)
structure Zx where
  K : PySem.W.Frag
  C : CT
  R : Hp → Prop
  G0 : Hp
  F0 : Hp
  E : XK
structure PtS (Z : Zx) (L : List (V × D)) (O : List (Addr × D)) (H G F W : Hp) : Prop where
  g0 : Sub Z.G0 G
  f0 : Sub Z.F0 F
  g : Sub G H
  f : Sub F H
  w : Sub W H
  gf : Dis G F
  gw : Dis G W
  fw : Dis F W
  r : Z.R W
  l : ∀ x ∈ L, Is Z.K Z.C G x.1 x.2
  o : ∀ x ∈ O, ∃ ho, F x.1 = some ho ∧ Z.F0 x.1 = none ∧ Cell Z.K Z.C G ho x.2
  nd : (O.map (·.1)).Nodup
def Pt (Z : Zx) (L : List (V × D)) (O : List (Addr × D)) (H : Hp) : Prop := ∃ G F W, PtS Z L O H G F W
/-- an error in the air -/
def Ex (K : PySem.W.Frag) (C : CT) (G : Hp) (c : Value) (d : Option Addr) (e : Exn) : Prop := ∃ A dd fs, c = .ref A ∧ C e.cls = some A ∧ d = some dd ∧ G dd = some (.xd fs) ∧ fs.map (·.1) = e.ns ∧ IsL K C G (fs.map (·.2)) e.ds
def PtX (Z : Zx) (H : Hp) (c : Value) (d : Option Addr) (e : Exn) : Prop := ∃ G F W, PtS Z [] [] H G F W ∧ Ex Z.K Z.C G c d e
def HX (Z : Zx) (px : Exn → Prop) : Prop := ∀ e c d H', PtX Z H' c d e → px e → Z.E c d H'
section
variable {Z : Zx} {L L' : List (V × D)} {O O' : List (Addr × D)} {H : Hp}
theorem Pt.less (h : Pt Z L O H) (s : ∀ x ∈ L', x ∈ L) : Pt Z L' O H := by
  obtain ⟨G, F, W, h⟩ := h
  exact ⟨G, F, W, { h with l := fun x hx => h.l x (s x hx) }⟩
theorem Pt.lessO (h : Pt Z L O H) (s : List.Sublist O' O) : Pt Z L O' H := by
  obtain ⟨G, F, W, h⟩ := h
  exact ⟨G, F, W, { h with o := fun x hx => h.o x (s.subset hx), nd := h.nd.sublist (s.map _) }⟩
/-- a new thing that stays as it is -/
theorem Pt.new (h : Pt Z L O H) {p : Addr} {o : HO} {d : D} (hp : Fresh H p) (hd : ∀ G, (∀ x ∈ L, Is Z.K Z.C G x.1 x.2) → G p = none → Is Z.K Z.C (upd G p o) (.ref p) d) : Pt Z ((.ref p, d) :: L) O (upd H p o) := by
  obtain ⟨G, F, W, h⟩ := h
  have hG := h.g.free hp
  refine ⟨upd G p o, F, W, ⟨h.g0.trans (.self hG), h.f0, h.g.upd, h.f.new hp, h.w.new hp, h.gf.new (h.f.free hp), h.gw.new (h.w.free hp), h.fw, h.r, fun x hx => ?_, fun x hx => ?_, h.nd⟩⟩
  · rcases List.mem_cons.mp hx with e | e
    · rw [e]; exact hd G h.l hG
    · exact (h.l x e).mono (.self hG)
  · obtain ⟨ho, e1, e2, e3⟩ := h.o x hx
    exact ⟨ho, e1, e2, e3.mono (.self hG)⟩
/-- a new thing of one's own -/
theorem Pt.own (h : Pt Z L O H) {p : Addr} {o : HO} {d : D} (hp : Fresh H p) (hd : ∀ G, (∀ x ∈ L, Is Z.K Z.C G x.1 x.2) → Cell Z.K Z.C G o d) : Pt Z L ((p, d) :: O) (upd H p o) := by
  obtain ⟨G, F, W, h⟩ := h
  have hF := h.f.free hp
  refine ⟨G, upd F p o, W, ⟨h.g0, h.f0.trans (.self hF), h.g.new hp, h.f.upd, h.w.new hp, (h.gf.symm.new (h.g.free hp)).symm, h.gw, h.fw.new (h.w.free hp), h.r, h.l, fun x hx => ?_, ?_⟩⟩
  · rcases List.mem_cons.mp hx with e | e
    · rw [e]; exact ⟨o, upd_same, h.f0.free hF, hd G h.l⟩
    · obtain ⟨ho, e1, e2, e3⟩ := h.o x e
      refine ⟨ho, ?_, e2, e3⟩
      have n : x.1 ≠ p := fun z => by rw [z, hF] at e1; cases e1
      show upd F p o x.1 = some ho
      rw [upd_ne n]; exact e1
  · refine List.nodup_cons.mpr ⟨fun z => ?_, h.nd⟩
    obtain ⟨x, hx, e⟩ := List.mem_map.mp z
    obtain ⟨ho, e1, _, _⟩ := h.o x hx
    rw [show x.1 = p from e, hF] at e1
    cases e1
/-- p's entry among one's own, and the entries with another datum there -/
inductive Up (p : Addr) (d d' : D) : List (Addr × D) → List (Addr × D) → Prop
  | hd {O : List (Addr × D)} : Up p d d' ((p, d) :: O) ((p, d') :: O)
  | tl {O O' : List (Addr × D)} {x : Addr × D} (h : Up p d d' O O') : Up p d d' (x :: O) (x :: O')
theorem Up.mem {p : Addr} {d d' : D} (h : Up p d d' O O') : (p, d) ∈ O := by
  induction h with
  | hd => exact List.mem_cons_self
  | tl _ ih => exact List.mem_cons_of_mem _ ih
theorem Up.addrs {p : Addr} {d d' : D} (h : Up p d d' O O') : O'.map (·.1) = O.map (·.1) := by
  induction h with
  | hd => rfl
  | tl _ ih => rw [List.map_cons, List.map_cons, ih]
theorem Up.cases {p : Addr} {d d' : D} (h : Up p d d' O O') (n : (O.map (·.1)).Nodup) : ∀ x ∈ O', (x = (p, d')) ∨ (x.1 ≠ p ∧ x ∈ O) := by
  induction h with
  | hd =>
    rename_i O1
    intro x hx
    have n1 := (List.nodup_cons.mp n).1
    rcases List.mem_cons.mp hx with e | e
    · exact .inl e
    · exact .inr ⟨fun z => n1 (List.mem_map.mpr ⟨x, e, z⟩), List.mem_cons_of_mem _ e⟩
  | tl h ih =>
    rename_i O1 O2 y
    obtain ⟨n1, n2⟩ := List.nodup_cons.mp n
    intro x hx
    rcases List.mem_cons.mp hx with e | e
    · refine .inr ⟨fun z => n1 ?_, by rw [e]; exact List.mem_cons_self⟩
      rw [e] at z
      exact List.mem_map.mpr ⟨_, h.mem, z.symm⟩
    · rcases ih n2 x e with q | ⟨q1, q2⟩
      · exact .inl q
      · exact .inr ⟨q1, List.mem_cons_of_mem _ q2⟩
/-- one's own thing is changed -/
theorem Pt.put (h : Pt Z L O H) {p : Addr} {o : HO} {d d' : D} (u : Up p d d' O O') (hd : ∀ G, (∀ x ∈ L, Is Z.K Z.C G x.1 x.2) → ∀ ho, H p = some ho → Cell Z.K Z.C G ho d → Cell Z.K Z.C G o d') : Pt Z L O' (upd H p o) := by
  obtain ⟨G, F, W, h⟩ := h
  obtain ⟨ho, e1, e2, e3⟩ := h.o _ u.mem
  have e1 : F p = some ho := e1
  have gp : G p = none := (h.gf p).resolve_right (fun z => by rw [z] at e1; cases e1)
  have wp : W p = none := (h.fw p).resolve_left (fun z => by rw [z] at e1; cases e1)
  have kp : ∀ {A : Hp}, A p = none → Sub A H → Sub A (upd H p o) := fun {A} hA s b q e => by
    have n : b ≠ p := fun z => by rw [z, hA] at e; cases e
    rw [upd_ne n]; exact s b q e
  refine ⟨G, upd F p o, W, ⟨h.g0, fun b q e => ?_, kp gp h.g, h.f.upd, kp wp h.w, (h.gf.symm.new gp).symm, h.gw, h.fw.new wp, h.r, h.l, fun x hx => ?_, by rw [u.addrs]; exact h.nd⟩⟩
  · have n : b ≠ p := fun z => by rw [z, show Z.F0 p = none from e2] at e; cases e
    rw [upd_ne n]; exact h.f0 b q e
  · rcases u.cases h.nd x hx with q | ⟨q1, q2⟩
    · rw [q]; exact ⟨o, upd_same, e2, hd G h.l ho (h.f _ _ e1) e3⟩
    · obtain ⟨h1, h2, h3, h4⟩ := h.o x q2
      exact ⟨h1, by rw [upd_ne q1]; exact h2, h3, h4⟩
/-- what stands at one's own place -/
theorem Pt.at (h : Pt Z L O H) {p : Addr} {d : D} (m : (p, d) ∈ O) : ∃ ho G, H p = some ho ∧ Cell Z.K Z.C G ho d ∧ (∀ x ∈ L, Is Z.K Z.C G x.1 x.2) ∧ Sub G H := by
  obtain ⟨G, F, W, h⟩ := h
  obtain ⟨ho, e1, e2, e3⟩ := h.o _ m
  exact ⟨ho, G, h.f _ _ e1, e3, h.l, h.g⟩
theorem Pt.is (h : Pt Z L O H) {v : V} {d : D} (m : (v, d) ∈ L) : Is Z.K Z.C H v d := by
  obtain ⟨G, F, W, h⟩ := h
  exact (h.l _ m).mono h.g
def del (F : Hp) (p : Addr) : Hp := fun b => if b = p then none else F b
theorem del_ne {F : Hp} {p b : Addr} (h : b ≠ p) : del F p b = F b := by unfold del; rw [if_neg h]
theorem del_same {F : Hp} {p : Addr} : del F p p = none := by unfold del; rw [if_pos rfl]
theorem del_sub {F : Hp} {p : Addr} : Sub (del F p) F := fun b o e => by
  by_cases h : b = p
  · rw [h, del_same] at e; cases e
  · rw [del_ne h] at e; exact e
inductive Sel (p : Addr) (d : D) : List (Addr × D) → List (Addr × D) → Prop
  | hd {O : List (Addr × D)} : Sel p d ((p, d) :: O) O
  | tl {O O' : List (Addr × D)} {x : Addr × D} (h : Sel p d O O') : Sel p d (x :: O) (x :: O')
theorem Sel.mem {p : Addr} {d : D} (h : Sel p d O O') : (p, d) ∈ O := by
  induction h with
  | hd => exact List.mem_cons_self
  | tl _ ih => exact List.mem_cons_of_mem _ ih
theorem Sel.sub {p : Addr} {d : D} (h : Sel p d O O') : List.Sublist O' O := by
  induction h with
  | hd => exact List.sublist_cons_self _ _
  | tl _ ih => exact ih.cons_cons _
theorem Sel.ne {p : Addr} {d : D} (h : Sel p d O O') (n : (O.map (·.1)).Nodup) : ∀ x ∈ O', x.1 ≠ p := by
  induction h with
  | hd =>
    intro x hx z
    exact (List.nodup_cons.mp n).1 (List.mem_map.mpr ⟨x, hx, z⟩)
  | tl h ih =>
    obtain ⟨n1, n2⟩ := List.nodup_cons.mp n
    intro x hx
    rcases List.mem_cons.mp hx with e | e
    · rw [e]; intro z
      exact n1 (List.mem_map.mpr ⟨_, h.mem, z.symm⟩)
    · exact ih n2 x e
theorem Cell.is {K : PySem.W.Frag} {C : CT} {G : Hp} {p : Addr} {o : HO} {d : D} (h : Cell K C G o d) (e : G p = some o) : Is K C G (.ref p) d := by
  cases h with
  | lst l t => exact .lst e l t
  | dic n t => exact .dic e n t
  | obj hc t => exact .obj e hc t
/-- one's own thing is handed on: it stays as it is from here on -/
theorem Pt.freeze (h : Pt Z L O H) {p : Addr} {d : D} (u : Sel p d O O') : Pt Z ((.ref p, d) :: L) O' H := by
  obtain ⟨G, F, W, h⟩ := h
  obtain ⟨ho, e1, e2, e3⟩ := h.o _ u.mem
  have e1 : F p = some ho := e1
  have gp : G p = none := (h.gf p).resolve_right (fun z => by rw [z] at e1; cases e1)
  have wp : W p = none := (h.fw p).resolve_left (fun z => by rw [z] at e1; cases e1)
  have sg : Sub G (upd G p ho) := .self gp
  refine ⟨upd G p ho, del F p, W, ⟨h.g0.trans sg, fun b q e => ?_, fun b q e => ?_, del_sub.trans h.f, h.w, fun b => ?_, h.gw.new wp, h.fw.less del_sub, h.r, fun x hx => ?_, fun x hx => ?_, h.nd.sublist (u.sub.map _)⟩⟩
  · have n : b ≠ p := fun z => by rw [z, show Z.F0 p = none from e2] at e; cases e
    rw [del_ne n]; exact h.f0 b q e
  · by_cases z : b = p
    · rw [z, upd_same] at e; rw [z, ← e]; exact h.f _ _ e1
    · rw [upd_ne z] at e; exact h.g b q e
  · by_cases z : b = p
    · right; rw [z, del_same]
    · rw [upd_ne z, del_ne z]; exact h.gf b
  · rcases List.mem_cons.mp hx with e | e
    · rw [e]; exact (e3.mono sg).is upd_same
    · exact (h.l x e).mono sg
  · obtain ⟨h1, h2, h3, h4⟩ := h.o x (u.sub.subset hx)
    exact ⟨h1, by rw [del_ne (u.ne h.nd x hx)]; exact h2, h3, h4.mono sg⟩
end
end Mi

/-! expressions -/
namespace Mi
open Enc (enc)
open PySem L2 PySem.Spec PyProof.Rows
open Cf (Fresh)
section
variable {Z : Zx} {L : List (V × D)} {O : List (Addr × D)} {σ : L2.St} {α β δ γ : Type} [Enc α] [Enc β] [Enc δ]
/-- the expression read as t gives what m says -/
def EV (Z : Zx) (L : List (V × D)) (O : List (Addr × D)) (t : TE) (σ : L2.St) (m : M α) : Prop :=
  ∀ (L1 : List (V × D)) (H : Hp) (post : α → Prop) (px : Exn → Prop) (Q : VK), (∀ x ∈ L, x ∈ L1) → Pt Z L1 O H → HX Z px → m post px →
    (∀ (a : α) (v : V) (H' : Hp), Pt Z ((v, enc a) :: L1) O H' → post a → Q v H') → t σ H Q
/-- a test -/
def ET (Z : Zx) (L : List (V × D)) (O : List (Addr × D)) (t : TT) (σ : L2.St) (m : M Bool) : Prop :=
  ∀ (L1 : List (V × D)) (H : Hp) (post : Bool → Prop) (px : Exn → Prop) (Q : Bool → Hp → Prop), (∀ x ∈ L, x ∈ L1) → Pt Z L1 O H → HX Z px → m post px →
    (∀ (a : Bool) (H' : Hp), Pt Z L1 O H' → post a → Q a H') → t σ H Q
theorem sub_cons {α : Type} {L : List α} {L1 : List α} {x : α} (s : ∀ y ∈ L, y ∈ L1) : ∀ y ∈ L, y ∈ x :: L1 := fun y h => List.mem_cons_of_mem _ (s y h)
theorem sub_refl' {α : Type} {L : List α} : ∀ y ∈ L, y ∈ L := fun _ h => h
theorem Pt.add (h : Pt Z L O H) {v : V} {d : D} (hd : ∀ G, (∀ x ∈ L, Is Z.K Z.C G x.1 x.2) → Is Z.K Z.C G v d) : Pt Z ((v, d) :: L) O H := by
  obtain ⟨G, F, W, h⟩ := h
  exact ⟨G, F, W, { h with l := fun x hx => by rcases List.mem_cons.mp hx with e | e; (· rw [e]; exact hd G h.l); (· exact h.l x e) }⟩
theorem Pt.tail {x : V × D} (h : Pt Z (x :: L) O H) : Pt Z L O H := h.less fun y hy => List.mem_cons_of_mem _ hy
theorem Pt.hd {v : V} {d : D} (h : Pt Z ((v, d) :: L) O H) : Is Z.K Z.C H v d := h.is List.mem_cons_self
theorem Pt.hd2 {x : V × D} {v : V} {d : D} (h : Pt Z (x :: (v, d) :: L) O H) : Is Z.K Z.C H v d := h.is (List.mem_cons_of_mem _ List.mem_cons_self)
theorem EV.less {L' : List (V × D)} {t : TE} {m : M α} (e : EV Z L' O t σ m) (s : ∀ x ∈ L', x ∈ L) : EV Z L O t σ m := fun L1 H post px Q hs hp hx hm k => e L1 H post px Q (fun x h => hs x (s x h)) hp hx hm k
theorem EV.var {i : Nat} {v : V} {a : α} (h : σ[i]? = some (some v)) (m : (v, enc a) ∈ L) : EV Z L O (tVar i) σ (mr a) := fun L1 H post px Q s hp hx hm k =>
  ⟨v, h, k a v H (hp.less fun x hx => by rcases List.mem_cons.mp hx with e | e; (· rw [e]; exact s _ m); (· exact e)) hm⟩
theorem EV.int {i : Int} : EV Z L O (tC (.int i)) σ (mr i) := fun L1 H post px Q s hp hx hm k => k i _ H (hp.add fun G _ => .int i) hm
theorem EV.str {i : Str} : EV Z L O (tC (.str i)) σ (mr i) := fun L1 H post px Q s hp hx hm k => k i _ H (hp.add fun G _ => .str i) hm
theorem EV.bl {i : Bool} : EV Z L O (tC (.bl i)) σ (mr i) := fun L1 H post px Q s hp hx hm k => k i _ H (hp.add fun G _ => .bl i) hm
theorem EV.unit : EV Z L O (tC .non) σ (mr ()) := fun L1 H post px Q s hp hx hm k => k () _ H (hp.add fun G _ => .non) hm
theorem EV.optN : EV Z L O (tC .non) σ (mr (none : Option α)) := fun L1 H post px Q s hp hx hm k => k Option.none _ H (hp.add fun G _ => .non) hm
/-- a thing of another type with the same datum -/
theorem EV.as {t : TE} {m : M α} {m' : M β} (e : EV Z L O t σ m) (h : ∀ post px, m' post px → m (fun a => ∃ b : β, enc b = enc a ∧ post b) px) : EV Z L O t σ m' := fun L1 H post px Q s hp hx hm k =>
  e L1 H _ px Q s hp hx (h post px hm) fun a v H' hp' ⟨b, e1, hb⟩ => k b v H' (e1 ▸ hp') hb
theorem EV.asP {t : TE} {a : α} {b : β} (e : EV Z L O t σ (mr a)) (h : enc b = enc a) : EV Z L O t σ (mr b) := e.as fun post px hm => ⟨b, h, hm⟩
theorem EV.opt {t : TE} {a : α} (e : EV Z L O t σ (mr a)) : EV Z L O t σ (mr (Option.some a)) := e.asP rfl
theorem EV.optM {t : TE} {m : M α} (e : EV Z L O t σ m) : EV Z L O t σ (mb m fun a => mr (Option.some a)) := fun L1 H post px Q s hp hx hm k => e L1 H _ px Q s hp hx hm fun a v H' hp' hb => k (Option.some a) v H' hp' hb
/-- not None -/
def mget {α : Type} : Option α → M α
  | none => mstuck
  | some a => mr a
theorem EV.get {t : TE} {o : Option α} (e : EV Z L O t σ (mr o)) : EV Z L O t σ (mget o) := e.as fun post px hm => by
  cases o with
  | none => exact hm.elim
  | some a => exact ⟨a, rfl, hm⟩
theorem EV.getM {t : TE} {m : M (Option α)} (e : EV Z L O t σ m) : EV Z L O t σ (mb m mget) := fun L1 H post px Q s hp hx hm k => e L1 H _ px Q s hp hx hm fun o v H' hp' hb => by
  cases o with
  | none => exact hb.elim
  | some a => exact k a v H' hp' hb
/-- the datum itself -/
theorem EV.toD {t : TE} {a : α} (e : EV Z L O t σ (mr a)) : EV Z L O t σ (mr (enc a : D)) := e.asP rfl
theorem EV.toDM {t : TE} {m : M α} (e : EV Z L O t σ m) : EV Z L O t σ (mb m fun a => mr (enc a : D)) := fun L1 H post px Q s hp hx hm k => e L1 H _ px Q s hp hx hm fun a v H' hp' hb => k (enc a) v H' hp' hb
/-- an operator on values -/
def Ok2 (Z : Zx) (r : R2) (f : α → β → M δ) : Prop := ∀ (L : List (V × D)) (O : List (Addr × D)) (H : Hp) (a : α) (b : β) (x y : V) (post : δ → Prop) (px : Exn → Prop) (Q : VK),
  Pt Z ((y, enc b) :: (x, enc a) :: L) O H → HX Z px → f a b post px → (∀ (c : δ) (v : V) (H' : Hp), Pt Z ((v, enc c) :: L) O H' → post c → Q v H') → r x y H Q
theorem EV.op2 {r : R2} {f : α → β → M δ} {ta tb : TE} {m1 : M α} {m2 : M β} (o : Ok2 Z r f) (e1 : EV Z L O ta σ m1) (e2 : EV Z L O tb σ m2) : EV Z L O (tOp r ta tb) σ (mb m1 fun a => mb m2 fun b => f a b) := fun L1 H post px Q s hp hx hm k =>
  e1 L1 H _ px _ s hp hx hm fun a x H1 hp1 hm1 => e2 _ H1 _ px _ (sub_cons s) hp1 hx hm1 fun b y H2 hp2 hm2 => o L1 O H2 a b x y post px Q hp2 hx hm2 k
theorem EV.op2P {r : R2} {f : α → β → M δ} {ta tb : TE} {a : α} {b : β} (o : Ok2 Z r f) (e1 : EV Z L O ta σ (mr a)) (e2 : EV Z L O tb σ (mr b)) : EV Z L O (tOp r ta tb) σ (f a b) := EV.op2 o e1 e2
def Ok1 (Z : Zx) (r : V → Hp → VK → Prop) (f : α → M δ) : Prop := ∀ (L : List (V × D)) (O : List (Addr × D)) (H : Hp) (a : α) (x : V) (post : δ → Prop) (px : Exn → Prop) (Q : VK),
  Pt Z ((x, enc a) :: L) O H → HX Z px → f a post px → (∀ (c : δ) (v : V) (H' : Hp), Pt Z ((v, enc c) :: L) O H' → post c → Q v H') → r x H Q
theorem EV.un {r : V → Hp → VK → Prop} {f : α → M δ} {ta : TE} {m1 : M α} (o : Ok1 Z r f) (e1 : EV Z L O ta σ m1) : EV Z L O (tUn r ta) σ (mb m1 f) := fun L1 H post px Q s hp hx hm k =>
  e1 L1 H _ px _ s hp hx hm fun a x H1 hp1 hm1 => o L1 O H1 a x post px Q hp1 hx hm1 k
theorem EV.unP {r : V → Hp → VK → Prop} {f : α → M δ} {ta : TE} {a : α} (o : Ok1 Z r f) (e1 : EV Z L O ta σ (mr a)) : EV Z L O (tUn r ta) σ (f a) := EV.un (m1 := mr a) o e1
/-! ### tests -/
theorem ET.less {L' : List (V × D)} {t : TT} {m : M Bool} (e : ET Z L' O t σ m) (s : ∀ x ∈ L', x ∈ L) : ET Z L O t σ m := fun L1 H post px Q hs hp hx hm k => e L1 H post px Q (fun x h => hs x (s x h)) hp hx hm k
theorem ET.test {t : TE} {m : M Bool} (e : EV Z L O t σ m) : ET Z L O (tTest t) σ m := fun L1 H post px Q s hp hx hm k => e L1 H _ px _ s hp hx hm fun a v H' hp' hb => by
  have h := hp'.hd
  cases h
  exact ⟨a, rfl, k a H' hp'.tail hb⟩
theorem ET.tB {t : TE} {m : M Bool} (e : EV Z L O t σ m) : ET Z L O (tB t) σ m := ET.test e
theorem ET.tru {t : TE} {m : M Bool} (e : EV Z L O t σ m) : ET Z L O (Cf.tTru Z.K t) σ m := fun L1 H post px Q s hp hx hm k => e L1 H _ px _ s hp hx hm fun a v H' hp' hb => by
  have h := hp'.hd
  cases h
  exact ⟨a, rfl, k a H' hp'.tail hb⟩
theorem ET.truI {t : TE} {m : M Int} (e : EV Z L O t σ m) : ET Z L O (Cf.tTru Z.K t) σ (mb m fun a => mr (a != 0)) := fun L1 H post px Q s hp hx hm k => e L1 H _ px _ s hp hx hm fun a v H' hp' hb => by
  have h := hp'.hd
  cases h
  exact ⟨_, rfl, k _ H' hp'.tail hb⟩
def mand (m1 m2 : M Bool) : M Bool := mb m1 fun a => if a = true then m2 else mr false
def mor (m1 m2 : M Bool) : M Bool := mb m1 fun a => if a = true then mr true else m2
theorem ET.and {t u : TT} {m1 m2 : M Bool} (e1 : ET Z L O t σ m1) (e2 : ET Z L O u σ m2) : ET Z L O (tAnd t u) σ (mand m1 m2) := fun L1 H post px Q s hp hx hm k =>
  e1 L1 H _ px _ s hp hx hm fun a H1 hp1 hm1 => by
    cases a with
    | true => rw [if_pos rfl] at hm1 ⊢; exact e2 L1 H1 post px Q s hp1 hx hm1 k
    | false => rw [if_neg (by decide)] at hm1 ⊢; exact k false H1 hp1 hm1
theorem ET.or {t u : TT} {m1 m2 : M Bool} (e1 : ET Z L O t σ m1) (e2 : ET Z L O u σ m2) : ET Z L O (tOr t u) σ (mor m1 m2) := fun L1 H post px Q s hp hx hm k =>
  e1 L1 H _ px _ s hp hx hm fun a H1 hp1 hm1 => by
    cases a with
    | false => rw [if_neg (by decide)] at hm1 ⊢; exact e2 L1 H1 post px Q s hp1 hx hm1 k
    | true => rw [if_pos rfl] at hm1 ⊢; exact k true H1 hp1 hm1
theorem ET.andP {t u : TT} {a b : Bool} (e1 : ET Z L O t σ (mr a)) (e2 : ET Z L O u σ (mr b)) : ET Z L O (tAnd t u) σ (mr (a && b)) := fun L1 H post px Q s hp hx hm k =>
  ET.and e1 e2 L1 H post px Q s hp hx (by
    show (if a = true then mr b else mr false) post px
    cases a with
    | true => exact hm
    | false => exact hm) k
theorem ET.orP {t u : TT} {a b : Bool} (e1 : ET Z L O t σ (mr a)) (e2 : ET Z L O u σ (mr b)) : ET Z L O (tOr t u) σ (mr (a || b)) := fun L1 H post px Q s hp hx hm k =>
  ET.or e1 e2 L1 H post px Q s hp hx (by
    show (if a = true then mr true else mr b) post px
    cases a with
    | true => exact hm
    | false => exact hm) k
theorem ET.notP {t : TT} {a : Bool} (e1 : ET Z L O t σ (mr a)) : ET Z L O (tNot t) σ (mr (!a)) := fun L1 H post px Q s hp hx hm k =>
  e1 L1 H (fun c => post (!c)) px _ s hp hx hm fun a H1 hp1 hm1 => k (!a) H1 hp1 hm1
theorem ET.not {t : TT} {m : M Bool} (e1 : ET Z L O t σ m) : ET Z L O (tNot t) σ (mb m fun a => mr (!a)) := fun L1 H post px Q s hp hx hm k =>
  e1 L1 H _ px _ s hp hx hm fun a H1 hp1 hm1 => k (!a) H1 hp1 hm1
/-! ### tests as values -/
theorem EV.andV {ta tb : TE} {m1 m2 : M Bool} (e1 : EV Z L O ta σ m1) (e2 : EV Z L O tb σ m2) : EV Z L O (tAndV ta tb) σ (mand m1 m2) := fun L1 H post px Q s hp hx hm k =>
  e1 L1 H _ px _ s hp hx hm fun a v H1 hp1 hm1 => by
    have h := hp1.hd
    cases h
    refine ⟨a, rfl, ?_⟩
    cases a with
    | true => rw [if_pos rfl] at hm1 ⊢; exact e2 L1 H1 post px Q s hp1.tail hx hm1 k
    | false => rw [if_neg (by decide)] at hm1 ⊢; exact k false _ H1 hp1 hm1
theorem EV.orV {ta tb : TE} {m1 m2 : M Bool} (e1 : EV Z L O ta σ m1) (e2 : EV Z L O tb σ m2) : EV Z L O (tOrV ta tb) σ (mor m1 m2) := fun L1 H post px Q s hp hx hm k =>
  e1 L1 H _ px _ s hp hx hm fun a v H1 hp1 hm1 => by
    have h := hp1.hd
    cases h
    refine ⟨a, rfl, ?_⟩
    cases a with
    | false => rw [if_neg (by decide)] at hm1 ⊢; exact e2 L1 H1 post px Q s hp1.tail hx hm1 k
    | true => rw [if_pos rfl] at hm1 ⊢; exact k true _ H1 hp1 hm1
theorem EV.andVP {ta tb : TE} {a b : Bool} (e1 : EV Z L O ta σ (mr a)) (e2 : EV Z L O tb σ (mr b)) : EV Z L O (tAndV ta tb) σ (mr (a && b)) := fun L1 H post px Q s hp hx hm k =>
  EV.andV e1 e2 L1 H post px Q s hp hx (by
    show (if a = true then mr b else mr false) post px
    cases a with
    | true => exact hm
    | false => exact hm) k
theorem EV.orVP {ta tb : TE} {a b : Bool} (e1 : EV Z L O ta σ (mr a)) (e2 : EV Z L O tb σ (mr b)) : EV Z L O (tOrV ta tb) σ (mr (a || b)) := fun L1 H post px Q s hp hx hm k =>
  EV.orV e1 e2 L1 H post px Q s hp hx (by
    show (if a = true then mr true else mr b) post px
    cases a with
    | true => exact hm
    | false => exact hm) k
theorem EV.notV {ta : TE} {m1 : M Bool} (e1 : EV Z L O ta σ m1) : EV Z L O (tNotV ta) σ (mb m1 fun a => mr (!a)) := fun L1 H post px Q s hp hx hm k =>
  e1 L1 H _ px _ s hp hx hm fun a v H1 hp1 hm1 => by
    have h := hp1.hd
    cases h
    exact ⟨a, rfl, k (!a) _ H1 (hp1.tail.add fun G _ => .bl _) hm1⟩
theorem EV.notVP {ta : TE} {a : Bool} (e1 : EV Z L O ta σ (mr a)) : EV Z L O (tNotV ta) σ (mr (!a)) := EV.notV e1
theorem EV.ite {t : TT} {ta tb : TE} {m1 : M Bool} {m2 m3 : M α} (e1 : ET Z L O t σ m1) (e2 : EV Z L O ta σ m2) (e3 : EV Z L O tb σ m3) : EV Z L O (tIf t ta tb) σ (mite m1 m2 m3) := fun L1 H post px Q s hp hx hm k =>
  e1 L1 H _ px _ s hp hx hm fun a H1 hp1 hm1 => by
    cases a with
    | true => rw [if_pos rfl] at hm1 ⊢; exact e2 L1 H1 post px Q s hp1 hx hm1 k
    | false => rw [if_neg (by decide)] at hm1 ⊢; exact e3 L1 H1 post px Q s hp1 hx hm1 k
theorem EV.iteP {t : TT} {ta tb : TE} {c : Bool} {a b : α} (e1 : ET Z L O t σ (mr c)) (e2 : EV Z L O ta σ (mr a)) (e3 : EV Z L O tb σ (mr b)) : EV Z L O (tIf t ta tb) σ (mr (if c = true then a else b)) := fun L1 H post px Q s hp hx hm k =>
  EV.ite e1 e2 e3 L1 H post px Q s hp hx (by
    show (if c = true then mr a else mr b) post px
    cases c with
    | true => rw [if_pos rfl]; rw [if_pos rfl] at hm; exact hm
    | false => rw [if_neg (by decide)]; rw [if_neg (by decide)] at hm; exact hm) k
/-! ### arguments -/
/-- arguments without effect -/
def EA (Z : Zx) (L : List (V × D)) (O : List (Addr × D)) (t : TA) (σ : L2.St) (m : M γ) (ds : γ → List D) : Prop :=
  ∀ (L1 : List (V × D)) (H : Hp) (post : γ → Prop) (px : Exn → Prop) (Q : List V → Hp → Prop), (∀ x ∈ L, x ∈ L1) → Pt Z L1 O H → HX Z px → m post px →
    (∀ (g : γ) (vs : List V) (H' : Hp), vs.length = (ds g).length → Pt Z (vs.zip (ds g) ++ L1) O H' → post g → Q vs H') → t σ H Q
theorem EA.nil : EA Z L O tNil σ (mr ()) (fun _ => []) := fun L1 H post px Q s hp hx hm k => k () [] H rfl hp hm
theorem EA.cons {ta : TE} {tr : TA} {m1 : M α} {m2 : M γ} {ds : γ → List D} (e : EV Z L O ta σ m1) (r : EA Z L O tr σ m2 ds) : EA Z L O (tCons ta tr) σ (mb m1 fun a => mb m2 fun g => mr (a, g)) (fun g => enc g.1 :: ds g.2) := fun L1 H post px Q s hp hx hm k =>
  e L1 H _ px _ s hp hx hm fun a v H1 hp1 hm1 => r _ H1 _ px _ (sub_cons s) hp1 hx hm1 fun g vs H2 hl hp2 hm2 => k (a, g) (v :: vs) H2 (by simp [hl]) (hp2.less fun x hx => by
    rcases List.mem_cons.mp hx with e | e
    · rw [e]; exact List.mem_append_right _ List.mem_cons_self
    · rcases List.mem_append.mp e with e | e
      · exact List.mem_append_left _ e
      · exact List.mem_append_right _ (List.mem_cons_of_mem _ e)) hm2
theorem EA.consP {ta : TE} {tr : TA} {a : α} {g : γ} {ds : γ → List D} (e : EV Z L O ta σ (mr a)) (r : EA Z L O tr σ (mr g) ds) : EA Z L O (tCons ta tr) σ (mr (a, g)) (fun g => enc g.1 :: ds g.2) := EA.cons e r
theorem zip_is {K : PySem.W.Frag} {C : CT} {G : Hp} : ∀ {vs : List V} {ds : List D}, vs.length = ds.length → (∀ x ∈ vs.zip ds, Is K C G x.1 x.2) → IsL K C G vs ds
  | [], [], _, _ => .nil
  | v :: vs, d :: ds, h, k => .cons (k (v, d) List.mem_cons_self) (zip_is (by simpa using h) fun x hx => k x (List.mem_cons_of_mem _ hx))
  | [], _ :: _, h, _ => by cases h
  | _ :: _, [], h, _ => by cases h
/-- a written tuple -/
theorem EV.tup {t : TA} {m : M γ} {ds : γ → List D} {f : γ → α} (e : EA Z L O t σ m ds) (hf : ∀ g, enc (f g) = .tup (ds g)) (hl : ∀ g, (ds g).length ≤ 1000) : EV Z L O (tTup t) σ (mb m fun g => mr (f g)) := fun L1 H post px Q s hp hx hm k =>
  e L1 H _ px _ s hp hx hm fun g vs H1 h1 hp1 hm1 => by
    refine ⟨by rw [h1]; exact Cf.size_ok (hl g), fun p np => k (f g) _ _ ?_ hm1⟩
    have q := hp1.new (o := .tup vs) (d := .tup (ds g)) np fun G hG nG => .tup (.inl (.inl upd_same)) (by rw [h1]; exact Nat.le_trans (hl _) (by decide)) (zip_is h1 fun x hx => (hG x (List.mem_append_left _ hx)).mono (.self nG))
    rw [hf g]
    exact q.less fun x hx => by
      rcases List.mem_cons.mp hx with e | e
      · rw [e]; exact List.mem_cons_self
      · exact List.mem_cons_of_mem _ (List.mem_append_right _ e)
theorem EV.tupP {t : TA} {g : γ} {ds : γ → List D} {a : α} (e : EA Z L O t σ (mr g) ds) (hf : enc a = .tup (ds g)) (hl : (ds g).length ≤ 1000) : EV Z L O (tTup t) σ (mr a) := fun L1 H post px Q s hp hx hm k =>
  e L1 H (fun g' => g' = g) px _ s hp hx rfl fun g' vs H1 h1 hp1 hm1 => by
    subst hm1
    refine ⟨by rw [h1]; exact Cf.size_ok hl, fun p np => k a _ _ ?_ hm⟩
    have q := hp1.new (o := .tup vs) (d := .tup (ds g')) np fun G hG nG => .tup (.inl (.inl upd_same)) (by rw [h1]; exact Nat.le_trans hl (by decide)) (zip_is h1 fun x hx => (hG x (List.mem_append_left _ hx)).mono (.self nG))
    rw [hf]
    exact q.less fun x hx => by
      rcases List.mem_cons.mp hx with e | e
      · rw [e]; exact List.mem_cons_self
      · exact List.mem_cons_of_mem _ (List.mem_append_right _ e)
/-- a written list -/
theorem EV.lst {t : TA} {m : M γ} {ds : γ → List D} {f : γ → α} (e : EA Z L O t σ m ds) (hf : ∀ g, enc (f g) = .lst (ds g)) (hl : ∀ g, (ds g).length ≤ 1000) : EV Z L O (tLst t) σ (mb m fun g => mr (f g)) := fun L1 H post px Q s hp hx hm k =>
  e L1 H _ px _ s hp hx hm fun g vs H1 h1 hp1 hm1 => by
    refine ⟨by rw [h1]; exact Cf.size_ok (hl g), fun p np => k (f g) _ _ ?_ hm1⟩
    have q := hp1.new (o := .lst vs) (d := .lst (ds g)) np fun G hG nG => .lst upd_same (by rw [h1]; exact Nat.le_trans (hl _) (by decide)) (zip_is h1 fun x hx => (hG x (List.mem_append_left _ hx)).mono (.self nG))
    rw [hf g]
    exact q.less fun x hx => by
      rcases List.mem_cons.mp hx with e | e
      · rw [e]; exact List.mem_cons_self
      · exact List.mem_cons_of_mem _ (List.mem_append_right _ e)
theorem EV.lstP {t : TA} {g : γ} {ds : γ → List D} {a : α} (e : EA Z L O t σ (mr g) ds) (hf : enc a = .lst (ds g)) (hl : (ds g).length ≤ 1000) : EV Z L O (tLst t) σ (mr a) := fun L1 H post px Q s hp hx hm k =>
  e L1 H (fun g' => g' = g) px _ s hp hx rfl fun g' vs H1 h1 hp1 hm1 => by
    subst hm1
    refine ⟨by rw [h1]; exact Cf.size_ok hl, fun p np => k a _ _ ?_ hm⟩
    have q := hp1.new (o := .lst vs) (d := .lst (ds g')) np fun G hG nG => .lst upd_same (by rw [h1]; exact Nat.le_trans hl (by decide)) (zip_is h1 fun x hx => (hG x (List.mem_append_left _ hx)).mono (.self nG))
    rw [hf]
    exact q.less fun x hx => by
      rcases List.mem_cons.mp hx with e | e
      · rw [e]; exact List.mem_cons_self
      · exact List.mem_cons_of_mem _ (List.mem_append_right _ e)
/-! ### calls -/
/-- a def's promise: what m says; it may raise -/
def Call (K : PySem.W.Frag) (C : CT) (R : Hp → Prop) (L : List (V × D)) (m : M α) (H : Hp) (Q : VK) (E : XK) : Prop :=
  ∃ (G0 F0 : Hp) (post : α → Prop) (px : Exn → Prop), Pt ⟨K, C, R, G0, F0, E⟩ L [] H ∧ m post px ∧ HX ⟨K, C, R, G0, F0, E⟩ px ∧ ∀ (r : α) (v : V) (H' : Hp), Pt ⟨K, C, R, G0, F0, E⟩ [(v, enc r)] [] H' → post r → Q v H'
def ET0 : XK := fun _ _ _ => True
/-- .. of a def that raises nothing -/
def CallN (K : PySem.W.Frag) (C : CT) (R : Hp → Prop) (L : List (V × D)) (m : M α) (H : Hp) (Q : VK) : Prop :=
  ∃ (G0 F0 : Hp) (post : α → Prop) (px : Exn → Prop), Pt ⟨K, C, R, G0, F0, ET0⟩ L [] H ∧ m post px ∧ ∀ (r : α) (v : V) (H' : Hp), Pt ⟨K, C, R, G0, F0, ET0⟩ [(v, enc r)] [] H' → post r → Q v H'
theorem hx0 {K : PySem.W.Frag} {C : CT} {R : Hp → Prop} {G0 F0 : Hp} {px : Exn → Prop} : HX ⟨K, C, R, G0, F0, ET0⟩ px := fun _ _ _ _ _ _ => trivial
/-- it raises nothing here -/
def mno {α : Type} (m : M α) : M α := fun post _ => m post fun _ => False
def R0 : Hp → Prop := fun W => ∀ b, W b = none
def join (A B : Hp) : Hp := fun b => match A b with | some o => some o | none => B b
theorem join_l {A B : Hp} : Sub A (join A B) := fun b o e => by unfold join; rw [e]
theorem join_r {A B : Hp} (d : Dis A B) : Sub B (join A B) := fun b o e => by
  unfold join
  rcases d b with h | h
  · rw [h]; exact e
  · rw [h] at e; cases e
theorem join_sub {A B H : Hp} (a : Sub A H) (b : Sub B H) : Sub (join A B) H := fun c o e => by
  unfold join at e
  cases h : A c with
  | some u => rw [h] at e; cases e; exact a c _ h
  | none => rw [h] at e; exact b c o e
theorem join_dis {A B G : Hp} (a : Dis G A) (b : Dis G B) : Dis G (join A B) := fun c => by
  unfold join
  rcases a c with h | h
  · exact .inl h
  · rw [h]; exact b c
theorem sub_none {A : Hp} : Sub (fun _ => none) A := fun b o e => by cases e
theorem PtS.enter {L1 : List (V × D)} {H G F W : Hp} {ps : List (V × D)} {E : XK} (h : PtS Z (ps ++ L1) O H G F W) : Pt ⟨Z.K, Z.C, R0, G, join F W, E⟩ ps [] H :=
  ⟨G, join F W, fun _ => none, ⟨.refl _, .refl _, h.g, join_sub h.f h.w, sub_none, join_dis h.gf h.gw, fun b => .inr rfl, fun b => .inr rfl, fun b => rfl, fun x hx => h.l x (List.mem_append_left _ hx), (fun x hx => by cases hx), List.nodup_nil⟩⟩
theorem PtS.leaveX {L1 : List (V × D)} {H H' G F W : Hp} {ps : List (V × D)} {E : XK} {c : Value} {d : Option Addr} {e : Exn} (h : PtS Z (ps ++ L1) O H G F W) (q : PtX ⟨Z.K, Z.C, R0, G, join F W, E⟩ H' c d e) : PtX Z H' c d e := by
  obtain ⟨G', F', W', h', q⟩ := q
  exact ⟨G', F, W, ⟨h.g0.trans h'.g0, h.f0, h'.g, (join_l.trans h'.f0).trans h'.f, ((join_r h.fw).trans h'.f0).trans h'.f, (h'.gf.symm.less (join_l.trans h'.f0)).symm, (h'.gf.symm.less ((join_r h.fw).trans h'.f0)).symm, h.fw, h.r, (by intro x hx; cases hx), (by intro x hx; cases hx), List.nodup_nil⟩, q⟩
theorem PtS.leave {L1 : List (V × D)} {H H' G F W : Hp} {ps : List (V × D)} {E : XK} {v : V} {d : D} (h : PtS Z (ps ++ L1) O H G F W) (q : Pt ⟨Z.K, Z.C, R0, G, join F W, E⟩ [(v, d)] [] H') : Pt Z ((v, d) :: L1) O H' := by
  obtain ⟨G', F', W', h'⟩ := q
  refine ⟨G', F, W, ⟨h.g0.trans h'.g0, h.f0, h'.g, (join_l.trans h'.f0).trans h'.f, ((join_r h.fw).trans h'.f0).trans h'.f, (h'.gf.symm.less (join_l.trans h'.f0)).symm, (h'.gf.symm.less ((join_r h.fw).trans h'.f0)).symm, h.fw, h.r, fun x hx => ?_, fun x hx => ?_, h.nd⟩⟩
  · rcases List.mem_cons.mp hx with e | e
    · rw [e]; exact h'.l _ List.mem_cons_self
    · exact (h.l x (List.mem_append_right _ e)).mono h'.g0
  · obtain ⟨ho, e1, e2, e3⟩ := h.o x hx
    exact ⟨ho, e1, e2, e3.mono h'.g0⟩
theorem PtS.leaveW {L1 : List (V × D)} {H H' G F W : Hp} {ps : List (V × D)} {E : XK} {v : V} {d : D} (h : PtS Z (ps ++ L1) O H G F W) (q : Pt ⟨Z.K, Z.C, Z.R, G, F, E⟩ [(v, d)] [] H') : Pt Z ((v, d) :: L1) O H' := by
  obtain ⟨G', F', W', h'⟩ := q
  refine ⟨G', F', W', ⟨h.g0.trans h'.g0, h.f0.trans h'.f0, h'.g, h'.f, h'.w, h'.gf, h'.gw, h'.fw, h'.r, fun x hx => ?_, fun x hx => ?_, h.nd⟩⟩
  · rcases List.mem_cons.mp hx with e | e
    · rw [e]; exact h'.l _ List.mem_cons_self
    · exact (h.l x (List.mem_append_right _ e)).mono h'.g0
  · obtain ⟨ho, e1, e2, e3⟩ := h.o x hx
    exact ⟨ho, h'.f0 _ _ e1, e2, e3.mono h'.g0⟩
section
variable {m : M α} {L1 : List (V × D)} {H : Hp} {post : α → Prop} {px : Exn → Prop} {Q : VK} {ps : List (V × D)}
/-- a call of a def that asks nothing of the world -/
theorem call_x (hp : Pt Z (ps ++ L1) O H) (hx : HX Z px) (hm : m post px) (k : ∀ (a : α) (v : V) (H' : Hp), Pt Z ((v, enc a) :: L1) O H' → post a → Q v H') : Call Z.K Z.C R0 ps m H Q Z.E := by
  obtain ⟨G, F, W, h⟩ := hp
  exact ⟨G, join F W, post, px, h.enter, hm, fun e c d H' q hpx => hx e c d H' (h.leaveX q) hpx, fun r v H' q hr => k r v H' (h.leave q) hr⟩
theorem call_f (hp : Pt Z (ps ++ L1) O H) (hm : mno m post px) (k : ∀ (a : α) (v : V) (H' : Hp), Pt Z ((v, enc a) :: L1) O H' → post a → Q v H') {E : XK} : Call Z.K Z.C R0 ps m H Q E := by
  obtain ⟨G, F, W, h⟩ := hp
  exact ⟨G, join F W, post, _, h.enter, hm, fun e c d H' q hpx => hpx.elim, fun r v H' q hr => k r v H' (h.leave q) hr⟩
theorem call_n (hp : Pt Z (ps ++ L1) O H) (hm : m post px) (k : ∀ (a : α) (v : V) (H' : Hp), Pt Z ((v, enc a) :: L1) O H' → post a → Q v H') : CallN Z.K Z.C R0 ps m H Q := by
  obtain ⟨G, F, W, h⟩ := hp
  exact ⟨G, join F W, post, px, h.enter, hm, fun r v H' q hr => k r v H' (h.leave q) hr⟩
/-- .. of a def that draws -/
theorem call_w (hp : Pt Z (ps ++ L1) O H) (hm : m post px) (k : ∀ (a : α) (v : V) (H' : Hp), Pt Z ((v, enc a) :: L1) O H' → post a → Q v H') : CallN Z.K Z.C Z.R ps m H Q := by
  obtain ⟨G, F, W, h⟩ := hp
  exact ⟨G, F, post, px, ⟨G, F, W, ⟨.refl _, .refl _, h.g, h.f, h.w, h.gf, h.gw, h.fw, h.r, fun x hx => h.l x (List.mem_append_left _ hx), (fun x hx => by cases hx), List.nodup_nil⟩⟩, hm, fun r v H' q hr => k r v H' (h.leaveW q) hr⟩
end
/-- what a call asks, by the kind of the def: n raises nothing, x raises, f raises but not here, w draws -/
theorem EV.callN {sp : Sp} {dvs : List V} {E : XK} {t : TA} {m : M γ} {ds : γ → List D} {f : γ → M α} (e : EA Z L O t σ m ds) (hc : ∀ g vs H Q, vs.length = (ds g).length → CallN Z.K Z.C R0 (vs.zip (ds g)) (f g) H Q → sp (vs ++ dvs) H Q E) : EV Z L O (tCall sp dvs E t) σ (mb m f) := fun L1 H post px Q s hp hx hm k =>
  e L1 H _ px _ s hp hx hm fun g vs H1 h1 hp1 hm1 => hc g vs H1 Q h1 (call_n hp1 hm1 k)
theorem EV.callNP {sp : Sp} {dvs : List V} {E : XK} {t : TA} {g : γ} {ds : γ → List D} {m : M α} (e : EA Z L O t σ (mr g) ds) (hc : ∀ vs H Q, vs.length = (ds g).length → CallN Z.K Z.C R0 (vs.zip (ds g)) m H Q → sp (vs ++ dvs) H Q E) : EV Z L O (tCall sp dvs E t) σ m := fun L1 H post px Q s hp hx hm k =>
  e L1 H (fun g' => g' = g) px _ s hp hx rfl fun g' vs H1 h1 hp1 hm1 => by subst hm1; exact hc vs H1 Q h1 (call_n hp1 hm k)
theorem EV.callX {sp : Sp} {dvs : List V} {t : TA} {m : M γ} {ds : γ → List D} {f : γ → M α} (e : EA Z L O t σ m ds) (hc : ∀ g vs H Q, vs.length = (ds g).length → Call Z.K Z.C R0 (vs.zip (ds g)) (f g) H Q Z.E → sp (vs ++ dvs) H Q Z.E) : EV Z L O (tCall sp dvs Z.E t) σ (mb m f) := fun L1 H post px Q s hp hx hm k =>
  e L1 H _ px _ s hp hx hm fun g vs H1 h1 hp1 hm1 => hc g vs H1 Q h1 (call_x hp1 hx hm1 k)
theorem EV.callXP {sp : Sp} {dvs : List V} {t : TA} {g : γ} {ds : γ → List D} {m : M α} (e : EA Z L O t σ (mr g) ds) (hc : ∀ vs H Q, vs.length = (ds g).length → Call Z.K Z.C R0 (vs.zip (ds g)) m H Q Z.E → sp (vs ++ dvs) H Q Z.E) : EV Z L O (tCall sp dvs Z.E t) σ m := fun L1 H post px Q s hp hx hm k =>
  e L1 H (fun g' => g' = g) px _ s hp hx rfl fun g' vs H1 h1 hp1 hm1 => by subst hm1; exact hc vs H1 Q h1 (call_x hp1 hx hm k)
theorem EV.callS {sp : Sp} {E : L2.St → XK} {t : TA} {m : M γ} {ds : γ → List D} {f : γ → M α} (hE : E σ = Z.E) (e : EA Z L O t σ m ds) (hc : ∀ g vs H Q, vs.length = (ds g).length → Call Z.K Z.C R0 (vs.zip (ds g)) (f g) H Q Z.E → sp vs H Q Z.E) : EV Z L O (tCallS sp E t) σ (mb m f) := fun L1 H post px Q s hp hx hm k =>
  e L1 H _ px _ s hp hx hm fun g vs H1 h1 hp1 hm1 => by rw [hE]; exact hc g vs H1 Q h1 (call_x hp1 hx hm1 k)
theorem EV.callSP {sp : Sp} {E : L2.St → XK} {t : TA} {g : γ} {ds : γ → List D} {m : M α} (hE : E σ = Z.E) (e : EA Z L O t σ (mr g) ds) (hc : ∀ vs H Q, vs.length = (ds g).length → Call Z.K Z.C R0 (vs.zip (ds g)) m H Q Z.E → sp vs H Q Z.E) : EV Z L O (tCallS sp E t) σ m := fun L1 H post px Q s hp hx hm k =>
  e L1 H (fun g' => g' = g) px _ s hp hx rfl fun g' vs H1 h1 hp1 hm1 => by subst hm1; rw [hE]; exact hc vs H1 Q h1 (call_x hp1 hx hm k)
theorem EV.callF {sp : Sp} {dvs : List V} {E : XK} {t : TA} {m : M γ} {ds : γ → List D} {f : γ → M α} (e : EA Z L O t σ m ds) (hc : ∀ g vs H Q, vs.length = (ds g).length → Call Z.K Z.C R0 (vs.zip (ds g)) (f g) H Q E → sp (vs ++ dvs) H Q E) : EV Z L O (tCall sp dvs E t) σ (mb m fun g => mno (f g)) := fun L1 H post px Q s hp hx hm k =>
  e L1 H _ px _ s hp hx hm fun g vs H1 h1 hp1 hm1 => hc g vs H1 Q h1 (call_f (px := px) hp1 hm1 k)
theorem EV.callFP {sp : Sp} {dvs : List V} {E : XK} {t : TA} {g : γ} {ds : γ → List D} {m : M α} (e : EA Z L O t σ (mr g) ds) (hc : ∀ vs H Q, vs.length = (ds g).length → Call Z.K Z.C R0 (vs.zip (ds g)) m H Q E → sp (vs ++ dvs) H Q E) : EV Z L O (tCall sp dvs E t) σ (mno m) := fun L1 H post px Q s hp hx hm k =>
  e L1 H (fun g' => g' = g) px _ s hp hx rfl fun g' vs H1 h1 hp1 hm1 => by subst hm1; exact hc vs H1 Q h1 (call_f (px := px) hp1 hm k)
/-- the first argument is the state -/
theorem EV.callW {sp : Sp} {dvs : List V} {E : XK} {t : TA} {m : M γ} {ds : γ → List D} {f : γ → M α} {i : Nat} {p : Addr} (hi : σ[i]? = some (some (.ref p))) (e : EA Z L O t σ m ds) (hc : ∀ g vs H Q, vs.length = (ds g).length → CallN Z.K Z.C Z.R (vs.zip (ds g)) (f g) H Q → sp (.ref p :: vs ++ dvs) H Q E) : EV Z L O (tCall sp dvs E (tCons (tVar i) t)) σ (mb m f) := fun L1 H post px Q s hp hx hm k =>
  ⟨_, hi, e L1 H _ px _ s hp hx hm fun g vs H1 h1 hp1 hm1 => hc g vs H1 Q h1 (call_w hp1 hm1 k)⟩
theorem EV.callWP {sp : Sp} {dvs : List V} {E : XK} {t : TA} {g : γ} {ds : γ → List D} {m : M α} {i : Nat} {p : Addr} (hi : σ[i]? = some (some (.ref p))) (e : EA Z L O t σ (mr g) ds) (hc : ∀ vs H Q, vs.length = (ds g).length → CallN Z.K Z.C Z.R (vs.zip (ds g)) m H Q → sp (.ref p :: vs ++ dvs) H Q E) : EV Z L O (tCall sp dvs E (tCons (tVar i) t)) σ m := fun L1 H post px Q s hp hx hm k =>
  ⟨_, hi, e L1 H (fun g' => g' = g) px _ s hp hx rfl fun g' vs H1 h1 hp1 hm1 => by subst hm1; exact hc vs H1 Q h1 (call_w hp1 hm k)⟩
end
end Mi

/-! operators, subscripts, fields -/
namespace Mi
open Enc (enc)
open PySem L2 PySem.Spec PyProof.Rows
open Cf (Fresh rPlus rTimes rEqq rNeq rInn rNotInn rIxx rIsN rNotN rInt rListOf rTupOf)
section
variable {Z : Zx} {L : List (V × D)} {O : List (Addr × D)} {σ : L2.St} {α β γ δ : Type} [Enc α] [Enc β] [Enc γ] [Enc δ]
variable {G : Hp} {K : PySem.W.Frag} {C : CT} {v : V}
theorem is_int {i : Int} (h : Is K C G v (enc i)) : v = .int i := by cases h; rfl
theorem is_str {i : Str} (h : Is K C G v (enc i)) : v = .str i := by cases h; rfl
theorem is_bl {i : Bool} (h : Is K C G v (enc i)) : v = .bl i := by cases h; rfl
theorem is_lst {ds : List D} (h : Is K C G v (.lst ds)) : ∃ a xs, v = .ref a ∧ G a = some (.lst xs) ∧ xs.length ≤ 1000000 ∧ IsL K C G xs ds := by
  cases h with
  | lst h l t => exact ⟨_, _, rfl, h, l, t⟩
theorem is_tup {ds : List D} (h : Is K C G v (.tup ds)) : ∃ a xs, v = .ref a ∧ SqT K G a xs ∧ xs.length ≤ 1000000 ∧ IsL K C G xs ds := by
  cases h with
  | tup h l t => exact ⟨_, _, rfl, h, l, t⟩
theorem is_obj {c : Str} {ns : List Str} {ds : List D} (h : Is K C G v (.obj c ns ds)) : ∃ a A dx fs, v = .ref a ∧ G a = some (.ins A dx fs) ∧ C c = some A ∧ fs.map (·.1) = ns ∧ IsL K C G (fs.map (·.2)) ds := by
  cases h with
  | obj h hc t => exact ⟨_, _, _, _, rfl, h, hc, rfl, t⟩
theorem PtS.sub {L' : List (V × D)} {H G F W : Hp} (h : PtS Z L O H G F W) (s : ∀ x ∈ L', x ∈ L) : PtS Z L' O H G F W := { h with l := fun x hx => h.l x (s x hx) }
theorem PtS.t1 {x : V × D} {H G F W : Hp} (h : PtS Z (x :: L) O H G F W) : PtS Z L O H G F W := h.sub fun y hy => List.mem_cons_of_mem _ hy
theorem PtS.t2 {x y : V × D} {H G F W : Hp} (h : PtS Z (x :: y :: L) O H G F W) : PtS Z L O H G F W := h.t1.t1
theorem PtS.add {H G F W : Hp} (h : PtS Z L O H G F W) {v : V} {d : D} (hd : Is Z.K Z.C G v d) : Pt Z ((v, d) :: L) O H :=
  ⟨G, F, W, { h with l := fun x hx => by rcases List.mem_cons.mp hx with e | e; (· rw [e]; exact hd); (· exact h.l x e) }⟩
theorem PtS.new {H G F W : Hp} (h : PtS Z L O H G F W) {p : Addr} {o : HO} {d : D} (hp : Fresh H p) (hd : Is Z.K Z.C (upd G p o) (.ref p) d) : Pt Z ((.ref p, d) :: L) O (upd H p o) := by
  have hG := h.g.free hp
  refine ⟨upd G p o, F, W, ⟨h.g0.trans (.self hG), h.f0, h.g.upd, h.f.new hp, h.w.new hp, h.gf.new (h.f.free hp), h.gw.new (h.w.free hp), h.fw, h.r, fun x hx => ?_, fun x hx => ?_, h.nd⟩⟩
  · rcases List.mem_cons.mp hx with e | e
    · rw [e]; exact hd
    · exact (h.l x e).mono (.self hG)
  · obtain ⟨ho, e1, e2, e3⟩ := h.o x hx
    exact ⟨ho, e1, e2, e3.mono (.self hG)⟩
theorem PtS.x0 {x : V} {d : D} {H G F W : Hp} (h : PtS Z ((x, d) :: L) O H G F W) : Is Z.K Z.C G x d := h.l _ List.mem_cons_self
theorem PtS.x1 {x : V} {d : D} {z : V × D} {H G F W : Hp} (h : PtS Z (z :: (x, d) :: L) O H G F W) : Is Z.K Z.C G x d := h.l _ (List.mem_cons_of_mem _ List.mem_cons_self)
theorem PtS.pt {H G F W : Hp} (h : PtS Z L O H G F W) : Pt Z L O H := ⟨G, F, W, h⟩
theorem le_size {n : Nat} (h : n ≤ 1000000) : n ≤ sizeLine := by rw [sizeLine_eq]; omega
theorem Pt.get1 {x : V} {d : D} {H : Hp} (h : Pt Z ((x, d) :: L) O H) : ∃ G, (∀ y ∈ L, Is Z.K Z.C G y.1 y.2) ∧ Is Z.K Z.C G x d ∧ Sub G H := by
  obtain ⟨G, F, W, h⟩ := h
  exact ⟨G, fun y hy => h.l y (List.mem_cons_of_mem _ hy), h.l _ List.mem_cons_self, h.g⟩
/-! ### numbers, texts -/
theorem ok_addI : Ok2 Z rPlus (fun a b : Int => mr (a + b)) := fun L O H a b x y post px Q hp hx hm k => by
  obtain rfl := is_int hp.hd
  obtain rfl := is_int hp.hd2
  exact .inl ⟨a, b, rfl, rfl, k _ _ H (hp.tail.tail.add fun G _ => .int _) hm⟩
def maddS (a b : Str) : M Str := mreq (a.length + b.length ≤ sizeLine) (mr (a ++ b))
theorem ok_addS : Ok2 Z rPlus maddS := fun L O H a b x y post px Q hp hx hm k => by
  obtain rfl := is_str hp.hd
  obtain rfl := is_str hp.hd2
  exact .inr (.inl ⟨a, b, rfl, rfl, hm.1, k _ _ H (hp.tail.tail.add fun G _ => .str _) hm.2⟩)
def maddL {α : Type} (a b : List α) : M (List α) := mreq (a.length + b.length ≤ 1000000) (mr (a ++ b))
theorem ok_addL : Ok2 Z rPlus (maddL (α := α)) := fun L O H a b x y post px Q hp hx hm k => by
  obtain ⟨G, F, W, h⟩ := hp
  obtain ⟨q, ys, rfl, e1, l1, t1⟩ := is_lst h.x0
  obtain ⟨p, xs, rfl, e2, l2, t2⟩ := is_lst h.x1
  have n1 := t1.len
  have n2 := t2.len
  rw [List.length_map] at n1 n2
  have hl : (xs ++ ys).length ≤ 1000000 := by rw [List.length_append, n1, n2]; exact hm.1
  refine .inr (.inr ⟨p, q, xs, ys, rfl, rfl, h.g _ _ e2, h.g _ _ e1, by rw [n1, n2]; exact le_size hm.1, fun r hr => k (a ++ b) _ _ (h.t2.new hr (.lst upd_same hl ?_)) hm.2⟩)
  rw [List.map_append]
  exact (t2.app t1).mono (.self (h.g.free hr))
theorem ok_subI : Ok2 Z (rI0 fun i j => .int (i - j)) (fun a b : Int => mr (a - b)) := fun L O H a b x y post px Q hp hx hm k => by
  obtain rfl := is_int hp.hd
  obtain rfl := is_int hp.hd2
  exact ⟨a, b, rfl, rfl, k _ _ H (hp.tail.tail.add fun G _ => .int _) hm⟩
def mmulI (a b : Int) : M Int := mreq (CMul a b) (mr (a * b))
theorem ok_mulI : Ok2 Z rTimes mmulI := fun L O H a b x y post px Q hp hx hm k => by
  obtain rfl := is_int hp.hd
  obtain rfl := is_int hp.hd2
  exact .inl ⟨a, b, rfl, rfl, hm.1, k _ _ H (hp.tail.tail.add fun G _ => .int _) hm.2⟩
theorem ok_rI {Co : Int → Int → Prop} {g : Int → Int → Int} : Ok2 Z (rI Co fun i j => .int (g i j)) (fun a b => mreq (Co a b) (mr (g a b))) := fun L O H a b x y post px Q hp hx hm k => by
  obtain rfl := is_int hp.hd
  obtain rfl := is_int hp.hd2
  exact ⟨a, b, rfl, rfl, hm.1, k _ _ H (hp.tail.tail.add fun G _ => .int _) hm.2⟩
def mmodI (a b : Int) : M Int := mreq (0 < b) (mr (a % b))
theorem ok_modI : Ok2 Z (rI (fun _ j => 0 < j) fun i j => .int (i % j)) mmodI := ok_rI
def mdivI (a b : Int) : M Int := mreq (CDivW a b) (mr (a / b))
theorem ok_divI : Ok2 Z (rI CDivW fun i j => .int (i / j)) mdivI := ok_rI
theorem ok_negI : Ok1 Z (rU fun i => .int (-i)) (fun a : Int => mr (-a)) := fun L O H a x post px Q hp hx hm k => by
  obtain rfl := is_int hp.hd
  exact ⟨a, rfl, k _ _ H (hp.tail.add fun G _ => .int _) hm⟩
theorem ok_cmp {g : Int → Int → Bool} : Ok2 Z (rI0 fun i j => .bl (g i j)) (fun a b : Int => mr (g a b)) := fun L O H a b x y post px Q hp hx hm k => by
  obtain rfl := is_int hp.hd
  obtain rfl := is_int hp.hd2
  exact ⟨a, b, rfl, rfl, k _ _ H (hp.tail.tail.add fun G _ => .bl _) hm⟩
theorem ok_lt : Ok2 Z (rI0 fun i j => .bl (decide (i < j))) (fun a b : Int => mr (decide (a < b))) := ok_cmp
theorem ok_le : Ok2 Z (rI0 fun i j => .bl (decide (i ≤ j))) (fun a b : Int => mr (decide (a ≤ b))) := ok_cmp
theorem ok_gt : Ok2 Z (rI0 fun i j => .bl (decide (j < i))) (fun a b : Int => mr (decide (b < a))) := ok_cmp
theorem ok_ge : Ok2 Z (rI0 fun i j => .bl (decide (j ≤ i))) (fun a b : Int => mr (decide (b ≤ a))) := ok_cmp
/-- values that == compares at once -/
class Scal (α : Type) [Enc α] where
  dec : DecidableEq α
  eq : ∀ {K : PySem.W.Frag} {C : CT} {G : Hp} {a b : α} {x y : V}, Is K C G x (enc a) → Is K C G y (enc b) → scal x y = true ∧ (x = y ↔ a = b)
instance : Scal Int := ⟨inferInstance, fun h h' => by rw [is_int h, is_int h']; exact ⟨rfl, by simp⟩⟩
instance : Scal Str := ⟨inferInstance, fun h h' => by rw [is_str h, is_str h']; exact ⟨rfl, by simp⟩⟩
instance : Scal Bool := ⟨inferInstance, fun h h' => by rw [is_bl h, is_bl h']; exact ⟨rfl, by simp⟩⟩
instance : Scal (Option Int) := ⟨inferInstance, fun {K C G a b x y} h h' => by
  cases a <;> cases b
  · cases h; cases h'; exact ⟨rfl, by simp⟩
  · cases h; rw [is_int h']; exact ⟨rfl, by simp⟩
  · cases h'; rw [is_int h]; exact ⟨rfl, by simp⟩
  · rw [is_int h, is_int h']; exact ⟨rfl, by simp⟩⟩
instance : Scal (Option Str) := ⟨inferInstance, fun {K C G a b x y} h h' => by
  cases a <;> cases b
  · cases h; cases h'; exact ⟨rfl, by simp⟩
  · cases h; rw [is_str h']; exact ⟨rfl, by simp⟩
  · cases h'; rw [is_str h]; exact ⟨rfl, by simp⟩
  · rw [is_str h, is_str h']; exact ⟨rfl, by simp⟩⟩
instance instDecScal {α : Type} [Enc α] [s : Scal α] : DecidableEq α := s.dec
def meq {α : Type} [DecidableEq α] (a b : α) : Bool := decide (a = b)
theorem ok_eqS [DecidableEq α] [s : Scal α] : Ok2 Z (rEqq Z.K) (fun a b : α => mr (decide (a = b))) := fun L O H a b x y post px Q hp hx hm k => by
  obtain ⟨e1, e2⟩ := s.eq hp.hd2 hp.hd
  refine .inl ⟨e1, ?_⟩
  have e : decide (x = y) = decide (a = b) := by simp only [e2]
  rw [e]
  exact k _ _ H (hp.tail.tail.add fun G _ => .bl _) hm
theorem ok_neS [DecidableEq α] [s : Scal α] : Ok2 Z (rNeq Z.K) (fun a b : α => mr (!decide (a = b))) := fun L O H a b x y post px Q hp hx hm k => by
  obtain ⟨e1, e2⟩ := s.eq hp.hd2 hp.hd
  refine .inl ⟨e1, ?_⟩
  have e : decide (x = y) = decide (a = b) := by simp only [e2]
  rw [e]
  exact k _ _ H (hp.tail.tail.add fun G _ => .bl _) hm
/-! ### None -/
class NotNon (α : Type) [Enc α] where
  ne : ∀ a : α, enc a ≠ D.non
instance : NotNon Int := ⟨fun a h => by cases h⟩
instance : NotNon Bool := ⟨fun a h => by cases h⟩
instance : NotNon Str := ⟨fun a h => by cases h⟩
instance {α : Type} [Enc α] : NotNon (List α) := ⟨fun a h => by cases h⟩
instance {α : Type} [Enc α] : NotNon (Tp α) := ⟨fun a h => by cases h⟩
instance {α β : Type} [Enc α] [Enc β] : NotNon (α × β) := ⟨fun a h => by cases h⟩
instance {α β γ : Type} [Enc α] [Enc β] [Enc γ] : NotNon (T3 α β γ) := ⟨fun a h => by cases h⟩
theorem is_non {d : D} (h : Is K C G v d) : v = .non ↔ d = .non := by
  cases h <;> simp
theorem dec_non {d : D} {b : Bool} (h : Is K C G v d) (hb : d = .non ↔ b = true) : decide (v = .non) = b := by
  rw [Bool.eq_iff_iff, decide_eq_true_iff, is_non h, hb]
theorem enc_none [n : NotNon α] (a : Option α) : enc a = D.non ↔ a.isNone = true := by
  cases a with
  | none => exact ⟨fun _ => rfl, fun _ => rfl⟩
  | some a => exact ⟨fun h => absurd h (n.ne a), fun h => by cases h⟩
theorem ok_isN [n : NotNon α] : Ok2 Z Cf.rIsN (fun (a : Option α) (_ : Unit) => mr a.isNone) := fun L O H a b x y post px Q hp hx hm k => by
  have h2 := hp.hd
  cases h2
  refine ⟨rfl, ?_⟩
  rw [dec_non hp.hd2 (enc_none a)]
  exact k _ _ H (hp.tail.tail.add fun G _ => .bl _) hm
theorem ok_notN [n : NotNon α] : Ok2 Z Cf.rNotN (fun (a : Option α) (_ : Unit) => mr a.isSome) := fun L O H a b x y post px Q hp hx hm k => by
  have h2 := hp.hd
  cases h2
  refine ⟨rfl, ?_⟩
  rw [dec_non hp.hd2 (enc_none a), show (!a.isNone) = a.isSome by cases a <;> rfl]
  exact k _ _ H (hp.tail.tail.add fun G _ => .bl _) hm
/-- a thing that is never None -/
theorem ok_isNn [n : NotNon α] : Ok2 Z Cf.rIsN (fun (a : α) (_ : Unit) => mr false) := fun L O H a b x y post px Q hp hx hm k => by
  have h2 := hp.hd
  cases h2
  refine ⟨rfl, ?_⟩
  rw [dec_non (b := false) hp.hd2 ⟨fun z => absurd z (n.ne a), fun z => by cases z⟩]
  exact k _ _ H (hp.tail.tail.add fun G _ => .bl _) hm
/-! ### subscripts -/
def mix {α : Type} (xs : List α) (i : Int) : M α := match atI xs i with
  | some a => mr a
  | none => mstuck
theorem atI_isL {xs : List V} {ds : List D} {i : Int} {d : D} (t : IsL K C G xs ds) (h : atI ds i = some d) : ∃ v, atI xs i = some v ∧ Is K C G v d := by
  unfold atI at h ⊢
  rw [t.len]
  cases e : ixN ds.length i with
  | none => rw [e] at h; cases h
  | some j => rw [e] at h; exact t.get' h
theorem atI_map {α β : Type} {f : α → β} {xs : List α} {i : Int} : atI (xs.map f) i = (atI xs i).map f := by
  unfold atI
  rw [List.length_map]
  cases ixN xs.length i with
  | none => rfl
  | some j => show (xs.map f)[j]? = _; rw [List.getElem?_map]; rfl
theorem ok_ixL : Ok2 Z (rIxx Z.K) (fun (a : List α) (i : Int) => mix a i) := fun L O H a b x y post px Q hp hx hm k => by
  obtain ⟨G, F, W, h⟩ := hp
  obtain rfl := is_int h.x0
  obtain ⟨p, xs, rfl, e, l, t⟩ := is_lst h.x1
  have hm : mix a b post px := hm
  unfold mix at hm
  cases q : atI a b with
  | none => rw [q] at hm; exact hm.elim
  | some c =>
    rw [q] at hm
    obtain ⟨v, e1, e2⟩ := atI_isL (d := enc c) t (by rw [atI_map, q]; rfl)
    exact .inl (.inl ⟨p, xs, b, v, rfl, rfl, .inl (.inl (h.g _ _ e)), e1, k c v H (h.t2.add e2) hm⟩)
theorem ok_ixT : Ok2 Z (rIxx Z.K) (fun (a : Tp α) (i : Int) => mix a.l i) := fun L O H a b x y post px Q hp hx hm k => by
  obtain ⟨G, F, W, h⟩ := hp
  obtain rfl := is_int h.x0
  obtain ⟨p, xs, rfl, e, l, t⟩ := is_tup h.x1
  have hm : mix a.l b post px := hm
  unfold mix at hm
  cases q : atI a.l b with
  | none => rw [q] at hm; exact hm.elim
  | some c =>
    rw [q] at hm
    obtain ⟨v, e1, e2⟩ := atI_isL (d := enc c) t (by rw [atI_map, q]; rfl)
    exact .inl (.inr (.inl ⟨p, xs, b, v, rfl, rfl, sqT_mono h.g e, e1, k c v H (h.t2.add e2) hm⟩))
/-- the i-th sign -/
def mixS (z : Str) (i : Int) : M Str := mreq (z.length ≤ sizeLine) (match atI z.cps.toList i with
  | some c => mr (⟨#[c]⟩ : Str)
  | none => mstuck)
theorem ok_ixS : Ok2 Z (rIxx Z.K) mixS := fun L O H a b x y post px Q hp hx hm k => by
  obtain rfl := is_int hp.hd
  obtain rfl := is_str hp.hd2
  obtain ⟨hl, hm⟩ := hm
  cases q : atI a.cps.toList b with
  | none => rw [q] at hm; exact hm.elim
  | some c =>
    rw [q] at hm
    exact .inl (.inr (.inr ⟨a, b, c, rfl, rfl, hl, q, k _ _ H (hp.tail.tail.add fun G _ => .str _) hm⟩))
/-- a part of a written tuple or list, at a written place -/
theorem EV.proj {ta : TE} {i : Int} {m : M α} (e : EV Z L O ta σ m) (f : α → β) (h : ∀ a, ∃ ds, (enc a = .tup ds ∨ enc a = .lst ds) ∧ atI ds i = Option.some (enc (f a))) : EV Z L O (tOp (rIxx Z.K) ta (tC (.int i))) σ (mb m fun a => mr (f a)) := fun L1 H post px Q s hp hx hm k =>
  e L1 H _ px _ s hp hx hm fun a x H1 hp1 hm1 => by
    obtain ⟨G, F, W, h1⟩ := hp1
    obtain ⟨ds, hd | hd, ha⟩ := h a
    · obtain ⟨p, xs, rfl, e, l, t⟩ := is_tup (hd ▸ h1.x0)
      obtain ⟨v, e1, e2⟩ := atI_isL t ha
      exact .inl (.inr (.inl ⟨p, xs, i, v, rfl, rfl, sqT_mono h1.g e, e1, k _ v H1 (h1.t1.add e2) hm1⟩))
    · obtain ⟨p, xs, rfl, e, l, t⟩ := is_lst (hd ▸ h1.x0)
      obtain ⟨v, e1, e2⟩ := atI_isL t ha
      exact .inl (.inl ⟨p, xs, i, v, rfl, rfl, .inl (.inl (h1.g _ _ e)), e1, k _ v H1 (h1.t1.add e2) hm1⟩)
theorem EV.projP {ta : TE} {i : Int} {a : α} {b : β} (e : EV Z L O ta σ (mr a)) (h : ∃ ds, (enc a = .tup ds ∨ enc a = .lst ds) ∧ atI ds i = Option.some (enc b)) : EV Z L O (tOp (rIxx Z.K) ta (tC (.int i))) σ (mr b) := fun L1 H post px Q s hp hx hm k =>
  e L1 H (fun a' => a' = a) px _ s hp hx rfl fun a' x H1 hp1 hm1 => by
    subst hm1
    obtain ⟨G, F, W, h1⟩ := hp1
    obtain ⟨ds, hd | hd, ha⟩ := h
    · obtain ⟨p, xs, rfl, e, l, t⟩ := is_tup (hd ▸ h1.x0)
      obtain ⟨v, e1, e2⟩ := atI_isL t ha
      exact .inl (.inr (.inl ⟨p, xs, i, v, rfl, rfl, sqT_mono h1.g e, e1, k _ v H1 (h1.t1.add e2) hm⟩))
    · obtain ⟨p, xs, rfl, e, l, t⟩ := is_lst (hd ▸ h1.x0)
      obtain ⟨v, e1, e2⟩ := atI_isL t ha
      exact .inl (.inl ⟨p, xs, i, v, rfl, rfl, .inl (.inl (h1.g _ _ e)), e1, k _ v H1 (h1.t1.add e2) hm⟩)
/-! ### slices -/
def cutL {α : Type} (xs : List α) (lo hi : Option Int) : List α := (xs.drop (HT.sIx xs.length 0 lo)).take (HT.sIx xs.length xs.length hi - HT.sIx xs.length 0 lo)
def EO (Z : Zx) (L : List (V × D)) (O : List (Addr × D)) (t : TO) (σ : L2.St) (m : M (Option Int)) : Prop :=
  ∀ (L1 : List (V × D)) (H : Hp) (post : Option Int → Prop) (px : Exn → Prop) (Q : Option Int → Hp → Prop), (∀ x ∈ L, x ∈ L1) → Pt Z L1 O H → HX Z px → m post px →
    (∀ (a : Option Int) (H' : Hp), Pt Z L1 O H' → post a → Q a H') → t σ H Q
theorem EO.none : EO Z L O tNoPart σ (mr Option.none) := fun L1 H post px Q s hp hx hm k => k _ H hp hm
theorem EO.some {t : TE} {m : M Int} (e : EV Z L O t σ m) : EO Z L O (tPart t) σ (mb m fun i => mr (Option.some i)) := fun L1 H post px Q s hp hx hm k =>
  e L1 H _ px _ s hp hx hm fun a v H' hp' hb => by
    obtain rfl := is_int hp'.hd
    exact ⟨a, rfl, k _ H' hp'.tail hb⟩
theorem EO.someP {t : TE} {i : Int} (e : EV Z L O t σ (mr i)) : EO Z L O (tPart t) σ (mr (Option.some i)) := EO.some e
theorem EV.slL {te : TE} {tl th : TO} {m : M (List α)} {ml mh : M (Option Int)} (e : EV Z L O te σ m) (el : EO Z L O tl σ ml) (eh : EO Z L O th σ mh) : EV Z L O (tSl (rSlL Z.K) te tl th) σ (mb m fun a => mb ml fun l => mb mh fun h => mr (cutL a l h)) := fun L1 H post px Q s hp hx hm k =>
  e L1 H _ px _ s hp hx hm fun a x H1 hp1 hm1 => el _ H1 _ px _ (sub_cons s) hp1 hx hm1 fun lo H2 hp2 hm2 => eh _ H2 _ px _ (sub_cons s) hp2 hx hm2 fun hi H3 hp3 hm3 => by
    obtain ⟨G, F, W, h⟩ := hp3
    obtain ⟨p, xs, rfl, e, l, t⟩ := is_lst h.x0
    have n := t.len
    rw [List.length_map] at n
    refine ⟨p, xs, rfl, .inl (.inl (h.g _ _ e)), fun q hq => k _ _ _ (h.t1.new hq (.lst upd_same ?_ ?_)) hm3⟩
    · unfold cutV
      rw [List.length_take, List.length_drop]
      omega
    · unfold cutV cutL
      rw [List.map_take, List.map_drop, n]
      exact ((t.drop _).take _).mono (.self (h.g.free hq))
theorem EV.slLP {te : TE} {tl th : TO} {a : List α} {l h : Option Int} (e : EV Z L O te σ (mr a)) (el : EO Z L O tl σ (mr l)) (eh : EO Z L O th σ (mr h)) : EV Z L O (tSl (rSlL Z.K) te tl th) σ (mr (cutL a l h)) := EV.slL e el eh
theorem EV.slS {te : TE} {tl th : TO} {m : M Str} {ml mh : M (Option Int)} (e : EV Z L O te σ m) (el : EO Z L O tl σ ml) (eh : EO Z L O th σ mh) : EV Z L O (tSl rSlS te tl th) σ (mb m fun a => mb ml fun l => mb mh fun h => mreq (a.length ≤ sizeLine) (mr (cutS a l h))) := fun L1 H post px Q s hp hx hm k =>
  e L1 H _ px _ s hp hx hm fun a x H1 hp1 hm1 => el _ H1 _ px _ (sub_cons s) hp1 hx hm1 fun lo H2 hp2 hm2 => eh _ H2 _ px _ (sub_cons s) hp2 hx hm2 fun hi H3 hp3 hm3 => by
    obtain rfl := is_str hp3.hd
    exact ⟨a, rfl, hm3.1, k _ _ _ (hp3.tail.add fun G _ => .str _) hm3.2⟩
/-! ### built-ins -/
def OkB (Z : Zx) (r : List V → Hp → VK → Prop) (f : α → M γ) : Prop := Ok1 Z (fun x H Q => r [x] H Q) f
theorem EV.cb1 {r : List V → Hp → VK → Prop} {f : α → M γ} {ta : TE} {m1 : M α} (o : OkB Z r f) (e1 : EV Z L O ta σ m1) : EV Z L O (tCB r (tCons ta tNil)) σ (mb m1 f) := fun L1 H post px Q s hp hx hm k =>
  e1 L1 H _ px _ s hp hx hm fun a x H1 hp1 hm1 => o L1 O H1 a x post px Q hp1 hx hm1 k
theorem EV.cb1P {r : List V → Hp → VK → Prop} {f : α → M γ} {ta : TE} {a : α} (o : OkB Z r f) (e1 : EV Z L O ta σ (mr a)) : EV Z L O (tCB r (tCons ta tNil)) σ (f a) := EV.cb1 (m1 := mr a) o e1
def OkB2 (Z : Zx) (r : List V → Hp → VK → Prop) (f : α → β → M γ) : Prop := Ok2 Z (fun x y H Q => r [x, y] H Q) f
theorem EV.cb2 {r : List V → Hp → VK → Prop} {f : α → β → M γ} {ta tb : TE} {m1 : M α} {m2 : M β} (o : OkB2 Z r f) (e1 : EV Z L O ta σ m1) (e2 : EV Z L O tb σ m2) : EV Z L O (tCB r (tCons ta (tCons tb tNil))) σ (mb m1 fun a => mb m2 fun b => f a b) := fun L1 H post px Q s hp hx hm k =>
  e1 L1 H _ px _ s hp hx hm fun a x H1 hp1 hm1 => e2 _ H1 _ px _ (sub_cons s) hp1 hx hm1 fun b y H2 hp2 hm2 => o L1 O H2 a b x y post px Q hp2 hx hm2 k
theorem EV.cb2P {r : List V → Hp → VK → Prop} {f : α → β → M γ} {ta tb : TE} {a : α} {b : β} (o : OkB2 Z r f) (e1 : EV Z L O ta σ (mr a)) (e2 : EV Z L O tb σ (mr b)) : EV Z L O (tCB r (tCons ta (tCons tb tNil))) σ (f a b) := EV.cb2 (m1 := mr a) (m2 := mr b) o e1 e2
theorem ok_lenL : OkB Z (Cf.rLen Z.K) (fun a : List α => mr (a.length : Int)) := fun L O H a x post px Q hp hx hm k => by
  obtain ⟨G, F, W, h⟩ := hp
  obtain ⟨p, xs, rfl, e, l, t⟩ := is_lst h.x0
  have n := t.len
  rw [List.length_map] at n
  refine .inl ⟨p, xs, rfl, .inl (.inl (.inl (h.g _ _ e))), ?_⟩
  rw [n]
  exact k _ _ H (h.t1.add (.int _)) hm
theorem ok_lenT : OkB Z (Cf.rLen Z.K) (fun a : Tp α => mr (a.l.length : Int)) := fun L O H a x post px Q hp hx hm k => by
  obtain ⟨G, F, W, h⟩ := hp
  obtain ⟨p, xs, rfl, e, l, t⟩ := is_tup h.x0
  have n := t.len
  rw [List.length_map] at n
  refine .inl ⟨p, xs, rfl, .inr (sqT_mono h.g e), ?_⟩
  rw [n]
  exact k _ _ H (h.t1.add (.int _)) hm
def mlenS (a : Str) : M Int := mreq (a.length ≤ sizeLine) (mr (a.length : Int))
theorem ok_lenS : OkB Z (Cf.rLen Z.K) mlenS := fun L O H a x post px Q hp hx hm k => by
  obtain rfl := is_str hp.hd
  exact .inr ⟨a, rfl, hm.1, k _ _ H (hp.tail.add fun G _ => .int _) hm.2⟩
theorem ok_int : OkB Z rInt (fun a : Int => mr a) := fun L O H a x post px Q hp hx hm k => by
  obtain rfl := is_int hp.hd
  exact ⟨a, rfl, k _ _ H (hp.tail.add fun G _ => .int _) hm⟩
theorem ok_listL : OkB Z (rListOf Z.K) (fun a : List α => mr a) := fun L O H a x post px Q hp hx hm k => by
  obtain ⟨G, F, W, h⟩ := hp
  obtain ⟨p, xs, rfl, e, l, t⟩ := is_lst h.x0
  exact ⟨p, xs, rfl, .inl (.inl (.inl (h.g _ _ e))), fun q hq => k a _ _ (h.t1.new hq (.lst upd_same l (t.mono (.self (h.g.free hq))))) hm⟩
theorem ok_listT : OkB Z (rListOf Z.K) (fun a : Tp α => mr a.l) := fun L O H a x post px Q hp hx hm k => by
  obtain ⟨G, F, W, h⟩ := hp
  obtain ⟨p, xs, rfl, e, l, t⟩ := is_tup h.x0
  exact ⟨p, xs, rfl, .inr (sqT_mono h.g e), fun q hq => k a.l _ _ (h.t1.new hq (.lst upd_same l (t.mono (.self (h.g.free hq))))) hm⟩
theorem ok_tupL : OkB Z (rTupOf Z.K) (fun a : List α => mr (⟨a⟩ : Tp α)) := fun L O H a x post px Q hp hx hm k => by
  obtain ⟨G, F, W, h⟩ := hp
  obtain ⟨p, xs, rfl, e, l, t⟩ := is_lst h.x0
  exact ⟨p, xs, rfl, .inl ⟨.inl (.inl (h.g _ _ e)), fun q hq => k ⟨a⟩ _ _ (h.t1.new hq (.tup (.inl (.inl upd_same)) l (t.mono (.self (h.g.free hq))))) hm⟩⟩
theorem ok_tupT : OkB Z (rTupOf Z.K) (fun a : Tp α => mr a) := fun L O H a x post px Q hp hx hm k => by
  obtain ⟨G, F, W, h⟩ := hp
  obtain ⟨p, xs, rfl, e, l, t⟩ := is_tup h.x0
  exact ⟨p, xs, rfl, .inr ⟨sqT_mono h.g e, k a _ _ (h.t1.add (.tup e l t)) hm⟩⟩
theorem isL_bls {bs : List Bool} {xs : List V} (t : IsL K C G xs (bs.map enc)) : xs = bs.map V.bl := by
  induction bs generalizing xs with
  | nil => cases t; rfl
  | cons b bs ih =>
    cases t with
    | cons h t => rw [ih t, is_bl h]; rfl
theorem isL_ints {bs : List Int} {xs : List V} (t : IsL K C G xs (bs.map enc)) : xs = bs.map V.int := by
  induction bs generalizing xs with
  | nil => cases t; rfl
  | cons b bs ih =>
    cases t with
    | cons h t => rw [ih t, is_int h]; rfl
theorem isL_strs {bs : List Str} {xs : List V} (t : IsL K C G xs (bs.map enc)) : xs = bs.map V.str := by
  induction bs generalizing xs with
  | nil => cases t; rfl
  | cons b bs ih =>
    cases t with
    | cons h t => rw [ih t, is_str h]; rfl
theorem ok_any : OkB Z (rAny Z.K) (fun a : List Bool => mr (a.any id)) := fun L O H a x post px Q hp hx hm k => by
  obtain ⟨G, F, W, h⟩ := hp
  obtain ⟨p, xs, rfl, e, l, t⟩ := is_lst h.x0
  exact ⟨p, a, rfl, .inl (.inl (isL_bls t ▸ h.g _ _ e)), k _ _ H (h.t1.add (.bl _)) hm⟩
theorem ok_all : OkB Z (rAll Z.K) (fun a : List Bool => mr (a.all id)) := fun L O H a x post px Q hp hx hm k => by
  obtain ⟨G, F, W, h⟩ := hp
  obtain ⟨p, xs, rfl, e, l, t⟩ := is_lst h.x0
  exact ⟨p, a, rfl, .inl (.inl (isL_bls t ▸ h.g _ _ e)), k _ _ H (h.t1.add (.bl _)) hm⟩
theorem ok_sum : OkB Z (rSum Z.K) (fun a : List Int => mr a.sum) := fun L O H a x post px Q hp hx hm k => by
  obtain ⟨G, F, W, h⟩ := hp
  obtain ⟨p, xs, rfl, e, l, t⟩ := is_lst h.x0
  exact ⟨p, a, rfl, .inl (.inl (isL_ints t ▸ h.g _ _ e)), k _ _ H (h.t1.add (.int _)) hm⟩
/-- the greatest -/
def mmaxL (a : List Int) : M Int := fun post _ => 0 < a.length ∧ ∀ m, m ∈ a → (∀ y, y ∈ a → y ≤ m) → post m
def mminL (a : List Int) : M Int := fun post _ => 0 < a.length ∧ ∀ m, m ∈ a → (∀ y, y ∈ a → m ≤ y) → post m
theorem ok_maxL : OkB Z (rMax Z.K) mmaxL := fun L O H a x post px Q hp hx hm k => by
  obtain ⟨G, F, W, h⟩ := hp
  obtain ⟨p, xs, rfl, e, l, t⟩ := is_lst h.x0
  exact ⟨p, a, rfl, .inl (.inl (isL_ints t ▸ h.g _ _ e)), hm.1, fun m h1 h2 => k _ _ H (h.t1.add (.int _)) (hm.2 m h1 h2)⟩
theorem ok_minL : OkB Z (rMin Z.K) mminL := fun L O H a x post px Q hp hx hm k => by
  obtain ⟨G, F, W, h⟩ := hp
  obtain ⟨p, xs, rfl, e, l, t⟩ := is_lst h.x0
  exact ⟨p, a, rfl, .inl (.inl (isL_ints t ▸ h.g _ _ e)), hm.1, fun m h1 h2 => k _ _ H (h.t1.add (.int _)) (hm.2 m h1 h2)⟩
theorem ok_max2 : OkB2 Z (fun xs H Q => ∃ i j, xs = [.int i, .int j] ∧ Q (.int (if j > i then j else i)) H) (fun i j : Int => mr (if j > i then j else i)) := fun L O H a b x y post px Q hp hx hm k => by
  obtain rfl := is_int hp.hd
  obtain rfl := is_int hp.hd2
  exact ⟨a, b, rfl, k _ _ H (hp.tail.tail.add fun G _ => .int _) hm⟩
theorem ok_min2 : OkB2 Z (fun xs H Q => ∃ i j, xs = [.int i, .int j] ∧ Q (.int (if j < i then j else i)) H) (fun i j : Int => mr (if j < i then j else i)) := fun L O H a b x y post px Q hp hx hm k => by
  obtain rfl := is_int hp.hd
  obtain rfl := is_int hp.hd2
  exact ⟨a, b, rfl, k _ _ H (hp.tail.tail.add fun G _ => .int _) hm⟩
theorem ok_abs : OkB Z (fun xs H Q => ∃ i, xs = [.int i] ∧ Q (.int (if i < 0 then -i else i)) H) (fun i : Int => mr (if i < 0 then -i else i)) := fun L O H a x post px Q hp hx hm k => by
  obtain rfl := is_int hp.hd
  exact ⟨a, rfl, k _ _ H (hp.tail.add fun G _ => .int _) hm⟩
def mstrI (i : Int) : M Str := mreq (i.natAbs.log2 < 1920) (mr (Str.ofString (toString i)))
theorem ok_strI : OkB Z (fun xs H Q => ∃ i, xs = [.int i] ∧ i.natAbs.log2 < 1920 ∧ Q (.str (toString i)) H) mstrI := fun L O H a x post px Q hp hx hm k => by
  obtain rfl := is_int hp.hd
  exact ⟨a, rfl, hm.1, k _ _ H (hp.tail.add fun G _ => .str _) hm.2⟩
/-! ### in -/
theorem ints_flat {ns : List Int} : (ns.map V.int).all flatV = true := Cf.ints_flat
theorem ok_inI : Ok2 Z (rInn Z.K) (fun (a : Int) (b : List Int) => mr (decide (a ∈ b))) := fun L O H a b x y post px Q hp hx hm k => by
  obtain ⟨G, F, W, h⟩ := hp
  obtain ⟨p, xs, rfl, e, l, t⟩ := is_lst h.x0
  obtain rfl := is_int h.x1
  obtain rfl := isL_ints t
  exact Cf.kr_inI (h.g _ _ e) rfl Cf.ints_flat Cf.inV_ints (k _ _ H (h.t2.add (.bl _)) hm)
theorem ok_inS : Ok2 Z (rInn Z.K) (fun (a : Str) (b : List Str) => mr (decide (a ∈ b))) := fun L O H a b x y post px Q hp hx hm k => by
  obtain ⟨G, F, W, h⟩ := hp
  obtain ⟨p, xs, rfl, e, l, t⟩ := is_lst h.x0
  obtain rfl := is_str h.x1
  obtain rfl := isL_strs t
  exact Cf.kr_inI (h.g _ _ e) rfl Cf.strs_flat Cf.inV_strs (k _ _ H (h.t2.add (.bl _)) hm)
theorem ok_inST : Ok2 Z (rInn Z.K) (fun (a : Str) (b : Tp Str) => mr (decide (a ∈ b.l))) := fun L O H a b x y post px Q hp hx hm k => by
  obtain ⟨G, F, W, h⟩ := hp
  obtain ⟨p, xs, rfl, e, l, t⟩ := is_tup h.x0
  obtain rfl := is_str h.x1
  obtain rfl := isL_strs t
  exact Cf.kr_inS (sqT_mono h.g e) rfl Cf.strs_flat Cf.inV_strs (k _ _ H (h.t2.add (.bl _)) hm)
theorem ok_ninI : Ok2 Z (rNotInn Z.K) (fun (a : Int) (b : List Int) => mr (!decide (a ∈ b))) := fun L O H a b x y post px Q hp hx hm k => by
  obtain ⟨G, F, W, h⟩ := hp
  obtain ⟨p, xs, rfl, e, l, t⟩ := is_lst h.x0
  obtain rfl := is_int h.x1
  obtain rfl := isL_ints t
  exact Cf.kr_notInI (h.g _ _ e) rfl Cf.ints_flat Cf.inV_ints (k _ _ H (h.t2.add (.bl _)) hm)
theorem ok_ninS : Ok2 Z (rNotInn Z.K) (fun (a : Str) (b : List Str) => mr (!decide (a ∈ b))) := fun L O H a b x y post px Q hp hx hm k => by
  obtain ⟨G, F, W, h⟩ := hp
  obtain ⟨p, xs, rfl, e, l, t⟩ := is_lst h.x0
  obtain rfl := is_str h.x1
  obtain rfl := isL_strs t
  exact Cf.kr_notInI (h.g _ _ e) rfl Cf.strs_flat Cf.inV_strs (k _ _ H (h.t2.add (.bl _)) hm)
theorem ok_ninST : Ok2 Z (rNotInn Z.K) (fun (a : Str) (b : Tp Str) => mr (!decide (a ∈ b.l))) := fun L O H a b x y post px Q hp hx hm k => by
  obtain ⟨G, F, W, h⟩ := hp
  obtain ⟨p, xs, rfl, e, l, t⟩ := is_tup h.x0
  obtain rfl := is_str h.x1
  obtain rfl := isL_strs t
  exact Cf.kr_notInS (sqT_mono h.g e) rfl Cf.strs_flat Cf.inV_strs (k _ _ H (h.t2.add (.bl _)) hm)
/-! ### objects -/
theorem lookup_isL {f : Str} {d : D} : ∀ {fs : List (Str × V)} {ns : List Str} {ds : List D}, fs.map (·.1) = ns → IsL K C G (fs.map (·.2)) ds → (ns.zip ds).lookup f = Option.some d → ∃ v, fs.lookup f = Option.some v ∧ Is K C G v d
  | [], _, _, hn, t, h => by subst hn; cases h
  | (n, w) :: fs, _, _, hn, t, h => by
    subst hn
    cases t with
    | cons h1 t =>
      simp only [List.map_cons, List.zip_cons_cons, List.lookup] at h ⊢
      by_cases e : f == n
      · rw [e] at h ⊢
        cases h
        exact ⟨_, rfl, h1⟩
      · have e : (f == n) = false := by simpa using e
        rw [e] at h ⊢
        exact lookup_isL rfl t h
theorem EV.fld {ta : TE} {m : M α} {A : Addr} {f : Str} {c : Str} (e : EV Z L O ta σ m) (g : α → β) (ha : Z.C c = Option.some A) (cl : Cls Z.K A) (na : NoAttr Z.K A f) (h : ∀ a, ∃ ns ds, enc a = .obj c ns ds ∧ (ns.zip ds).lookup f = Option.some (enc (g a))) : EV Z L O (tFld Z.K ta f) σ (mb m fun a => mr (g a)) := fun L1 H post px Q s hp hx hm k =>
  e L1 H _ px _ s hp hx hm fun a x H1 hp1 hm1 => by
    obtain ⟨G, F, W, h1⟩ := hp1
    obtain ⟨ns, ds, he, hl⟩ := h a
    obtain ⟨p, A', dx, fs, rfl, e1, e2, e3, t⟩ := is_obj (he ▸ h1.x0)
    obtain rfl : A' = A := Option.some.inj (e2.symm.trans ha)
    obtain ⟨v, q1, q2⟩ := lookup_isL e3 t hl
    exact ⟨p, A', dx, fs, v, rfl, h1.g _ _ e1, cl, na, q1, k _ v H1 (h1.t1.add q2) hm1⟩
theorem EV.fldP {ta : TE} {a : α} {b : β} {A : Addr} {f : Str} {c : Str} (e : EV Z L O ta σ (mr a)) (ha : Z.C c = Option.some A) (cl : Cls Z.K A) (na : NoAttr Z.K A f) (h : ∃ ns ds, enc a = .obj c ns ds ∧ (ns.zip ds).lookup f = Option.some (enc b)) : EV Z L O (tFld Z.K ta f) σ (mr b) := fun L1 H post px Q s hp hx hm k =>
  e L1 H (fun a' => a' = a) px _ s hp hx rfl fun a' x H1 hp1 hm1 => by
    subst hm1
    obtain ⟨G, F, W, h1⟩ := hp1
    obtain ⟨ns, ds, he, hl⟩ := h
    obtain ⟨p, A', dx, fs, rfl, e1, e2, e3, t⟩ := is_obj (he ▸ h1.x0)
    obtain rfl : A' = A := Option.some.inj (e2.symm.trans ha)
    obtain ⟨v, q1, q2⟩ := lookup_isL e3 t hl
    exact ⟨p, A', dx, fs, v, rfl, h1.g _ _ e1, cl, na, q1, k _ v H1 (h1.t1.add q2) hm⟩
end
end Mi

/-! objects, statements -/
namespace Mi
open Enc (enc)
open PySem L2 PySem.Spec PyProof.Rows
open Cf (Fresh)
section
variable {Z : Zx} {L : List (V × D)} {O : List (Addr × D)} {σ : L2.St} {α β γ δ : Type} [Enc α] [Enc β] [Enc γ] [Enc δ]
theorem lookup_none {f : Str} : ∀ {fs : List (Str × V)}, (fs.map (·.1)).contains f = false → fs.lookup f = none
  | [], _ => rfl
  | (n, w) :: fs, h => by
    simp only [List.map_cons, List.contains_cons, Bool.or_eq_false_iff] at h
    simp only [List.lookup, h.1]
    exact lookup_none h.2
/-- an object of the class c, without an attribute named f -/
def ObjNo (c f : Str) (d : D) : Prop := ∃ ns ds, d = .obj c ns ds ∧ ns.contains f = false
theorem PtS.obj {c f : Str} {A : Addr} {x : V} {d : D} {H G F W : Hp} (h : PtS Z ((x, d) :: L) O H G F W) (ha : Z.C c = some A) (o : ObjNo c f d) : ∃ a dx fs, x = .ref a ∧ H a = some (.ins A dx fs) ∧ fs.lookup f = none := by
  obtain ⟨ns, ds, rfl, hn⟩ := o
  obtain ⟨p, A', dx, fs, rfl, e1, e2, e3, t⟩ := is_obj h.x0
  obtain rfl : A' = A := Option.some.inj (e2.symm.trans ha)
  exact ⟨p, dx, fs, rfl, h.g _ _ e1, lookup_none (by rw [e3]; exact hn)⟩
theorem EV.methN {c f : Str} {A : Addr} {sp : Sp} {dvs : List V} {E : XK} {to : TE} {t : TA} {mo : M α} {m : M γ} {ds : γ → List D} {k : α → γ → M β} (e0 : EV Z L O to σ mo) (e : EA Z L O t σ m ds) (ha : Z.C c = some A) (ho : ∀ a, ObjNo c f (enc (a : α)))
    (hc : ∀ a x g vs H Q, vs.length = (ds g).length → CallN Z.K Z.C R0 ((x, enc a) :: vs.zip (ds g)) (k a g) H Q → sp (x :: (vs ++ dvs)) H Q E) : EV Z L O (tMeth A f sp dvs E to t) σ (mb mo fun a => mb m fun g => k a g) := fun L1 H post px Q s hp hx hm kk =>
  e0 L1 H _ px _ s hp hx hm fun a x H1 hp1 hm1 => by
    obtain ⟨G, F, W, h1⟩ := hp1
    obtain ⟨p, dx, fs, rfl, e1, e2⟩ := h1.obj ha (ho a)
    exact ⟨p, dx, fs, rfl, e1, e2, e _ H1 _ px _ (sub_cons s) h1.pt hx hm1 fun g vs H2 hl hp2 hm2 => hc a _ g vs H2 Q hl (call_n (ps := (.ref p, enc a) :: vs.zip (ds g)) (L1 := L1) (hp2.less fun x hx => by
      rcases List.mem_cons.mp hx with e | e
      · rw [e]; exact List.mem_append_right _ List.mem_cons_self
      · rcases List.mem_append.mp e with e | e
        · exact List.mem_append_left _ e
        · exact List.mem_append_right _ (List.mem_cons_of_mem _ e)) hm2 kk)⟩
theorem EV.methNP {c f : Str} {A : Addr} {sp : Sp} {dvs : List V} {E : XK} {to : TE} {t : TA} {a : α} {g : γ} {ds : γ → List D} {m : M β} (e0 : EV Z L O to σ (mr a)) (e : EA Z L O t σ (mr g) ds) (ha : Z.C c = some A) (ho : ObjNo c f (enc a))
    (hc : ∀ x vs H Q, vs.length = (ds g).length → CallN Z.K Z.C R0 ((x, enc a) :: vs.zip (ds g)) m H Q → sp (x :: (vs ++ dvs)) H Q E) : EV Z L O (tMeth A f sp dvs E to t) σ m := fun L1 H post px Q s hp hx hm kk =>
  e0 L1 H (fun a' => a' = a) px _ s hp hx rfl fun a' x H1 hp1 hm1 => by
    subst hm1
    obtain ⟨G, F, W, h1⟩ := hp1
    obtain ⟨p, dx, fs, rfl, e1, e2⟩ := h1.obj ha ho
    exact ⟨p, dx, fs, rfl, e1, e2, e _ H1 (fun g' => g' = g) px _ (sub_cons s) h1.pt hx rfl fun g' vs H2 hl hp2 hm2 => by
      subst hm2
      exact hc _ vs H2 Q hl (call_n (ps := (.ref p, enc a') :: vs.zip (ds g')) (L1 := L1) (hp2.less fun x hx => by
        rcases List.mem_cons.mp hx with e | e
        · rw [e]; exact List.mem_append_right _ List.mem_cons_self
        · rcases List.mem_append.mp e with e | e
          · exact List.mem_append_left _ e
          · exact List.mem_append_right _ (List.mem_cons_of_mem _ e)) hm kk)⟩
theorem EV.prop {c f : Str} {A : Addr} {sp : Sp} {E : XK} {to : TE} {mo : M α} {k : α → M β} (e0 : EV Z L O to σ mo) (ha : Z.C c = some A) (ho : ∀ a, ObjNo c f (enc (a : α)))
    (hc : ∀ a x H Q, CallN Z.K Z.C R0 [(x, enc a)] (k a) H Q → sp [x] H Q E) : EV Z L O (tProp A sp [] E to) σ (mb mo k) := fun L1 H post px Q s hp hx hm kk =>
  e0 L1 H _ px _ s hp hx hm fun a x H1 hp1 hm1 => by
    obtain ⟨G, F, W, h1⟩ := hp1
    obtain ⟨p, dx, fs, rfl, e1, e2⟩ := h1.obj ha (ho a)
    exact ⟨p, dx, fs, rfl, e1, hc a _ H1 Q (call_n (ps := [(.ref p, enc a)]) (L1 := L1) h1.pt hm1 kk)⟩
theorem EV.propP {c f : Str} {A : Addr} {sp : Sp} {E : XK} {to : TE} {a : α} {m : M β} (e0 : EV Z L O to σ (mr a)) (ha : Z.C c = some A) (ho : ObjNo c f (enc a))
    (hc : ∀ x H Q, CallN Z.K Z.C R0 [(x, enc a)] m H Q → sp [x] H Q E) : EV Z L O (tProp A sp [] E to) σ m := fun L1 H post px Q s hp hx hm kk =>
  e0 L1 H (fun a' => a' = a) px _ s hp hx rfl fun a' x H1 hp1 hm1 => by
    subst hm1
    obtain ⟨G, F, W, h1⟩ := hp1
    obtain ⟨p, dx, fs, rfl, e1, e2⟩ := h1.obj ha ho
    exact ⟨p, dx, fs, rfl, e1, hc _ H1 Q (call_n (ps := [(.ref p, enc a')]) (L1 := L1) h1.pt hm kk)⟩
/-! ### an object is made -/
/-- an __init__'s promise: at x stands an empty object of the class c, behind it what m says -/
def CallI (K : PySem.W.Frag) (C : CT) (c : Str) (x : Addr) (L : List (V × D)) (m : M α) (H : Hp) (Q : VK) (E : XK) : Prop :=
  ∃ (G0 F0 : Hp) (post : α → Prop) (px : Exn → Prop), Pt ⟨K, C, R0, G0, F0, E⟩ L [(x, .obj c [] [])] H ∧ m post px ∧ HX ⟨K, C, R0, G0, F0, E⟩ px ∧ ∀ (r : α) (H' : Hp), Pt ⟨K, C, R0, G0, F0, E⟩ [] [(x, enc r)] H' → post r → Q .non H'
def CallIN (K : PySem.W.Frag) (C : CT) (c : Str) (x : Addr) (L : List (V × D)) (m : M α) (H : Hp) (Q : VK) : Prop :=
  ∃ (G0 F0 : Hp) (post : α → Prop) (px : Exn → Prop), Pt ⟨K, C, R0, G0, F0, ET0⟩ L [(x, .obj c [] [])] H ∧ m post px ∧ ∀ (r : α) (H' : Hp), Pt ⟨K, C, R0, G0, F0, ET0⟩ [] [(x, enc r)] H' → post r → Q .non H'
theorem PtS.enterI {L1 : List (V × D)} {H G F W : Hp} {ps : List (V × D)} {E : XK} {x dx A : Addr} {c : Str} (h : PtS Z (ps ++ L1) O H G F W) (ha : Z.C c = some A) (hx : Fresh H x) (hd : Fresh H dx) (ne : dx ≠ x) :
    Pt ⟨Z.K, Z.C, R0, G, join F W, E⟩ ps [(x, .obj c [] [])] (upd (upd H dx (.own x)) x (.ins A dx [])) := by
  have p0 : Pt ⟨Z.K, Z.C, R0, G, join F W, E⟩ ps [] H := h.enter
  have p1 : Pt ⟨Z.K, Z.C, R0, G, join F W, E⟩ ps [] (upd H dx (.own x)) := by
    obtain ⟨G1, F1, W1, q⟩ := p0
    exact ⟨G1, F1, W1, { q with g := q.g.new hd, f := q.f.new hd, w := q.w.new hd }⟩
  refine p1.own ?_ fun G' _ => .obj (fs := []) ha .nil
  show (upd H dx (.own x)) x = none
  rw [upd_ne (Ne.symm ne)]; exact hx
theorem EV.makeN {c : Str} {A : Addr} {sp : Sp} {dvs : List V} {E : XK} {t : TA} {m : M γ} {ds : γ → List D} {k : γ → M α} (e : EA Z L O t σ m ds) (ha : Z.C c = some A)
    (hc : ∀ x g vs H Q, vs.length = (ds g).length → CallIN Z.K Z.C c x (vs.zip (ds g)) (k g) H Q → sp (.ref x :: (vs ++ dvs)) H Q E) : EV Z L O (tMake A sp dvs E t) σ (mb m k) := fun L1 H post px Q s hp hx hm kk =>
  e L1 H _ px _ s hp hx hm fun g vs H1 hl hp1 hm1 x dx nx nd ne => by
    obtain ⟨G, F, W, h1⟩ := hp1
    exact hc x g vs _ _ hl ⟨G, join F W, post, px, h1.enterI ha nx nd ne, hm1, fun r H' q hr => ⟨rfl, kk r _ H' (h1.leave (q.freeze .hd)) hr⟩⟩
theorem EV.makeNP {c : Str} {A : Addr} {sp : Sp} {dvs : List V} {E : XK} {t : TA} {g : γ} {ds : γ → List D} {m : M α} (e : EA Z L O t σ (mr g) ds) (ha : Z.C c = some A)
    (hc : ∀ x vs H Q, vs.length = (ds g).length → CallIN Z.K Z.C c x (vs.zip (ds g)) m H Q → sp (.ref x :: (vs ++ dvs)) H Q E) : EV Z L O (tMake A sp dvs E t) σ m := fun L1 H post px Q s hp hx hm kk =>
  e L1 H (fun g' => g' = g) px _ s hp hx rfl fun g' vs H1 hl hp1 hm1 x dx nx nd ne => by
    subst hm1
    obtain ⟨G, F, W, h1⟩ := hp1
    exact hc x vs _ _ hl ⟨G, join F W, post, px, h1.enterI ha nx nd ne, hm, fun r H' q hr => ⟨rfl, kk r _ H' (h1.leave (q.freeze .hd)) hr⟩⟩
theorem EV.makeX {c : Str} {A : Addr} {sp : Sp} {dvs : List V} {t : TA} {m : M γ} {ds : γ → List D} {k : γ → M α} (e : EA Z L O t σ m ds) (ha : Z.C c = some A)
    (hc : ∀ x g vs H Q, vs.length = (ds g).length → CallI Z.K Z.C c x (vs.zip (ds g)) (k g) H Q Z.E → sp (.ref x :: (vs ++ dvs)) H Q Z.E) : EV Z L O (tMake A sp dvs Z.E t) σ (mb m k) := fun L1 H post px Q s hp hx hm kk =>
  e L1 H _ px _ s hp hx hm fun g vs H1 hl hp1 hm1 x dx nx nd ne => by
    obtain ⟨G, F, W, h1⟩ := hp1
    exact hc x g vs _ _ hl ⟨G, join F W, post, px, h1.enterI ha nx nd ne, hm1, fun e c d H' q hpx => hx e c d H' (h1.leaveX q) hpx, fun r H' q hr => ⟨rfl, kk r _ H' (h1.leave (q.freeze .hd)) hr⟩⟩
theorem EV.makeF {c : Str} {A : Addr} {sp : Sp} {dvs : List V} {E : XK} {t : TA} {m : M γ} {ds : γ → List D} {k : γ → M α} (e : EA Z L O t σ m ds) (ha : Z.C c = some A)
    (hc : ∀ x g vs H Q, vs.length = (ds g).length → CallI Z.K Z.C c x (vs.zip (ds g)) (k g) H Q E → sp (.ref x :: (vs ++ dvs)) H Q E) : EV Z L O (tMake A sp dvs E t) σ (mb m fun g => mno (k g)) := fun L1 H post px Q s hp hx hm kk =>
  e L1 H _ px _ s hp hx hm fun g vs H1 hl hp1 hm1 x dx nx nd ne => by
    obtain ⟨G, F, W, h1⟩ := hp1
    exact hc x g vs _ _ hl ⟨G, join F W, post, _, h1.enterI ha nx nd ne, hm1, fun e c d H' q hpx => hpx.elim, fun r H' q hr => ⟨rfl, kk r _ H' (h1.leave (q.freeze .hd)) hr⟩⟩
/-! ## statements -/
section
variable {ε : Type} {nx : L2.St → Hp → Prop} {rt : VK} {bk ct : L2.St → Hp → Prop} {H : Hp} {px : Exn → Prop} {ρ : Type} {post : ρ → Prop}
theorem s_asg {te : TE} {i : Nat} {m : M α} {k : α → M ρ} (hp : Pt Z L O H) (hx : HX Z px) (hm : mb m k post px) (e : EV Z L O te σ m) (c : ∀ a v H', Pt Z ((v, enc a) :: L) O H' → k a post px → nx (σ.set i (some v)) H') : tAsg te (gName i) ⟨nx, rt, bk, ct⟩ σ H :=
  e L H _ px _ sub_refl' hp hx hm fun a v H' hp' hm' => c a v H' hp' hm'
theorem s_asgP {te : TE} {i : Nat} {a : α} (hp : Pt Z L O H) (hx : HX Z px) (e : EV Z L O te σ (mr a)) (c : ∀ v H', Pt Z ((v, enc a) :: L) O H' → nx (σ.set i (some v)) H') : tAsg te (gName i) ⟨nx, rt, bk, ct⟩ σ H :=
  e L H (fun a' => a' = a) px _ sub_refl' hp hx rfl fun a' v H' hp' hm' => by subst hm'; exact c v H' hp'
/-- a new list of one's own -/
theorem s_asgL {t : TA} {i : Nat} {m : M ε} {ds : ε → List D} {k : ε → M ρ} (hp : Pt Z L O H) (hx : HX Z px) (hm : mb m k post px) (e : EA Z L O t σ m ds) (hl : ∀ g, (ds g).length ≤ 1000)
    (c : ∀ g p H', Pt Z L ((p, .lst (ds g)) :: O) H' → k g post px → nx (σ.set i (some (.ref p))) H') : tAsg (tLst t) (gName i) ⟨nx, rt, bk, ct⟩ σ H :=
  e L H _ px _ sub_refl' hp hx hm fun g vs H' h1 hp' hm' => ⟨by rw [h1]; exact Cf.size_ok (hl g), fun p np => c g p _ ((hp'.own (o := .lst vs) (d := .lst (ds g)) np fun G hG => .lst (by rw [h1]; exact Nat.le_trans (hl g) (by decide)) (zip_is h1 fun x hx => hG x (List.mem_append_left _ hx))).less fun x hx => List.mem_append_right _ hx) hm'⟩
theorem s_asgLP {t : TA} {i : Nat} {g : ε} {ds : ε → List D} (hp : Pt Z L O H) (hx : HX Z px) (e : EA Z L O t σ (mr g) ds) (hl : (ds g).length ≤ 1000)
    (c : ∀ p H', Pt Z L ((p, .lst (ds g)) :: O) H' → nx (σ.set i (some (.ref p))) H') : tAsg (tLst t) (gName i) ⟨nx, rt, bk, ct⟩ σ H :=
  e L H (fun g' => g' = g) px _ sub_refl' hp hx rfl fun g' vs H' h1 hp' hm' => by
    subst hm'
    exact ⟨by rw [h1]; exact Cf.size_ok hl, fun p np => c p _ ((hp'.own (o := .lst vs) (d := .lst (ds g')) np fun G hG => .lst (by rw [h1]; exact Nat.le_trans hl (by decide)) (zip_is h1 fun x hx => hG x (List.mem_append_left _ hx))).less fun x hx => List.mem_append_right _ hx)⟩
theorem s_drop {te : TE} {m : M α} {k : α → M ρ} (hp : Pt Z L O H) (hx : HX Z px) (hm : mb m k post px) (e : EV Z L O te σ m) (c : ∀ a H', Pt Z L O H' → k a post px → nx σ H') : tDrop te ⟨nx, rt, bk, ct⟩ σ H :=
  e L H _ px _ sub_refl' hp hx hm fun a v H' hp' hm' => c a H' hp'.tail hm'
theorem s_ret {te : TE} {m : M α} {k : α → M ρ} (hp : Pt Z L O H) (hx : HX Z px) (hm : mb m k post px) (e : EV Z L O te σ m) (c : ∀ a v H', Pt Z ((v, enc a) :: L) O H' → k a post px → rt v H') : tRet te ⟨nx, rt, bk, ct⟩ σ H :=
  e L H _ px _ sub_refl' hp hx hm fun a v H' hp' hm' => c a v H' hp' hm'
theorem s_retP {te : TE} {a : α} (hp : Pt Z L O H) (hx : HX Z px) (e : EV Z L O te σ (mr a)) (c : ∀ v H', Pt Z ((v, enc a) :: L) O H' → rt v H') : tRet te ⟨nx, rt, bk, ct⟩ σ H :=
  e L H (fun a' => a' = a) px _ sub_refl' hp hx rfl fun a' v H' hp' hm' => by subst hm'; exact c v H' hp'
theorem s_ret1 {te : TE} {m : M α} {post : α → Prop} (hp : Pt Z L O H) (hx : HX Z px) (hm : m post px) (e : EV Z L O te σ m) (c : ∀ a v H', Pt Z ((v, enc a) :: L) O H' → post a → rt v H') : tRet te ⟨nx, rt, bk, ct⟩ σ H :=
  e L H _ px _ sub_refl' hp hx hm fun a v H' hp' hm' => c a v H' hp' hm'
theorem s_if {t : TT} {a b : TS} {D : Ends} {mc : M Bool} {m1 m2 : M ρ} (hp : Pt Z L O H) (hx : HX Z px) (hm : mite mc m1 m2 post px) (e : ET Z L O t σ mc) (c1 : ∀ H', Pt Z L O H' → m1 post px → a D σ H') (c2 : ∀ H', Pt Z L O H' → m2 post px → b D σ H') : tIfS t a b D σ H :=
  e L H _ px _ sub_refl' hp hx hm fun c H' hp' hm' => by
    cases c with
    | true => rw [if_pos rfl] at hm' ⊢; exact c1 H' hp' hm'
    | false => rw [if_neg (by decide)] at hm' ⊢; exact c2 H' hp' hm'
theorem s_ifP {t : TT} {a b : TS} {D : Ends} {c : Bool} {m1 m2 : M ρ} (hp : Pt Z L O H) (hx : HX Z px) (hm : (if c = true then m1 else m2) post px) (e : ET Z L O t σ (mr c)) (c1 : ∀ H', Pt Z L O H' → c = true → m1 post px → a D σ H') (c2 : ∀ H', Pt Z L O H' → c = false → m2 post px → b D σ H') : tIfS t a b D σ H :=
  e L H (fun c' => c' = c) px _ sub_refl' hp hx rfl fun c' H' hp' hm' => by
    subst hm'
    cases c' with
    | true => rw [if_pos rfl] at hm ⊢; exact c1 H' hp' rfl hm
    | false => rw [if_neg (by decide)] at hm ⊢; exact c2 H' hp' rfl hm
theorem s_seq {a b : TS} (h : a ⟨b ⟨nx, rt, bk, ct⟩, rt, bk, ct⟩ σ H) : tSeq a b ⟨nx, rt, bk, ct⟩ σ H := h
/-- what holds behind a statement, once for all its ways -/
theorem s_cut {a b : TS} {R : L2.St → Hp → Prop} (h1 : a ⟨R, rt, bk, ct⟩ σ H) (mono : ∀ B : L2.St → Hp → Prop, (∀ σ' H', R σ' H' → B σ' H') → a ⟨R, rt, bk, ct⟩ σ H → a ⟨B, rt, bk, ct⟩ σ H) (h2 : ∀ σ' H', R σ' H' → b ⟨nx, rt, bk, ct⟩ σ' H') : tSeq a b ⟨nx, rt, bk, ct⟩ σ H := mono _ h2 h1
/-! ### one's own list -/
theorem is_cell {K : PySem.W.Frag} {C : CT} {G : Hp} {o : HO} {ds : List D} (h : Cell K C G o (.lst ds)) : ∃ xs, o = .lst xs ∧ xs.length ≤ 1000000 ∧ IsL K C G xs ds := by
  cases h with
  | lst l t => exact ⟨_, rfl, l, t⟩
def mpush {α : Type} (xs : List α) (a : α) : M (List α) := mreq (xs.length < 1000000) (mr (xs ++ [a]))
theorem enc_snoc {xs : List α} {a : α} : enc (xs ++ [a]) = D.lst (xs.map enc ++ [enc a]) := by
  show D.lst ((xs ++ [a]).map enc) = _
  rw [List.map_append]; rfl
theorem s_append {ta : TE} {p : Addr} {O' : α → List (Addr × D)} {i : Nat} {m : M α} {xs : List α} {k : List α → M ρ} (hi : σ[i]? = some (some (.ref p))) (hmem : (p, enc xs) ∈ O) (hp : Pt Z L O H) (hx : HX Z px) (hm : (mb m fun a => mb (mpush xs a) k) post px) (e : EV Z L O ta σ m)
    (u : ∀ a : α, Up p (enc xs) (enc (xs ++ [a])) O (O' a)) (c : ∀ a H', Pt Z L (O' a) H' → k (xs ++ [a]) post px → nx σ H') : tDrop (tBM Z.K "list" rAppend (tVar i) (tCons ta tNil)) ⟨nx, rt, bk, ct⟩ σ H := by
  refine ⟨_, hi, ?_, ?_⟩
  · obtain ⟨G, F, W, h⟩ := hp
    obtain ⟨ho, e1, e2, e3⟩ := h.o _ hmem
    obtain ⟨vs, rfl, l, t⟩ := is_cell e3
    exact .inl ⟨rfl, vs, .inl (.inl (h.f _ _ e1))⟩
  · refine e L H _ px _ sub_refl' hp hx hm fun a v H1 hp1 hm1 => ?_
    obtain ⟨hl, hm1⟩ := hm1
    obtain ⟨ho, G, e1, e2, e3, e4⟩ := hp1.at (u a).mem
    obtain ⟨vs, rfl, l, t⟩ := is_cell e2
    have n := t.len
    rw [List.length_map] at n
    refine ⟨p, vs, v, rfl, rfl, e1, by rw [n]; exact Nat.lt_of_lt_of_le hl (by rw [sizeLine_eq]; decide), c a _ ((hp1.put (u a) fun G' hG ho hh hc => ?_).tail) hm1⟩
    rw [e1] at hh
    cases hh
    obtain ⟨ws, e, l', t'⟩ := is_cell hc
    cases e
    have hv := hG _ List.mem_cons_self
    rw [enc_snoc]
    exact .lst (by rw [List.length_append]; show vs.length + 1 ≤ 1000000; omega) (t'.put hv)
/-! ### what is walked -/
/-- J gives xs, one by one; w: the thing that is walked -/
def ItOk (Z : Zx) (J : It) (w : V × D) (xs : List α) : Prop := xs.length ≤ 1000000 ∧ ∃ (G : Hp → Prop) (Y : Nat → Hp → V → Hp → Prop), Walk J xs.length G Y ∧ (∀ (L : List (V × D)) (O : List (Addr × D)) (H : Hp), w ∈ L → Pt Z L O H → G H) ∧
  ∀ (L : List (V × D)) (O : List (Addr × D)) (i : Nat) (H : Hp) (x : V) (H' : Hp), w ∈ L → Pt Z L O H → i < xs.length → Y i H x H' → ∃ a, xs[i]? = some a ∧ Pt Z ((x, enc a) :: L) O H'
def EI (Z : Zx) (L : List (V × D)) (O : List (Addr × D)) (t : TI) (σ : L2.St) (m : M (List α)) : Prop :=
  ∀ (L1 : List (V × D)) (H : Hp) (post : List α → Prop) (px : Exn → Prop) (R : It → Hp → Prop), (∀ x ∈ L, x ∈ L1) → Pt Z L1 O H → HX Z px → m post px →
    (∀ (xs : List α) (w : V × D) (J : It) (H' : Hp), Pt Z (w :: L1) O H' → ItOk Z J w xs → post xs → R J H') → t σ H R
theorem walkL {K : PySem.W.Frag} {p : Addr} {n : Nat} : Walk (Itl K p) n (fun H => ∃ vs, SqL K H p vs ∧ vs.length = n) (fun i H x H' => H' = H ∧ ∀ vs, SqL K H p vs → vs[i]? = some x) :=
  ⟨fun i H hi ⟨vs, h, e⟩ => ⟨vs, _, h, List.getElem?_eq_getElem (by omega)⟩, fun H ⟨vs, h, e⟩ => ⟨vs, h, by omega⟩, fun i H x H' hi _ y => y⟩
theorem walkT {K : PySem.W.Frag} {p : Addr} {n : Nat} : Walk (Itt K p) n (fun H => ∃ vs, SqT K H p vs ∧ vs.length = n) (fun i H x H' => H' = H ∧ ∀ vs, SqT K H p vs → vs[i]? = some x) :=
  ⟨fun i H hi ⟨vs, h, e⟩ => ⟨vs, _, h, List.getElem?_eq_getElem (by omega)⟩, fun H ⟨vs, h, e⟩ => ⟨vs, h, by omega⟩, fun i H x H' hi _ y => y⟩
theorem isL_at {K : PySem.W.Frag} {C : CT} {G : Hp} {xs : List α} {vs : List V} {i : Nat} {x : V} (t : IsL K C G vs (xs.map enc)) (e : vs[i]? = some x) : ∃ a, xs[i]? = some a ∧ Is K C G x (enc a) := by
  obtain ⟨d, e1, e2⟩ := t.get e
  rw [List.getElem?_map] at e1
  cases h : xs[i]? with
  | none => rw [h] at e1; cases e1
  | some a => rw [h] at e1; cases e1; exact ⟨a, rfl, e2⟩
theorem itOk_list {p : Addr} {xs : List α} (hl : xs.length ≤ 1000000) : ItOk Z (Itl Z.K p) (.ref p, enc xs) xs := by
  refine ⟨hl, _, _, walkL, fun L O H hw hp => ?_, fun L O i H x H' hw hp hi hy => ?_⟩
  · obtain ⟨G, F, W, h⟩ := hp
    obtain ⟨p', vs, e0, e1, l, t⟩ := is_lst (h.l _ hw)
    cases e0
    exact ⟨vs, .inl (.inl (h.g _ _ e1)), by rw [t.len, List.length_map]⟩
  · obtain ⟨rfl, hy⟩ := hy
    obtain ⟨G, F, W, h⟩ := hp
    obtain ⟨p', vs, e0, e1, l, t⟩ := is_lst (h.l _ hw)
    cases e0
    obtain ⟨a, q1, q2⟩ := isL_at t (hy vs (.inl (.inl (h.g _ _ e1))))
    exact ⟨a, q1, h.add q2⟩
theorem itOk_tup {p : Addr} {xs : Tp α} (hl : xs.l.length ≤ 1000000) : ItOk Z (Itt Z.K p) (.ref p, enc xs) xs.l := by
  refine ⟨hl, _, _, walkT, fun L O H hw hp => ?_, fun L O i H x H' hw hp hi hy => ?_⟩
  · obtain ⟨G, F, W, h⟩ := hp
    obtain ⟨p', vs, e0, e1, l, t⟩ := is_tup (h.l _ hw)
    cases e0
    exact ⟨vs, sqT_mono h.g e1, by rw [t.len, List.length_map]⟩
  · obtain ⟨rfl, hy⟩ := hy
    obtain ⟨G, F, W, h⟩ := hp
    obtain ⟨p', vs, e0, e1, l, t⟩ := is_tup (h.l _ hw)
    cases e0
    obtain ⟨a, q1, q2⟩ := isL_at t (hy vs (sqT_mono h.g e1))
    exact ⟨a, q1, h.add q2⟩
theorem EI.list {tl : TE} {m : M (List α)} (e : EV Z L O tl σ m) : EI Z L O (iList Z.K tl) σ m := fun L1 H post px R s hp hx hm k =>
  e L1 H _ px _ s hp hx hm fun xs v H' hp' hb => by
    obtain ⟨G, F, W, h⟩ := id hp'
    obtain ⟨p, vs, rfl, e1, l, t⟩ := is_lst h.x0
    exact ⟨p, rfl, ⟨vs, .inl (.inl (h.g _ _ e1))⟩, k xs _ _ H' hp' (itOk_list (by have := t.len; rw [List.length_map] at this; omega)) hb⟩
theorem EI.tup {tl : TE} {m : M (Tp α)} (e : EV Z L O tl σ m) : EI Z L O (iTup Z.K tl) σ (mb m fun a => mr a.l) := fun L1 H post px R s hp hx hm k =>
  e L1 H _ px _ s hp hx hm fun xs v H' hp' hb => by
    obtain ⟨G, F, W, h⟩ := id hp'
    obtain ⟨p, vs, rfl, e1, l, t⟩ := is_tup h.x0
    exact ⟨p, rfl, ⟨vs, sqT_mono h.g e1⟩, k xs.l _ _ H' hp' (itOk_tup (by have := t.len; rw [List.length_map] at this; omega)) hb⟩
theorem EI.tupP {tl : TE} {a : Tp α} (e : EV Z L O tl σ (mr a)) : EI Z L O (iTup Z.K tl) σ (mr a.l) := EI.tup e
/-- lo, lo + 1, .. -/
def mrange (lo hi : Int) : M (List Int) := mreq (-(2 ^ 62) ≤ lo ∧ lo < 2 ^ 62 ∧ -(2 ^ 62) ≤ hi ∧ hi < 2 ^ 62 ∧ hi - lo ≤ 1000000) (mr ((List.range (hi - lo).toNat).map fun (i : Nat) => lo + (i : Int)))
theorem itOk_range {lo : Int} {n : Nat} (hl : n ≤ 1000000) : ItOk Z (Itr lo n) (.non, .non) ((List.range n).map fun (i : Nat) => lo + (i : Int)) := by
  have hn : ((List.range n).map fun (i : Nat) => lo + (i : Int)).length = n := by simp
  have wk : Walk (Itr lo n) ((List.range n).map fun (i : Nat) => lo + (i : Int)).length (fun _ => True) (YFn fun i => .int (lo + i)) := by rw [hn]; exact walk_range
  refine ⟨by rw [hn]; exact hl, _, _, wk, fun L O H hw hp => trivial, fun L O i H x H' hw hp hi hy => ?_⟩
  obtain ⟨rfl, rfl⟩ := hy
  rw [hn] at hi
  exact ⟨lo + i, by simp [hi], hp.add fun G _ => .int _⟩
theorem EI.range1 {te : TE} {m : M Int} (e : EV Z L O te σ m) : EI Z L O (iRng1 (tCons te tNil)) σ (mb m fun n => mrange 0 n) := fun L1 H post px R s hp hx hm k =>
  e L1 H _ px _ s hp hx hm fun n v H' hp' hb => by
    obtain rfl := is_int hp'.hd
    obtain ⟨⟨_, _, h1, h2, h3⟩, hb⟩ := hb
    refine ⟨n, rfl, h1, h2, ?_⟩
    have e0 : (n - 0).toNat = n.toNat := by rw [Int.sub_zero]
    exact k _ (.non, .non) _ H' (hp'.tail.add fun G _ => .non) (itOk_range (by omega)) (e0 ▸ hb)
theorem EI.range1P {te : TE} {n : Int} (e : EV Z L O te σ (mr n)) : EI Z L O (iRng1 (tCons te tNil)) σ (mrange 0 n) := EI.range1 e
theorem EI.range2 {ta tb : TE} {m1 m2 : M Int} (e1 : EV Z L O ta σ m1) (e2 : EV Z L O tb σ m2) : EI Z L O (iRng2 (tCons ta (tCons tb tNil))) σ (mb m1 fun a => mb m2 fun b => mrange a b) := fun L1 H post px R s hp hx hm k =>
  e1 L1 H _ px _ s hp hx hm fun a v H1 hp1 hm1 => e2 _ H1 _ px _ (sub_cons s) hp1 hx hm1 fun b w H2 hp2 hb => by
    obtain rfl := is_int hp2.hd
    obtain rfl := is_int hp2.hd2
    obtain ⟨h1, hb⟩ := hb
    exact ⟨a, b, rfl, ⟨h1.1, h1.2.1, h1.2.2.1, h1.2.2.2.1⟩, k _ (.non, .non) _ H2 (hp2.tail.tail.add fun G _ => .non) (itOk_range (by have := h1.2.2.2.2; omega)) hb⟩
theorem EI.range2P {ta tb : TE} {a b : Int} (e1 : EV Z L O ta σ (mr a)) (e2 : EV Z L O tb σ (mr b)) : EI Z L O (iRng2 (tCons ta (tCons tb tNil))) σ (mrange a b) := EI.range2 e1 e2
/-- the signs of a text -/
def signs (z : Str) : List Str := z.cps.toList.map fun c => ⟨#[c]⟩
def msigns (z : Str) : M (List Str) := mreq (z.length ≤ 1000000) (mr (signs z))
theorem itOk_str {z : Str} (hl : z.length ≤ 1000000) : ItOk Z (Its z) (.non, .non) (signs z) := by
  have hn : (signs z).length = z.cps.size := by simp [signs]
  have wk : Walk (Its z) (signs z).length (fun _ => True) (fun i H v H' => H' = H ∧ ∃ c, z.cps[i]? = some c ∧ v = .str ⟨#[c]⟩) := by rw [hn]; exact walk_str
  refine ⟨by rw [hn]; exact hl, _, _, wk, fun L O H hw hp => trivial, fun L O i H x H' hw hp hi hy => ?_⟩
  obtain ⟨rfl, c, e1, rfl⟩ := hy
  refine ⟨⟨#[c]⟩, ?_, hp.add fun G _ => .str _⟩
  have e2 : z.cps.toList[i]? = some c := by rw [Array.getElem?_toList]; exact e1
  show (z.cps.toList.map _)[i]? = _
  rw [List.getElem?_map, e2]
  rfl
theorem EI.str {te : TE} {m : M Str} (e : EV Z L O te σ m) : EI Z L O (iStr te) σ (mb m msigns) := fun L1 H post px R s hp hx hm k =>
  e L1 H _ px _ s hp hx hm fun z v H' hp' hb => by
    obtain rfl := is_str hp'.hd
    exact ⟨z, rfl, k _ (.non, .non) _ H' (hp'.tail.add fun G _ => .non) (itOk_str hb.1) hb.2⟩
theorem EI.strP {te : TE} {z : Str} (e : EV Z L O te σ (mr z)) : EI Z L O (iStr te) σ (msigns z) := EI.str e
/-- place and item -/
def enumL {α : Type} (xs : List α) : List (Int × α) := xs.zipIdx.map fun p => ((p.2 : Int), p.1)
theorem EI.enum {tl : TE} {m : M (List α)} (e : EV Z L O tl σ m) : EI Z L O (iEnum Z.K (tCons tl tNil)) σ (mb m fun a => mr (enumL a)) := fun L1 H post px R s hp hx hm k =>
  e L1 H _ px _ s hp hx hm fun xs v H' hp' hb => by
    obtain ⟨G, F, W, h⟩ := id hp'
    obtain ⟨p, vs, rfl, e1, l, t⟩ := is_lst h.x0
    have hn : (enumL xs).length = xs.length := by simp [enumL]
    refine ⟨p, vs, rfl, .inl (.inl (h.g _ _ e1)), k _ _ _ H' hp' ⟨by have := t.len; rw [List.length_map] at this; omega, fun H => ∃ vs, SqL Z.K H p vs ∧ vs.length = xs.length, fun i H v H' => ∃ T x, v = .ref T ∧ H T = none ∧ H' = upd H T (.tup [.int (i : Nat), x]) ∧ ∀ xs, SqL Z.K H p xs → xs[i]? = some x, ?_, fun L O H hw hp => ?_, fun L O i H x H' hw hp hi hy => ?_⟩ hb⟩
    · rw [hn]
      exact ⟨fun i H hi ⟨vs, h, e⟩ => ⟨vs, _, h, List.getElem?_eq_getElem (by omega)⟩, fun H ⟨vs, h, e⟩ => ⟨vs, h, by omega⟩, fun i H x H' hi _ y => y⟩
    · obtain ⟨G, F, W, h⟩ := hp
      obtain ⟨p', vs, e0, e1, l, t⟩ := is_lst (h.l _ hw)
      cases e0
      exact ⟨vs, .inl (.inl (h.g _ _ e1)), by rw [t.len, List.length_map]⟩
    · obtain ⟨T, y, rfl, nT, rfl, hy⟩ := hy
      obtain ⟨G, F, W, h⟩ := hp
      obtain ⟨p', vs, e0, e1, l, t⟩ := is_lst (h.l _ hw)
      cases e0
      obtain ⟨a, q1, q2⟩ := isL_at t (hy vs (.inl (.inl (h.g _ _ e1))))
      refine ⟨((i : Int), a), by simp [enumL, q1], h.new nT ?_⟩
      exact .tup (.inl (.inl upd_same)) (by simp) (.cons (.int _) (.cons (q2.mono (.self (h.g.free nT))) .nil))
theorem EI.enumP {tl : TE} {a : List α} (e : EV Z L O tl σ (mr a)) : EI Z L O (iEnum Z.K (tCons tl tNil)) σ (mr (enumL a)) := EI.enum e
theorem PtS.adds {H G F W : Hp} (h : PtS Z L O H G F W) {v : V} {d : D} (hd : Is Z.K Z.C G v d) : PtS Z ((v, d) :: L) O H G F W :=
  { h with l := fun x hx => by rcases List.mem_cons.mp hx with e | e; (· rw [e]; exact hd); (· exact h.l x e) }
/-! ### targets -/
theorem g_name {i : Nat} {x : V} {σ' : L2.St} {Q : L2.St → Hp → Prop} (e : σ.set i (some x) = σ') (c : Q σ' H) : gName i x σ H Q := by subst e; exact c
theorem g_two {i j : Nat} {x : V} {a : α} {b : β} {Q : L2.St → Hp → Prop} (hp : Pt Z ((x, enc (a, b)) :: L) O H) (c : ∀ v w, Pt Z ((w, enc b) :: (v, enc a) :: L) O H → Q ((σ.set i (some v)).set j (some w)) H) : gTup Z.K 2 (gCons (gName i) (gCons (gName j) gNil)) x σ H Q := by
  obtain ⟨G, F, W, h⟩ := hp
  obtain ⟨p, xs, rfl, e1, l, t⟩ := is_tup h.x0
  cases t with
  | cons h1 t =>
    cases t with
    | cons h2 t =>
      cases t
      refine ⟨p, _, rfl, sqT_mono h.g e1, rfl, _, _, rfl, _, _, rfl, rfl, c _ _ ?_⟩
      exact ((h.t1.adds h1).adds h2).pt
theorem g_three {i j k : Nat} {x : V} {a : α} {b : β} {d : γ} {Q : L2.St → Hp → Prop} (hp : Pt Z ((x, enc (⟨a, b, d⟩ : T3 α β γ)) :: L) O H) (c : ∀ v w u, Pt Z ((u, enc d) :: (w, enc b) :: (v, enc a) :: L) O H → Q (((σ.set i (some v)).set j (some w)).set k (some u)) H) : gTup Z.K 3 (gCons (gName i) (gCons (gName j) (gCons (gName k) gNil))) x σ H Q := by
  obtain ⟨G, F, W, h⟩ := hp
  obtain ⟨p, xs, rfl, e1, l, t⟩ := is_tup h.x0
  cases t with
  | cons h1 t =>
    cases t with
    | cons h2 t =>
      cases t with
      | cons h3 t =>
        cases t
        refine ⟨p, _, rfl, sqT_mono h.g e1, rfl, _, _, rfl, _, _, rfl, _, _, rfl, rfl, c _ _ _ ?_⟩
        exact (((h.t1.adds h1).adds h2).adds h3).pt
/-! ### loops -/
/-- a for: S the slots, Lf, Of what stands, by r (the values of the slots) and c (what they mean) -/
theorem s_for {ι : Type} {ρ' : Type} {wi : TI} {g : TG} {tb : TS} {ml : M (List α)} {f : α → γ → M (Stp γ ρ')} {k : γ ⊕ ρ' → M ρ} {c0 : γ} (hp : Pt Z L O H) (hx : HX Z px) (hm : (mb ml fun xs => mb (forR xs c0 f) k) post px) (e : EI Z L O wi σ ml)
    (S : ι → γ → L2.St) (Lf : V × D → ι → γ → List (V × D)) (Of : ι → γ → List (Addr × D))
    (h0 : ∀ w H', Pt Z (w :: L) O H' → ∃ r, σ = S r c0 ∧ Pt Z (Lf w r c0) (Of r c0) H') (hw : ∀ w r c, w ∈ Lf w r c)
    (step : ∀ nx' : L2.St → Hp → Prop, (∀ w r c H', Pt Z (Lf w r c) (Of r c) H' → k (.inl c) post px → nx' (S r c) H') → ∀ w r c x a rest H', Pt Z ((x, enc a) :: Lf w r c) (Of r c) H' → f a c (fun s => (match s with | .next c' => mb (forR rest c' f) k | .brk c' => k (.inl c') | .ret q => k (.inr q)) post px) px →
      g x (S r c) H' fun σ2 H2 => tb ⟨fun σ3 H3 => ∃ r' c', σ3 = S r' c' ∧ Pt Z (Lf w r' c') (Of r' c') H3 ∧ (mb (forR rest c' f) k) post px, rt, nx', fun σ3 H3 => ∃ r' c', σ3 = S r' c' ∧ Pt Z (Lf w r' c') (Of r' c') H3 ∧ (mb (forR rest c' f) k) post px⟩ σ2 H2)
    (done : ∀ w r c H', Pt Z (Lf w r c) (Of r c) H' → k (.inl c) post px → nx (S r c) H') : tFor wi g tb ⟨nx, rt, bk, ct⟩ σ H := by
  refine e L H _ px _ sub_refl' hp hx hm fun xs w J H1 hp1 hJ hm1 => ?_
  obtain ⟨hsz, G, Y, wk, hG, hY⟩ := hJ
  obtain ⟨r0, e0, p0⟩ := h0 w H1 hp1
  refine for_it (D := ⟨nx, rt, bk, ct⟩) wk (fun i σ' H' => ∃ r c, σ' = S r c ∧ Pt Z (Lf w r c) (Of r c) H' ∧ (mb (forR (xs.drop i) c f) k) post px) ⟨r0, c0, e0, p0, hm1⟩ ?_ ?_ ?_
  · rintro i σ' H' _ ⟨r, c, _, p, _⟩
    exact hG _ _ _ (hw w r c) p
  · rintro i x σ' H' H'' hi ⟨r, c, rfl, p, q⟩ hy
    obtain ⟨a, ea, pa⟩ := hY _ _ i H' x H'' (hw w r c) p hi hy
    obtain ⟨hl, e2⟩ := List.getElem?_eq_some_iff.mp ea
    have ed : xs.drop i = a :: xs.drop (i + 1) := by rw [← e2]; exact List.drop_eq_getElem_cons hl
    rw [ed] at q
    refine step nx done w r c x a (xs.drop (i + 1)) H'' pa ?_
    have q' : f a c (fun s => (match s with | .next c' => forR (xs.drop (i + 1)) c' f | .brk c' => mr (.inl c') | .ret q => mr (.inr q)) (fun o => k o post px) px) px := q
    have fe : (fun s : Stp γ ρ' => (match s with | .next c' => forR (xs.drop (i + 1)) c' f | .brk c' => mr (.inl c') | .ret q => mr (.inr q)) (fun o => k o post px) px) = (fun s => (match s with | .next c' => mb (forR (xs.drop (i + 1)) c' f) k | .brk c' => k (.inl c') | .ret q => k (.inr q)) post px) := by
      funext s
      cases s <;> rfl
    rw [fe] at q'
    exact q'
  · rintro σ' H' ⟨r, c, rfl, p, q⟩
    rw [List.drop_length] at q
    exact done w r c H' p q
/-- a for that goes through -/
theorem s_forM {ι : Type} {wi : TI} {g : TG} {tb : TS} {ml : M (List α)} {f : α → γ → M γ} {k : γ → M ρ} {c0 : γ} (hp : Pt Z L O H) (hx : HX Z px) (hm : (mb ml fun xs => mb (forM xs c0 f) k) post px) (e : EI Z L O wi σ ml)
    (S : ι → γ → L2.St) (Lf : V × D → ι → γ → List (V × D)) (Of : ι → γ → List (Addr × D))
    (h0 : ∀ w H', Pt Z (w :: L) O H' → ∃ r, σ = S r c0 ∧ Pt Z (Lf w r c0) (Of r c0) H') (hw : ∀ w r c, w ∈ Lf w r c)
    (step : ∀ w r c x a rest H', Pt Z ((x, enc a) :: Lf w r c) (Of r c) H' → f a c (fun c' => (mb (forM rest c' f) k) post px) px →
      g x (S r c) H' fun σ2 H2 => tb ⟨fun σ3 H3 => ∃ r' c', σ3 = S r' c' ∧ Pt Z (Lf w r' c') (Of r' c') H3 ∧ (mb (forM rest c' f) k) post px, rt, nx, fun σ3 H3 => ∃ r' c', σ3 = S r' c' ∧ Pt Z (Lf w r' c') (Of r' c') H3 ∧ (mb (forM rest c' f) k) post px⟩ σ2 H2)
    (done : ∀ w r c H', Pt Z (Lf w r c) (Of r c) H' → k c post px → nx (S r c) H') : tFor wi g tb ⟨nx, rt, bk, ct⟩ σ H := by
  refine e L H _ px _ sub_refl' hp hx hm fun xs w J H1 hp1 hJ hm1 => ?_
  obtain ⟨hsz, G, Y, wk, hG, hY⟩ := hJ
  obtain ⟨r0, e0, p0⟩ := h0 w H1 hp1
  refine for_it (D := ⟨nx, rt, bk, ct⟩) wk (fun i σ' H' => ∃ r c, σ' = S r c ∧ Pt Z (Lf w r c) (Of r c) H' ∧ (mb (forM (xs.drop i) c f) k) post px) ⟨r0, c0, e0, p0, hm1⟩ ?_ ?_ ?_
  · rintro i σ' H' _ ⟨r, c, _, p, _⟩
    exact hG _ _ _ (hw w r c) p
  · rintro i x σ' H' H'' hi ⟨r, c, rfl, p, q⟩ hy
    obtain ⟨a, ea, pa⟩ := hY _ _ i H' x H'' (hw w r c) p hi hy
    obtain ⟨hl, e2⟩ := List.getElem?_eq_some_iff.mp ea
    have ed : xs.drop i = a :: xs.drop (i + 1) := by rw [← e2]; exact List.drop_eq_getElem_cons hl
    rw [ed] at q
    exact step w r c x a (xs.drop (i + 1)) H'' pa q
  · rintro σ' H' ⟨r, c, rfl, p, q⟩
    rw [List.drop_length] at q
    exact done w r c H' p q
/-! ### comprehensions -/
theorem ET.yes : ET Z L O tYes σ (mr true) := fun L1 H post px Q s hp hx hm k => k true H hp hm
def compM {α β : Type} (p : α → M Bool) (f : α → M β) : List α → M (List β)
  | [] => mr []
  | x :: xs => mb (p x) fun c => if c = true then mb (f x) fun y => mb (compM p f xs) fun ys => mr (y :: ys) else compM p f xs
theorem lc_core {wi : TI} {g : TG} {tt : TT} {te : TE} {vs : List Nat} {ml : M (List α)} {p : α → M Bool} {f : α → M β} {L1 : List (V × D)} {post : List β → Prop} {Q : VK} (s : ∀ x ∈ L, x ∈ L1) (hp : Pt Z L1 O H) (hx : HX Z px) (hm : (mb ml (compM p f)) post px) (e : EI Z L O wi σ ml)
    {ι : Type} (S : ι → L2.St) (Lb : ι → α → List (V × D)) (hb : ∀ (L : List (V × D)) (O : List (Addr × D)) (H : Hp) (x : V) (a : α) (Q : L2.St → Hp → Prop), Pt Z ((x, enc a) :: L) O H → (∀ r, Pt Z (Lb r a ++ L) O H → Q (S r) H) → g x (wipe σ vs) H Q) (hw : ∀ r, wipe (S r) vs = wipe σ vs)
    (ht : ∀ a r q, ET Z (Lb r a ++ L) (q :: O) tt (S r) (p a)) (he : ∀ a r q, EV Z (Lb r a ++ L) (q :: O) te (S r) (f a)) (k : ∀ acc Dp H', Pt Z L1 ((Dp, enc acc) :: O) H' → post acc → Q (.ref Dp) H') : tLc wi g tt te vs σ H Q := by
  refine e L1 H _ px _ s hp hx hm fun xs w J H1 hp1 hJ hm1 => ?_
  obtain ⟨hsz, G, Y, wk, hG, hY⟩ := hJ
  have sub2 : ∀ (r : ι) (a : α) (L' : List (V × D)), ∀ y ∈ Lb r a ++ L, y ∈ Lb r a ++ (w :: L1) := fun r a L' y hy => by
    rcases List.mem_append.mp hy with e | e
    · exact List.mem_append_left _ e
    · exact List.mem_append_right _ (List.mem_cons_of_mem _ (s y e))
  refine fun Dp hD => lc_it wk (fun i H' => ∃ acc : List β, Pt Z (w :: L1) ((Dp, enc acc) :: O) H' ∧ acc.length ≤ i ∧ compM p f (xs.drop i) (fun ys => post (acc ++ ys)) px) ?_ ?_ ?_ ?_
  · exact ⟨[], hp1.own hD fun G _ => .lst (by simp) .nil, Nat.le_refl _, hm1⟩
  · rintro i H' _ ⟨acc, hp', _⟩
    exact hG _ _ _ List.mem_cons_self hp'
  · rintro i x H' H'' hi ⟨acc, hp', hl, q⟩ hy
    obtain ⟨a, ea, pa⟩ := hY _ _ i H' x H'' List.mem_cons_self hp' hi hy
    obtain ⟨hl2, e2⟩ := List.getElem?_eq_some_iff.mp ea
    have ed : xs.drop i = a :: xs.drop (i + 1) := by rw [← e2]; exact List.drop_eq_getElem_cons hl2
    rw [ed] at q
    refine hb _ _ _ x a _ pa fun r pr => ⟨hw r, ?_⟩
    refine ht a r (Dp, enc acc) _ H'' _ px _ (sub2 r a L1) pr hx q fun c H3 hp3 q3 => ?_
    cases c with
    | false =>
      rw [if_neg (by decide)] at q3 ⊢
      exact ⟨acc, hp3.less fun y hy => List.mem_append_right _ hy, by omega, q3⟩
    | true =>
      rw [if_pos rfl] at q3 ⊢
      refine he a r (Dp, enc acc) _ H3 _ px _ (sub2 r a L1) hp3 hx q3 fun y v H4 hp4 q4 => ?_
      obtain ⟨ho, G', e1, e2, e3, e4⟩ := hp4.at List.mem_cons_self
      obtain ⟨us, rfl, l, t⟩ := is_cell e2
      have n := t.len
      rw [List.length_map] at n
      refine ⟨us, e1, by rw [n, sizeLine_eq]; omega, acc ++ [y], ?_, by rw [List.length_append]; simpa using by omega, ?_⟩
      · refine (hp4.put (O' := (Dp, enc (acc ++ [y])) :: O) .hd fun G'' hG'' ho hh hc => ?_).less fun z hz => List.mem_cons_of_mem _ (List.mem_append_right _ hz)
        rw [e1] at hh
        cases hh
        obtain ⟨ws, e, l', t'⟩ := is_cell hc
        cases e
        rw [enc_snoc]
        exact .lst (by rw [List.length_append]; show us.length + 1 ≤ 1000000; omega) (t'.put (hG'' _ List.mem_cons_self))
      · have fe : (fun ys => post (acc ++ [y] ++ ys)) = (fun ys => post (acc ++ (y :: ys))) := by funext ys; simp
        rw [fe]
        exact q4
  · rintro H' ⟨acc, hp', hl, q⟩
    rw [List.drop_length] at q
    have q : post (acc ++ []) := q
    rw [List.append_nil] at q
    exact k acc Dp H' (hp'.less fun y hy => List.mem_cons_of_mem _ hy) q
/-- the target is a name -/
theorem EV.lc1 {wi : TI} {j : Nat} {tt : TT} {te : TE} {vs : List Nat} {ml : M (List α)} {p : α → M Bool} {f : α → M β} (e : EI Z L O wi σ ml) (hw : ∀ v, wipe ((wipe σ vs).set j (some v)) vs = wipe σ vs)
    (ht : ∀ a x q, ET Z ((x, enc a) :: L) (q :: O) tt ((wipe σ vs).set j (some x)) (p a)) (he : ∀ a x q, EV Z ((x, enc a) :: L) (q :: O) te ((wipe σ vs).set j (some x)) (f a)) : EV Z L O (tLc wi (gName j) tt te vs) σ (mb ml (compM p f)) := fun L1 H post px Q s hp hx hm k =>
  lc_core s hp hx hm e (ι := V) (fun v => (wipe σ vs).set j (some v)) (fun v a => [(v, enc a)]) (fun L O H x a Q hp c => c x hp) hw ht he fun acc Dp H' hp' hq => k acc _ H' (hp'.freeze .hd) hq
theorem EV.lc2 {wi : TI} {i j : Nat} {tt : TT} {te : TE} {vs : List Nat} {ml : M (List (α × γ))} {p : α × γ → M Bool} {f : α × γ → M β} (e : EI Z L O wi σ ml) (hw : ∀ v w, wipe (((wipe σ vs).set i (some v)).set j (some w)) vs = wipe σ vs)
    (ht : ∀ a x y q, ET Z ((y, enc a.2) :: (x, enc a.1) :: L) (q :: O) tt (((wipe σ vs).set i (some x)).set j (some y)) (p a)) (he : ∀ a x y q, EV Z ((y, enc a.2) :: (x, enc a.1) :: L) (q :: O) te (((wipe σ vs).set i (some x)).set j (some y)) (f a)) : EV Z L O (tLc wi (gTup Z.K 2 (gCons (gName i) (gCons (gName j) gNil))) tt te vs) σ (mb ml (compM p f)) := fun L1 H post px Q s hp hx hm k =>
  lc_core s hp hx hm e (ι := V × V) (fun v => ((wipe σ vs).set i (some v.1)).set j (some v.2)) (fun v a => [(v.2, enc a.2), (v.1, enc a.1)]) (fun L O H x a Q hp c => g_two (a := a.1) (b := a.2) hp fun v w hp' => c (v, w) hp') (fun r => hw r.1 r.2) (fun a r q => ht a r.1 r.2 q) (fun a r q => he a r.1 r.2 q) fun acc Dp H' hp' hq => k acc _ H' (hp'.freeze .hd) hq
theorem s_lc1 {wi : TI} {n j : Nat} {tt : TT} {te : TE} {vs : List Nat} {ml : M (List α)} {p : α → M Bool} {f : α → M β} {k : List β → M ρ} (hp : Pt Z L O H) (hx : HX Z px) (hm : (mb (mb ml (compM p f)) k) post px) (e : EI Z L O wi σ ml) (hw : ∀ v, wipe ((wipe σ vs).set j (some v)) vs = wipe σ vs)
    (ht : ∀ a x q, ET Z ((x, enc a) :: L) (q :: O) tt ((wipe σ vs).set j (some x)) (p a)) (he : ∀ a x q, EV Z ((x, enc a) :: L) (q :: O) te ((wipe σ vs).set j (some x)) (f a)) (c : ∀ acc d H', Pt Z L ((d, enc acc) :: O) H' → k acc post px → nx (σ.set n (some (.ref d))) H') : tAsg (tLc wi (gName j) tt te vs) (gName n) ⟨nx, rt, bk, ct⟩ σ H :=
  lc_core (fun _ h => h) hp hx hm e (ι := V) (fun v => (wipe σ vs).set j (some v)) (fun v a => [(v, enc a)]) (fun L O H x a Q hp c => c x hp) hw ht he fun acc Dp H' hp' hq => c acc Dp H' hp' hq
theorem s_lc2 {wi : TI} {n i j : Nat} {tt : TT} {te : TE} {vs : List Nat} {ml : M (List (α × γ))} {p : α × γ → M Bool} {f : α × γ → M β} {k : List β → M ρ} (hp : Pt Z L O H) (hx : HX Z px) (hm : (mb (mb ml (compM p f)) k) post px) (e : EI Z L O wi σ ml) (hw : ∀ v w, wipe (((wipe σ vs).set i (some v)).set j (some w)) vs = wipe σ vs)
    (ht : ∀ a x y q, ET Z ((y, enc a.2) :: (x, enc a.1) :: L) (q :: O) tt (((wipe σ vs).set i (some x)).set j (some y)) (p a)) (he : ∀ a x y q, EV Z ((y, enc a.2) :: (x, enc a.1) :: L) (q :: O) te (((wipe σ vs).set i (some x)).set j (some y)) (f a)) (c : ∀ acc d H', Pt Z L ((d, enc acc) :: O) H' → k acc post px → nx (σ.set n (some (.ref d))) H') : tAsg (tLc wi (gTup Z.K 2 (gCons (gName i) (gCons (gName j) gNil))) tt te vs) (gName n) ⟨nx, rt, bk, ct⟩ σ H :=
  lc_core (fun _ h => h) hp hx hm e (ι := V × V) (fun v => ((wipe σ vs).set i (some v.1)).set j (some v.2)) (fun v a => [(v.2, enc a.2), (v.1, enc a.1)]) (fun L O H x a Q hp c => g_two (a := a.1) (b := a.2) hp fun v w hp' => c (v, w) hp') (fun r => hw r.1 r.2) (fun a r q => ht a r.1 r.2 q) (fun a r q => he a r.1 r.2 q) fun acc Dp H' hp' hq => c acc Dp H' hp' hq
theorem compM_pure {α β : Type} (p : α → Bool) (f : α → β) : ∀ xs : List α, compM (fun a => mr (p a)) (fun a => mr (f a)) xs = mr ((xs.filter p).map f)
  | [] => rfl
  | x :: xs => by
    funext post px
    have z : compM (fun a => mr (p a)) (fun a => mr (f a)) (x :: xs) post px = (if p x = true then mb (mr (f x)) fun y => mb (compM (fun a => mr (p a)) (fun a => mr (f a)) xs) fun ys => mr (y :: ys) else compM (fun a => mr (p a)) (fun a => mr (f a)) xs) post px := rfl
    rw [z, compM_pure p f xs]
    cases e : p x with
    | true => rw [if_pos rfl, List.filter_cons_of_pos (by simp [e])]; rfl
    | false => rw [if_neg (by decide), List.filter_cons_of_neg (by simp [e])]
theorem compM_map {α β : Type} (f : α → β) (xs : List α) : compM (fun _ => mr true) (fun a => mr (f a)) xs = mr (xs.map f) := by
  rw [compM_pure (fun _ => true) f xs, List.filter_eq_self.mpr fun _ _ => rfl]
end
end
end Mi

/-! one's own things, errors, whiles, kinds -/
namespace Mi
open Enc (enc)
open PySem L2 PySem.Spec PyProof.Rows
open Cf (Fresh)
section
variable {Z : Zx} {L : List (V × D)} {O : List (Addr × D)} {σ : L2.St} {α β γ δ : Type} [Enc α] [Enc β] [Enc γ] [Enc δ]
/-- values that need no heap -/
class Flat (α : Type) [Enc α] where
  go : ∀ {K : PySem.W.Frag} {C : CT} {G G' : Hp} {a : α} {v : V}, Is K C G v (enc a) → Is K C G' v (enc a)
instance : Flat Int := ⟨fun h => by rw [is_int h]; exact .int _⟩
instance : Flat Bool := ⟨fun h => by rw [is_bl h]; exact .bl _⟩
instance : Flat Str := ⟨fun h => by rw [is_str h]; exact .str _⟩
instance : Flat Unit := ⟨fun h => by cases h; exact .non⟩
instance {α : Type} [Enc α] [f : Flat α] : Flat (Option α) := ⟨fun {K C G G' a v} h => by
  cases a with
  | none => cases h; exact .non
  | some a => exact f.go (a := a) h⟩
/-- one's own things as things that stand -/
def asL (O : List (Addr × D)) : List (V × D) := O.map fun x => (.ref x.1, x.2)
theorem view (hp : Pt Z L O H) (hx : HX Z px) : ∃ G0 F0, Pt ⟨Z.K, Z.C, Z.R, G0, F0, Z.E⟩ (asL O ++ L) [] H ∧ HX ⟨Z.K, Z.C, Z.R, G0, F0, Z.E⟩ px ∧
    ∀ {v : V} {d : D} {H' : Hp}, (∀ G G', Is Z.K Z.C G v d → Is Z.K Z.C G' v d) → Pt ⟨Z.K, Z.C, Z.R, G0, F0, Z.E⟩ [(v, d)] [] H' → Pt Z ((v, d) :: L) O H' := by
  obtain ⟨G, F, W, h⟩ := hp
  -- one's own cells
  let mine : Addr → Prop := fun b => ∃ x ∈ O, x.1 = b
  have dec : ∀ b, Decidable (mine b) := fun b => Classical.propDecidable _
  let FO : Hp := fun b => @ite _ (mine b) (dec b) (F b) none
  let FR : Hp := fun b => @ite _ (mine b) (dec b) none (F b)
  have fo : Sub FO F := fun b o e => by
    by_cases m : mine b
    · simp only [FO, if_pos m] at e; exact e
    · simp only [FO, if_neg m] at e; cases e
  have fr : Sub FR F := fun b o e => by
    by_cases m : mine b
    · simp only [FR, if_pos m] at e; cases e
    · simp only [FR, if_neg m] at e; exact e
  have gfo : Dis G FO := (h.gf.symm.less fo).symm
  have dd : Dis FO FR := fun b => by
    by_cases m : mine b
    · right; simp only [FR, if_pos m]
    · left; simp only [FO, if_neg m]
  have f0 : Sub Z.F0 FR := fun b o e => by
    have n : ¬ mine b := fun ⟨x, hx, ex⟩ => by
      obtain ⟨ho, _, e2, _⟩ := h.o x hx
      rw [ex, e] at e2; cases e2
    simp only [FR, if_neg n]
    exact h.f0 b o e
  refine ⟨join G FO, FR, ⟨join G FO, FR, W, ⟨.refl _, .refl _, join_sub h.g (fo.trans h.f), fr.trans h.f, h.w, (join_dis (h.gf.symm.less fr) dd.symm).symm, (join_dis h.gw.symm (h.fw.less fo).symm).symm, h.fw.less fr, h.r, fun x hx => ?_, (fun x hx => by cases hx), List.nodup_nil⟩⟩, ?_, ?_⟩
  · rcases List.mem_append.mp hx with e | e
    · obtain ⟨y, hy, rfl⟩ := List.mem_map.mp e
      obtain ⟨ho, e1, e2, e3⟩ := h.o y hy
      refine (e3.mono join_l).is (join_r gfo _ _ ?_)
      have m : mine y.1 := ⟨y, hy, rfl⟩
      simp only [FO, if_pos m]
      exact e1
    · exact (h.l x e).mono join_l
  · rintro e c d H' ⟨G', F', W', h', q⟩ hpx
    exact hx e c d H' ⟨G', F', W', ⟨(h.g0.trans join_l).trans h'.g0, f0.trans h'.f0, h'.g, h'.f, h'.w, h'.gf, h'.gw, h'.fw, h'.r, (by intro x hx; cases hx), (by intro x hx; cases hx), List.nodup_nil⟩, q⟩ hpx
  · rintro v d H' flat ⟨G', F', W', h'⟩
    have s1 : Sub G H' := (join_l.trans h'.g0).trans h'.g
    have s2 : Sub FO H' := ((join_r gfo).trans h'.g0).trans h'.g
    have s3 : Sub FO G' := (join_r gfo).trans h'.g0
    have fr' : Sub FR F' := h'.f0
    have j : Dis FO F' := h'.gf.less s3
    refine ⟨G, join FO F', W', ⟨h.g0, f0.trans (fr'.trans (join_r j)), s1, join_sub s2 h'.f, h'.w, join_dis gfo ((h'.gf.less (join_l.trans h'.g0))), h'.gw.less (join_l.trans h'.g0), (join_dis (h'.gw.less s3).symm h'.fw.symm).symm, h'.r, fun x hx => ?_, fun x hx => ?_, h.nd⟩⟩
    · rcases List.mem_cons.mp hx with e | e
      · rw [e]; exact flat _ _ (h'.l _ List.mem_cons_self)
      · exact h.l x e
    · obtain ⟨ho, e1, e2, e3⟩ := h.o x hx
      refine ⟨ho, join_l _ _ ?_, e2, e3⟩
      have m : mine x.1 := ⟨x, hx, rfl⟩
      simp only [FO, if_pos m]
      exact e1
/-- an expression whose value needs no heap: one's own things may be read in it -/
theorem EV.scal [f : Flat α] {t : TE} {m : M α} (e : ∀ G0 F0, EV ⟨Z.K, Z.C, Z.R, G0, F0, Z.E⟩ (asL O ++ L) [] t σ m) : EV Z L O t σ m := fun L1 H post px Q s hp hx hm k => by
  obtain ⟨G0, F0, h1, h2, h3⟩ := view hp hx
  refine e G0 F0 (asL O ++ L1) H post px Q (fun x hx => ?_) h1 h2 hm fun a v H' hp' hq => ?_
  · rcases List.mem_append.mp hx with e | e
    · exact List.mem_append_left _ e
    · exact List.mem_append_right _ (s x e)
  · exact k a v H' (h3 (fun G G' h => f.go h) (hp'.less fun x hx => by rcases List.mem_cons.mp hx with e | e; (· rw [e]; exact List.mem_cons_self); (· cases e))) hq
theorem ET.scal {t : TT} {m : M Bool} (e : ∀ G0 F0, ET ⟨Z.K, Z.C, Z.R, G0, F0, Z.E⟩ (asL O ++ L) [] t σ m) : ET Z L O t σ m := fun L1 H post px Q s hp hx hm k => by
  obtain ⟨G0, F0, h1, h2, h3⟩ := view hp hx
  refine e G0 F0 (asL O ++ L1) H post px Q (fun x hx => ?_) h1 h2 hm fun a H' hp' hq => ?_
  · rcases List.mem_append.mp hx with e | e
    · exact List.mem_append_left _ e
    · exact List.mem_append_right _ (s x e)
  · exact k a H' (h3 (v := .non) (d := .non) (fun G G' h => .non) ((hp'.less (L' := []) (fun x hx => by cases hx)).add fun _ _ => .non)).tail hq
section
variable {nx : L2.St → Hp → Prop} {rt : VK} {bk ct : L2.St → Hp → Prop} {H : Hp} {px : Exn → Prop} {ρ : Type} {post : ρ → Prop}
/-! ### errors -/
theorem s_raise {A : Addr} {fld : Str} {W : WX} {ta : TE} {D' : Ends} {c : Str} {m : M α} (hp : Pt Z L O H) (hx : HX Z px) (ha : Z.C c = some A) (hm : (mb m fun a => (mx ⟨c, [fld], [enc a]⟩ : M ρ)) post px) (e : EV Z L O ta σ m) (hW : ∀ cl d H', Z.E cl d H' → W cl d σ H') : tRaise1 A fld W (tCons ta tNil) D' σ H :=
  e L H _ px _ sub_refl' hp hx hm fun a v H' hp' hq => ⟨v, rfl, fun d hd => hW _ _ _ (hx _ _ _ _ (by
    obtain ⟨G, F, W, h⟩ := hp'
    have hG := h.g.free hd
    exact ⟨upd G d (.xd [(fld, v)]), F, W, ⟨h.g0.trans (.self hG), h.f0, h.g.upd, h.f.new hd, h.w.new hd, h.gf.new (h.f.free hd), h.gw.new (h.w.free hd), h.fw, h.r, (by intro x hx; cases hx), (by intro x hx; cases hx), List.nodup_nil⟩, A, d, _, rfl, ha, rfl, upd_same, rfl, .cons (h.x0.mono (.self hG)) .nil⟩) hq)⟩
/-! ### while -/
def whileR {γ ρ : Type} (c : γ → M Bool) (f : γ → M (Stp γ ρ)) : Nat → γ → M (γ ⊕ ρ)
  | 0, _ => mstuck
  | n + 1, s => mb (c s) fun b => if b = true then mb (f s) fun o => (match o with
    | .next s' => whileR c f n s'
    | .brk s' => mr (.inl s')
    | .ret r => mr (.inr r)) else mr (.inl s)
theorem s_while {ι : Type} {ρ' : Type} {tc : TT} {tb : TS} {mc : γ → M Bool} {f : γ → M (Stp γ ρ')} {k : γ ⊕ ρ' → M ρ} {c0 : γ} {n : Nat} (hp : Pt Z L O H) (hx : HX Z px) (hm : (mb (whileR mc f n c0) k) post px)
    (S : ι → γ → L2.St) (Lf : ι → γ → List (V × D)) (Of : ι → γ → List (Addr × D))
    (h0 : ∃ r, σ = S r c0 ∧ Pt Z (Lf r c0) (Of r c0) H) (test : ∀ r c, ET Z (Lf r c) (Of r c) tc (S r c) (mc c))
    (step : ∀ nx' : L2.St → Hp → Prop, (∀ r c H', Pt Z (Lf r c) (Of r c) H' → k (.inl c) post px → nx' (S r c) H') → ∀ n r c H', Pt Z (Lf r c) (Of r c) H' → f c (fun s => (match s with | .next c' => mb (whileR mc f n c') k | .brk c' => k (.inl c') | .ret q => k (.inr q)) post px) px →
      tb ⟨fun σ3 H3 => ∃ r' c', σ3 = S r' c' ∧ Pt Z (Lf r' c') (Of r' c') H3 ∧ (mb (whileR mc f n c') k) post px, rt, nx', fun σ3 H3 => ∃ r' c', σ3 = S r' c' ∧ Pt Z (Lf r' c') (Of r' c') H3 ∧ (mb (whileR mc f n c') k) post px⟩ (S r c) H')
    (done : ∀ r c H', Pt Z (Lf r c) (Of r c) H' → k (.inl c) post px → nx (S r c) H') : tWhile tc tb ⟨nx, rt, bk, ct⟩ σ H := by
  obtain ⟨r0, e0, p0⟩ := h0
  refine ⟨fun n σ' H' => ∃ r c, σ' = S r c ∧ Pt Z (Lf r c) (Of r c) H' ∧ (mb (whileR mc f n c) k) post px, ⟨n, r0, c0, e0, p0, hm⟩, ?_⟩
  rintro n σ' H' ⟨r, c, rfl, p, q⟩
  cases n with
  | zero => exact q.elim
  | succ n =>
    refine test r c _ H' _ px _ (fun _ h => h) p hx q fun b H1 hp1 hb => ?_
    cases b with
    | false => rw [if_neg (by decide)] at hb ⊢; exact done r c H1 hp1 hb
    | true =>
      rw [if_pos rfl] at hb ⊢
      refine ⟨fun σ3 H3 => ∃ r' c', σ3 = S r' c' ∧ Pt Z (Lf r' c') (Of r' c') H3 ∧ (mb (whileR mc f n c') k) post px, fun σ3 H3 h3 => ⟨n, Nat.lt_succ_self n, h3⟩, step nx done n r c H1 hp1 ?_⟩
      have hb : f c (fun o => (match o with | .next s' => whileR mc f n s' | .brk s' => mr (.inl s') | .ret r => mr (.inr r)) (fun o => k o post px) px) px := hb
      have fe : (fun o : Stp γ ρ' => (match o with | .next s' => whileR mc f n s' | .brk s' => mr (.inl s') | .ret r => mr (.inr r)) (fun o => k o post px) px) = (fun s => (match s with | .next c' => mb (whileR mc f n c') k | .brk c' => k (.inl c') | .ret q => k (.inr q)) post px) := by
        funext s
        cases s <;> rfl
      rw [fe] at hb
      exact hb
/-! ### a field of one's own object -/
theorem putF_new {f : Str} {y : V} : ∀ {fs : List (Str × V)}, (fs.map (·.1)).contains f = false → putF f y fs = fs ++ [(f, y)]
  | [], _ => rfl
  | (g, x) :: fs, h => by
    simp only [List.map_cons, List.contains_cons, Bool.or_eq_false_iff] at h
    have ne : ¬ g = f := by
      intro e; rw [e] at h; simp at h
    show (if g = f then _ else _) = _
    rw [if_neg ne, putF_new h.2]
    rfl
theorem s_fldNew {tv : TE} {f c : Str} {A p : Addr} {i : Nat} {ns : List Str} {ds : List D} {O' : α → List (Addr × D)} {m : M α} {k : α → M ρ} (hi : σ[i]? = some (some (.ref p))) (hp : Pt Z L O H) (hx : HX Z px) (hm : (mb m k) post px) (e : EV Z L O tv σ m) (ha : Z.C c = some A) (cl : Cls Z.K A) (na : NoAttr Z.K A f)
    (hn : ns.contains f = false) (hl : ns.length < 1000) (u : ∀ a : α, Up p (.obj c ns ds) (.obj c (ns ++ [f]) (ds ++ [enc a])) O (O' a)) (cc : ∀ a H', Pt Z L (O' a) H' → k a post px → nx σ H') : sFld Z.K (tVar i) tv f ⟨nx, rt, bk, ct⟩ σ H :=
  e L H _ px _ sub_refl' hp hx hm fun a v H1 hp1 hm1 => by
    obtain ⟨ho, G, e1, e2, e3, e4⟩ := hp1.at (u a).mem
    obtain ⟨B, dx, fs, rfl, e5, e6, t⟩ : ∃ B dx fs, ho = .ins B dx fs ∧ Z.C c = some B ∧ fs.map (·.1) = ns ∧ IsL Z.K Z.C G (fs.map (·.2)) ds := by
      generalize hq : (D.obj c ns ds) = q at e2
      cases e2 with
      | lst l t => cases hq
      | dic n t => cases hq
      | obj hc t => cases hq; exact ⟨_, _, _, rfl, hc, rfl, t⟩
    obtain rfl : B = A := Option.some.inj (e5.symm.trans ha)
    have hf : (fs.map (·.1)).contains f = false := by rw [e6]; exact hn
    refine ⟨_, hi, p, B, dx, fs, rfl, e1, cl, na, by rw [← List.length_map (f := (·.1)), e6]; exact hl, ?_⟩
    rw [putF_new hf]
    refine cc a _ ((hp1.put (u a) fun G' hG ho hh hc => ?_).tail) hm1
    rw [e1] at hh
    cases hh
    have hv := hG _ List.mem_cons_self
    generalize hq : (D.obj c ns ds) = q at hc
    cases hc with
    | obj hc t' =>
      cases hq
      have z : D.obj c (fs.map (·.1) ++ [f]) (ds ++ [enc a]) = D.obj c ((fs ++ [(f, v)]).map (·.1)) (ds ++ [enc a]) := by rw [List.map_append]; rfl
      rw [z]
      refine .obj hc ?_
      rw [List.map_append]
      exact t'.put hv
/-- a field of one's own object is read -/
theorem EV.fldO {i : Nat} {p A : Addr} {f c : Str} {ns : List Str} {ds : List D} {b : β} (hi : σ[i]? = some (some (.ref p))) (hm : (p, D.obj c ns ds) ∈ O) (ha : Z.C c = some A) (cl : Cls Z.K A) (na : NoAttr Z.K A f) (h : (ns.zip ds).lookup f = some (enc b)) : EV Z L O (tFld Z.K (tVar i) f) σ (mr b) := fun L1 H post px Q s hp hx hq k => by
  obtain ⟨G, F, W, h1⟩ := hp
  obtain ⟨ho, e1, e2, e3⟩ := h1.o _ hm
  obtain ⟨B, dx, fs, rfl, e5, e6, t⟩ : ∃ B dx fs, ho = .ins B dx fs ∧ Z.C c = some B ∧ fs.map (·.1) = ns ∧ IsL Z.K Z.C G (fs.map (·.2)) ds := by
    generalize hz : (p, D.obj c ns ds).2 = q at e3
    cases e3 with
    | lst l t => cases hz
    | dic n t => cases hz
    | obj hc t => cases hz; exact ⟨_, _, _, rfl, hc, rfl, t⟩
  obtain rfl : B = A := Option.some.inj (e5.symm.trans ha)
  obtain ⟨v, q1, q2⟩ := lookup_isL e6 t h
  exact ⟨_, hi, p, B, dx, fs, v, rfl, h1.f _ _ e1, cl, na, q1, k _ v H (h1.add q2) hq⟩
/-- an item of one's own list -/
theorem EV.ixO {i : Nat} {p : Addr} {xs : List α} {tb : TE} {m : M Int} (hi : σ[i]? = some (some (.ref p))) (hmem : (p, enc xs) ∈ O) (e : EV Z L O tb σ m) : EV Z L O (tOp (Cf.rIxx Z.K) (tVar i) tb) σ (mb m fun j => mix xs j) := fun L1 H post px Q s hp hx hm k =>
  ⟨_, hi, e L1 H _ px _ s hp hx hm fun j x H1 hp1 hm1 => by
    obtain ⟨G, F, W, h⟩ := hp1
    obtain rfl := is_int h.x0
    obtain ⟨ho, e1, e2, e3⟩ := h.o _ hmem
    obtain ⟨vs, rfl, l, t⟩ := is_cell e3
    have hm1 : mix xs j post px := hm1
    unfold mix at hm1
    cases q : atI xs j with
    | none => rw [q] at hm1; exact hm1.elim
    | some c =>
      rw [q] at hm1
      obtain ⟨v, e1', e2'⟩ := atI_isL (d := enc c) t (by rw [atI_map, q]; rfl)
      exact .inl (.inl ⟨p, vs, j, v, rfl, rfl, .inl (.inl (h.f _ _ e1)), e1', k c v H1 (h.t1.add e2') hm1⟩)⟩
end
end
end Mi

/-! helpers by arity; joins; the law's own defs -/
namespace Mi
open Enc (enc)
open PySem L2 PySem.Spec PyProof.Rows
open Cf (Fresh)
section
variable {Z : Zx} {L : List (V × D)} {O : List (Addr × D)} {σ : L2.St} {α β γ δ ε : Type} [Enc α] [Enc β] [Enc γ] [Enc δ] {K : PySem.W.Frag} {C : CT} {R : Hp → Prop} {sp : Sp} {dvs : List V} {E : XK} {m : M α} {c : Str}
theorem pk0 {β : Type} {m : List β} : ∀ x ∈ ([] : List β), x ∈ m := fun x h => by cases h
theorem pk {β : Type} {a : β} {l m : List β} (h : a ∈ m) (t : ∀ x ∈ l, x ∈ m) : ∀ x ∈ a :: l, x ∈ m := fun x hx => by
  rcases List.mem_cons.mp hx with e | e
  · rw [e]; exact h
  · exact t x e
theorem Pt.fin {x : V × D} {H : Hp} (h : Pt Z (x :: L) O H) : Pt Z [x] [] H := (h.less (pk List.mem_cons_self (fun x h => by cases h))).lessO (List.nil_sublist _)
theorem Pt.finN {H : Hp} (h : Pt Z L O H) : Pt Z [(.non, .non)] [] H := (h.add fun _ _ => .non).fin
theorem hcN0 (k : ∀ (H : Hp) (Q : VK), CallN K C R [] m H Q → sp ([] ++ dvs) H Q E) : ∀ (vs : List V) (H : Hp) (Q : VK), vs.length = ([] : List D).length → CallN K C R (vs.zip []) m H Q → sp (vs ++ dvs) H Q E := fun vs H Q hl h => by
  match vs, hl with
  | [], _ => exact k  H Q h
theorem hcX0 (k : ∀ (H : Hp) (Q : VK), Call K C R [] m H Q E → sp ([] ++ dvs) H Q E) : ∀ (vs : List V) (H : Hp) (Q : VK), vs.length = ([] : List D).length → Call K C R (vs.zip []) m H Q E → sp (vs ++ dvs) H Q E := fun vs H Q hl h => by
  match vs, hl with
  | [], _ => exact k  H Q h
theorem hcS0 (k : ∀ (H : Hp) (Q : VK), Call K C R [] m H Q E → sp [] H Q E) : ∀ (vs : List V) (H : Hp) (Q : VK), vs.length = ([] : List D).length → Call K C R (vs.zip []) m H Q E → sp vs H Q E := fun vs H Q hl h => by
  match vs, hl with
  | [], _ => exact k  H Q h
theorem hcW0 {p : Addr} (k : ∀ (H : Hp) (Q : VK), CallN K C R [] m H Q → sp (.ref p :: [] ++ dvs) H Q E) : ∀ (vs : List V) (H : Hp) (Q : VK), vs.length = ([] : List D).length → CallN K C R (vs.zip []) m H Q → sp (.ref p :: vs ++ dvs) H Q E := fun vs H Q hl h => by
  match vs, hl with
  | [], _ => exact k  H Q h
theorem hcM0 {dx : D} (k : ∀ (x : V) (H : Hp) (Q : VK), CallN K C R ((x, dx) :: []) m H Q → sp (x :: ([] ++ dvs)) H Q E) : ∀ (x : V) (vs : List V) (H : Hp) (Q : VK), vs.length = ([] : List D).length → CallN K C R ((x, dx) :: vs.zip []) m H Q → sp (x :: (vs ++ dvs)) H Q E := fun x vs H Q hl h => by
  match vs, hl with
  | [], _ => exact k x  H Q h
theorem hcI0 (k : ∀ (x : Addr) (H : Hp) (Q : VK), CallIN K C c x [] m H Q → sp (.ref x :: ([] ++ dvs)) H Q E) : ∀ (x : Addr) (vs : List V) (H : Hp) (Q : VK), vs.length = ([] : List D).length → CallIN K C c x (vs.zip []) m H Q → sp (.ref x :: (vs ++ dvs)) H Q E := fun x vs H Q hl h => by
  match vs, hl with
  | [], _ => exact k x  H Q h
theorem hcJ0 (k : ∀ (x : Addr) (H : Hp) (Q : VK), CallI K C c x [] m H Q E → sp (.ref x :: ([] ++ dvs)) H Q E) : ∀ (x : Addr) (vs : List V) (H : Hp) (Q : VK), vs.length = ([] : List D).length → CallI K C c x (vs.zip []) m H Q E → sp (.ref x :: (vs ++ dvs)) H Q E := fun x vs H Q hl h => by
  match vs, hl with
  | [], _ => exact k x  H Q h
theorem hcN1 {d0 : D} (k : ∀ (v0 : V) (H : Hp) (Q : VK), CallN K C R [(v0, d0)] m H Q → sp ([v0] ++ dvs) H Q E) : ∀ (vs : List V) (H : Hp) (Q : VK), vs.length = ([d0] : List D).length → CallN K C R (vs.zip [d0]) m H Q → sp (vs ++ dvs) H Q E := fun vs H Q hl h => by
  match vs, hl with
  | [v0], _ => exact k v0 H Q h
theorem hcX1 {d0 : D} (k : ∀ (v0 : V) (H : Hp) (Q : VK), Call K C R [(v0, d0)] m H Q E → sp ([v0] ++ dvs) H Q E) : ∀ (vs : List V) (H : Hp) (Q : VK), vs.length = ([d0] : List D).length → Call K C R (vs.zip [d0]) m H Q E → sp (vs ++ dvs) H Q E := fun vs H Q hl h => by
  match vs, hl with
  | [v0], _ => exact k v0 H Q h
theorem hcS1 {d0 : D} (k : ∀ (v0 : V) (H : Hp) (Q : VK), Call K C R [(v0, d0)] m H Q E → sp [v0] H Q E) : ∀ (vs : List V) (H : Hp) (Q : VK), vs.length = ([d0] : List D).length → Call K C R (vs.zip [d0]) m H Q E → sp vs H Q E := fun vs H Q hl h => by
  match vs, hl with
  | [v0], _ => exact k v0 H Q h
theorem hcW1 {p : Addr} {d0 : D} (k : ∀ (v0 : V) (H : Hp) (Q : VK), CallN K C R [(v0, d0)] m H Q → sp (.ref p :: [v0] ++ dvs) H Q E) : ∀ (vs : List V) (H : Hp) (Q : VK), vs.length = ([d0] : List D).length → CallN K C R (vs.zip [d0]) m H Q → sp (.ref p :: vs ++ dvs) H Q E := fun vs H Q hl h => by
  match vs, hl with
  | [v0], _ => exact k v0 H Q h
theorem hcM1 {dx : D} {d0 : D} (k : ∀ (x : V) (v0 : V) (H : Hp) (Q : VK), CallN K C R ((x, dx) :: [(v0, d0)]) m H Q → sp (x :: ([v0] ++ dvs)) H Q E) : ∀ (x : V) (vs : List V) (H : Hp) (Q : VK), vs.length = ([d0] : List D).length → CallN K C R ((x, dx) :: vs.zip [d0]) m H Q → sp (x :: (vs ++ dvs)) H Q E := fun x vs H Q hl h => by
  match vs, hl with
  | [v0], _ => exact k x v0 H Q h
theorem hcI1 {d0 : D} (k : ∀ (x : Addr) (v0 : V) (H : Hp) (Q : VK), CallIN K C c x [(v0, d0)] m H Q → sp (.ref x :: ([v0] ++ dvs)) H Q E) : ∀ (x : Addr) (vs : List V) (H : Hp) (Q : VK), vs.length = ([d0] : List D).length → CallIN K C c x (vs.zip [d0]) m H Q → sp (.ref x :: (vs ++ dvs)) H Q E := fun x vs H Q hl h => by
  match vs, hl with
  | [v0], _ => exact k x v0 H Q h
theorem hcJ1 {d0 : D} (k : ∀ (x : Addr) (v0 : V) (H : Hp) (Q : VK), CallI K C c x [(v0, d0)] m H Q E → sp (.ref x :: ([v0] ++ dvs)) H Q E) : ∀ (x : Addr) (vs : List V) (H : Hp) (Q : VK), vs.length = ([d0] : List D).length → CallI K C c x (vs.zip [d0]) m H Q E → sp (.ref x :: (vs ++ dvs)) H Q E := fun x vs H Q hl h => by
  match vs, hl with
  | [v0], _ => exact k x v0 H Q h
theorem hcN2 {d0 d1 : D} (k : ∀ (v0 v1 : V) (H : Hp) (Q : VK), CallN K C R [(v0, d0), (v1, d1)] m H Q → sp ([v0, v1] ++ dvs) H Q E) : ∀ (vs : List V) (H : Hp) (Q : VK), vs.length = ([d0, d1] : List D).length → CallN K C R (vs.zip [d0, d1]) m H Q → sp (vs ++ dvs) H Q E := fun vs H Q hl h => by
  match vs, hl with
  | [v0, v1], _ => exact k v0 v1 H Q h
theorem hcX2 {d0 d1 : D} (k : ∀ (v0 v1 : V) (H : Hp) (Q : VK), Call K C R [(v0, d0), (v1, d1)] m H Q E → sp ([v0, v1] ++ dvs) H Q E) : ∀ (vs : List V) (H : Hp) (Q : VK), vs.length = ([d0, d1] : List D).length → Call K C R (vs.zip [d0, d1]) m H Q E → sp (vs ++ dvs) H Q E := fun vs H Q hl h => by
  match vs, hl with
  | [v0, v1], _ => exact k v0 v1 H Q h
theorem hcS2 {d0 d1 : D} (k : ∀ (v0 v1 : V) (H : Hp) (Q : VK), Call K C R [(v0, d0), (v1, d1)] m H Q E → sp [v0, v1] H Q E) : ∀ (vs : List V) (H : Hp) (Q : VK), vs.length = ([d0, d1] : List D).length → Call K C R (vs.zip [d0, d1]) m H Q E → sp vs H Q E := fun vs H Q hl h => by
  match vs, hl with
  | [v0, v1], _ => exact k v0 v1 H Q h
theorem hcW2 {p : Addr} {d0 d1 : D} (k : ∀ (v0 v1 : V) (H : Hp) (Q : VK), CallN K C R [(v0, d0), (v1, d1)] m H Q → sp (.ref p :: [v0, v1] ++ dvs) H Q E) : ∀ (vs : List V) (H : Hp) (Q : VK), vs.length = ([d0, d1] : List D).length → CallN K C R (vs.zip [d0, d1]) m H Q → sp (.ref p :: vs ++ dvs) H Q E := fun vs H Q hl h => by
  match vs, hl with
  | [v0, v1], _ => exact k v0 v1 H Q h
theorem hcM2 {dx : D} {d0 d1 : D} (k : ∀ (x : V) (v0 v1 : V) (H : Hp) (Q : VK), CallN K C R ((x, dx) :: [(v0, d0), (v1, d1)]) m H Q → sp (x :: ([v0, v1] ++ dvs)) H Q E) : ∀ (x : V) (vs : List V) (H : Hp) (Q : VK), vs.length = ([d0, d1] : List D).length → CallN K C R ((x, dx) :: vs.zip [d0, d1]) m H Q → sp (x :: (vs ++ dvs)) H Q E := fun x vs H Q hl h => by
  match vs, hl with
  | [v0, v1], _ => exact k x v0 v1 H Q h
theorem hcI2 {d0 d1 : D} (k : ∀ (x : Addr) (v0 v1 : V) (H : Hp) (Q : VK), CallIN K C c x [(v0, d0), (v1, d1)] m H Q → sp (.ref x :: ([v0, v1] ++ dvs)) H Q E) : ∀ (x : Addr) (vs : List V) (H : Hp) (Q : VK), vs.length = ([d0, d1] : List D).length → CallIN K C c x (vs.zip [d0, d1]) m H Q → sp (.ref x :: (vs ++ dvs)) H Q E := fun x vs H Q hl h => by
  match vs, hl with
  | [v0, v1], _ => exact k x v0 v1 H Q h
theorem hcJ2 {d0 d1 : D} (k : ∀ (x : Addr) (v0 v1 : V) (H : Hp) (Q : VK), CallI K C c x [(v0, d0), (v1, d1)] m H Q E → sp (.ref x :: ([v0, v1] ++ dvs)) H Q E) : ∀ (x : Addr) (vs : List V) (H : Hp) (Q : VK), vs.length = ([d0, d1] : List D).length → CallI K C c x (vs.zip [d0, d1]) m H Q E → sp (.ref x :: (vs ++ dvs)) H Q E := fun x vs H Q hl h => by
  match vs, hl with
  | [v0, v1], _ => exact k x v0 v1 H Q h
theorem hcN3 {d0 d1 d2 : D} (k : ∀ (v0 v1 v2 : V) (H : Hp) (Q : VK), CallN K C R [(v0, d0), (v1, d1), (v2, d2)] m H Q → sp ([v0, v1, v2] ++ dvs) H Q E) : ∀ (vs : List V) (H : Hp) (Q : VK), vs.length = ([d0, d1, d2] : List D).length → CallN K C R (vs.zip [d0, d1, d2]) m H Q → sp (vs ++ dvs) H Q E := fun vs H Q hl h => by
  match vs, hl with
  | [v0, v1, v2], _ => exact k v0 v1 v2 H Q h
theorem hcX3 {d0 d1 d2 : D} (k : ∀ (v0 v1 v2 : V) (H : Hp) (Q : VK), Call K C R [(v0, d0), (v1, d1), (v2, d2)] m H Q E → sp ([v0, v1, v2] ++ dvs) H Q E) : ∀ (vs : List V) (H : Hp) (Q : VK), vs.length = ([d0, d1, d2] : List D).length → Call K C R (vs.zip [d0, d1, d2]) m H Q E → sp (vs ++ dvs) H Q E := fun vs H Q hl h => by
  match vs, hl with
  | [v0, v1, v2], _ => exact k v0 v1 v2 H Q h
theorem hcS3 {d0 d1 d2 : D} (k : ∀ (v0 v1 v2 : V) (H : Hp) (Q : VK), Call K C R [(v0, d0), (v1, d1), (v2, d2)] m H Q E → sp [v0, v1, v2] H Q E) : ∀ (vs : List V) (H : Hp) (Q : VK), vs.length = ([d0, d1, d2] : List D).length → Call K C R (vs.zip [d0, d1, d2]) m H Q E → sp vs H Q E := fun vs H Q hl h => by
  match vs, hl with
  | [v0, v1, v2], _ => exact k v0 v1 v2 H Q h
theorem hcW3 {p : Addr} {d0 d1 d2 : D} (k : ∀ (v0 v1 v2 : V) (H : Hp) (Q : VK), CallN K C R [(v0, d0), (v1, d1), (v2, d2)] m H Q → sp (.ref p :: [v0, v1, v2] ++ dvs) H Q E) : ∀ (vs : List V) (H : Hp) (Q : VK), vs.length = ([d0, d1, d2] : List D).length → CallN K C R (vs.zip [d0, d1, d2]) m H Q → sp (.ref p :: vs ++ dvs) H Q E := fun vs H Q hl h => by
  match vs, hl with
  | [v0, v1, v2], _ => exact k v0 v1 v2 H Q h
theorem hcM3 {dx : D} {d0 d1 d2 : D} (k : ∀ (x : V) (v0 v1 v2 : V) (H : Hp) (Q : VK), CallN K C R ((x, dx) :: [(v0, d0), (v1, d1), (v2, d2)]) m H Q → sp (x :: ([v0, v1, v2] ++ dvs)) H Q E) : ∀ (x : V) (vs : List V) (H : Hp) (Q : VK), vs.length = ([d0, d1, d2] : List D).length → CallN K C R ((x, dx) :: vs.zip [d0, d1, d2]) m H Q → sp (x :: (vs ++ dvs)) H Q E := fun x vs H Q hl h => by
  match vs, hl with
  | [v0, v1, v2], _ => exact k x v0 v1 v2 H Q h
theorem hcI3 {d0 d1 d2 : D} (k : ∀ (x : Addr) (v0 v1 v2 : V) (H : Hp) (Q : VK), CallIN K C c x [(v0, d0), (v1, d1), (v2, d2)] m H Q → sp (.ref x :: ([v0, v1, v2] ++ dvs)) H Q E) : ∀ (x : Addr) (vs : List V) (H : Hp) (Q : VK), vs.length = ([d0, d1, d2] : List D).length → CallIN K C c x (vs.zip [d0, d1, d2]) m H Q → sp (.ref x :: (vs ++ dvs)) H Q E := fun x vs H Q hl h => by
  match vs, hl with
  | [v0, v1, v2], _ => exact k x v0 v1 v2 H Q h
theorem hcJ3 {d0 d1 d2 : D} (k : ∀ (x : Addr) (v0 v1 v2 : V) (H : Hp) (Q : VK), CallI K C c x [(v0, d0), (v1, d1), (v2, d2)] m H Q E → sp (.ref x :: ([v0, v1, v2] ++ dvs)) H Q E) : ∀ (x : Addr) (vs : List V) (H : Hp) (Q : VK), vs.length = ([d0, d1, d2] : List D).length → CallI K C c x (vs.zip [d0, d1, d2]) m H Q E → sp (.ref x :: (vs ++ dvs)) H Q E := fun x vs H Q hl h => by
  match vs, hl with
  | [v0, v1, v2], _ => exact k x v0 v1 v2 H Q h
theorem hcN4 {d0 d1 d2 d3 : D} (k : ∀ (v0 v1 v2 v3 : V) (H : Hp) (Q : VK), CallN K C R [(v0, d0), (v1, d1), (v2, d2), (v3, d3)] m H Q → sp ([v0, v1, v2, v3] ++ dvs) H Q E) : ∀ (vs : List V) (H : Hp) (Q : VK), vs.length = ([d0, d1, d2, d3] : List D).length → CallN K C R (vs.zip [d0, d1, d2, d3]) m H Q → sp (vs ++ dvs) H Q E := fun vs H Q hl h => by
  match vs, hl with
  | [v0, v1, v2, v3], _ => exact k v0 v1 v2 v3 H Q h
theorem hcX4 {d0 d1 d2 d3 : D} (k : ∀ (v0 v1 v2 v3 : V) (H : Hp) (Q : VK), Call K C R [(v0, d0), (v1, d1), (v2, d2), (v3, d3)] m H Q E → sp ([v0, v1, v2, v3] ++ dvs) H Q E) : ∀ (vs : List V) (H : Hp) (Q : VK), vs.length = ([d0, d1, d2, d3] : List D).length → Call K C R (vs.zip [d0, d1, d2, d3]) m H Q E → sp (vs ++ dvs) H Q E := fun vs H Q hl h => by
  match vs, hl with
  | [v0, v1, v2, v3], _ => exact k v0 v1 v2 v3 H Q h
theorem hcS4 {d0 d1 d2 d3 : D} (k : ∀ (v0 v1 v2 v3 : V) (H : Hp) (Q : VK), Call K C R [(v0, d0), (v1, d1), (v2, d2), (v3, d3)] m H Q E → sp [v0, v1, v2, v3] H Q E) : ∀ (vs : List V) (H : Hp) (Q : VK), vs.length = ([d0, d1, d2, d3] : List D).length → Call K C R (vs.zip [d0, d1, d2, d3]) m H Q E → sp vs H Q E := fun vs H Q hl h => by
  match vs, hl with
  | [v0, v1, v2, v3], _ => exact k v0 v1 v2 v3 H Q h
theorem hcW4 {p : Addr} {d0 d1 d2 d3 : D} (k : ∀ (v0 v1 v2 v3 : V) (H : Hp) (Q : VK), CallN K C R [(v0, d0), (v1, d1), (v2, d2), (v3, d3)] m H Q → sp (.ref p :: [v0, v1, v2, v3] ++ dvs) H Q E) : ∀ (vs : List V) (H : Hp) (Q : VK), vs.length = ([d0, d1, d2, d3] : List D).length → CallN K C R (vs.zip [d0, d1, d2, d3]) m H Q → sp (.ref p :: vs ++ dvs) H Q E := fun vs H Q hl h => by
  match vs, hl with
  | [v0, v1, v2, v3], _ => exact k v0 v1 v2 v3 H Q h
theorem hcM4 {dx : D} {d0 d1 d2 d3 : D} (k : ∀ (x : V) (v0 v1 v2 v3 : V) (H : Hp) (Q : VK), CallN K C R ((x, dx) :: [(v0, d0), (v1, d1), (v2, d2), (v3, d3)]) m H Q → sp (x :: ([v0, v1, v2, v3] ++ dvs)) H Q E) : ∀ (x : V) (vs : List V) (H : Hp) (Q : VK), vs.length = ([d0, d1, d2, d3] : List D).length → CallN K C R ((x, dx) :: vs.zip [d0, d1, d2, d3]) m H Q → sp (x :: (vs ++ dvs)) H Q E := fun x vs H Q hl h => by
  match vs, hl with
  | [v0, v1, v2, v3], _ => exact k x v0 v1 v2 v3 H Q h
theorem hcI4 {d0 d1 d2 d3 : D} (k : ∀ (x : Addr) (v0 v1 v2 v3 : V) (H : Hp) (Q : VK), CallIN K C c x [(v0, d0), (v1, d1), (v2, d2), (v3, d3)] m H Q → sp (.ref x :: ([v0, v1, v2, v3] ++ dvs)) H Q E) : ∀ (x : Addr) (vs : List V) (H : Hp) (Q : VK), vs.length = ([d0, d1, d2, d3] : List D).length → CallIN K C c x (vs.zip [d0, d1, d2, d3]) m H Q → sp (.ref x :: (vs ++ dvs)) H Q E := fun x vs H Q hl h => by
  match vs, hl with
  | [v0, v1, v2, v3], _ => exact k x v0 v1 v2 v3 H Q h
theorem hcJ4 {d0 d1 d2 d3 : D} (k : ∀ (x : Addr) (v0 v1 v2 v3 : V) (H : Hp) (Q : VK), CallI K C c x [(v0, d0), (v1, d1), (v2, d2), (v3, d3)] m H Q E → sp (.ref x :: ([v0, v1, v2, v3] ++ dvs)) H Q E) : ∀ (x : Addr) (vs : List V) (H : Hp) (Q : VK), vs.length = ([d0, d1, d2, d3] : List D).length → CallI K C c x (vs.zip [d0, d1, d2, d3]) m H Q E → sp (.ref x :: (vs ++ dvs)) H Q E := fun x vs H Q hl h => by
  match vs, hl with
  | [v0, v1, v2, v3], _ => exact k x v0 v1 v2 v3 H Q h
theorem hcN5 {d0 d1 d2 d3 d4 : D} (k : ∀ (v0 v1 v2 v3 v4 : V) (H : Hp) (Q : VK), CallN K C R [(v0, d0), (v1, d1), (v2, d2), (v3, d3), (v4, d4)] m H Q → sp ([v0, v1, v2, v3, v4] ++ dvs) H Q E) : ∀ (vs : List V) (H : Hp) (Q : VK), vs.length = ([d0, d1, d2, d3, d4] : List D).length → CallN K C R (vs.zip [d0, d1, d2, d3, d4]) m H Q → sp (vs ++ dvs) H Q E := fun vs H Q hl h => by
  match vs, hl with
  | [v0, v1, v2, v3, v4], _ => exact k v0 v1 v2 v3 v4 H Q h
theorem hcX5 {d0 d1 d2 d3 d4 : D} (k : ∀ (v0 v1 v2 v3 v4 : V) (H : Hp) (Q : VK), Call K C R [(v0, d0), (v1, d1), (v2, d2), (v3, d3), (v4, d4)] m H Q E → sp ([v0, v1, v2, v3, v4] ++ dvs) H Q E) : ∀ (vs : List V) (H : Hp) (Q : VK), vs.length = ([d0, d1, d2, d3, d4] : List D).length → Call K C R (vs.zip [d0, d1, d2, d3, d4]) m H Q E → sp (vs ++ dvs) H Q E := fun vs H Q hl h => by
  match vs, hl with
  | [v0, v1, v2, v3, v4], _ => exact k v0 v1 v2 v3 v4 H Q h
theorem hcS5 {d0 d1 d2 d3 d4 : D} (k : ∀ (v0 v1 v2 v3 v4 : V) (H : Hp) (Q : VK), Call K C R [(v0, d0), (v1, d1), (v2, d2), (v3, d3), (v4, d4)] m H Q E → sp [v0, v1, v2, v3, v4] H Q E) : ∀ (vs : List V) (H : Hp) (Q : VK), vs.length = ([d0, d1, d2, d3, d4] : List D).length → Call K C R (vs.zip [d0, d1, d2, d3, d4]) m H Q E → sp vs H Q E := fun vs H Q hl h => by
  match vs, hl with
  | [v0, v1, v2, v3, v4], _ => exact k v0 v1 v2 v3 v4 H Q h
theorem hcW5 {p : Addr} {d0 d1 d2 d3 d4 : D} (k : ∀ (v0 v1 v2 v3 v4 : V) (H : Hp) (Q : VK), CallN K C R [(v0, d0), (v1, d1), (v2, d2), (v3, d3), (v4, d4)] m H Q → sp (.ref p :: [v0, v1, v2, v3, v4] ++ dvs) H Q E) : ∀ (vs : List V) (H : Hp) (Q : VK), vs.length = ([d0, d1, d2, d3, d4] : List D).length → CallN K C R (vs.zip [d0, d1, d2, d3, d4]) m H Q → sp (.ref p :: vs ++ dvs) H Q E := fun vs H Q hl h => by
  match vs, hl with
  | [v0, v1, v2, v3, v4], _ => exact k v0 v1 v2 v3 v4 H Q h
theorem hcM5 {dx : D} {d0 d1 d2 d3 d4 : D} (k : ∀ (x : V) (v0 v1 v2 v3 v4 : V) (H : Hp) (Q : VK), CallN K C R ((x, dx) :: [(v0, d0), (v1, d1), (v2, d2), (v3, d3), (v4, d4)]) m H Q → sp (x :: ([v0, v1, v2, v3, v4] ++ dvs)) H Q E) : ∀ (x : V) (vs : List V) (H : Hp) (Q : VK), vs.length = ([d0, d1, d2, d3, d4] : List D).length → CallN K C R ((x, dx) :: vs.zip [d0, d1, d2, d3, d4]) m H Q → sp (x :: (vs ++ dvs)) H Q E := fun x vs H Q hl h => by
  match vs, hl with
  | [v0, v1, v2, v3, v4], _ => exact k x v0 v1 v2 v3 v4 H Q h
theorem hcI5 {d0 d1 d2 d3 d4 : D} (k : ∀ (x : Addr) (v0 v1 v2 v3 v4 : V) (H : Hp) (Q : VK), CallIN K C c x [(v0, d0), (v1, d1), (v2, d2), (v3, d3), (v4, d4)] m H Q → sp (.ref x :: ([v0, v1, v2, v3, v4] ++ dvs)) H Q E) : ∀ (x : Addr) (vs : List V) (H : Hp) (Q : VK), vs.length = ([d0, d1, d2, d3, d4] : List D).length → CallIN K C c x (vs.zip [d0, d1, d2, d3, d4]) m H Q → sp (.ref x :: (vs ++ dvs)) H Q E := fun x vs H Q hl h => by
  match vs, hl with
  | [v0, v1, v2, v3, v4], _ => exact k x v0 v1 v2 v3 v4 H Q h
theorem hcJ5 {d0 d1 d2 d3 d4 : D} (k : ∀ (x : Addr) (v0 v1 v2 v3 v4 : V) (H : Hp) (Q : VK), CallI K C c x [(v0, d0), (v1, d1), (v2, d2), (v3, d3), (v4, d4)] m H Q E → sp (.ref x :: ([v0, v1, v2, v3, v4] ++ dvs)) H Q E) : ∀ (x : Addr) (vs : List V) (H : Hp) (Q : VK), vs.length = ([d0, d1, d2, d3, d4] : List D).length → CallI K C c x (vs.zip [d0, d1, d2, d3, d4]) m H Q E → sp (.ref x :: (vs ++ dvs)) H Q E := fun x vs H Q hl h => by
  match vs, hl with
  | [v0, v1, v2, v3, v4], _ => exact k x v0 v1 v2 v3 v4 H Q h
theorem hcN6 {d0 d1 d2 d3 d4 d5 : D} (k : ∀ (v0 v1 v2 v3 v4 v5 : V) (H : Hp) (Q : VK), CallN K C R [(v0, d0), (v1, d1), (v2, d2), (v3, d3), (v4, d4), (v5, d5)] m H Q → sp ([v0, v1, v2, v3, v4, v5] ++ dvs) H Q E) : ∀ (vs : List V) (H : Hp) (Q : VK), vs.length = ([d0, d1, d2, d3, d4, d5] : List D).length → CallN K C R (vs.zip [d0, d1, d2, d3, d4, d5]) m H Q → sp (vs ++ dvs) H Q E := fun vs H Q hl h => by
  match vs, hl with
  | [v0, v1, v2, v3, v4, v5], _ => exact k v0 v1 v2 v3 v4 v5 H Q h
theorem hcX6 {d0 d1 d2 d3 d4 d5 : D} (k : ∀ (v0 v1 v2 v3 v4 v5 : V) (H : Hp) (Q : VK), Call K C R [(v0, d0), (v1, d1), (v2, d2), (v3, d3), (v4, d4), (v5, d5)] m H Q E → sp ([v0, v1, v2, v3, v4, v5] ++ dvs) H Q E) : ∀ (vs : List V) (H : Hp) (Q : VK), vs.length = ([d0, d1, d2, d3, d4, d5] : List D).length → Call K C R (vs.zip [d0, d1, d2, d3, d4, d5]) m H Q E → sp (vs ++ dvs) H Q E := fun vs H Q hl h => by
  match vs, hl with
  | [v0, v1, v2, v3, v4, v5], _ => exact k v0 v1 v2 v3 v4 v5 H Q h
theorem hcS6 {d0 d1 d2 d3 d4 d5 : D} (k : ∀ (v0 v1 v2 v3 v4 v5 : V) (H : Hp) (Q : VK), Call K C R [(v0, d0), (v1, d1), (v2, d2), (v3, d3), (v4, d4), (v5, d5)] m H Q E → sp [v0, v1, v2, v3, v4, v5] H Q E) : ∀ (vs : List V) (H : Hp) (Q : VK), vs.length = ([d0, d1, d2, d3, d4, d5] : List D).length → Call K C R (vs.zip [d0, d1, d2, d3, d4, d5]) m H Q E → sp vs H Q E := fun vs H Q hl h => by
  match vs, hl with
  | [v0, v1, v2, v3, v4, v5], _ => exact k v0 v1 v2 v3 v4 v5 H Q h
theorem hcW6 {p : Addr} {d0 d1 d2 d3 d4 d5 : D} (k : ∀ (v0 v1 v2 v3 v4 v5 : V) (H : Hp) (Q : VK), CallN K C R [(v0, d0), (v1, d1), (v2, d2), (v3, d3), (v4, d4), (v5, d5)] m H Q → sp (.ref p :: [v0, v1, v2, v3, v4, v5] ++ dvs) H Q E) : ∀ (vs : List V) (H : Hp) (Q : VK), vs.length = ([d0, d1, d2, d3, d4, d5] : List D).length → CallN K C R (vs.zip [d0, d1, d2, d3, d4, d5]) m H Q → sp (.ref p :: vs ++ dvs) H Q E := fun vs H Q hl h => by
  match vs, hl with
  | [v0, v1, v2, v3, v4, v5], _ => exact k v0 v1 v2 v3 v4 v5 H Q h
theorem hcM6 {dx : D} {d0 d1 d2 d3 d4 d5 : D} (k : ∀ (x : V) (v0 v1 v2 v3 v4 v5 : V) (H : Hp) (Q : VK), CallN K C R ((x, dx) :: [(v0, d0), (v1, d1), (v2, d2), (v3, d3), (v4, d4), (v5, d5)]) m H Q → sp (x :: ([v0, v1, v2, v3, v4, v5] ++ dvs)) H Q E) : ∀ (x : V) (vs : List V) (H : Hp) (Q : VK), vs.length = ([d0, d1, d2, d3, d4, d5] : List D).length → CallN K C R ((x, dx) :: vs.zip [d0, d1, d2, d3, d4, d5]) m H Q → sp (x :: (vs ++ dvs)) H Q E := fun x vs H Q hl h => by
  match vs, hl with
  | [v0, v1, v2, v3, v4, v5], _ => exact k x v0 v1 v2 v3 v4 v5 H Q h
theorem hcI6 {d0 d1 d2 d3 d4 d5 : D} (k : ∀ (x : Addr) (v0 v1 v2 v3 v4 v5 : V) (H : Hp) (Q : VK), CallIN K C c x [(v0, d0), (v1, d1), (v2, d2), (v3, d3), (v4, d4), (v5, d5)] m H Q → sp (.ref x :: ([v0, v1, v2, v3, v4, v5] ++ dvs)) H Q E) : ∀ (x : Addr) (vs : List V) (H : Hp) (Q : VK), vs.length = ([d0, d1, d2, d3, d4, d5] : List D).length → CallIN K C c x (vs.zip [d0, d1, d2, d3, d4, d5]) m H Q → sp (.ref x :: (vs ++ dvs)) H Q E := fun x vs H Q hl h => by
  match vs, hl with
  | [v0, v1, v2, v3, v4, v5], _ => exact k x v0 v1 v2 v3 v4 v5 H Q h
theorem hcJ6 {d0 d1 d2 d3 d4 d5 : D} (k : ∀ (x : Addr) (v0 v1 v2 v3 v4 v5 : V) (H : Hp) (Q : VK), CallI K C c x [(v0, d0), (v1, d1), (v2, d2), (v3, d3), (v4, d4), (v5, d5)] m H Q E → sp (.ref x :: ([v0, v1, v2, v3, v4, v5] ++ dvs)) H Q E) : ∀ (x : Addr) (vs : List V) (H : Hp) (Q : VK), vs.length = ([d0, d1, d2, d3, d4, d5] : List D).length → CallI K C c x (vs.zip [d0, d1, d2, d3, d4, d5]) m H Q E → sp (.ref x :: (vs ++ dvs)) H Q E := fun x vs H Q hl h => by
  match vs, hl with
  | [v0, v1, v2, v3, v4, v5], _ => exact k x v0 v1 v2 v3 v4 v5 H Q h
section
variable {nx : L2.St → Hp → Prop} {rt : VK} {bk ct : L2.St → Hp → Prop} {H : Hp} {px : Exn → Prop} {ρ : Type} {post : ρ → Prop}
/-- ways that meet again -/
theorem s_join {ι : Type} {τ : Type} {a rest : TS} {m : M γ} {k : γ → M ρ} (hp : Pt Z L O H) (hm : (mb m k) post px) (S : ι → γ → L2.St) (Lf : ι → γ → List (V × D)) (Of : ι → γ → List (Addr × D))
    (h : ∀ nx' : L2.St → Hp → Prop, (∀ r c H', Pt Z (Lf r c) (Of r c) H' → k c post px → nx' (S r c) H') → m (fun c => k c post px) px → a ⟨nx', rt, bk, ct⟩ σ H)
    (j : ∀ r c H', Pt Z (Lf r c) (Of r c) H' → k c post px → rest ⟨nx, rt, bk, ct⟩ (S r c) H') : tSeq a rest ⟨nx, rt, bk, ct⟩ σ H := h _ j hm
theorem s_joinS {ι : Type} {τ : Type} {a rest : TS} {m : M (γ ⊕ τ)} {k : γ ⊕ τ → M ρ} (hp : Pt Z L O H) (hm : (mb m k) post px) (S : ι → γ → L2.St) (Lf : ι → γ → List (V × D)) (Of : ι → γ → List (Addr × D))
    (h : ∀ nx' : L2.St → Hp → Prop, (∀ r c H', Pt Z (Lf r c) (Of r c) H' → k (.inl c) post px → nx' (S r c) H') → m (fun c => k c post px) px → a ⟨nx', rt, bk, ct⟩ σ H)
    (j : ∀ r c H', Pt Z (Lf r c) (Of r c) H' → k (.inl c) post px → rest ⟨nx, rt, bk, ct⟩ (S r c) H') : tSeq a rest ⟨nx, rt, bk, ct⟩ σ H := h _ j hm
/-- an assignment, the slots behind it written out -/
theorem s_set {te : TE} {i : Nat} {m : M α} {k : α → M ρ} (S : V → L2.St) (hS : ∀ v, σ.set i (some v) = S v) (hp : Pt Z L O H) (hx : HX Z px) (hm : mb m k post px) (e : EV Z L O te σ m) (c : ∀ a v H', Pt Z ((v, enc a) :: L) O H' → k a post px → nx (S v) H') : tAsg te (gName i) ⟨nx, rt, bk, ct⟩ σ H :=
  s_asg hp hx hm e fun a v H' hp hm => by rw [hS v]; exact c a v H' hp hm
theorem s_setL {t : TA} {i : Nat} {m : M ε} {ds : ε → List D} {k : List α → M ρ} (f : ε → List α) (S : Addr → L2.St) (hS : ∀ p, σ.set i (some (.ref p)) = S p) (hp : Pt Z L O H) (hx : HX Z px) (hm : mb (mb m fun g => mr (f g)) k post px) (e : EA Z L O t σ m ds) (hf : ∀ g, enc (f g) = .lst (ds g)) (hl : ∀ g, (ds g).length ≤ 1000)
    (c : ∀ a p H', Pt Z L ((p, enc a) :: O) H' → k a post px → nx (S p) H') : tAsg (tLst t) (gName i) ⟨nx, rt, bk, ct⟩ σ H :=
  s_asgL (m := m) (k := fun g => k (f g)) hp hx hm e hl fun g p H' hp hm => by rw [hS p]; exact c (f g) p H' (by rw [hf g]; exact hp) hm
theorem s_setC1 {wi : TI} {n j : Nat} {tt : TT} {te : TE} {vs : List Nat} {ml : M (List α)} {p : α → M Bool} {f : α → M β} {k : List β → M ρ} (S : Addr → L2.St) (hS : ∀ p, σ.set n (some (.ref p)) = S p) (hp : Pt Z L O H) (hx : HX Z px) (hm : (mb (mb ml (compM p f)) k) post px) (e : EI Z L O wi σ ml) (hw : ∀ v, wipe ((wipe σ vs).set j (some v)) vs = wipe σ vs)
    (ht : ∀ a x q, ET Z ((x, enc a) :: L) (q :: O) tt ((wipe σ vs).set j (some x)) (p a)) (he : ∀ a x q, EV Z ((x, enc a) :: L) (q :: O) te ((wipe σ vs).set j (some x)) (f a)) (c : ∀ acc d H', Pt Z L ((d, enc acc) :: O) H' → k acc post px → nx (S d) H') : tAsg (tLc wi (gName j) tt te vs) (gName n) ⟨nx, rt, bk, ct⟩ σ H :=
  s_lc1 hp hx hm e hw ht he fun acc d H' hp hm => by rw [hS d]; exact c acc d H' hp hm
theorem s_setC2 {wi : TI} {n i j : Nat} {tt : TT} {te : TE} {vs : List Nat} {ml : M (List (α × γ))} {p : α × γ → M Bool} {f : α × γ → M β} {k : List β → M ρ} (S : Addr → L2.St) (hS : ∀ p, σ.set n (some (.ref p)) = S p) (hp : Pt Z L O H) (hx : HX Z px) (hm : (mb (mb ml (compM p f)) k) post px) (e : EI Z L O wi σ ml) (hw : ∀ v w, wipe (((wipe σ vs).set i (some v)).set j (some w)) vs = wipe σ vs)
    (ht : ∀ a x y q, ET Z ((y, enc a.2) :: (x, enc a.1) :: L) (q :: O) tt (((wipe σ vs).set i (some x)).set j (some y)) (p a)) (he : ∀ a x y q, EV Z ((y, enc a.2) :: (x, enc a.1) :: L) (q :: O) te (((wipe σ vs).set i (some x)).set j (some y)) (f a)) (c : ∀ acc d H', Pt Z L ((d, enc acc) :: O) H' → k acc post px → nx (S d) H') : tAsg (tLc wi (gTup Z.K 2 (gCons (gName i) (gCons (gName j) gNil))) tt te vs) (gName n) ⟨nx, rt, bk, ct⟩ σ H :=
  s_lc2 hp hx hm e hw ht he fun acc d H' hp hm => by rw [hS d]; exact c acc d H' hp hm
/-- name, name = a pair -/
theorem s_set2 {te : TE} {i j : Nat} {m : M (α × β)} {k : α × β → M ρ} (S : V → V → L2.St) (hS : ∀ v w, (σ.set i (some v)).set j (some w) = S v w) (hp : Pt Z L O H) (hx : HX Z px) (hm : mb m k post px) (e : EV Z L O te σ m) (c : ∀ a b v w H', Pt Z ((w, enc b) :: (v, enc a) :: L) O H' → k (a, b) post px → nx (S v w) H') : tAsg te (gTup Z.K 2 (gCons (gName i) (gCons (gName j) gNil))) ⟨nx, rt, bk, ct⟩ σ H :=
  e L H _ px _ sub_refl' hp hx hm fun a x H' hp' hm' => g_two (a := a.1) (b := a.2) hp' fun v w hp2 => by rw [hS v w]; exact c a.1 a.2 v w H' hp2 hm'
theorem g_one' {i : Nat} {x : V} {a : α} {Q : L2.St → Hp → Prop} (S : V → L2.St) (hS : ∀ v, σ.set i (some v) = S v) (hp : Pt Z ((x, enc a) :: L) O H) (c : Pt Z ((x, enc a) :: L) O H → Q (S x) H) : gName i x σ H Q := by
  show Q (σ.set i (some x)) H
  rw [hS x]; exact c hp
theorem g_two' {i j : Nat} {x : V} {a : α} {b : β} {Q : L2.St → Hp → Prop} (S : V → V → L2.St) (hS : ∀ v w, (σ.set i (some v)).set j (some w) = S v w) (hp : Pt Z ((x, enc (a, b)) :: L) O H) (c : ∀ v w, Pt Z ((w, enc b) :: (v, enc a) :: L) O H → Q (S v w) H) : gTup Z.K 2 (gCons (gName i) (gCons (gName j) gNil)) x σ H Q :=
  g_two hp fun v w hp => by rw [hS v w]; exact c v w hp
theorem g_three' {i j k : Nat} {x : V} {a : α} {b : β} {d : γ} {Q : L2.St → Hp → Prop} (S : V → V → V → L2.St) (hS : ∀ v w u, ((σ.set i (some v)).set j (some w)).set k (some u) = S v w u) (hp : Pt Z ((x, enc (⟨a, b, d⟩ : T3 α β γ)) :: L) O H) (c : ∀ v w u, Pt Z ((u, enc d) :: (w, enc b) :: (v, enc a) :: L) O H → Q (S v w u) H) : gTup Z.K 3 (gCons (gName i) (gCons (gName j) (gCons (gName k) gNil))) x σ H Q :=
  g_three hp fun v w u hp => by rw [hS v w u]; exact c v w u hp
end
/-! ## the state of the draws -/
def RS (p : Addr) : Hp → Prop := fun W => ∃ q, Cf.StAt W p q
def spDrawM (K : PySem.W.Frag) (C : CT) : Sp := fun vs H Q E => ∃ (p : Addr) (n : Int) (v0 : V), vs = [.ref p, v0] ∧ CallN K C (RS p) [(v0, enc n)] (mdraw n) H Q
theorem stAt_sub {W H : Hp} {p q : Addr} (s : Sub W H) (h : Cf.StAt W p q) : Cf.StAt H p q := by
  obtain ⟨ne, ns, i, b, c, m, t, h1, h2, h3⟩ := h
  exact ⟨ne, ns, i, b, c, m, t, s _ _ h1, s _ _ h2, h3⟩
/-- p and q alone -/
def two (H : Hp) (p q : Addr) : Hp := fun b => if b = p ∨ b = q then H b else none
theorem two_sub {H : Hp} {p q : Addr} : Sub (two H p q) H := fun b o e => by
  unfold two at e
  by_cases h : b = p ∨ b = q
  · rw [if_pos h] at e; exact e
  · rw [if_neg h] at e; cases e
theorem two_st {H : Hp} {p q : Addr} (h : Cf.StAt H p q) : Cf.StAt (two H p q) p q := by
  obtain ⟨ne, ns, i, b, c, m, t, h1, h2, h3⟩ := h
  exact ⟨ne, ns, i, b, c, m, t, by unfold two; rw [if_pos (.inl rfl)]; exact h1, by unfold two; rw [if_pos (.inr rfl)]; exact h2, h3⟩
theorem two_dis {A W H : Hp} {p q : Addr} (d : Dis A W) (h : Cf.StAt W p q) : Dis A (two H p q) := fun b => by
  unfold two
  by_cases e : b = p ∨ b = q
  · left
    rcases d b with z | z
    · exact z
    · exfalso
      obtain ⟨_, _, _, _, _, _, _, h1, h2, _⟩ := h
      rcases e with e | e
      · rw [e, h1] at z; cases z
      · rw [e, h2] at z; cases z
  · right; rw [if_neg e]
theorem draw_ok {P : Program} {w : World} {mg : Str → Option Value} {base : Heap} {n : Nat} {f : Addr} {fd : FuncData} {ps : List Str} (F : FnOk P w K mg base CX0 n f fd ps Cf.spDraw) : FnOk P w K mg base CX0 n f fd ps (spDrawM K C) := F.imp fun vs H Q E h => by
  obtain ⟨p, n, v0, rfl, G0, F0, post, px, ⟨G, F, W, h⟩, hm, k⟩ := h
  obtain rfl := is_int h.x0
  obtain ⟨q, hs⟩ := h.r
  obtain ⟨h1, h2, h3⟩ := hm
  refine ⟨p, q, n, rfl, stAt_sub h.w hs, h1, h2, fun d H' d0 d1 s' kp => k d _ H' ?_ (h3 d d0 d1)⟩
  have out : ∀ {A : Hp}, Dis A W → Sub A H → Sub A H' := fun {A} dA sA b o e => kp b o (fun z => by
    have z : b = p := by simpa using z
    obtain ⟨_, _, _, _, _, _, _, h1, _, _⟩ := hs
    rcases dA b with y | y
    · rw [y] at e; cases e
    · rw [z, h1] at y; cases y) (sA b o e)
  exact ⟨G, F, two H' p q, ⟨h.g0, h.f0, out h.gw h.g, out h.fw h.f, two_sub, h.gf, two_dis h.gw hs, two_dis h.fw hs, ⟨q, two_st s'⟩, (fun x hx => by
    rcases List.mem_cons.mp hx with e | e
    · rw [e]; exact .int _
    · cases e), (fun x hx => by cases hx), List.nodup_nil⟩⟩
/-- the first point of a law that draws -/
theorem pt_start {H : Hp} {p q : Addr} (h : Cf.StAt H p q) : Pt ⟨K, C, RS p, fun _ => none, fun _ => none, ET0⟩ [] [] H :=
  ⟨fun _ => none, fun _ => none, two H p q, ⟨.refl _, .refl _, sub_none, sub_none, two_sub, fun b => .inl rfl, fun b => .inl rfl, fun b => .inl rfl, ⟨q, two_st h⟩, (fun x hx => by cases hx), (fun x hx => by cases hx), List.nodup_nil⟩⟩
end
end Mi

/-! one lemma an operator -/
namespace Mi
open Enc (enc)
open PySem L2 PySem.Spec PyProof.Rows
open Cf (Fresh rPlus rTimes rEqq rNeq rInn rNotInn rIxx rIsN rNotN rInt rListOf rTupOf)
section
variable {Z : Zx} {L : List (V × D)} {O : List (Addr × D)} {σ : L2.St} {α β γ δ : Type} [Enc α] [Enc β] [Enc γ] [Enc δ]
theorem EV.addIP  {ta tb : TE} {a : Int} {b : Int} (e1 : EV Z L O ta σ (mr a)) (e2 : EV Z L O tb σ (mr b)) : EV Z L O (tOp rPlus ta tb) σ (mr (a + b)) := EV.op2P (f := fun a b => mr (a + b)) ok_addI e1 e2
theorem EV.addI  {ta tb : TE} {m1 : M (Int)} {m2 : M (Int)} (e1 : EV Z L O ta σ m1) (e2 : EV Z L O tb σ m2) : EV Z L O (tOp rPlus ta tb) σ (mb m1 fun a => mb m2 fun b => mr (a + b)) := EV.op2 (f := fun a b => mr (a + b)) ok_addI e1 e2
theorem EV.addSP  {ta tb : TE} {a : Str} {b : Str} (e1 : EV Z L O ta σ (mr a)) (e2 : EV Z L O tb σ (mr b)) : EV Z L O (tOp rPlus ta tb) σ (maddS a b) := EV.op2P (f := fun a b => maddS a b) ok_addS e1 e2
theorem EV.addS  {ta tb : TE} {m1 : M (Str)} {m2 : M (Str)} (e1 : EV Z L O ta σ m1) (e2 : EV Z L O tb σ m2) : EV Z L O (tOp rPlus ta tb) σ (mb m1 fun a => mb m2 fun b => maddS a b) := EV.op2 (f := fun a b => maddS a b) ok_addS e1 e2
theorem EV.addLP  {ta tb : TE} {a : List α} {b : List α} (e1 : EV Z L O ta σ (mr a)) (e2 : EV Z L O tb σ (mr b)) : EV Z L O (tOp rPlus ta tb) σ (maddL a b) := EV.op2P (f := fun a b => maddL a b) ok_addL e1 e2
theorem EV.addL  {ta tb : TE} {m1 : M (List α)} {m2 : M (List α)} (e1 : EV Z L O ta σ m1) (e2 : EV Z L O tb σ m2) : EV Z L O (tOp rPlus ta tb) σ (mb m1 fun a => mb m2 fun b => maddL a b) := EV.op2 (f := fun a b => maddL a b) ok_addL e1 e2
theorem EV.subIP  {ta tb : TE} {a : Int} {b : Int} (e1 : EV Z L O ta σ (mr a)) (e2 : EV Z L O tb σ (mr b)) : EV Z L O (tOp (rI0 fun i j => .int (i - j)) ta tb) σ (mr (a - b)) := EV.op2P (f := fun a b => mr (a - b)) ok_subI e1 e2
theorem EV.subI  {ta tb : TE} {m1 : M (Int)} {m2 : M (Int)} (e1 : EV Z L O ta σ m1) (e2 : EV Z L O tb σ m2) : EV Z L O (tOp (rI0 fun i j => .int (i - j)) ta tb) σ (mb m1 fun a => mb m2 fun b => mr (a - b)) := EV.op2 (f := fun a b => mr (a - b)) ok_subI e1 e2
theorem EV.mulIP  {ta tb : TE} {a : Int} {b : Int} (e1 : EV Z L O ta σ (mr a)) (e2 : EV Z L O tb σ (mr b)) : EV Z L O (tOp rTimes ta tb) σ (mmulI a b) := EV.op2P (f := fun a b => mmulI a b) ok_mulI e1 e2
theorem EV.mulI  {ta tb : TE} {m1 : M (Int)} {m2 : M (Int)} (e1 : EV Z L O ta σ m1) (e2 : EV Z L O tb σ m2) : EV Z L O (tOp rTimes ta tb) σ (mb m1 fun a => mb m2 fun b => mmulI a b) := EV.op2 (f := fun a b => mmulI a b) ok_mulI e1 e2
theorem EV.modIP  {ta tb : TE} {a : Int} {b : Int} (e1 : EV Z L O ta σ (mr a)) (e2 : EV Z L O tb σ (mr b)) : EV Z L O (tOp (rI (fun _ j => 0 < j) fun i j => .int (i % j)) ta tb) σ (mmodI a b) := EV.op2P (f := fun a b => mmodI a b) ok_modI e1 e2
theorem EV.modI  {ta tb : TE} {m1 : M (Int)} {m2 : M (Int)} (e1 : EV Z L O ta σ m1) (e2 : EV Z L O tb σ m2) : EV Z L O (tOp (rI (fun _ j => 0 < j) fun i j => .int (i % j)) ta tb) σ (mb m1 fun a => mb m2 fun b => mmodI a b) := EV.op2 (f := fun a b => mmodI a b) ok_modI e1 e2
theorem EV.divIP  {ta tb : TE} {a : Int} {b : Int} (e1 : EV Z L O ta σ (mr a)) (e2 : EV Z L O tb σ (mr b)) : EV Z L O (tOp (rI CDivW fun i j => .int (i / j)) ta tb) σ (mdivI a b) := EV.op2P (f := fun a b => mdivI a b) ok_divI e1 e2
theorem EV.divI  {ta tb : TE} {m1 : M (Int)} {m2 : M (Int)} (e1 : EV Z L O ta σ m1) (e2 : EV Z L O tb σ m2) : EV Z L O (tOp (rI CDivW fun i j => .int (i / j)) ta tb) σ (mb m1 fun a => mb m2 fun b => mdivI a b) := EV.op2 (f := fun a b => mdivI a b) ok_divI e1 e2
theorem EV.ltIP  {ta tb : TE} {a : Int} {b : Int} (e1 : EV Z L O ta σ (mr a)) (e2 : EV Z L O tb σ (mr b)) : EV Z L O (tOp (rI0 fun i j => .bl (decide (i < j))) ta tb) σ (mr (decide (a < b))) := EV.op2P (f := fun a b => mr (decide (a < b))) ok_lt e1 e2
theorem EV.ltI  {ta tb : TE} {m1 : M (Int)} {m2 : M (Int)} (e1 : EV Z L O ta σ m1) (e2 : EV Z L O tb σ m2) : EV Z L O (tOp (rI0 fun i j => .bl (decide (i < j))) ta tb) σ (mb m1 fun a => mb m2 fun b => mr (decide (a < b))) := EV.op2 (f := fun a b => mr (decide (a < b))) ok_lt e1 e2
theorem EV.leIP  {ta tb : TE} {a : Int} {b : Int} (e1 : EV Z L O ta σ (mr a)) (e2 : EV Z L O tb σ (mr b)) : EV Z L O (tOp (rI0 fun i j => .bl (decide (i ≤ j))) ta tb) σ (mr (decide (a ≤ b))) := EV.op2P (f := fun a b => mr (decide (a ≤ b))) ok_le e1 e2
theorem EV.leI  {ta tb : TE} {m1 : M (Int)} {m2 : M (Int)} (e1 : EV Z L O ta σ m1) (e2 : EV Z L O tb σ m2) : EV Z L O (tOp (rI0 fun i j => .bl (decide (i ≤ j))) ta tb) σ (mb m1 fun a => mb m2 fun b => mr (decide (a ≤ b))) := EV.op2 (f := fun a b => mr (decide (a ≤ b))) ok_le e1 e2
theorem EV.gtIP  {ta tb : TE} {a : Int} {b : Int} (e1 : EV Z L O ta σ (mr a)) (e2 : EV Z L O tb σ (mr b)) : EV Z L O (tOp (rI0 fun i j => .bl (decide (j < i))) ta tb) σ (mr (decide (b < a))) := EV.op2P (f := fun a b => mr (decide (b < a))) ok_gt e1 e2
theorem EV.gtI  {ta tb : TE} {m1 : M (Int)} {m2 : M (Int)} (e1 : EV Z L O ta σ m1) (e2 : EV Z L O tb σ m2) : EV Z L O (tOp (rI0 fun i j => .bl (decide (j < i))) ta tb) σ (mb m1 fun a => mb m2 fun b => mr (decide (b < a))) := EV.op2 (f := fun a b => mr (decide (b < a))) ok_gt e1 e2
theorem EV.geIP  {ta tb : TE} {a : Int} {b : Int} (e1 : EV Z L O ta σ (mr a)) (e2 : EV Z L O tb σ (mr b)) : EV Z L O (tOp (rI0 fun i j => .bl (decide (j ≤ i))) ta tb) σ (mr (decide (b ≤ a))) := EV.op2P (f := fun a b => mr (decide (b ≤ a))) ok_ge e1 e2
theorem EV.geI  {ta tb : TE} {m1 : M (Int)} {m2 : M (Int)} (e1 : EV Z L O ta σ m1) (e2 : EV Z L O tb σ m2) : EV Z L O (tOp (rI0 fun i j => .bl (decide (j ≤ i))) ta tb) σ (mb m1 fun a => mb m2 fun b => mr (decide (b ≤ a))) := EV.op2 (f := fun a b => mr (decide (b ≤ a))) ok_ge e1 e2
theorem EV.eqSP [DecidableEq α] [Scal α] {ta tb : TE} {a : α} {b : α} (e1 : EV Z L O ta σ (mr a)) (e2 : EV Z L O tb σ (mr b)) : EV Z L O (tOp (rEqq Z.K) ta tb) σ (mr (decide (a = b))) := EV.op2P (f := fun a b => mr (decide (a = b))) ok_eqS e1 e2
theorem EV.eqS [DecidableEq α] [Scal α] {ta tb : TE} {m1 : M (α)} {m2 : M (α)} (e1 : EV Z L O ta σ m1) (e2 : EV Z L O tb σ m2) : EV Z L O (tOp (rEqq Z.K) ta tb) σ (mb m1 fun a => mb m2 fun b => mr (decide (a = b))) := EV.op2 (f := fun a b => mr (decide (a = b))) ok_eqS e1 e2
theorem EV.neSP [DecidableEq α] [Scal α] {ta tb : TE} {a : α} {b : α} (e1 : EV Z L O ta σ (mr a)) (e2 : EV Z L O tb σ (mr b)) : EV Z L O (tOp (rNeq Z.K) ta tb) σ (mr (!decide (a = b))) := EV.op2P (f := fun a b => mr (!decide (a = b))) ok_neS e1 e2
theorem EV.neS [DecidableEq α] [Scal α] {ta tb : TE} {m1 : M (α)} {m2 : M (α)} (e1 : EV Z L O ta σ m1) (e2 : EV Z L O tb σ m2) : EV Z L O (tOp (rNeq Z.K) ta tb) σ (mb m1 fun a => mb m2 fun b => mr (!decide (a = b))) := EV.op2 (f := fun a b => mr (!decide (a = b))) ok_neS e1 e2
theorem EV.isNP [NotNon α] {ta tb : TE} {a : Option α} {b : Unit} (e1 : EV Z L O ta σ (mr a)) (e2 : EV Z L O tb σ (mr b)) : EV Z L O (tOp Cf.rIsN ta tb) σ (mr a.isNone) := EV.op2P (f := fun a b => mr a.isNone) ok_isN e1 e2
theorem EV.isN [NotNon α] {ta tb : TE} {m1 : M (Option α)} {m2 : M (Unit)} (e1 : EV Z L O ta σ m1) (e2 : EV Z L O tb σ m2) : EV Z L O (tOp Cf.rIsN ta tb) σ (mb m1 fun a => mb m2 fun b => mr a.isNone) := EV.op2 (f := fun a b => mr a.isNone) ok_isN e1 e2
theorem EV.notNP [NotNon α] {ta tb : TE} {a : Option α} {b : Unit} (e1 : EV Z L O ta σ (mr a)) (e2 : EV Z L O tb σ (mr b)) : EV Z L O (tOp Cf.rNotN ta tb) σ (mr a.isSome) := EV.op2P (f := fun a b => mr a.isSome) ok_notN e1 e2
theorem EV.notN [NotNon α] {ta tb : TE} {m1 : M (Option α)} {m2 : M (Unit)} (e1 : EV Z L O ta σ m1) (e2 : EV Z L O tb σ m2) : EV Z L O (tOp Cf.rNotN ta tb) σ (mb m1 fun a => mb m2 fun b => mr a.isSome) := EV.op2 (f := fun a b => mr a.isSome) ok_notN e1 e2
theorem EV.isNnP [NotNon α] {ta tb : TE} {a : α} {b : Unit} (e1 : EV Z L O ta σ (mr a)) (e2 : EV Z L O tb σ (mr b)) : EV Z L O (tOp Cf.rIsN ta tb) σ (mr false) := EV.op2P (f := fun a b => mr false) ok_isNn e1 e2
theorem EV.isNn [NotNon α] {ta tb : TE} {m1 : M (α)} {m2 : M (Unit)} (e1 : EV Z L O ta σ m1) (e2 : EV Z L O tb σ m2) : EV Z L O (tOp Cf.rIsN ta tb) σ (mb m1 fun a => mb m2 fun b => mr false) := EV.op2 (f := fun a b => mr false) ok_isNn e1 e2
theorem EV.ixLP  {ta tb : TE} {a : List α} {b : Int} (e1 : EV Z L O ta σ (mr a)) (e2 : EV Z L O tb σ (mr b)) : EV Z L O (tOp (rIxx Z.K) ta tb) σ (mix a b) := EV.op2P (f := fun a b => mix a b) ok_ixL e1 e2
theorem EV.ixL  {ta tb : TE} {m1 : M (List α)} {m2 : M (Int)} (e1 : EV Z L O ta σ m1) (e2 : EV Z L O tb σ m2) : EV Z L O (tOp (rIxx Z.K) ta tb) σ (mb m1 fun a => mb m2 fun b => mix a b) := EV.op2 (f := fun a b => mix a b) ok_ixL e1 e2
theorem EV.ixTP  {ta tb : TE} {a : Tp α} {b : Int} (e1 : EV Z L O ta σ (mr a)) (e2 : EV Z L O tb σ (mr b)) : EV Z L O (tOp (rIxx Z.K) ta tb) σ (mix a.l b) := EV.op2P (f := fun a b => mix a.l b) ok_ixT e1 e2
theorem EV.ixT  {ta tb : TE} {m1 : M (Tp α)} {m2 : M (Int)} (e1 : EV Z L O ta σ m1) (e2 : EV Z L O tb σ m2) : EV Z L O (tOp (rIxx Z.K) ta tb) σ (mb m1 fun a => mb m2 fun b => mix a.l b) := EV.op2 (f := fun a b => mix a.l b) ok_ixT e1 e2
theorem EV.ixSP  {ta tb : TE} {a : Str} {b : Int} (e1 : EV Z L O ta σ (mr a)) (e2 : EV Z L O tb σ (mr b)) : EV Z L O (tOp (rIxx Z.K) ta tb) σ (mixS a b) := EV.op2P (f := fun a b => mixS a b) ok_ixS e1 e2
theorem EV.ixS  {ta tb : TE} {m1 : M (Str)} {m2 : M (Int)} (e1 : EV Z L O ta σ m1) (e2 : EV Z L O tb σ m2) : EV Z L O (tOp (rIxx Z.K) ta tb) σ (mb m1 fun a => mb m2 fun b => mixS a b) := EV.op2 (f := fun a b => mixS a b) ok_ixS e1 e2
theorem EV.inIP  {ta tb : TE} {a : Int} {b : List Int} (e1 : EV Z L O ta σ (mr a)) (e2 : EV Z L O tb σ (mr b)) : EV Z L O (tOp (rInn Z.K) ta tb) σ (mr (decide (a ∈ b))) := EV.op2P (f := fun a b => mr (decide (a ∈ b))) ok_inI e1 e2
theorem EV.inI  {ta tb : TE} {m1 : M (Int)} {m2 : M (List Int)} (e1 : EV Z L O ta σ m1) (e2 : EV Z L O tb σ m2) : EV Z L O (tOp (rInn Z.K) ta tb) σ (mb m1 fun a => mb m2 fun b => mr (decide (a ∈ b))) := EV.op2 (f := fun a b => mr (decide (a ∈ b))) ok_inI e1 e2
theorem EV.inSP  {ta tb : TE} {a : Str} {b : List Str} (e1 : EV Z L O ta σ (mr a)) (e2 : EV Z L O tb σ (mr b)) : EV Z L O (tOp (rInn Z.K) ta tb) σ (mr (decide (a ∈ b))) := EV.op2P (f := fun a b => mr (decide (a ∈ b))) ok_inS e1 e2
theorem EV.inS  {ta tb : TE} {m1 : M (Str)} {m2 : M (List Str)} (e1 : EV Z L O ta σ m1) (e2 : EV Z L O tb σ m2) : EV Z L O (tOp (rInn Z.K) ta tb) σ (mb m1 fun a => mb m2 fun b => mr (decide (a ∈ b))) := EV.op2 (f := fun a b => mr (decide (a ∈ b))) ok_inS e1 e2
theorem EV.inSTP  {ta tb : TE} {a : Str} {b : Tp Str} (e1 : EV Z L O ta σ (mr a)) (e2 : EV Z L O tb σ (mr b)) : EV Z L O (tOp (rInn Z.K) ta tb) σ (mr (decide (a ∈ b.l))) := EV.op2P (f := fun a b => mr (decide (a ∈ b.l))) ok_inST e1 e2
theorem EV.inST  {ta tb : TE} {m1 : M (Str)} {m2 : M (Tp Str)} (e1 : EV Z L O ta σ m1) (e2 : EV Z L O tb σ m2) : EV Z L O (tOp (rInn Z.K) ta tb) σ (mb m1 fun a => mb m2 fun b => mr (decide (a ∈ b.l))) := EV.op2 (f := fun a b => mr (decide (a ∈ b.l))) ok_inST e1 e2
theorem EV.ninIP  {ta tb : TE} {a : Int} {b : List Int} (e1 : EV Z L O ta σ (mr a)) (e2 : EV Z L O tb σ (mr b)) : EV Z L O (tOp (rNotInn Z.K) ta tb) σ (mr (!decide (a ∈ b))) := EV.op2P (f := fun a b => mr (!decide (a ∈ b))) ok_ninI e1 e2
theorem EV.ninI  {ta tb : TE} {m1 : M (Int)} {m2 : M (List Int)} (e1 : EV Z L O ta σ m1) (e2 : EV Z L O tb σ m2) : EV Z L O (tOp (rNotInn Z.K) ta tb) σ (mb m1 fun a => mb m2 fun b => mr (!decide (a ∈ b))) := EV.op2 (f := fun a b => mr (!decide (a ∈ b))) ok_ninI e1 e2
theorem EV.ninSP  {ta tb : TE} {a : Str} {b : List Str} (e1 : EV Z L O ta σ (mr a)) (e2 : EV Z L O tb σ (mr b)) : EV Z L O (tOp (rNotInn Z.K) ta tb) σ (mr (!decide (a ∈ b))) := EV.op2P (f := fun a b => mr (!decide (a ∈ b))) ok_ninS e1 e2
theorem EV.ninS  {ta tb : TE} {m1 : M (Str)} {m2 : M (List Str)} (e1 : EV Z L O ta σ m1) (e2 : EV Z L O tb σ m2) : EV Z L O (tOp (rNotInn Z.K) ta tb) σ (mb m1 fun a => mb m2 fun b => mr (!decide (a ∈ b))) := EV.op2 (f := fun a b => mr (!decide (a ∈ b))) ok_ninS e1 e2
theorem EV.ninSTP  {ta tb : TE} {a : Str} {b : Tp Str} (e1 : EV Z L O ta σ (mr a)) (e2 : EV Z L O tb σ (mr b)) : EV Z L O (tOp (rNotInn Z.K) ta tb) σ (mr (!decide (a ∈ b.l))) := EV.op2P (f := fun a b => mr (!decide (a ∈ b.l))) ok_ninST e1 e2
theorem EV.ninST  {ta tb : TE} {m1 : M (Str)} {m2 : M (Tp Str)} (e1 : EV Z L O ta σ m1) (e2 : EV Z L O tb σ m2) : EV Z L O (tOp (rNotInn Z.K) ta tb) σ (mb m1 fun a => mb m2 fun b => mr (!decide (a ∈ b.l))) := EV.op2 (f := fun a b => mr (!decide (a ∈ b.l))) ok_ninST e1 e2
theorem EV.negIP {ta : TE} {a : Int} (e1 : EV Z L O ta σ (mr a)) : EV Z L O (tUn (rU fun i => .int (-i)) ta) σ (mr (-a)) := EV.unP (f := fun a => mr (-a)) ok_negI e1
theorem EV.negI {ta : TE} {m1 : M Int} (e1 : EV Z L O ta σ m1) : EV Z L O (tUn (rU fun i => .int (-i)) ta) σ (mb m1 fun a => mr (-a)) := EV.un (f := fun a => mr (-a)) ok_negI e1
theorem EV.lenLP {ta : TE} {a : List α} (e1 : EV Z L O ta σ (mr a)) : EV Z L O (tCB (Cf.rLen Z.K) (tCons ta tNil)) σ (mr (a.length : Int)) := EV.cb1P (f := fun a => mr (a.length : Int)) ok_lenL e1
theorem EV.lenL {ta : TE} {m1 : M (List α)} (e1 : EV Z L O ta σ m1) : EV Z L O (tCB (Cf.rLen Z.K) (tCons ta tNil)) σ (mb m1 fun a => mr (a.length : Int)) := EV.cb1 (f := fun a => mr (a.length : Int)) ok_lenL e1
theorem EV.lenTP {ta : TE} {a : Tp α} (e1 : EV Z L O ta σ (mr a)) : EV Z L O (tCB (Cf.rLen Z.K) (tCons ta tNil)) σ (mr (a.l.length : Int)) := EV.cb1P (f := fun a => mr (a.l.length : Int)) ok_lenT e1
theorem EV.lenT {ta : TE} {m1 : M (Tp α)} (e1 : EV Z L O ta σ m1) : EV Z L O (tCB (Cf.rLen Z.K) (tCons ta tNil)) σ (mb m1 fun a => mr (a.l.length : Int)) := EV.cb1 (f := fun a => mr (a.l.length : Int)) ok_lenT e1
theorem EV.lenSP {ta : TE} {a : Str} (e1 : EV Z L O ta σ (mr a)) : EV Z L O (tCB (Cf.rLen Z.K) (tCons ta tNil)) σ (mlenS a) := EV.cb1P (f := fun a => mlenS a) ok_lenS e1
theorem EV.lenS {ta : TE} {m1 : M (Str)} (e1 : EV Z L O ta σ m1) : EV Z L O (tCB (Cf.rLen Z.K) (tCons ta tNil)) σ (mb m1 fun a => mlenS a) := EV.cb1 (f := fun a => mlenS a) ok_lenS e1
theorem EV.intIP {ta : TE} {a : Int} (e1 : EV Z L O ta σ (mr a)) : EV Z L O (tCB rInt (tCons ta tNil)) σ (mr a) := EV.cb1P (f := fun a => mr a) ok_int e1
theorem EV.intI {ta : TE} {m1 : M (Int)} (e1 : EV Z L O ta σ m1) : EV Z L O (tCB rInt (tCons ta tNil)) σ (mb m1 fun a => mr a) := EV.cb1 (f := fun a => mr a) ok_int e1
theorem EV.listLP {ta : TE} {a : List α} (e1 : EV Z L O ta σ (mr a)) : EV Z L O (tCB (rListOf Z.K) (tCons ta tNil)) σ (mr a) := EV.cb1P (f := fun a => mr a) ok_listL e1
theorem EV.listL {ta : TE} {m1 : M (List α)} (e1 : EV Z L O ta σ m1) : EV Z L O (tCB (rListOf Z.K) (tCons ta tNil)) σ (mb m1 fun a => mr a) := EV.cb1 (f := fun a => mr a) ok_listL e1
theorem EV.listTP {ta : TE} {a : Tp α} (e1 : EV Z L O ta σ (mr a)) : EV Z L O (tCB (rListOf Z.K) (tCons ta tNil)) σ (mr a.l) := EV.cb1P (f := fun a => mr a.l) ok_listT e1
theorem EV.listT {ta : TE} {m1 : M (Tp α)} (e1 : EV Z L O ta σ m1) : EV Z L O (tCB (rListOf Z.K) (tCons ta tNil)) σ (mb m1 fun a => mr a.l) := EV.cb1 (f := fun a => mr a.l) ok_listT e1
theorem EV.tupLP {ta : TE} {a : List α} (e1 : EV Z L O ta σ (mr a)) : EV Z L O (tCB (rTupOf Z.K) (tCons ta tNil)) σ (mr (⟨a⟩ : Tp α)) := EV.cb1P (f := fun a => mr (⟨a⟩ : Tp α)) ok_tupL e1
theorem EV.tupL {ta : TE} {m1 : M (List α)} (e1 : EV Z L O ta σ m1) : EV Z L O (tCB (rTupOf Z.K) (tCons ta tNil)) σ (mb m1 fun a => mr (⟨a⟩ : Tp α)) := EV.cb1 (f := fun a => mr (⟨a⟩ : Tp α)) ok_tupL e1
theorem EV.tupTP {ta : TE} {a : Tp α} (e1 : EV Z L O ta σ (mr a)) : EV Z L O (tCB (rTupOf Z.K) (tCons ta tNil)) σ (mr a) := EV.cb1P (f := fun a => mr a) ok_tupT e1
theorem EV.tupT {ta : TE} {m1 : M (Tp α)} (e1 : EV Z L O ta σ m1) : EV Z L O (tCB (rTupOf Z.K) (tCons ta tNil)) σ (mb m1 fun a => mr a) := EV.cb1 (f := fun a => mr a) ok_tupT e1
theorem EV.anyP {ta : TE} {a : List Bool} (e1 : EV Z L O ta σ (mr a)) : EV Z L O (tCB (rAny Z.K) (tCons ta tNil)) σ (mr (a.any id)) := EV.cb1P (f := fun a => mr (a.any id)) ok_any e1
theorem EV.any {ta : TE} {m1 : M (List Bool)} (e1 : EV Z L O ta σ m1) : EV Z L O (tCB (rAny Z.K) (tCons ta tNil)) σ (mb m1 fun a => mr (a.any id)) := EV.cb1 (f := fun a => mr (a.any id)) ok_any e1
theorem EV.allP {ta : TE} {a : List Bool} (e1 : EV Z L O ta σ (mr a)) : EV Z L O (tCB (rAll Z.K) (tCons ta tNil)) σ (mr (a.all id)) := EV.cb1P (f := fun a => mr (a.all id)) ok_all e1
theorem EV.all {ta : TE} {m1 : M (List Bool)} (e1 : EV Z L O ta σ m1) : EV Z L O (tCB (rAll Z.K) (tCons ta tNil)) σ (mb m1 fun a => mr (a.all id)) := EV.cb1 (f := fun a => mr (a.all id)) ok_all e1
theorem EV.sumP {ta : TE} {a : List Int} (e1 : EV Z L O ta σ (mr a)) : EV Z L O (tCB (rSum Z.K) (tCons ta tNil)) σ (mr a.sum) := EV.cb1P (f := fun a => mr a.sum) ok_sum e1
theorem EV.sum {ta : TE} {m1 : M (List Int)} (e1 : EV Z L O ta σ m1) : EV Z L O (tCB (rSum Z.K) (tCons ta tNil)) σ (mb m1 fun a => mr a.sum) := EV.cb1 (f := fun a => mr a.sum) ok_sum e1
theorem EV.maxLP {ta : TE} {a : List Int} (e1 : EV Z L O ta σ (mr a)) : EV Z L O (tCB (rMax Z.K) (tCons ta tNil)) σ (mmaxL a) := EV.cb1P (f := fun a => mmaxL a) ok_maxL e1
theorem EV.maxL {ta : TE} {m1 : M (List Int)} (e1 : EV Z L O ta σ m1) : EV Z L O (tCB (rMax Z.K) (tCons ta tNil)) σ (mb m1 fun a => mmaxL a) := EV.cb1 (f := fun a => mmaxL a) ok_maxL e1
theorem EV.minLP {ta : TE} {a : List Int} (e1 : EV Z L O ta σ (mr a)) : EV Z L O (tCB (rMin Z.K) (tCons ta tNil)) σ (mminL a) := EV.cb1P (f := fun a => mminL a) ok_minL e1
theorem EV.minL {ta : TE} {m1 : M (List Int)} (e1 : EV Z L O ta σ m1) : EV Z L O (tCB (rMin Z.K) (tCons ta tNil)) σ (mb m1 fun a => mminL a) := EV.cb1 (f := fun a => mminL a) ok_minL e1
theorem EV.absP {ta : TE} {a : Int} (e1 : EV Z L O ta σ (mr a)) : EV Z L O (tCB (fun xs H Q => ∃ i, xs = [.int i] ∧ Q (.int (if i < 0 then -i else i)) H) (tCons ta tNil)) σ (mr (if a < 0 then -a else a)) := EV.cb1P (f := fun a => mr (if a < 0 then -a else a)) ok_abs e1
theorem EV.abs {ta : TE} {m1 : M (Int)} (e1 : EV Z L O ta σ m1) : EV Z L O (tCB (fun xs H Q => ∃ i, xs = [.int i] ∧ Q (.int (if i < 0 then -i else i)) H) (tCons ta tNil)) σ (mb m1 fun a => mr (if a < 0 then -a else a)) := EV.cb1 (f := fun a => mr (if a < 0 then -a else a)) ok_abs e1
theorem EV.strIP {ta : TE} {a : Int} (e1 : EV Z L O ta σ (mr a)) : EV Z L O (tCB (fun xs H Q => ∃ i, xs = [.int i] ∧ i.natAbs.log2 < 1920 ∧ Q (.str (toString i)) H) (tCons ta tNil)) σ (mstrI a) := EV.cb1P (f := fun a => mstrI a) ok_strI e1
theorem EV.strI {ta : TE} {m1 : M (Int)} (e1 : EV Z L O ta σ m1) : EV Z L O (tCB (fun xs H Q => ∃ i, xs = [.int i] ∧ i.natAbs.log2 < 1920 ∧ Q (.str (toString i)) H) (tCons ta tNil)) σ (mb m1 fun a => mstrI a) := EV.cb1 (f := fun a => mstrI a) ok_strI e1
theorem EV.max2P {ta tb : TE} {a b : Int} (e1 : EV Z L O ta σ (mr a)) (e2 : EV Z L O tb σ (mr b)) : EV Z L O (tCB (fun xs H Q => ∃ i j, xs = [.int i, .int j] ∧ Q (.int (if j > i then j else i)) H) (tCons ta (tCons tb tNil))) σ (mr (if b > a then b else a)) := EV.cb2P (f := fun a b => mr (if b > a then b else a)) ok_max2 e1 e2
theorem EV.max2 {ta tb : TE} {m1 m2 : M Int} (e1 : EV Z L O ta σ m1) (e2 : EV Z L O tb σ m2) : EV Z L O (tCB (fun xs H Q => ∃ i j, xs = [.int i, .int j] ∧ Q (.int (if j > i then j else i)) H) (tCons ta (tCons tb tNil))) σ (mb m1 fun a => mb m2 fun b => mr (if b > a then b else a)) := EV.cb2 (f := fun a b => mr (if b > a then b else a)) ok_max2 e1 e2
theorem EV.min2P {ta tb : TE} {a b : Int} (e1 : EV Z L O ta σ (mr a)) (e2 : EV Z L O tb σ (mr b)) : EV Z L O (tCB (fun xs H Q => ∃ i j, xs = [.int i, .int j] ∧ Q (.int (if j < i then j else i)) H) (tCons ta (tCons tb tNil))) σ (mr (if b < a then b else a)) := EV.cb2P (f := fun a b => mr (if b < a then b else a)) ok_min2 e1 e2
theorem EV.min2 {ta tb : TE} {m1 m2 : M Int} (e1 : EV Z L O ta σ m1) (e2 : EV Z L O tb σ m2) : EV Z L O (tCB (fun xs H Q => ∃ i j, xs = [.int i, .int j] ∧ Q (.int (if j < i then j else i)) H) (tCons ta (tCons tb tNil))) σ (mb m1 fun a => mb m2 fun b => mr (if b < a then b else a)) := EV.cb2 (f := fun a b => mr (if b < a then b else a)) ok_min2 e1 e2
/-- a < b < c and its like -/
theorem EV.chain {g1 g2 : Int → Int → Bool} {ta tb tc : TE} {m1 m2 m3 : M Int} (e1 : EV Z L O ta σ m1) (e2 : EV Z L O tb σ m2) (e3 : EV Z L O tc σ m3) : EV Z L O (tChain (rI0 fun i j => .bl (g1 i j)) (rI0 fun i j => .bl (g2 i j)) ta tb tc) σ (mb m1 fun a => mb m2 fun b => if g1 a b = true then mb m3 fun c => mr (g2 b c) else mr false) := fun L1 H post px Q s hp hx hm k =>
  e1 L1 H _ px _ s hp hx hm fun a x H1 hp1 hm1 => e2 _ H1 _ px _ (sub_cons s) hp1 hx hm1 fun b y H2 hp2 hm2 => by
    obtain rfl := is_int hp2.hd
    obtain rfl := is_int hp2.hd2
    refine ⟨a, b, rfl, rfl, g1 a b, rfl, ?_⟩
    have hm2 : (if g1 a b = true then mb m3 (fun c => mr (g2 b c)) else mr false) post px := hm2
    cases h : g1 a b with
    | true =>
      rw [h, if_pos rfl] at hm2
      rw [if_pos rfl]
      refine e3 _ H2 _ px _ (sub_cons (sub_cons s)) hp2 hx hm2 fun c z H3 hp3 hm3 => ?_
      obtain rfl := is_int hp3.hd
      exact ⟨b, c, rfl, rfl, k _ _ H3 (hp3.tail.tail.tail.add fun G _ => .bl _) hm3⟩
    | false =>
      rw [h, if_neg (by decide)] at hm2
      rw [if_neg (by decide)]
      exact k _ _ H2 (hp2.tail.tail.add fun G _ => .bl _) hm2
theorem EV.chainP {g1 g2 : Int → Int → Bool} {ta tb tc : TE} {a b c : Int} (e1 : EV Z L O ta σ (mr a)) (e2 : EV Z L O tb σ (mr b)) (e3 : EV Z L O tc σ (mr c)) : EV Z L O (tChain (rI0 fun i j => .bl (g1 i j)) (rI0 fun i j => .bl (g2 i j)) ta tb tc) σ (mr (g1 a b && g2 b c)) := fun L1 H post px Q s hp hx hm k =>
  EV.chain e1 e2 e3 L1 H post px Q s hp hx (by
    show (if g1 a b = true then mr (g2 b c) else mr false) post px
    have hm : post (g1 a b && g2 b c) := hm
    cases h : g1 a b with
    | true => rw [h] at hm; rw [if_pos rfl]; exact hm
    | false => rw [h] at hm; rw [if_neg (by decide)]; exact hm) k
theorem EV.lc1P {wi : TI} {j : Nat} {tt : TT} {te : TE} {vs : List Nat} {xs : List α} {p : α → Bool} {f : α → β} (e : EI Z L O wi σ (mr xs)) (hw : ∀ v, wipe ((wipe σ vs).set j (some v)) vs = wipe σ vs)
    (ht : ∀ a x q, ET Z ((x, enc a) :: L) (q :: O) tt ((wipe σ vs).set j (some x)) (mr (p a))) (he : ∀ a x q, EV Z ((x, enc a) :: L) (q :: O) te ((wipe σ vs).set j (some x)) (mr (f a))) : EV Z L O (tLc wi (gName j) tt te vs) σ (mr ((xs.filter p).map f)) := fun L1 H post px Q s hp hx hm k =>
  EV.lc1 e hw ht he L1 H post px Q s hp hx (by show compM _ _ xs post px; rw [compM_pure]; exact hm) k
theorem EV.lc1m {wi : TI} {j : Nat} {te : TE} {vs : List Nat} {xs : List α} {f : α → β} (e : EI Z L O wi σ (mr xs)) (hw : ∀ v, wipe ((wipe σ vs).set j (some v)) vs = wipe σ vs)
    (he : ∀ a x q, EV Z ((x, enc a) :: L) (q :: O) te ((wipe σ vs).set j (some x)) (mr (f a))) : EV Z L O (tLc wi (gName j) tYes te vs) σ (mr (xs.map f)) := fun L1 H post px Q s hp hx hm k =>
  EV.lc1 e hw (fun a x q => ET.yes) he L1 H post px Q s hp hx (by show compM _ _ xs post px; rw [compM_map]; exact hm) k
theorem EV.lc2P {wi : TI} {i j : Nat} {tt : TT} {te : TE} {vs : List Nat} {xs : List (α × γ)} {p : α × γ → Bool} {f : α × γ → β} (e : EI Z L O wi σ (mr xs)) (hw : ∀ v w, wipe (((wipe σ vs).set i (some v)).set j (some w)) vs = wipe σ vs)
    (ht : ∀ a x y q, ET Z ((y, enc a.2) :: (x, enc a.1) :: L) (q :: O) tt (((wipe σ vs).set i (some x)).set j (some y)) (mr (p a))) (he : ∀ a x y q, EV Z ((y, enc a.2) :: (x, enc a.1) :: L) (q :: O) te (((wipe σ vs).set i (some x)).set j (some y)) (mr (f a))) : EV Z L O (tLc wi (gTup Z.K 2 (gCons (gName i) (gCons (gName j) gNil))) tt te vs) σ (mr ((xs.filter p).map f)) := fun L1 H post px Q s hp hx hm k =>
  EV.lc2 e hw ht he L1 H post px Q s hp hx (by show compM _ _ xs post px; rw [compM_pure]; exact hm) k
theorem EV.lc2m {wi : TI} {i j : Nat} {te : TE} {vs : List Nat} {xs : List (α × γ)} {f : α × γ → β} (e : EI Z L O wi σ (mr xs)) (hw : ∀ v w, wipe (((wipe σ vs).set i (some v)).set j (some w)) vs = wipe σ vs)
    (he : ∀ a x y q, EV Z ((y, enc a.2) :: (x, enc a.1) :: L) (q :: O) te (((wipe σ vs).set i (some x)).set j (some y)) (mr (f a))) : EV Z L O (tLc wi (gTup Z.K 2 (gCons (gName i) (gCons (gName j) gNil))) tYes te vs) σ (mr (xs.map f)) := fun L1 H post px Q s hp hx hm k =>
  EV.lc2 e hw (fun a x y q => ET.yes) he L1 H post px Q s hp hx (by show compM _ _ xs post px; rw [compM_map]; exact hm) k
theorem EV.powC {a b n : Int} (h : CPow a b) (e : a ^ b.toNat = n) : EV Z L O (tOp (rI CPow fun i j => .int (i ^ j.toNat)) (tC (.int a)) (tC (.int b))) σ (mr n) := fun L1 H post px Q s hp hx hm k =>
  ⟨a, b, rfl, rfl, h, by show Q (.int (a ^ b.toNat)) H; rw [e]; exact k n _ H (hp.add fun G _ => .int _) hm⟩
/-- a written tuple of texts -/
theorem EV.tconst {k : Addr} {xs : List Str} (h : ∀ H, SqT Z.K H k (xs.map V.str)) (hl : xs.length ≤ 1000000) : EV Z L O (tC (.ref k)) σ (mr (⟨xs⟩ : Tp Str)) := fun L1 H post px Q s hp hx hm kk =>
  kk _ _ H (hp.add fun G _ => .tup (h G) (by rw [List.length_map]; exact hl) (by
    show IsL Z.K Z.C G (xs.map V.str) (xs.map enc)
    clear h hl hm kk
    induction xs with
    | nil => exact .nil
    | cons x xs ih => exact .cons (.str x) ih)) hm
theorem s_next {nx : L2.St → Hp → Prop} {rt : VK} {bk ct : L2.St → Hp → Prop} {H : Hp} (h : nx σ H) : tNext ⟨nx, rt, bk, ct⟩ σ H := h
theorem s_brk {nx : L2.St → Hp → Prop} {rt : VK} {bk ct : L2.St → Hp → Prop} {H : Hp} (h : bk σ H) : tBreak ⟨nx, rt, bk, ct⟩ σ H := h
theorem s_cont {nx : L2.St → Hp → Prop} {rt : VK} {bk ct : L2.St → Hp → Prop} {H : Hp} (h : ct σ H) : tCont ⟨nx, rt, bk, ct⟩ σ H := h
theorem s_retN {nx : L2.St → Hp → Prop} {rt : VK} {bk ct : L2.St → Hp → Prop} {H : Hp} (h : rt .non H) : tRetN ⟨nx, rt, bk, ct⟩ σ H := h
/-! ### kinds -/
def kdD : D → Option Cf.Kd
  | .non => some .non | .bl _ => some .bl | .int _ => some .int | .str _ => some .str | .lst _ => some .lst | .tup _ => some .tup | .dic _ _ => some .dic | .obj _ _ _ => none | .xd _ _ => none
def isD (b : Cf.Kd) (d : D) : Bool := match kdD d with
  | some a => Cf.isk a b
  | none => false
theorem sqT_ty {K : PySem.W.Frag} {H : Hp} {p : Addr} {xs : List V} (h : SqT K H p xs) : TyX K H (.ref p) (.type Cf.Kd.tup.name) := Cf.sqT_ty h
def NoObj : D → Prop
  | .obj _ _ _ => False
  | .xd _ _ => False
  | _ => True
theorem kd_ty {K : PySem.W.Frag} {C : CT} {G H : Hp} {v : V} {d : D} (s : Sub G H) (h : Is K C G v d) (n : NoObj d) : ∃ a : Cf.Kd, kdD d = some a ∧ TyX K H v (.type a.name) := by
  cases h with
  | non => exact ⟨.non, rfl, .base .non⟩
  | bl b => exact ⟨.bl, rfl, .base (.bl b)⟩
  | int b => exact ⟨.int, rfl, .base (.int b)⟩
  | str b => exact ⟨.str, rfl, .base (.str b)⟩
  | lst h l t => exact ⟨.lst, rfl, .base (.lst (s _ _ h))⟩
  | tup h l t => exact ⟨.tup, rfl, sqT_ty (sqT_mono s h)⟩
  | dic h n t => exact ⟨.dic, rfl, .base (.dK (s _ _ h))⟩
  | obj h hc t => exact n.elim
  | xd h t => exact n.elim
theorem EV.isi {ta : TE} {m : M α} (b : Cf.Kd) (e : EV Z L O ta σ m) (n : ∀ a : α, NoObj (enc a)) : EV Z L O (tCB (rIsi Z.K) (tCons ta (tCons (tC (.ty b.name)) tNil))) σ (mb m fun a => mr (isD b (enc a))) := fun L1 H post px Q s hp hx hm k =>
  e L1 H _ px _ s hp hx hm fun a v H1 hp1 hm1 => by
    obtain ⟨G, F, W, h⟩ := hp1
    obtain ⟨kd, e1, e2⟩ := kd_ty h.g h.x0 (n a)
    refine ⟨v, .ty b.name, _, _, _, rfl, .ty _, e2, kit_ty (Cf.kit_isk kd b), ?_⟩
    have e3 : isD b (enc a) = Cf.isk kd b := by unfold isD; rw [e1]
    rw [← e3]
    exact k _ _ H1 (h.t1.add (.bl _)) hm1
theorem EV.isiP {ta : TE} {a : α} (b : Cf.Kd) (e : EV Z L O ta σ (mr a)) (n : NoObj (enc a)) : EV Z L O (tCB (rIsi Z.K) (tCons ta (tCons (tC (.ty b.name)) tNil))) σ (mr (isD b (enc a))) := fun L1 H post px Q s hp hx hm k =>
  e L1 H (fun a' => a' = a) px _ s hp hx rfl fun a v H1 hp1 hm1 => by
    subst hm1
    obtain ⟨G, F, W, h⟩ := hp1
    obtain ⟨kd, e1, e2⟩ := kd_ty h.g h.x0 n
    refine ⟨v, .ty b.name, _, _, _, rfl, .ty _, e2, kit_ty (Cf.kit_isk kd b), ?_⟩
    have e3 : isD b (enc a) = Cf.isk kd b := by unfold isD; rw [e1]
    rw [← e3]
    exact k _ _ H1 (h.t1.add (.bl _)) hm
end
end Mi

/-! operators, calls, built-ins by an own class's special methods -/
namespace L2
open PySem PySem.Spec PyProof.Rows
section
variable {X : Cx} {pins : List (Addr × Obj)} {σ : St} {H : Hp} {s : Shared} {CX : CXT} {k : Nat} {C f a dx : Addr} {fs : List (Str × V)} {fd : FuncData} {ps : List Str} {sp : Sp} {E : St → XK}
theorem relV_ni {v : V} {u : Value} (h : RelV v u) : u ≠ .notImplemented := by
  intro e
  subst e
  cases v <;> simp [RelV] at h
theorem cmpBack_of {Q : VK} {u : Value} {s' : Shared} (h : EP X pins σ Q u s') : PySem.W.CmpBack (EP X pins σ Q) u s' := by
  have n : u ≠ .notImplemented := by
    obtain ⟨v, H', _, r, _⟩ := h
    exact relV_ni r
  cases u <;> first | exact h | exact absurd rfl n
theorem rel_ref {a : Addr} : RelV (.ref a) (.ref a) := rfl
/-- a run one step further in -/
theorem run_in {A : Around} {Q : VK} {us : List Value} {vs : List V} (F : FnOk X.prog X.w X.K X.mg X.base CX k f fd ps sp) (hr : Room k A) (hA : A.frames = X.A.frames) (hb : Binds X.K fd ps []) (hx : ∀ σ, PassesAt CX X σ (E σ)) (I : Inv X pins σ H s) (r : Vals vs us) (h : sp vs H Q (E σ)) :
    wpAny (model X.prog X.w) A (call (.ref f) us) (EP X pins σ Q) X.xe s := by
  have hl : us.length = ps.length := by rw [← r.length]; exact F.len _ _ _ _ h
  have e0 : Env0 X.prog X.w X.K X.mg X.base A X.stack s H := by
    have e := I.env0
    exact ⟨by rw [hA]; exact e.frames, e.mod, e.bs, e.bsz, e.funs, e.frf, e.hok, e.bare⟩
  have hb' := hb s us I.kIn (by rw [List.append_nil]; exact hl)
  rw [List.append_nil] at hb'
  refine wpAny_call (codeAny_mono (F.run A X.stack s H ⟨us, []⟩ us vs Q (E σ) hr e0 hb' r h) fun r s' hq => ?_)
  cases r with
  | error e => exact hx σ pins H s e s' I hq
  | ok fl =>
    cases fl with
    | ret u => exact I.after hq
    | next => exact False.elim hq
    | brk => exact False.elim hq
    | cont => exact False.elim hq
/-- an own special method runs -/
theorem run_own {Q : VK} {us : List Value} {vs : List V} (F : FnOk X.prog X.w X.K X.mg X.base CX k f fd ps sp) (hr : Room k X.A) (hb : Binds X.K fd ps []) (hx : ∀ σ, PassesAt CX X σ (E σ)) (I : Inv X pins σ H s) (r : Vals vs us) (h : sp vs H Q (E σ)) :
    wpAny (model X.prog X.w) X.A (call (.ref f) us) (EP X pins σ Q) X.xe s := run_in F hr rfl hb hx I r h
/-- what the class says of one of its special methods -/
structure OwnM (K : PySem.W.Frag) (C : Addr) (m : Str) (f : Addr) : Prop where
  at_ : PySem.W.findIn K (.ref C) m = some (some (.ref f))
  fn : PySem.W.isFn K (.ref f) = true
/-- an operator, what is asked by the slots, too -/
def OpRS (X : Cx) (op : Value → Value → Sem Value) (r : St → R2) : Prop := ∀ (pins : List (Addr × Obj)) (s : Shared) (σ : St) (H : Hp) (x y : V) (u v : Value) (Q : VK), Inv X pins σ H s → RelV x u → RelV y v → r σ x y H Q → wpAny (model X.prog X.w) X.A (op u v) (EP X pins σ Q) X.xe s
def tOpS (r : St → R2) (ta tb : TE) : TE := fun σ H Q => ta σ H fun x H1 => tb σ H1 fun y H2 => r σ x y H2 Q
theorem pe_opS {op : Operator} {r : St → R2} {ea eb : Expr} {ta tb : TE} {pos : Pos} (ho : OpRS X (binaryOp op) r) (ha : PE X ea ta) (hb : PE X eb tb) : PE X (.BinOp ea op eb pos) (tOpS r ta tb) :=
  ⟨fun pins s σ H Q I h => wpAny_BinOp (thn (ha.run pins s σ H _ I h) fun v s1 ⟨x, H1, I1, r1, q1⟩ => thn (hb.run pins s1 σ H1 _ I1 q1) fun u s2 ⟨y, H2, I2, r2, q2⟩ => ho pins s2 σ H2 x y v u Q I2 r1 r2 q2)⟩
theorem pe_cmpS {op : CmpOp} {r : St → R2} {ea eb : Expr} {ta tb : TE} {pos : Pos} (ho : OpRS X (compareOp op) r) (ha : PE X ea ta) (hb : PE X eb tb) (hm : behindInMarks op eb = false) : PE X (.Compare ea [op] [eb] pos) (tOpS r ta tb) :=
  ⟨fun pins s σ H Q I h => wpAny_Compare1 (thn (ha.run pins s σ H _ I h) fun v s1 ⟨x, H1, I1, r1, q1⟩ => thn (hb.run pins s1 σ H1 _ I1 q1) fun u s2 ⟨y, H2, I2, r2, q2⟩ => ho pins s2 σ H2 x y v u Q I2 r1 r2 q2) hm⟩
theorem pt_cmpS {op : CmpOp} {r : St → R2} {ea eb : Expr} {ta tb : TE} {pos : Pos} (ho : OpRS X (compareOp op) r) (ha : PE X ea ta) (hb : PE X eb tb) (hm : behindInMarks op eb = false) : PT X (.Compare ea [op] [eb] pos) (tTest (tOpS r ta tb)) := by
  refine ⟨fun pins s σ H Q I h => ?_⟩
  refine wpAny_isTrue_Compare1 (thn (ha.run pins s σ H _ I h) fun v s1 ⟨x, H1, I1, r1, q1⟩ => thn (hb.run pins s1 σ H1 _ I1 q1) fun u s2 ⟨y, H2, I2, r2, q2⟩ => thn (ho pins s2 σ H2 x y v u _ I2 r1 r2 q2) fun c s3 ⟨z, H3, I3, r3, k, e, q3⟩ => ?_) hm
  subst e
  cases r3
  exact wpAny_truthy_bool ⟨H3, I3, q3⟩
theorem passAll {E : XK} (h : Passes CX X E) : ∀ σ, PassesAt CX X σ ((fun _ => E) σ) := fun σ pins H s e s' I c => h pins σ H s e s' I c
def rOwnI (C : Addr) (sp : Sp) (E : St → XK) : St → R2 := fun σ x y H Q => ∃ a dx fs i, x = .ref a ∧ y = .int i ∧ H a = some (.ins C dx fs) ∧ sp [x, y] H Q (E σ)
/-- what is asked of the class for an operator with a right operand of the built-in class T -/
structure OwnT (K : PySem.W.Frag) (C : Addr) (op : Operator) (T : String) (f : Addr) : Prop where
  m : OwnM K C (PySem.dunder op.info.2) f
  first : PySem.W.selfFirst K C = true
  rc : ∃ rc, PySem.W.findIn K (.ref C) (dunderR op.info.2) = some rc ∧ (rc = none ∨ ∃ g : Addr, rc = some (.ref g))
  t1 : ∃ fo, PySem.W.findIn K (.type T) (PySem.dunder op.info.2) = some fo
  t2 : ∃ ro, PySem.W.findIn K (.type T) (dunderR op.info.2) = some ro
  sub : PySem.W.subIn K (.type T) (.ref C) = some false
theorem op_ownI {op : Operator} (o : OwnT X.K C op "int" f) (F : FnOk X.prog X.w X.K X.mg X.base CX k f fd ps sp) (hr : Room k X.A) (hb : Binds X.K fd ps []) (hx : ∀ σ, PassesAt CX X σ (E σ)) : OpRS X (binaryOp op) (rOwnI C sp E) := by
  intro pins s σ H x y u v Q I rx ry h
  obtain ⟨a, dx, fs, i, rfl, rfl, ea, q⟩ := h
  obtain rfl : u = Value.ref a := rx
  obtain ⟨t, rfl⟩ := id ry
  obtain ⟨mA, M, _⟩ := ins_get I.hok ea
  obtain ⟨od, J, _⟩ := M.look
  obtain ⟨m, hF⟩ := I.fr
  obtain ⟨rc, h1, h2⟩ := o.rc
  obtain ⟨fo, h3⟩ := o.t1
  obtain ⟨ro, h4⟩ := o.t2
  exact PySem.W.ksp_binT (T := "int") hF I.ok.mod.kin J rfl o.first o.m.at_ o.m.fn h1 h2 h3 h4 o.sub (wpAny_mono (run_own F hr hb hx I (.cons rel_ref (.cons ry .nil)) q) (fun _ _ hq => cmpBack_of hq) fun _ _ z => z)
def rOwnC (C : Addr) (sp : Sp) (E : St → XK) : St → R2 := fun σ x y H Q => ∃ a dx fs b dy gs, x = .ref a ∧ y = .ref b ∧ H a = some (.ins C dx fs) ∧ H b = some (.ins C dy gs) ∧ sp [x, y] H Q (E σ)
theorem op_ownC {op : Operator} (o : OwnM X.K C (PySem.dunder op.info.2) f) (hc : PySem.W.selfFirst X.K C = true) (F : FnOk X.prog X.w X.K X.mg X.base CX k f fd ps sp) (hr : Room k X.A) (hb : Binds X.K fd ps []) (hx : ∀ σ, PassesAt CX X σ (E σ)) : OpRS X (binaryOp op) (rOwnC C sp E) := by
  intro pins s σ H x y u v Q I rx ry h
  obtain ⟨a, dx, fs, b, dy, gs, rfl, rfl, ea, eb, q⟩ := h
  obtain rfl : u = Value.ref a := rx
  obtain rfl : v = Value.ref b := ry
  obtain ⟨mA, M, _⟩ := ins_get I.hok ea
  obtain ⟨od, J, _⟩ := M.look
  obtain ⟨mB, M2, _⟩ := ins_get I.hok eb
  obtain ⟨od2, J2, _⟩ := M2.look
  obtain ⟨m, hF⟩ := I.fr
  exact PySem.W.binop_K hF I.ok.mod.kin J J2.type hc o.at_ o.fn (wpAny_mono (run_own F hr hb hx I (.cons rel_ref (.cons rel_ref .nil)) q) (fun _ _ hq => cmpBack_of hq) fun _ _ z => z)
/-- ==, <, <= .. of two of one class -/
theorem op_ownCmp {op : CmpOp} (hop : compareOp op = richCompare op) (hu : X.A.units < cLine) (o : OwnM X.K C (cmpInfo op).2.1 f) (hn : PySem.W.notFirst X.K C (.ref C) = true) (F : FnOk X.prog X.w X.K X.mg X.base CX k f fd ps sp) (hr : Room k X.A) (hb : Binds X.K fd ps []) (hx : ∀ σ, PassesAt CX X σ (E σ)) : OpRS X (compareOp op) (rOwnC C sp E) := by
  intro pins s σ H x y u v Q I rx ry h
  obtain ⟨a, dx, fs, b, dy, gs, rfl, rfl, ea, eb, q⟩ := h
  obtain rfl : u = Value.ref a := rx
  obtain rfl : v = Value.ref b := ry
  obtain ⟨mA, M, _⟩ := ins_get I.hok ea
  obtain ⟨od, J, _⟩ := M.look
  obtain ⟨mB, M2, _⟩ := ins_get I.hok eb
  obtain ⟨od2, J2, _⟩ := M2.look
  obtain ⟨m, hF⟩ := I.fr
  rw [hop]
  exact PySem.W.cmp_K hu hF I.ok.mod.kin J J2.type hn o.at_ o.fn (wpAny_mono (run_own F hr hb hx I (.cons rel_ref (.cons rel_ref .nil)) q) (fun _ _ hq => cmpBack_of hq) fun _ _ z => z)
/-- x in o -/
def rOwnIn (C : Addr) (sp : Sp) (E : St → XK) : St → R2 := fun σ x y H Q => ∃ a dx fs, y = .ref a ∧ H a = some (.ins C dx fs) ∧ sp [y, x] H (fun r H' => ∃ b, r = .bl b ∧ Q (.bl b) H') (E σ)
theorem op_ownIn (o : OwnM X.K C "__contains__" f) (F : FnOk X.prog X.w X.K X.mg X.base CX k f fd ps sp) (hr : Room k X.A) (hb : Binds X.K fd ps []) (hx : ∀ σ, PassesAt CX X σ (E σ)) : OpRS X (compareOp .In) (rOwnIn C sp E) := by
  intro pins s σ H x y u v Q I rx ry h
  obtain ⟨a, dx, fs, rfl, ea, q⟩ := h
  obtain rfl : v = Value.ref a := ry
  obtain ⟨mA, M, _⟩ := ins_get I.hok ea
  obtain ⟨od, J, _⟩ := M.look
  obtain ⟨m, hF⟩ := I.fr
  refine PySem.W.in_K hF I.ok.mod.kin J o.at_ o.fn (wpAny_mono (run_own F hr hb hx I (.cons rel_ref (.cons rx .nil)) q) (fun r s' hq => ?_) fun _ _ z => z)
  obtain ⟨v, H', I', rv, b, rfl, hq⟩ := hq
  cases rv
  exact wpAny_truthy_bool ⟨.bl b, H', I', rfl, hq⟩
theorem op_ownNotIn (o : OwnM X.K C "__contains__" f) (F : FnOk X.prog X.w X.K X.mg X.base CX k f fd ps sp) (hr : Room k X.A) (hb : Binds X.K fd ps []) (hx : ∀ σ, PassesAt CX X σ (E σ)) :
    OpRS X (compareOp .NotIn) (fun σ x y H Q => ∃ a dx fs, y = .ref a ∧ H a = some (.ins C dx fs) ∧ sp [y, x] H (fun r H' => ∃ b, r = .bl b ∧ Q (.bl (!b)) H') (E σ)) := by
  intro pins s σ H x y u v Q I rx ry h
  obtain ⟨a, dx, fs, rfl, ea, q⟩ := h
  obtain rfl : v = Value.ref a := ry
  obtain ⟨mA, M, _⟩ := ins_get I.hok ea
  obtain ⟨od, J, _⟩ := M.look
  obtain ⟨m, hF⟩ := I.fr
  refine PySem.W.notIn_K hF I.ok.mod.kin J o.at_ o.fn (wpAny_mono (run_own F hr hb hx I (.cons rel_ref (.cons rx .nil)) q) (fun r s' hq => ?_) fun _ _ z => z)
  obtain ⟨v, H', I', rv, b, rfl, hq⟩ := hq
  cases rv
  exact wpAny_truthy_bool ⟨.bl (!b), H', I', rfl, hq⟩
/-- len(o) -/
theorem cr_ownLen (o : OwnM X.K C "__len__" f) (F : FnOk X.prog X.w X.K X.mg X.base CX k f fd ps sp) (hr : Room (k + 1) X.A) (hb : Binds X.K fd ps []) (hx : ∀ σ, PassesAt CX X σ E0) :
    CallR X (.builtin "len") (fun xs H Q => ∃ a dx fs, xs = [.ref a] ∧ H a = some (.ins C dx fs) ∧ sp xs H (fun r H' => ∃ n, r = .int n ∧ 0 ≤ n ∧ n < 2 ^ 63 ∧ Q (.int n) H') (E0 : XK)) := by
  intro pins s σ H xs us Q I r h
  obtain ⟨a, dx, fs, rfl, ea, q⟩ := h
  cases r with
  | cons rx rr =>
    cases rr
    rename_i u
    obtain rfl : u = Value.ref a := rx
    obtain ⟨mA, M, _⟩ := ins_get I.hok ea
    obtain ⟨od, J, _⟩ := M.look
    obtain ⟨m, hF⟩ := I.fr
    refine PySem.W.len_K hF I.ok.mod.kin J o.at_ o.fn (wpAny_mono (run_in (E := fun _ => E0) F hr.in1 rfl hb hx I (.cons rel_ref .nil) q) (fun r s' hq => ?_) fun _ _ z => z)
    obtain ⟨v, H', I', rv, n, rfl, h0, h1, hq⟩ := hq
    obtain ⟨t, rfl⟩ := id rv
    exact ⟨⟨h0, h1⟩, .int n, H', I'.tok _, ⟨_, rfl⟩, hq⟩
/-- str(o) -/
theorem cr_ownStr (hu : X.A.units + 2 < cLine) (o : OwnM X.K C "__str__" f) (F : FnOk X.prog X.w X.K X.mg X.base CX k f fd ps sp) (hr : Room (k + 2) X.A) (hb : Binds X.K fd ps []) (hx : ∀ σ, PassesAt CX X σ E0) :
    CallR X (.type "str") (fun xs H Q => ∃ a dx fs, xs = [.ref a] ∧ H a = some (.ins C dx fs) ∧ sp xs H (fun r H' => ∃ z, r = .str z ∧ Q (.str z) H') (E0 : XK)) := by
  intro pins s σ H xs us Q I r h
  obtain ⟨a, dx, fs, rfl, ea, q⟩ := h
  cases r with
  | cons rx rr =>
    cases rr
    rename_i u
    obtain rfl : u = Value.ref a := rx
    obtain ⟨mA, M, _⟩ := ins_get I.hok ea
    obtain ⟨od, J, _⟩ := M.look
    refine PySem.W.kso_call (by simpa [Around.in1] using hu) I.kIn J o.at_ o.fn (wpAny_mono (run_in (E := fun _ => E0) F hr.in1.in1 rfl hb hx I (.cons rel_ref .nil) q) (fun r s' hq => ?_) fun _ _ z => z)
    obtain ⟨v, H', I', rv, z, rfl, hq⟩ := hq
    obtain ⟨t, rfl⟩ := id rv
    exact ⟨.str z, H', I', ⟨_, rfl⟩, hq⟩
/-- o(..), o a local name -/
def tCallO (C : Addr) (sp : Sp) (E : St → XK) (i : Nat) (t : TA) : TE := fun σ H Q => ∃ a, σ[i]? = some (some (.ref a)) ∧ t σ H fun vs H1 => (∃ dx fs, H1 a = some (.ins C dx fs)) ∧ sp (.ref a :: vs) H1 Q (E σ)
/-- an object is called, as it stands behind its arguments -/
theorem callWith_ins {M : Model} {A : Around} {E : Value → Shared → Prop} {K : PySem.W.Frag} {x : Addr} {pos : Pos} {Q : Value → Shared → Prop} {args : List (Bool × Sem Value)} (hpl : (args.any (·.1) || ([] : List (Option Str × Sem Value)).any (·.1.isNone)) = false)
    (h : wpAny M A (evalArgs (.ref x) true args []) (fun g s1 => (∃ ox od, PySem.W.InstAt s1.heap x ox C od ∧ ox.data = .plain) ∧ wpAny M A (call (.ref x) ([] ++ g.pos) g.kw) Q E s1) E s) : wpAny M A (callWith pos (.ref x) [] args []) Q E s := by
  unfold callWith
  refine wpAny_bind (wpAny_holding (wpAny_mono h (fun g s1 hg => ?_) fun _ _ z => z))
  obtain ⟨⟨ox, od, J, hd⟩, hq⟩ := hg
  refine wpAny_bind (wpAny_standAt ?_)
  simp only [hpl]
  refine wpAny_bind ((PySem.W.kco_keeper J hd).here ?_)
  exact wpAny_bind (wpAny_mono (wpAny_operateT hq) (fun r s2 hr => wpAny_bind (wpAny_holding (wpAny_point (wpAny_pure hr)))) fun _ _ z => z)
theorem call_ins {Q : VK} {us : List Value} {vs : List V} (o : OwnM X.K C "__call__" f) (hfn : PySem.W.fnIn X.K f = true) (F : FnOk X.prog X.w X.K X.mg X.base CX k f fd ps sp) (hr : Room k X.A) (hb : Binds X.K fd ps []) (hx : ∀ σ, PassesAt CX X σ (E σ)) (I : Inv X pins σ H s) (ea : H a = some (.ins C dx fs)) (r : Vals vs us) (h : sp (.ref a :: vs) H Q (E σ)) :
    wpAny (model X.prog X.w) X.A (call (.ref a) us) (EP X pins σ Q) X.xe s := by
  obtain ⟨mA, M, _⟩ := ins_get I.hok ea
  obtain ⟨od, J, _⟩ := M.look
  have r2 : Vals (V.ref a :: vs) (Value.ref a :: us) := .cons rel_ref r
  have hl : (Value.ref a :: us).length = ps.length := by rw [← r2.length]; exact F.len _ _ _ _ h
  have hb' := hb s (Value.ref a :: us) I.kIn (by rw [List.append_nil]; exact hl)
  rw [List.append_nil] at hb'
  refine wpAny_call (PySem.W.kco_code I.kIn J rfl o.at_ o.fn hfn (codeAny_mono (F.run X.A X.stack s H ⟨.ref a :: us, []⟩ (.ref a :: us) (.ref a :: vs) Q (E σ) hr I.env0 hb' r2 h) fun r s' hq => ?_))
  cases r with
  | error e => exact hx σ pins H s e s' I hq
  | ok fl =>
    cases fl with
    | ret u => exact I.after hq
    | next => exact False.elim hq
    | brk => exact False.elim hq
    | cont => exact False.elim hq
theorem pe_callO {i : Nat} {x : Str} {p pos : Pos} {e : Expr} {es : List Expr} {t : TA} (hN : X.N[i]? = some x) (hv : Vis X.env.scope x) (o : OwnM X.K C "__call__" f) (hfn : PySem.W.fnIn X.K f = true) (F : FnOk X.prog X.w X.K X.mg X.base CX k f fd ps sp) (hr : Room k X.A) (hb : Binds X.K fd ps []) (hx : ∀ σ, PassesAt CX X σ (E σ))
    (ha : PA X (e :: es) t) (hdb : (x == ("__debug__" : Str)) = false := by decide) (hcd : (x == ("__classdict__" : Str)) = false := by decide) (he : starEach (e :: es) X.env = (false, eval e X.env) :: starEach es X.env := by rfl) (hpl : (backTo pos (starEach es X.env)).any (·.1) = false := by rfl) :
    PE X (.Call (.Name x p) (e :: es) [] pos) (tCallO C sp E i t) := by
  refine ⟨fun pins s σ H Q I h => ?_⟩
  obtain ⟨a, hs, q⟩ := h
  refine wpAny_Call_Name_kw (thn ((pe_var (pos := p) hN hv hdb hcd).run pins s σ H (fun v H' => v = .ref a ∧ t σ H' fun vs H1 => (∃ dx fs, H1 a = some (.ins C dx fs)) ∧ sp (.ref a :: vs) H1 Q (E σ)) I ⟨_, hs, rfl, q⟩) fun u s1 ⟨v, H1, I1, rv, ev, q1⟩ => ?_)
  subst ev
  obtain rfl : u = Value.ref a := rv
  show wpAny _ _ (callWith pos (.ref a) [] (backTo pos (starEach (e :: es) X.env)) []) _ _ _
  refine callWith_ins (C := C) (K := X.K) ?_ ?_
  · rw [he]
    show ((false || (backTo pos (starEach es X.env)).any (·.1)) || false) = false
    rw [hpl]; rfl
  · rw [he]
    refine PySem.Calls.evalArgs_plain ?_
    show wpAny _ _ (spliced (backTo pos ((false, eval e X.env) :: starEach es X.env))) _ _ _
    rw [← he]
    refine thn (ha.run pos pins s1 σ H1 _ I1 q1) fun us s2 ⟨vs, H2, I2, r, ⟨dx, fs, ea⟩, q2⟩ => ?_
    obtain ⟨mA, M, _⟩ := ins_get I2.hok ea
    obtain ⟨od, J, _⟩ := M.look
    exact ⟨⟨_, _, J, rfl⟩, call_ins o hfn F hr hb hx I2 ea r q2⟩
end
end L2

/-! special methods; == of data; errors caught -/
namespace Mi
open Enc (enc)
open PySem L2 PySem.Spec PyProof.Rows
open Cf (Fresh)
section
variable {Z : Zx} {L : List (V × D)} {O : List (Addr × D)} {σ : L2.St} {α β γ δ : Type} [Enc α] [Enc β] [Enc γ] [Enc δ]
def ObjIs (c : Str) (d : D) : Prop := ∃ ns ds, d = .obj c ns ds
theorem PtS.ins {c : Str} {A : Addr} {x : V} {d : D} {H G F W : Hp} (h : PtS Z L O H G F W) (m : (x, d) ∈ L) (ha : Z.C c = some A) (o : ObjIs c d) : ∃ a dx fs, x = .ref a ∧ H a = some (.ins A dx fs) := by
  obtain ⟨ns, ds, rfl⟩ := o
  obtain ⟨p, A', dx, fs, rfl, e1, e2, e3, t⟩ := is_obj (h.l _ m)
  obtain rfl : A' = A := Option.some.inj (e2.symm.trans ha)
  exact ⟨p, dx, fs, rfl, h.g _ _ e1⟩
theorem EV.ownIN {c : Str} {A : Addr} {sp : Sp} {E : L2.St → XK} {to ti : TE} {mo : M α} {mi : M Int} {k : α → Int → M β} (e0 : EV Z L O to σ mo) (e1 : EV Z L O ti σ mi) (ha : Z.C c = some A) (ho : ∀ a : α, ObjIs c (enc a))
    (hc : ∀ (a : α) (i : Int) (x y : V) (H : Hp) (Q : VK), CallN Z.K Z.C R0 [(x, enc a), (y, enc i)] (k a i) H Q → sp [x, y] H Q (E σ)) : EV Z L O (tOpS (rOwnI A sp E) to ti) σ (mb mo fun a => mb mi fun i => k a i) := fun L1 H post px Q s hp hx hm kk =>
  e0 L1 H _ px _ s hp hx hm fun a x H1 hp1 hm1 => e1 _ H1 _ px _ (sub_cons s) hp1 hx hm1 fun i y H2 hp2 hm2 => by
    obtain ⟨G, F, W, h2⟩ := hp2
    obtain rfl := is_int h2.x0
    obtain ⟨p, dx, fs, rfl, ea⟩ := h2.ins (List.mem_cons_of_mem _ List.mem_cons_self) ha (ho a)
    have sw : ∀ z ∈ [(V.ref p, enc a), (V.int i, enc i)] ++ L1, z ∈ (V.int i, enc i) :: (V.ref p, enc a) :: L1 := pk (.tail _ (.head _)) (pk (.head _) fun z hz => .tail _ (.tail _ hz))
    refine ⟨p, dx, fs, i, rfl, rfl, ea, ?_⟩
    exact hc a i _ _ H2 Q (call_n (ps := [(.ref p, enc a), (.int i, enc i)]) (L1 := L1) (h2.pt.less sw) hm2 kk)
theorem EV.ownCN {c : Str} {A : Addr} {sp : Sp} {E : L2.St → XK} {to ti : TE} {mo : M α} {mi : M δ} {k : α → δ → M β} (e0 : EV Z L O to σ mo) (e1 : EV Z L O ti σ mi) (ha : Z.C c = some A) (ho : ∀ a : α, ObjIs c (enc a)) (ho2 : ∀ a : δ, ObjIs c (enc a))
    (hc : ∀ (a : α) (b : δ) (x y : V) (H : Hp) (Q : VK), CallN Z.K Z.C R0 [(x, enc a), (y, enc b)] (k a b) H Q → sp [x, y] H Q (E σ)) : EV Z L O (tOpS (rOwnC A sp E) to ti) σ (mb mo fun a => mb mi fun b => k a b) := fun L1 H post px Q s hp hx hm kk =>
  e0 L1 H _ px _ s hp hx hm fun a x H1 hp1 hm1 => e1 _ H1 _ px _ (sub_cons s) hp1 hx hm1 fun b y H2 hp2 hm2 => by
    obtain ⟨G, F, W, h2⟩ := hp2
    obtain ⟨q, dy, gs, rfl, eb⟩ := h2.ins List.mem_cons_self ha (ho2 b)
    obtain ⟨p, dx, fs, rfl, ea⟩ := h2.ins (List.mem_cons_of_mem _ List.mem_cons_self) ha (ho a)
    have sw : ∀ z ∈ [(V.ref p, enc a), (V.ref q, enc b)] ++ L1, z ∈ (V.ref q, enc b) :: (V.ref p, enc a) :: L1 := pk (.tail _ (.head _)) (pk (.head _) fun z hz => .tail _ (.tail _ hz))
    refine ⟨p, dx, fs, q, dy, gs, rfl, rfl, ea, eb, ?_⟩
    exact hc a b _ _ H2 Q (call_n (ps := [(.ref p, enc a), (.ref q, enc b)]) (L1 := L1) (h2.pt.less sw) hm2 kk)
theorem EV.callON {c : Str} {A : Addr} {sp : Sp} {E : L2.St → XK} {i : Nat} {v : V} {a : α} {t : TA} {m : M γ} {ds : γ → List D} {k : α → γ → M β} (hi : σ[i]? = some (some v)) (hv : (v, enc a) ∈ L) (e : EA Z L O t σ m ds) (ha : Z.C c = some A) (ho : ObjIs c (enc a))
    (hc : ∀ (x : V) (g : γ) (vs : List V) (H : Hp) (Q : VK), vs.length = (ds g).length → CallN Z.K Z.C R0 ((x, enc a) :: vs.zip (ds g)) (k a g) H Q → sp (x :: vs) H Q (E σ)) : EV Z L O (tCallO A sp E i t) σ (mb m fun g => k a g) := fun L1 H post px Q s hp hx hm kk => by
  obtain ⟨G0, F0, W0, h0⟩ := id hp
  obtain ⟨p, dx0, fs0, rfl, _⟩ := h0.ins (s _ hv) ha ho
  refine ⟨p, hi, e L1 H _ px _ s hp hx hm fun g vs H2 hl hp2 hm2 => ?_⟩
  obtain ⟨G, F, W, h2⟩ := hp2
  obtain ⟨p', dx, fs, ep, ea⟩ := h2.ins (List.mem_append_right _ (s _ hv)) ha ho
  cases ep
  have sw : ∀ z ∈ ((V.ref p, enc a) :: vs.zip (ds g)) ++ L1, z ∈ vs.zip (ds g) ++ L1 := fun z hz => by
    rcases List.mem_cons.mp hz with e | e
    · rw [e]; exact List.mem_append_right _ (s _ hv)
    · exact e
  refine ⟨⟨dx, fs, ea⟩, ?_⟩
  exact hc _ g vs H2 Q hl (call_n (ps := (.ref p, enc a) :: vs.zip (ds g)) (L1 := L1) (h2.pt.less sw) hm2 kk)
theorem EV.ownIF {c : Str} {A : Addr} {sp : Sp} {E : L2.St → XK} {to ti : TE} {mo : M α} {mi : M Int} {k : α → Int → M β} (e0 : EV Z L O to σ mo) (e1 : EV Z L O ti σ mi) (ha : Z.C c = some A) (ho : ∀ a : α, ObjIs c (enc a))
    (hc : ∀ (a : α) (i : Int) (x y : V) (H : Hp) (Q : VK), Call Z.K Z.C R0 [(x, enc a), (y, enc i)] (k a i) H Q (E σ) → sp [x, y] H Q (E σ)) : EV Z L O (tOpS (rOwnI A sp E) to ti) σ (mb mo fun a => mb mi fun i => mno (k a i)) := fun L1 H post px Q s hp hx hm kk =>
  e0 L1 H _ px _ s hp hx hm fun a x H1 hp1 hm1 => e1 _ H1 _ px _ (sub_cons s) hp1 hx hm1 fun i y H2 hp2 hm2 => by
    obtain ⟨G, F, W, h2⟩ := hp2
    obtain rfl := is_int h2.x0
    obtain ⟨p, dx, fs, rfl, ea⟩ := h2.ins (List.mem_cons_of_mem _ List.mem_cons_self) ha (ho a)
    have sw : ∀ z ∈ [(V.ref p, enc a), (V.int i, enc i)] ++ L1, z ∈ (V.int i, enc i) :: (V.ref p, enc a) :: L1 := pk (.tail _ (.head _)) (pk (.head _) fun z hz => .tail _ (.tail _ hz))
    refine ⟨p, dx, fs, i, rfl, rfl, ea, ?_⟩
    exact hc a i _ _ H2 Q (call_f (px := px) (ps := [(.ref p, enc a), (.int i, enc i)]) (L1 := L1) (h2.pt.less sw) hm2 kk)
theorem EV.ownCF {c : Str} {A : Addr} {sp : Sp} {E : L2.St → XK} {to ti : TE} {mo : M α} {mi : M δ} {k : α → δ → M β} (e0 : EV Z L O to σ mo) (e1 : EV Z L O ti σ mi) (ha : Z.C c = some A) (ho : ∀ a : α, ObjIs c (enc a)) (ho2 : ∀ a : δ, ObjIs c (enc a))
    (hc : ∀ (a : α) (b : δ) (x y : V) (H : Hp) (Q : VK), Call Z.K Z.C R0 [(x, enc a), (y, enc b)] (k a b) H Q (E σ) → sp [x, y] H Q (E σ)) : EV Z L O (tOpS (rOwnC A sp E) to ti) σ (mb mo fun a => mb mi fun b => mno (k a b)) := fun L1 H post px Q s hp hx hm kk =>
  e0 L1 H _ px _ s hp hx hm fun a x H1 hp1 hm1 => e1 _ H1 _ px _ (sub_cons s) hp1 hx hm1 fun b y H2 hp2 hm2 => by
    obtain ⟨G, F, W, h2⟩ := hp2
    obtain ⟨q, dy, gs, rfl, eb⟩ := h2.ins List.mem_cons_self ha (ho2 b)
    obtain ⟨p, dx, fs, rfl, ea⟩ := h2.ins (List.mem_cons_of_mem _ List.mem_cons_self) ha (ho a)
    have sw : ∀ z ∈ [(V.ref p, enc a), (V.ref q, enc b)] ++ L1, z ∈ (V.ref q, enc b) :: (V.ref p, enc a) :: L1 := pk (.tail _ (.head _)) (pk (.head _) fun z hz => .tail _ (.tail _ hz))
    refine ⟨p, dx, fs, q, dy, gs, rfl, rfl, ea, eb, ?_⟩
    exact hc a b _ _ H2 Q (call_f (px := px) (ps := [(.ref p, enc a), (.ref q, enc b)]) (L1 := L1) (h2.pt.less sw) hm2 kk)
theorem EV.callOF {c : Str} {A : Addr} {sp : Sp} {E : L2.St → XK} {i : Nat} {v : V} {a : α} {t : TA} {m : M γ} {ds : γ → List D} {k : α → γ → M β} (hi : σ[i]? = some (some v)) (hv : (v, enc a) ∈ L) (e : EA Z L O t σ m ds) (ha : Z.C c = some A) (ho : ObjIs c (enc a))
    (hc : ∀ (x : V) (g : γ) (vs : List V) (H : Hp) (Q : VK), vs.length = (ds g).length → Call Z.K Z.C R0 ((x, enc a) :: vs.zip (ds g)) (k a g) H Q (E σ) → sp (x :: vs) H Q (E σ)) : EV Z L O (tCallO A sp E i t) σ (mb m fun g => mno (k a g)) := fun L1 H post px Q s hp hx hm kk => by
  obtain ⟨G0, F0, W0, h0⟩ := id hp
  obtain ⟨p, dx0, fs0, rfl, _⟩ := h0.ins (s _ hv) ha ho
  refine ⟨p, hi, e L1 H _ px _ s hp hx hm fun g vs H2 hl hp2 hm2 => ?_⟩
  obtain ⟨G, F, W, h2⟩ := hp2
  obtain ⟨p', dx, fs, ep, ea⟩ := h2.ins (List.mem_append_right _ (s _ hv)) ha ho
  cases ep
  have sw : ∀ z ∈ ((V.ref p, enc a) :: vs.zip (ds g)) ++ L1, z ∈ vs.zip (ds g) ++ L1 := fun z hz => by
    rcases List.mem_cons.mp hz with e | e
    · rw [e]; exact List.mem_append_right _ (s _ hv)
    · exact e
  refine ⟨⟨dx, fs, ea⟩, ?_⟩
  exact hc _ g vs H2 Q hl (call_f (px := px) (ps := (.ref p, enc a) :: vs.zip (ds g)) (L1 := L1) (h2.pt.less sw) hm2 kk)
theorem EV.ownIX {c : Str} {A : Addr} {sp : Sp} {E : L2.St → XK} {to ti : TE} {mo : M α} {mi : M Int} {k : α → Int → M β} (hE : E σ = Z.E) (e0 : EV Z L O to σ mo) (e1 : EV Z L O ti σ mi) (ha : Z.C c = some A) (ho : ∀ a : α, ObjIs c (enc a))
    (hc : ∀ (a : α) (i : Int) (x y : V) (H : Hp) (Q : VK), Call Z.K Z.C R0 [(x, enc a), (y, enc i)] (k a i) H Q Z.E → sp [x, y] H Q Z.E) : EV Z L O (tOpS (rOwnI A sp E) to ti) σ (mb mo fun a => mb mi fun i => k a i) := fun L1 H post px Q s hp hx hm kk =>
  e0 L1 H _ px _ s hp hx hm fun a x H1 hp1 hm1 => e1 _ H1 _ px _ (sub_cons s) hp1 hx hm1 fun i y H2 hp2 hm2 => by
    obtain ⟨G, F, W, h2⟩ := hp2
    obtain rfl := is_int h2.x0
    obtain ⟨p, dx, fs, rfl, ea⟩ := h2.ins (List.mem_cons_of_mem _ List.mem_cons_self) ha (ho a)
    have sw : ∀ z ∈ [(V.ref p, enc a), (V.int i, enc i)] ++ L1, z ∈ (V.int i, enc i) :: (V.ref p, enc a) :: L1 := pk (.tail _ (.head _)) (pk (.head _) fun z hz => .tail _ (.tail _ hz))
    refine ⟨p, dx, fs, i, rfl, rfl, ea, ?_⟩
    rw [hE]; exact hc a i _ _ H2 Q (call_x (ps := [(.ref p, enc a), (.int i, enc i)]) (L1 := L1) (h2.pt.less sw) hx hm2 kk)
theorem EV.ownCX {c : Str} {A : Addr} {sp : Sp} {E : L2.St → XK} {to ti : TE} {mo : M α} {mi : M δ} {k : α → δ → M β} (hE : E σ = Z.E) (e0 : EV Z L O to σ mo) (e1 : EV Z L O ti σ mi) (ha : Z.C c = some A) (ho : ∀ a : α, ObjIs c (enc a)) (ho2 : ∀ a : δ, ObjIs c (enc a))
    (hc : ∀ (a : α) (b : δ) (x y : V) (H : Hp) (Q : VK), Call Z.K Z.C R0 [(x, enc a), (y, enc b)] (k a b) H Q Z.E → sp [x, y] H Q Z.E) : EV Z L O (tOpS (rOwnC A sp E) to ti) σ (mb mo fun a => mb mi fun b => k a b) := fun L1 H post px Q s hp hx hm kk =>
  e0 L1 H _ px _ s hp hx hm fun a x H1 hp1 hm1 => e1 _ H1 _ px _ (sub_cons s) hp1 hx hm1 fun b y H2 hp2 hm2 => by
    obtain ⟨G, F, W, h2⟩ := hp2
    obtain ⟨q, dy, gs, rfl, eb⟩ := h2.ins List.mem_cons_self ha (ho2 b)
    obtain ⟨p, dx, fs, rfl, ea⟩ := h2.ins (List.mem_cons_of_mem _ List.mem_cons_self) ha (ho a)
    have sw : ∀ z ∈ [(V.ref p, enc a), (V.ref q, enc b)] ++ L1, z ∈ (V.ref q, enc b) :: (V.ref p, enc a) :: L1 := pk (.tail _ (.head _)) (pk (.head _) fun z hz => .tail _ (.tail _ hz))
    refine ⟨p, dx, fs, q, dy, gs, rfl, rfl, ea, eb, ?_⟩
    rw [hE]; exact hc a b _ _ H2 Q (call_x (ps := [(.ref p, enc a), (.ref q, enc b)]) (L1 := L1) (h2.pt.less sw) hx hm2 kk)
theorem EV.callOX {c : Str} {A : Addr} {sp : Sp} {E : L2.St → XK} {i : Nat} {v : V} {a : α} {t : TA} {m : M γ} {ds : γ → List D} {k : α → γ → M β} (hE : E σ = Z.E) (hi : σ[i]? = some (some v)) (hv : (v, enc a) ∈ L) (e : EA Z L O t σ m ds) (ha : Z.C c = some A) (ho : ObjIs c (enc a))
    (hc : ∀ (x : V) (g : γ) (vs : List V) (H : Hp) (Q : VK), vs.length = (ds g).length → Call Z.K Z.C R0 ((x, enc a) :: vs.zip (ds g)) (k a g) H Q Z.E → sp (x :: vs) H Q Z.E) : EV Z L O (tCallO A sp E i t) σ (mb m fun g => k a g) := fun L1 H post px Q s hp hx hm kk => by
  obtain ⟨G0, F0, W0, h0⟩ := id hp
  obtain ⟨p, dx0, fs0, rfl, _⟩ := h0.ins (s _ hv) ha ho
  refine ⟨p, hi, e L1 H _ px _ s hp hx hm fun g vs H2 hl hp2 hm2 => ?_⟩
  obtain ⟨G, F, W, h2⟩ := hp2
  obtain ⟨p', dx, fs, ep, ea⟩ := h2.ins (List.mem_append_right _ (s _ hv)) ha ho
  cases ep
  have sw : ∀ z ∈ ((V.ref p, enc a) :: vs.zip (ds g)) ++ L1, z ∈ vs.zip (ds g) ++ L1 := fun z hz => by
    rcases List.mem_cons.mp hz with e | e
    · rw [e]; exact List.mem_append_right _ (s _ hv)
    · exact e
  refine ⟨⟨dx, fs, ea⟩, ?_⟩
  rw [hE]; exact hc _ g vs H2 Q hl (call_x (ps := (.ref p, enc a) :: vs.zip (ds g)) (L1 := L1) (h2.pt.less sw) hx hm2 kk)
/-- x in o -/
theorem EV.ownIn {c : Str} {A : Addr} {sp : Sp} {E : L2.St → XK} {to ti : TE} {mo : M α} {mi : M δ} {k : α → δ → M Bool} (e1 : EV Z L O ti σ mi) (e0 : EV Z L O to σ mo) (ha : Z.C c = some A) (ho : ∀ a : α, ObjIs c (enc a))
    (hc : ∀ (a : α) (b : δ) (x y : V) (H : Hp) (Q : VK), CallN Z.K Z.C R0 [(x, enc a), (y, enc b)] (k a b) H Q → sp [x, y] H Q (E σ)) : EV Z L O (tOpS (rOwnIn A sp E) ti to) σ (mb mi fun b => mb mo fun a => k a b) := fun L1 H post px Q s hp hx hm kk =>
  e1 L1 H _ px _ s hp hx hm fun b y H1 hp1 hm1 => e0 _ H1 _ px _ (sub_cons s) hp1 hx hm1 fun a x H2 hp2 hm2 => by
    obtain ⟨G, F, W, h2⟩ := hp2
    obtain ⟨p, dx, fs, rfl, ea⟩ := h2.ins List.mem_cons_self ha (ho a)
    refine ⟨p, dx, fs, rfl, ea, hc a b _ _ H2 _ (call_n (ps := [(.ref p, enc a), (y, enc b)]) (L1 := L1) (h2.pt.less (pk (.head _) (pk (.tail _ (.head _)) fun z hz => .tail _ (.tail _ hz)))) hm2 fun r v H' hp' hr => ?_)⟩
    obtain rfl := is_bl hp'.hd
    exact ⟨r, rfl, kk r _ H' hp' hr⟩
/-! ### == of data -/
mutual
def toPy : D → PyData
  | .non => .none | .bl b => .bool b | .int i => .int i | .str x => .str x | .lst ds => .list (toPys ds) | .tup ds => .tuple (toPys ds)
  | .dic _ _ => .none | .obj _ _ _ => .none | .xd _ _ => .none
def toPys : List D → List PyData
  | [] => []
  | d :: ds => toPy d :: toPys ds
end
mutual
/-- no dict, no object in it -/
def datD : D → Bool
  | .lst ds => datDs ds | .tup ds => datDs ds | .dic _ _ => false | .obj _ _ _ => false | .xd _ _ => false
  | _ => true
def datDs : List D → Bool
  | [] => true
  | d :: ds => datD d && datDs ds
end
mutual
theorem dp_of {K : PySem.W.Frag} {C : CT} {G H : Hp} (s : Sub G H) : ∀ {d : D} {v : V}, datD d = true → Is K C G v d → Dp K H v (toPy d)
  | .non, _, _, .non => .non
  | .bl b, _, _, .bl _ => .bl b
  | .int b, _, _, .int _ => .int b
  | .str b, _, _, .str _ => .str b
  | .lst ds, _, hd, .lst h l t => .lst (.inl (.inl (s _ _ h))) (dps_of s (by simpa [datD] using hd) t)
  | .tup ds, _, hd, .tup h l t => .tup (sqT_mono s h) (dps_of s (by simpa [datD] using hd) t)
  | .dic _ _, _, hd, _ => by simp [datD] at hd
  | .obj _ _ _, _, hd, _ => by simp [datD] at hd
  | .xd _ _, _, hd, _ => by simp [datD] at hd
theorem dps_of {K : PySem.W.Frag} {C : CT} {G H : Hp} (s : Sub G H) : ∀ {ds : List D} {vs : List V}, datDs ds = true → IsL K C G vs ds → DpAll K H vs (toPys ds)
  | [], _, _, .nil => .nil
  | d :: ds, _, hd, .cons h t => by
    have hd : datD d = true ∧ datDs ds = true := by simpa [datDs] using hd
    exact .cons (dp_of s hd.1 h) (dps_of s hd.2 t)
end
def meqD (x y : D) : M Bool := mreq (datD x = true ∧ datD y = true ∧ SeqAt.shaped (toPy x) = true ∧ SeqAt.shaped (toPy y) = true) (mr (PyData.eqv (toPy x) (toPy y)))
def mneD (x y : D) : M Bool := mreq (datD x = true ∧ datD y = true ∧ SeqAt.shaped (toPy x) = true ∧ SeqAt.shaped (toPy y) = true) (mr (!PyData.eqv (toPy x) (toPy y)))
theorem ok_eqD : Ok2 Z (Cf.rEqq Z.K) (fun (a : α) (b : β) => meqD (enc a) (enc b)) := fun L O H a b x y post px Q hp hx hm k => by
  obtain ⟨G, F, W, h⟩ := hp
  obtain ⟨⟨h1, h2, h3, h4⟩, hm⟩ := hm
  exact .inr ⟨_, _, dp_of h.g h1 h.x1, dp_of h.g h2 h.x0, h3, h4, k _ _ H (h.t2.add (.bl _)) hm⟩
theorem ok_neD : Ok2 Z (Cf.rNeq Z.K) (fun (a : α) (b : β) => mneD (enc a) (enc b)) := fun L O H a b x y post px Q hp hx hm k => by
  obtain ⟨G, F, W, h⟩ := hp
  obtain ⟨⟨h1, h2, h3, h4⟩, hm⟩ := hm
  exact .inr ⟨_, _, dp_of h.g h1 h.x1, dp_of h.g h2 h.x0, h3, h4, k _ _ H (h.t2.add (.bl _)) hm⟩
theorem EV.eqDP {ta tb : TE} {a : α} {b : β} (e1 : EV Z L O ta σ (mr a)) (e2 : EV Z L O tb σ (mr b)) : EV Z L O (tOp (Cf.rEqq Z.K) ta tb) σ (meqD (enc a) (enc b)) := EV.op2P (f := fun (a : α) (b : β) => meqD (enc a) (enc b)) ok_eqD e1 e2
theorem EV.eqD {ta tb : TE} {m1 : M α} {m2 : M β} (e1 : EV Z L O ta σ m1) (e2 : EV Z L O tb σ m2) : EV Z L O (tOp (Cf.rEqq Z.K) ta tb) σ (mb m1 fun a => mb m2 fun b => meqD (enc a) (enc b)) := EV.op2 (f := fun (a : α) (b : β) => meqD (enc a) (enc b)) ok_eqD e1 e2
theorem EV.neDP {ta tb : TE} {a : α} {b : β} (e1 : EV Z L O ta σ (mr a)) (e2 : EV Z L O tb σ (mr b)) : EV Z L O (tOp (Cf.rNeq Z.K) ta tb) σ (mneD (enc a) (enc b)) := EV.op2P (f := fun (a : α) (b : β) => mneD (enc a) (enc b)) ok_neD e1 e2
theorem EV.neD {ta tb : TE} {m1 : M α} {m2 : M β} (e1 : EV Z L O ta σ m1) (e2 : EV Z L O tb σ m2) : EV Z L O (tOp (Cf.rNeq Z.K) ta tb) σ (mb m1 fun a => mb m2 fun b => mneD (enc a) (enc b)) := EV.op2 (f := fun (a : α) (b : β) => mneD (enc a) (enc b)) ok_neD e1 e2
/-! ### data of open kind -/
def mint : D → M Int
  | .int i => mr i
  | _ => mstuck
def mstr : D → M Str
  | .str i => mr i
  | _ => mstuck
def mbl : D → M Bool
  | .bl i => mr i
  | _ => mstuck
theorem EV.asI {t : TE} {m : M D} (e : EV Z L O t σ m) : EV Z L O t σ (mb m mint) := fun L1 H post px Q s hp hx hm k => e L1 H _ px Q s hp hx hm fun d v H' hp' hb => by
  cases d <;> first | exact hb.elim | exact k _ v H' hp' hb
theorem EV.asIP {t : TE} {d : D} (e : EV Z L O t σ (mr d)) : EV Z L O t σ (mint d) := EV.asI e
theorem EV.asS {t : TE} {m : M D} (e : EV Z L O t σ m) : EV Z L O t σ (mb m mstr) := fun L1 H post px Q s hp hx hm k => e L1 H _ px Q s hp hx hm fun d v H' hp' hb => by
  cases d <;> first | exact hb.elim | exact k _ v H' hp' hb
theorem EV.asSP {t : TE} {d : D} (e : EV Z L O t σ (mr d)) : EV Z L O t σ (mstr d) := EV.asS e
theorem EV.asB {t : TE} {m : M D} (e : EV Z L O t σ m) : EV Z L O t σ (mb m mbl) := fun L1 H post px Q s hp hx hm k => e L1 H _ px Q s hp hx hm fun d v H' hp' hb => by
  cases d <;> first | exact hb.elim | exact k _ v H' hp' hb
theorem EV.asBP {t : TE} {d : D} (e : EV Z L O t σ (mr d)) : EV Z L O t σ (mbl d) := EV.asB e
def mlenD : D → M Int
  | .lst ds => mr (ds.length : Int)
  | .tup ds => mr (ds.length : Int)
  | .str z => mlenS z
  | _ => mstuck
theorem ok_lenD : OkB Z (Cf.rLen Z.K) mlenD := fun L O H a x post px Q hp hx hm k => by
  cases a with
  | lst ds =>
    obtain ⟨G, F, W, h⟩ := hp
    obtain ⟨p, xs, rfl, e, l, t⟩ := is_lst h.x0
    refine .inl ⟨p, xs, rfl, .inl (.inl (.inl (h.g _ _ e))), ?_⟩
    rw [t.len]
    exact k _ _ H (h.t1.add (.int _)) hm
  | tup ds =>
    obtain ⟨G, F, W, h⟩ := hp
    obtain ⟨p, xs, rfl, e, l, t⟩ := is_tup h.x0
    refine .inl ⟨p, xs, rfl, .inr (sqT_mono h.g e), ?_⟩
    rw [t.len]
    exact k _ _ H (h.t1.add (.int _)) hm
  | str z => exact ok_lenS L O H z x post px Q hp hx hm k
  | _ => exact hm.elim
theorem EV.lenDP {ta : TE} {a : D} (e1 : EV Z L O ta σ (mr a)) : EV Z L O (tCB (Cf.rLen Z.K) (tCons ta tNil)) σ (mlenD a) := EV.cb1P (f := mlenD) ok_lenD e1
theorem EV.lenD {ta : TE} {m1 : M D} (e1 : EV Z L O ta σ m1) : EV Z L O (tCB (Cf.rLen Z.K) (tCons ta tNil)) σ (mb m1 mlenD) := EV.cb1 (f := mlenD) ok_lenD e1
def mixD (d : D) (i : Int) : M D := match d with
  | .lst ds => mix ds i
  | .tup ds => mix ds i
  | _ => mstuck
theorem ok_ixD : Ok2 Z (Cf.rIxx Z.K) mixD := fun L O H a b x y post px Q hp hx hm k => by
  obtain ⟨G, F, W, h⟩ := hp
  obtain rfl := is_int h.x0
  cases a with
  | lst ds =>
    obtain ⟨p, xs, rfl, e, l, t⟩ := is_lst h.x1
    have hm : mix ds b post px := hm
    unfold mix at hm
    cases q : atI ds b with
    | none => rw [q] at hm; exact hm.elim
    | some c =>
      rw [q] at hm
      obtain ⟨v, e1, e2⟩ := atI_isL t q
      exact .inl (.inl ⟨p, xs, b, v, rfl, rfl, .inl (.inl (h.g _ _ e)), e1, k c v H (h.t2.add e2) hm⟩)
  | tup ds =>
    obtain ⟨p, xs, rfl, e, l, t⟩ := is_tup h.x1
    have hm : mix ds b post px := hm
    unfold mix at hm
    cases q : atI ds b with
    | none => rw [q] at hm; exact hm.elim
    | some c =>
      rw [q] at hm
      obtain ⟨v, e1, e2⟩ := atI_isL t q
      exact .inl (.inr (.inl ⟨p, xs, b, v, rfl, rfl, sqT_mono h.g e, e1, k c v H (h.t2.add e2) hm⟩))
  | _ => exact hm.elim
theorem EV.ixDP {ta tb : TE} {a : D} {b : Int} (e1 : EV Z L O ta σ (mr a)) (e2 : EV Z L O tb σ (mr b)) : EV Z L O (tOp (Cf.rIxx Z.K) ta tb) σ (mixD a b) := EV.op2P (f := mixD) ok_ixD e1 e2
theorem EV.ixD {ta tb : TE} {m1 : M D} {m2 : M Int} (e1 : EV Z L O ta σ m1) (e2 : EV Z L O tb σ m2) : EV Z L O (tOp (Cf.rIxx Z.K) ta tb) σ (mb m1 fun a => mb m2 fun b => mixD a b) := EV.op2 (f := mixD) ok_ixD e1 e2
def misD (b : Cf.Kd) (d : D) : M Bool := mreq (NoObj d) (mr (isD b d))
theorem EV.isiD {ta : TE} {m : M D} (b : Cf.Kd) (e : EV Z L O ta σ m) : EV Z L O (tCB (rIsi Z.K) (tCons ta (tCons (tC (.ty b.name)) tNil))) σ (mb m fun a => misD b a) := fun L1 H post px Q s hp hx hm k =>
  e L1 H _ px _ s hp hx hm fun a v H1 hp1 hm1 => by
    obtain ⟨G, F, W, h⟩ := hp1
    obtain ⟨n, hm1⟩ := hm1
    obtain ⟨kd, e1, e2⟩ := kd_ty h.g h.x0 (show NoObj (enc a) from n)
    refine ⟨v, .ty b.name, _, _, _, rfl, .ty _, e2, kit_ty (Cf.kit_isk kd b), ?_⟩
    have e3 : isD b a = Cf.isk kd b := by unfold isD; rw [show kdD a = some kd from e1]
    rw [← e3]
    exact k _ _ H1 (h.t1.add (.bl _)) hm1
theorem EV.isiDP {ta : TE} {d : D} (b : Cf.Kd) (e : EV Z L O ta σ (mr d)) : EV Z L O (tCB (rIsi Z.K) (tCons ta (tCons (tC (.ty b.name)) tNil))) σ (misD b d) := EV.isiD b e
def isNonD : D → Bool
  | .non => true
  | _ => false
theorem isNonD_iff (d : D) : d = .non ↔ isNonD d = true := by cases d <;> simp [isNonD]
theorem EV.isNDP {ta tb : TE} {a : D} {b : Unit} (e1 : EV Z L O ta σ (mr a)) (e2 : EV Z L O tb σ (mr b)) : EV Z L O (tOp Cf.rIsN ta tb) σ (mr (isNonD a)) := EV.op2P (f := fun (a : D) (_ : Unit) => mr (isNonD a)) (fun L O H a b x y post px Q hp hx hm k => by
  have h2 := hp.hd
  cases h2
  refine ⟨rfl, ?_⟩
  rw [dec_non hp.hd2 (isNonD_iff a)]
  exact k _ _ H (hp.tail.tail.add fun G _ => .bl _) hm) e1 e2
/-- a text in a text: a sign among signs -/
def minSS (a b : Str) : M Bool := mr (!(Builtin.Str.occurrences b a 0 b.length 1).isEmpty)
theorem EV.ninSSP {ta tb : TE} {a b : Str} (e1 : EV Z L O ta σ (mr a)) (e2 : EV Z L O tb σ (mr b)) : EV Z L O (tOp (fun x y H Q => ∃ i j, x = .str i ∧ y = .str j ∧ Q (.bl (!(!(Builtin.Str.occurrences j i 0 j.length 1).isEmpty))) H) ta tb) σ (mr (!(!(Builtin.Str.occurrences b a 0 b.length 1).isEmpty))) := EV.op2P (f := fun (a b : Str) => mr (!(!(Builtin.Str.occurrences b a 0 b.length 1).isEmpty))) (fun L O H a b x y post px Q hp hx hm k => by
  obtain rfl := is_str hp.hd
  obtain rfl := is_str hp.hd2
  exact ⟨a, b, rfl, rfl, k _ _ H (hp.tail.tail.add fun G _ => .bl _) hm⟩) e1 e2
/-! ### errors caught -/
def mtryN {τ ρ : Type} (known : List Str) (m : M τ) (h : Exn → M ρ) (k : τ → M ρ) : M ρ := fun post px => m (fun a => k a post px) (fun e => e.cls ∈ known ∧ h e post px)
theorem PtS.back {L' : List (V × D)} {H H' G F W : Hp} {E : XK} (h : PtS Z L O H G F W) (q : Pt ⟨Z.K, Z.C, Z.R, G, F, E⟩ L' [] H') : Pt Z (L' ++ L) O H' := by
  obtain ⟨G', F', W', h'⟩ := q
  refine ⟨G', F', W', ⟨h.g0.trans h'.g0, h.f0.trans h'.f0, h'.g, h'.f, h'.w, h'.gf, h'.gw, h'.fw, h'.r, fun x hx => ?_, fun x hx => ?_, h.nd⟩⟩
  · rcases List.mem_append.mp hx with e | e
    · exact h'.l _ e
    · exact (h.l x e).mono h'.g0
  · obtain ⟨ho, e1, e2, e3⟩ := h.o x hx
    exact ⟨ho, h'.f0 _ _ e1, e2, e3.mono h'.g0⟩
section
variable {nx : L2.St → Hp → Prop} {rt : VK} {bk ct : L2.St → Hp → Prop} {H : Hp} {px : Exn → Prop} {ρ : Type} {post : ρ → Prop}
theorem s_try {ι τ : Type} {tb : WX → TS} {ts : Addr → Value → Option Addr → TS} {i : Nat} {cv : Value} {Wout : WX} {known : List Str} {m : M τ} {h : Exn → M ρ} {k : τ → M ρ} (S : ι → τ → L2.St) (Lf : ι → τ → List (V × D)) (hp : Pt Z L O H) (hm : mtryN known m h k post px)
    (hcl : ∀ c ∈ known, ∀ A, Z.C c = some A → PySem.W.exmOne Z.K (.ref A) cv = some true)
    (body : ∀ (nx' : L2.St → Hp → Prop) (G F : Hp) (px' : Exn → Prop), (∀ r c H', Pt ⟨Z.K, Z.C, Z.R, G, F, fun c d H' => wAs Z.K cv i ts Wout ⟨nx', rt, bk, ct⟩ c d σ H'⟩ (Lf r c) [] H' → k c post px → nx' (S r c) H') →
      (∀ x H', Pt ⟨Z.K, Z.C, Z.R, G, F, fun c d H' => wAs Z.K cv i ts Wout ⟨nx', rt, bk, ct⟩ c d σ H'⟩ [x] [] H' → Pt Z [x] [] H') →
      Pt ⟨Z.K, Z.C, Z.R, G, F, fun c d H' => wAs Z.K cv i ts Wout ⟨nx', rt, bk, ct⟩ c d σ H'⟩ L [] H → HX ⟨Z.K, Z.C, Z.R, G, F, fun c d H' => wAs Z.K cv i ts Wout ⟨nx', rt, bk, ct⟩ c d σ H'⟩ px' → m (fun a => k a post px) px' → tb (wAs Z.K cv i ts Wout ⟨nx', rt, bk, ct⟩) ⟨nx', rt, bk, ct⟩ σ H)
    (suite : ∀ (nx' : L2.St → Hp → Prop), (∀ r c H', Pt Z (Lf r c) O H' → k c post px → nx' (S r c) H') → ∀ (e : Exn) (a A dd : Addr) (H' : Hp), e.cls ∈ known → Z.C e.cls = some A → Fresh H' a → Pt Z ((.ref dd, .xd e.ns e.ds) :: L) O H' → h e post px →
      ts a (.ref A) (some dd) ⟨fun σ' H' => nx' (σ'.set i none) H', rt, fun σ' H' => bk (σ'.set i none) H', fun σ' H' => ct (σ'.set i none) H'⟩ (σ.set i (some (.ref a))) H')
    (j : ∀ r c H', Pt Z (Lf r c) O H' → k c post px → nx (S r c) H') : (fun (D : Ends) (σ : L2.St) (H : Hp) => tb (wAs Z.K cv i ts Wout D) D σ H) ⟨nx, rt, bk, ct⟩ σ H := by
  obtain ⟨G, F, W, h0⟩ := hp
  refine body nx G F (fun e => e.cls ∈ known ∧ h e post px) (fun r c H' q hk => j r c H' ((h0.back q).less fun x hx => List.mem_append_left _ hx) hk) (fun x H' q => ((h0.back q).less fun y hy => List.mem_append_left _ hy).lessO (List.nil_sublist _)) ⟨G, F, W, { h0 with g0 := .refl _, f0 := .refl _, o := (fun x hx => by cases hx), nd := List.nodup_nil }⟩ ?_ hm
  rintro e c d H' ⟨G', F', W', q, A, dd, fs, rfl, hA, rfl, hdd, hns, hds⟩ ⟨hk, hh⟩
  refine ⟨true, hcl e.cls hk A hA, fun _ a fa => ?_, fun z => by cases z⟩
  refine suite nx j e a A dd H' hk hA fa ?_ hh
  have z : Is Z.K Z.C G' (.ref dd) (.xd e.ns e.ds) := by rw [← hns]; exact .xd hdd hds
  exact (h0.back (L' := [(.ref dd, .xd e.ns e.ds)]) (PtS.add q z))
def mexf (ns : List Str) (ds : List D) (f : Str) : M D := match (ns.zip ds).lookup f with
  | some d => mr d
  | none => mstuck
end
theorem is_xd {K : PySem.W.Frag} {C : CT} {G : Hp} {a : Addr} {ns : List Str} {ds : List D} (h : Is K C G (.ref a) (.xd ns ds)) : ∃ fs, G a = some (.xd fs) ∧ fs.map (·.1) = ns ∧ IsL K C G (fs.map (·.2)) ds := by
  cases h with
  | xd h t => exact ⟨_, h, rfl, t⟩
theorem EV.fldE {i : Nat} {a A dd : Addr} {ns : List Str} {ds : List D} {fld : Str} (hi : σ[i]? = some (some (.ref a))) (ex : ExcF Z.K A fld) (hm : (V.ref dd, D.xd ns ds) ∈ L) : EV Z L O (tFldE Z.K fld a (.ref A) (some dd) (tVar i)) σ (mexf ns ds fld) := fun L1 H post px Q s hp hx hq k => by
  obtain ⟨G, F, W, h⟩ := hp
  obtain ⟨fs, e1, e2, t⟩ := is_xd (h.l _ (s _ hm))
  have hq : mexf ns ds fld post px := hq
  unfold mexf at hq
  cases q : (ns.zip ds).lookup fld with
  | none => rw [q] at hq; exact hq.elim
  | some d =>
    rw [q] at hq
    obtain ⟨v, q1, q2⟩ := lookup_isL e2 t q
    exact ⟨_, hi, rfl, A, dd, fs, v, rfl, ex, rfl, h.g _ _ e1, q1, k d v H (h.add q2) hq⟩
theorem EV.isE {i : Nat} {a A dd : Addr} {ns : List Str} {ds : List D} {c : V} {cv : Value} {b : Bool} (hi : σ[i]? = some (some (.ref a))) (xc : ExcC Z.K A) (hm : (V.ref dd, D.xd ns ds) ∈ L) (hc : ∀ u, RelV c u → u = cv) (kt : PySem.W.kitOne Z.K (.ref A) cv = some b) : EV Z L O (tCB (rIsD Z.K a (.ref A) (some dd)) (tCons (tVar i) (tCons (tC c) tNil))) σ (mr b) := fun L1 H post px Q s hp hx hq k => by
  obtain ⟨G, F, W, h⟩ := hp
  obtain ⟨fs, e1, e2, t⟩ := is_xd (h.l _ (s _ hm))
  exact ⟨_, hi, Cf.kr_isD xc (h.g _ _ e1) hc kt (k b _ H (h.add (.bl _)) hq)⟩
end
end Mi

/-! the laws' own equality -/
namespace Mi
open Enc (enc)
open PySem L2 PySem.Spec PyProof.Rows
open Cf (Fresh Keep)
theorem keep_sub {H H' : Hp} (k : Keep [] H H') : Sub H H' := fun b o e => k b o (by simp) e
mutual
def D.depth : D → Nat
  | .lst ds => D.depths ds + 1
  | .tup ds => D.depths ds + 1
  | .dic _ ds => D.depths ds + 2
  | _ => 0
def D.depths : List D → Nat
  | [] => 0
  | d :: ds => max d.depth (D.depths ds)
end
theorem depth_mem : ∀ {ds : List D} {d : D}, d ∈ ds → d.depth ≤ D.depths ds
  | e :: r, d, h => by
    unfold D.depths
    rcases List.mem_cons.mp h with h | h
    · subst h; omega
    · have := depth_mem h; omega
mutual
/-- no object in it -/
def plainD : D → Bool
  | .lst ds => plainDs ds | .tup ds => plainDs ds | .dic _ ds => decide (ds.length ≤ 900) && plainDs ds | .obj _ _ _ => false | .xd _ _ => false
  | _ => true
def plainDs : List D → Bool
  | [] => true
  | d :: ds => plainD d && plainDs ds
end
theorem plain_mem : ∀ {ds : List D} {d : D}, plainDs ds = true → d ∈ ds → plainD d = true
  | e :: r, d, p, h => by
    have p : plainD e = true ∧ plainDs r = true := by simpa [plainDs] using p
    rcases List.mem_cons.mp h with h | h
    · rw [h]; exact p.1
    · exact plain_mem p.2 h
noncomputable def dsame (x y : D) : Bool := @decide (x = y) (Classical.propDecidable _)
theorem dsame_iff {x y : D} : dsame x y = true ↔ x = y := by unfold dsame; simp
theorem dsame_self (x : D) : dsame x x = true := dsame_iff.mpr rfl
noncomputable def msameN (n : Nat) (x y : D) : M Bool := mreq (plainD x = true ∧ plainD y = true ∧ x.depth < n) (mr (dsame x y))
noncomputable abbrev msame (x y : D) : M Bool := msameN 8 x y
/-- .. by hand -/
def spSameG (K : PySem.W.Frag) (C : CT) (n : Nat) : Sp := fun vs H Q _ => ∃ (x y : V) (d e : D), vs = [x, y] ∧ Is K C H x d ∧ Is K C H y e ∧ plainD d = true ∧ plainD e = true ∧ d.depth < n ∧ ∀ (b : Bool) H', (b = true ↔ d = e) → Sub H H' → Q (.bl b) H'
def spSameM (K : PySem.W.Frag) (C : CT) (n : Nat) : Sp := fun vs H Q E => ∃ (x y : D) (v0 v1 : V), vs = [v0, v1] ∧ CallN K C R0 [(v0, enc x), (v1, enc y)] (msameN n x y) H Q
theorem same_ok {K : PySem.W.Frag} {C : CT} {P : Program} {w : World} {mg : Str → Option Value} {base : Heap} {n m : Nat} {f : Addr} {fd : FuncData} {ps : List Str} (F : FnOk P w K mg base CX0 m f fd ps (spSameG K C n)) : FnOk P w K mg base CX0 m f fd ps (spSameM K C n) := F.imp fun vs H Q E h => by
  obtain ⟨x, y, v0, v1, rfl, G0, F0, post, px, hp, ⟨⟨h1, h2, h3⟩, hm⟩, k⟩ := h
  refine ⟨v0, v1, x, y, rfl, hp.is (.head _), hp.is (.tail _ (.head _)), h1, h2, h3, fun b H' hb s => ?_⟩
  have e : b = dsame x y := by rw [Bool.eq_iff_iff, hb, dsame_iff]
  subst e
  obtain ⟨G, F, W, h⟩ := hp
  exact k _ _ H' ⟨G, F, W, ⟨h.g0, h.f0, h.g.trans s, h.f.trans s, h.w.trans s, h.gf, h.gw, h.fw, h.r, (fun z hz => by rcases List.mem_cons.mp hz with e | e; (· rw [e]; exact .bl _); (· cases e)), (fun z hz => by cases hz), List.nodup_nil⟩⟩ hm
theorem use_sameG {K : PySem.W.Frag} {C : CT} {n : Nat} {H : Hp} {x y : V} {d e : D} {Q : VK} {E : XK} (h1 : Is K C H x d) (h2 : Is K C H y e) (p1 : plainD d = true) (p2 : plainD e = true) (h3 : d.depth < n) (k : ∀ (b : Bool) H', (b = true ↔ d = e) → Sub H H' → Q (.bl b) H') : spSameG K C n ([x, y] ++ []) H Q E :=
  ⟨x, y, d, e, rfl, h1, h2, p1, p2, h3, k⟩
theorem sameG_none {P : Program} {w : World} {K : PySem.W.Frag} {C : CT} {mg : Str → Option Value} {base : Heap} {f : Addr} {fd : FuncData} : FnOk P w K mg base CX0 0 f fd ["here", "there"] (spSameG K C 0) := by
  have no : ∀ vs H Q E, ¬ spSameG K C 0 vs H Q E := fun vs H Q E h => by
    obtain ⟨_, _, _, _, _, _, _, _, _, h, _⟩ := h
    omega
  exact ⟨fun vs H Q E h => absurd h (no vs H Q E), fun A outer s H args us vs Q E _ _ _ _ h => absurd h (no vs H Q E)⟩
def D.key : Key → D
  | .inl i => .int i
  | .inr s => .str s
section
variable {K : PySem.W.Frag} {C : CT} {H : Hp}
theorem is_key : ∀ k : Key, Is K C H (kV k) (D.key k)
  | .inl i => .int i
  | .inr s => .str s
theorem is_keys : ∀ kvs : List (Key × V), IsL K C H (kvs.map fun kv => kV kv.1) (kvs.map fun kv => D.key kv.1)
  | [] => .nil
  | kv :: r => .cons (is_key kv.1) (is_keys r)
theorem key_inj : ∀ {a b : Key}, D.key a = D.key b → a = b
  | .inl _, .inl _, h => by cases h; rfl
  | .inr _, .inr _, h => by cases h; rfl
  | .inl _, .inr _, h => by cases h
  | .inr _, .inl _, h => by cases h
theorem keys_inj : ∀ {a b : List (Key × V)}, (a.map fun kv => D.key kv.1) = (b.map fun kv => D.key kv.1) ↔ a.map (·.1) = b.map (·.1)
  | [], [] => by simp
  | [], _ :: _ => by simp
  | _ :: _, [] => by simp
  | x :: a, y :: b => by
    simp only [List.map_cons, List.cons.injEq, keys_inj (a := a) (b := b)]
    exact ⟨fun h => ⟨key_inj h.1, h.2⟩, fun h => ⟨congrArg _ h.1, h.2⟩⟩
theorem keys_depth : ∀ kvs : List (Key × V), D.depths (kvs.map fun kv => D.key kv.1) = 0
  | [] => rfl
  | (.inl _, _) :: r => by show max 0 (D.depths (r.map fun kv => D.key kv.1)) = 0; rw [keys_depth r]; rfl
  | (.inr _, _) :: r => by show max 0 (D.depths (r.map fun kv => D.key kv.1)) = 0; rw [keys_depth r]; rfl
theorem keys_plain : ∀ kvs : List (Key × V), plainDs (kvs.map fun kv => D.key kv.1) = true
  | [] => rfl
  | (.inl _, _) :: r => by show (true && plainDs (r.map fun kv => D.key kv.1)) = true; rw [keys_plain r]; rfl
  | (.inr _, _) :: r => by show (true && plainDs (r.map fun kv => D.key kv.1)) = true; rw [keys_plain r]; rfl
theorem vals_nodup {kvs : List (Key × V)} (n : (kvs.map (·.1)).Nodup) : ∀ (i : Nat) (k : Key) (v : V), kvs[i]? = some (k, v) → valV kvs k = some v := by
  induction kvs with
  | nil => intro i k v e; simp at e
  | cons x r ih =>
    obtain ⟨n1, n2⟩ := List.nodup_cons.mp n
    intro i k v e
    cases i with
    | zero =>
      have e : x = (k, v) := by simpa using e
      rw [e]
      exact valV_pos rfl
    | succ i =>
      have e : r[i]? = some (k, v) := by simpa using e
      have hk : k ∈ r.map (·.1) := List.mem_map.mpr ⟨(k, v), List.mem_of_getElem? e, rfl⟩
      rw [valV_neg (fun z => n1 (by show x.1 ∈ _; rw [z]; exact hk))]
      exact ih n2 i k v e
end
end Mi

/-! displays of dicts; own lists by +; data of open kind -/
namespace Mi
open Enc (enc)
open PySem L2 PySem.Spec PyProof.Rows
open Cf (Fresh rPlus)
section
variable {Z : Zx} {L : List (V × D)} {O : List (Addr × D)} {σ : L2.St} {α β γ δ : Type} [Enc α] [Enc β] [Enc δ]
theorem EV.disp0 : EV Z L O tDNewK σ (mr (D.dic [] [])) := fun L1 H post px Q s hp hx hm k p np =>
  k _ _ _ (hp.new (o := .dK []) (d := .dic [] []) np fun G hG nG => Is.dic (kvs := []) upd_same List.nodup_nil .nil) hm
def EP (Z : Zx) (L : List (V × D)) (O : List (Addr × D)) (trs : List (TE × TE)) (σ : L2.St) (m : M γ) (ks : List Str) (ds : γ → List D) : Prop :=
  ∀ (L1 : List (V × D)) (H : Hp) (post : γ → Prop) (px : Exn → Prop) (Q : List (V × V) → Hp → Prop), (∀ x ∈ L, x ∈ L1) → Pt Z L1 O H → HX Z px → m post px →
    (∀ (g : γ) (vs : List V) (H' : Hp), vs.length = (ds g).length → Pt Z (vs.zip (ds g) ++ L1) O H' → post g → Q ((ks.map V.str).zip vs) H') → tPairs trs σ H Q
theorem EP.nil : EP Z L O [] σ (mr ()) [] (fun _ => []) := fun L1 H post px Q s hp hx hm k => k () [] H rfl hp hm
theorem EP.cons {z : Str} {ta : TE} {tr : List (TE × TE)} {m1 : M α} {m2 : M γ} {ks : List Str} {ds : γ → List D} (e : EV Z L O ta σ m1) (r : EP Z L O tr σ m2 ks ds) : EP Z L O ((tC (.str z), ta) :: tr) σ (mb m1 fun a => mb m2 fun g => mr (a, g)) (z :: ks) (fun g => enc g.1 :: ds g.2) := fun L1 H post px Q s hp hx hm k =>
  e L1 H _ px _ s hp hx hm fun a v H1 hp1 hm1 => r _ H1 _ px _ (sub_cons s) hp1 hx hm1 fun g vs H2 hl hp2 hm2 => k (a, g) (v :: vs) H2 (by simp [hl]) (hp2.less fun x hx => by
    rcases List.mem_cons.mp hx with e | e
    · rw [e]; exact List.mem_append_right _ List.mem_cons_self
    · rcases List.mem_append.mp e with e | e
      · exact List.mem_append_left _ e
      · exact List.mem_append_right _ (List.mem_cons_of_mem _ e)) hm2
theorem EP.consP {z : Str} {ta : TE} {tr : List (TE × TE)} {a : α} {g : γ} {ks : List Str} {ds : γ → List D} (e : EV Z L O ta σ (mr a)) (r : EP Z L O tr σ (mr g) ks ds) : EP Z L O ((tC (.str z), ta) :: tr) σ (mr (a, g)) (z :: ks) (fun g => enc g.1 :: ds g.2) := EP.cons e r
theorem valV_none {kvs : List (Key × V)} {k : Key} (h : k ∉ kvs.map (·.1)) : valV kvs k = none := by
  unfold valV
  rw [List.find?_eq_none.mpr]
  · rfl
  · intro x hx z
    have z : x.1 = k := by simpa using z
    exact h (List.mem_map.mpr ⟨x, hx, z⟩)
theorem merge_app : ∀ (more kvs : List (Key × V)), (more.map (·.1)).Nodup → (∀ k ∈ more.map (·.1), k ∉ kvs.map (·.1)) → mergeK kvs more = kvs ++ more
  | [], kvs, _, _ => by simp [mergeK]
  | p :: r, kvs, n, d => by
    have e : mergeK kvs (p :: r) = mergeK (putK kvs p.1 p.2) r := rfl
    have n1 : p.1 ∉ r.map (·.1) := (List.nodup_cons.mp n).1
    have n2 : (r.map (·.1)).Nodup := (List.nodup_cons.mp n).2
    rw [e, putK_new p.2 (valV_none (d p.1 List.mem_cons_self)), merge_app r _ n2]
    · simp
    · intro k hk z
      rw [List.map_append] at z
      rcases List.mem_append.mp z with z | z
      · exact d k (List.mem_cons_of_mem _ hk) z
      · have z : k = p.1 := by simpa using z
        exact n1 (z ▸ hk)
theorem EV.disp {trs : List (TE × TE)} {m : M γ} {ks : List Str} {ds : γ → List D} (e : ∀ q, EP Z L ((q, .dic [] []) :: O) trs σ m ks ds) (hk : ks.Nodup) (hl : ks.length ≤ 15) (hd : ∀ g, (ds g).length = ks.length) : EV Z L O (tDisp trs) σ (mb m fun g => mr (D.dic (ks.map .inr) (ds g))) := fun L1 H post px Q s hp hx hm k p np => by
  refine e p L1 _ _ px _ s (hp.own (o := .dK []) (d := .dic [] []) np fun G hG => Cell.dic (kvs := []) List.nodup_nil .nil) hx hm fun g vs H' h1 hp' hm' => ?_
  have h0 : H' p = some (.dK []) := by
    obtain ⟨G, F, W, h⟩ := id hp'
    obtain ⟨ho, e1, e2, e3⟩ := h.o _ List.mem_cons_self
    have e4 : ∀ d, Cell Z.K Z.C G ho d → d = .dic [] [] → ho = .dK [] := by
      intro d c z
      cases c with
      | lst l t => cases z
      | @dic kvs ds n t =>
        injection z with z1 z2
        cases kvs with
        | nil => rfl
        | cons a b => cases z1
      | obj a b => cases z
    rw [h.f _ _ e1, e4 _ e3 rfl]
  have hl2 : vs.length = ks.length := by rw [h1, hd g]
  have k1 : ((ks.map (Sum.inr : Str → Key)).zip vs).map (·.1) = ks.map (Sum.inr : Str → Key) := List.map_fst_zip (by simp [hl2])
  have k2 : ((ks.map (Sum.inr : Str → Key)).zip vs).map (·.2) = vs := List.map_snd_zip (by simp [hl2])
  have nd : (ks.map (Sum.inr : Str → Key)).Nodup := List.pairwise_map.mpr (hk.imp fun h z => h (by injection z))
  refine ⟨h0, (ks.map (Sum.inr : Str → Key)).zip vs, ?_, by rw [List.length_zip, List.length_map, hl2]; omega, ?_⟩
  · rw [List.zip_map_left, List.zip_map_left, List.map_map]
    rfl
  rw [merge_app _ [] (by rw [k1]; exact nd) (by intro _ _ z; cases z), List.nil_append]
  have q := (hp'.put (o := .dK ((ks.map (Sum.inr : Str → Key)).zip vs)) (d' := .dic (ks.map .inr) (ds g)) .hd fun G hG ho _ _ => by
    have c := Cell.dic (K := Z.K) (C := Z.C) (G := G) (kvs := (ks.map (Sum.inr : Str → Key)).zip vs) (ds := ds g) (by rw [k1]; exact nd) (by rw [k2]; exact zip_is h1 fun x hx => hG x (List.mem_append_left _ hx))
    rw [k1] at c
    exact c).freeze .hd
  exact k _ _ _ (q.less fun x hx => by
    rcases List.mem_cons.mp hx with e | e
    · rw [e]; exact List.mem_cons_self
    · exact List.mem_cons_of_mem _ (List.mem_append_right _ e)) hm'
theorem EV.dispP {trs : List (TE × TE)} {g : γ} {ks : List Str} {ds : γ → List D} (e : ∀ q, EP Z L ((q, .dic [] []) :: O) trs σ (mr g) ks ds) (hk : ks.Nodup) (hl : ks.length ≤ 15) (hd : ∀ g, (ds g).length = ks.length) : EV Z L O (tDisp trs) σ (mr (D.dic (ks.map .inr) (ds g))) := EV.disp e hk hl hd
/-! ### data of open kind -/
def mlst : D → M (List D)
  | .lst i => mr i
  | _ => mstuck
def mtup : D → M (Tp D)
  | .tup i => mr ⟨i⟩
  | _ => mstuck
theorem enc_ds (ds : List D) : (enc ds : D) = .lst ds := by
  show D.lst (ds.map id) = _
  rw [List.map_id]
theorem EV.asL {t : TE} {m : M D} (e : EV Z L O t σ m) : EV Z L O t σ (mb m mlst) := fun L1 H post px Q s hp hx hm k => e L1 H _ px Q s hp hx hm fun d v H' hp' hb => by
  cases d <;> first | exact hb.elim | exact k _ v H' (by rw [enc_ds]; exact hp') hb
theorem EV.asLP {t : TE} {d : D} (e : EV Z L O t σ (mr d)) : EV Z L O t σ (mlst d) := EV.asL e
theorem EV.asT {t : TE} {m : M D} (e : EV Z L O t σ m) : EV Z L O t σ (mb m mtup) := fun L1 H post px Q s hp hx hm k => e L1 H _ px Q s hp hx hm fun d v H' hp' hb => by
  cases d <;> first | exact hb.elim | exact k _ v H' (by show Pt Z ((v, D.tup (List.map id _)) :: L1) O H'; rw [List.map_id]; exact hp') hb
theorem EV.asTP {t : TE} {d : D} (e : EV Z L O t σ (mr d)) : EV Z L O t σ (mtup d) := EV.asT e
theorem ok_isND : Ok2 Z Cf.rIsN (fun (a : D) (_ : Unit) => mr (isNonD a)) := fun L O H a b x y post px Q hp hx hm k => by
  have h2 := hp.hd
  cases h2
  refine ⟨rfl, ?_⟩
  rw [dec_non hp.hd2 (isNonD_iff a)]
  exact k _ _ H (hp.tail.tail.add fun G _ => .bl _) hm
theorem ok_notND : Ok2 Z Cf.rNotN (fun (a : D) (_ : Unit) => mr (!isNonD a)) := fun L O H a b x y post px Q hp hx hm k => by
  have h2 := hp.hd
  cases h2
  refine ⟨rfl, ?_⟩
  rw [dec_non hp.hd2 (isNonD_iff a)]
  exact k _ _ H (hp.tail.tail.add fun G _ => .bl _) hm
theorem EV.isND {ta tb : TE} {m1 : M D} {m2 : M Unit} (e1 : EV Z L O ta σ m1) (e2 : EV Z L O tb σ m2) : EV Z L O (tOp Cf.rIsN ta tb) σ (mb m1 fun a => mb m2 fun b => mr (isNonD a)) := EV.op2 ok_isND e1 e2
theorem EV.notND {ta tb : TE} {m1 : M D} {m2 : M Unit} (e1 : EV Z L O ta σ m1) (e2 : EV Z L O tb σ m2) : EV Z L O (tOp Cf.rNotN ta tb) σ (mb m1 fun a => mb m2 fun b => mr (!isNonD a)) := EV.op2 ok_notND e1 e2
theorem EV.notNDP {ta tb : TE} {a : D} {b : Unit} (e1 : EV Z L O ta σ (mr a)) (e2 : EV Z L O tb σ (mr b)) : EV Z L O (tOp Cf.rNotN ta tb) σ (mr (!isNonD a)) := EV.notND e1 e2
theorem EV.ninSS {ta tb : TE} {m1 m2 : M Str} (e1 : EV Z L O ta σ m1) (e2 : EV Z L O tb σ m2) : EV Z L O (tOp (fun x y H Q => ∃ i j, x = .str i ∧ y = .str j ∧ Q (.bl (!(!(Builtin.Str.occurrences j i 0 j.length 1).isEmpty))) H) ta tb) σ (mb m1 fun a => mb m2 fun b => mr (!(!(Builtin.Str.occurrences b a 0 b.length 1).isEmpty))) := EV.op2 (f := fun (a b : Str) => mr (!(!(Builtin.Str.occurrences b a 0 b.length 1).isEmpty))) (fun L O H a b x y post px Q hp hx hm k => by
  obtain rfl := is_str hp.hd
  obtain rfl := is_str hp.hd2
  exact ⟨a, b, rfl, rfl, k _ _ H (hp.tail.tail.add fun G _ => .bl _) hm⟩) e1 e2
/-- a sign among signs -/
def minSg (a b : Str) : M Bool := match a.cps.toList with
  | [c] => mr (decide (c ∈ b.cps.toList))
  | _ => mstuck
def mninSg (a b : Str) : M Bool := match a.cps.toList with
  | [c] => mr (!decide (c ∈ b.cps.toList))
  | _ => mstuck
theorem str_one {a : Str} {c : Nat} (h : a.cps.toList = [c]) : a = ⟨#[c]⟩ := by
  cases a with
  | mk xs =>
    cases xs with
    | mk l =>
      have h : l = [c] := h
      rw [h]
theorem ok_inSg : Ok2 Z rInS minSg := fun L O H a b x y post px Q hp hx hm k => by
  obtain rfl := is_str hp.hd
  obtain rfl := is_str hp.hd2
  have hm : minSg a b post px := hm
  unfold minSg at hm
  cases e : a.cps.toList with
  | nil => rw [e] at hm; exact hm.elim
  | cons c r =>
    cases r with
    | nil =>
      rw [e] at hm
      obtain rfl := str_one e
      exact ⟨c, b, rfl, rfl, k _ _ H (hp.tail.tail.add fun G _ => .bl _) hm⟩
    | cons _ _ => rw [e] at hm; exact hm.elim
theorem ok_ninSg : Ok2 Z rNotInS mninSg := fun L O H a b x y post px Q hp hx hm k => by
  obtain rfl := is_str hp.hd
  obtain rfl := is_str hp.hd2
  have hm : mninSg a b post px := hm
  unfold mninSg at hm
  cases e : a.cps.toList with
  | nil => rw [e] at hm; exact hm.elim
  | cons c r =>
    cases r with
    | nil =>
      rw [e] at hm
      obtain rfl := str_one e
      exact ⟨c, b, rfl, rfl, k _ _ H (hp.tail.tail.add fun G _ => .bl _) hm⟩
    | cons _ _ => rw [e] at hm; exact hm.elim
theorem EV.inSg {ta tb : TE} {m1 m2 : M Str} (e1 : EV Z L O ta σ m1) (e2 : EV Z L O tb σ m2) : EV Z L O (tOp rInS ta tb) σ (mb m1 fun a => mb m2 fun b => minSg a b) := EV.op2 ok_inSg e1 e2
theorem EV.inSgP {ta tb : TE} {a b : Str} (e1 : EV Z L O ta σ (mr a)) (e2 : EV Z L O tb σ (mr b)) : EV Z L O (tOp rInS ta tb) σ (minSg a b) := EV.op2P ok_inSg e1 e2
theorem EV.ninSg {ta tb : TE} {m1 m2 : M Str} (e1 : EV Z L O ta σ m1) (e2 : EV Z L O tb σ m2) : EV Z L O (tOp rNotInS ta tb) σ (mb m1 fun a => mb m2 fun b => mninSg a b) := EV.op2 ok_ninSg e1 e2
theorem EV.ninSgP {ta tb : TE} {a b : Str} (e1 : EV Z L O ta σ (mr a)) (e2 : EV Z L O tb σ (mr b)) : EV Z L O (tOp rNotInS ta tb) σ (mninSg a b) := EV.op2P ok_ninSg e1 e2
theorem ET.truIP {t : TE} {a : Int} (e : EV Z L O t σ (mr a)) : ET Z L O (Cf.tTru Z.K t) σ (mr (a != 0)) := ET.truI e
end
theorem PtS.own' {Z : Zx} {L : List (V × D)} {O : List (Addr × D)} {H G F W : Hp} (h : PtS Z L O H G F W) {p : Addr} {o : HO} {d : D} (hp : Fresh H p) (hd : Cell Z.K Z.C G o d) : Pt Z L ((p, d) :: O) (upd H p o) := by
  have hF := h.f.free hp
  refine ⟨G, upd F p o, W, ⟨h.g0, h.f0.trans (.self hF), h.g.new hp, h.f.upd, h.w.new hp, (h.gf.symm.new (h.g.free hp)).symm, h.gw, h.fw.new (h.w.free hp), h.r, h.l, fun x hx => ?_, ?_⟩⟩
  · rcases List.mem_cons.mp hx with e | e
    · rw [e]; exact ⟨o, upd_same, h.f0.free hF, hd⟩
    · obtain ⟨ho, e1, e2, e3⟩ := h.o x e
      refine ⟨ho, ?_, e2, e3⟩
      have n : x.1 ≠ p := fun z => by rw [z, hF] at e1; cases e1
      show upd F p o x.1 = some ho
      rw [upd_ne n]; exact e1
  · refine List.nodup_cons.mpr ⟨fun z => ?_, h.nd⟩
    obtain ⟨x, hx, e⟩ := List.mem_map.mp z
    obtain ⟨ho, e1, _, _⟩ := h.o x hx
    rw [show x.1 = p from e, hF] at e1
    cases e1
section
variable {Z : Zx} {L : List (V × D)} {O : List (Addr × D)} {σ : L2.St} {α β γ δ : Type} [Enc α] [Enc β] [Enc δ] {nx : L2.St → Hp → Prop} {rt : VK} {bk ct : L2.St → Hp → Prop} {H : Hp} {px : Exn → Prop} {ρ : Type} {post : ρ → Prop}
/-- an own list, made by + -/
theorem s_setAdd {ta tb : TE} {i : Nat} {m1 m2 : M (List α)} {k : List α → M ρ} (S : Addr → L2.St) (hS : ∀ p, σ.set i (some (.ref p)) = S p) (hp : Pt Z L O H) (hx : HX Z px) (hm : mb (mb m1 fun a => mb m2 fun b => maddL a b) k post px) (e1 : EV Z L O ta σ m1) (e2 : EV Z L O tb σ m2)
    (c : ∀ a p H', Pt Z L ((p, enc a) :: O) H' → k a post px → nx (S p) H') : tAsg (tOp rPlus ta tb) (gName i) ⟨nx, rt, bk, ct⟩ σ H :=
  e1 L H _ px _ sub_refl' hp hx hm fun a x H1 hp1 hm1 => e2 _ H1 _ px _ (sub_cons sub_refl') hp1 hx hm1 fun b y H2 hp2 hm2 => by
    have hp3 := hp2
    obtain ⟨G, F, W, h⟩ := hp2
    obtain ⟨q, ys, rfl, e1, l1, t1⟩ := is_lst h.x0
    obtain ⟨p, xs, rfl, e2, l2, t2⟩ := is_lst h.x1
    have n1 := t1.len
    have n2 := t2.len
    rw [List.length_map] at n1 n2
    have hl : (xs ++ ys).length ≤ 1000000 := by rw [List.length_append, n1, n2]; exact hm2.1
    refine .inr (.inr ⟨p, q, xs, ys, rfl, rfl, h.g _ _ e2, h.g _ _ e1, by rw [n1, n2]; exact le_size hm2.1, fun r hr => ?_⟩)
    show nx (σ.set i (some (.ref r))) _
    rw [hS r]
    have z : Pt Z L ((r, enc (a ++ b)) :: O) (upd H2 r (.lst (xs ++ ys))) := by
      have q := PtS.own' h hr (o := .lst (xs ++ ys)) (d := .lst ((a ++ b).map enc)) (.lst hl (by rw [List.map_append]; exact t2.app t1))
      exact q.less fun x hx => .tail _ (.tail _ hx)
    exact c (a ++ b) r _ z hm2.2
end
def tTry (K : PySem.W.Frag) (c : Value) (i : Nat) (tb : WX → TS) (ts : Addr → Value → Option Addr → TS) (Wout : WX) : TS := fun D σ H => tb (wAs K c i ts Wout D) D σ H
def tTryO (K : PySem.W.Frag) (c : Value) (tb : WX → TS) (ts : Addr → Value → Option Addr → TS) (Wout : WX) : TS := fun D σ H => tb (wOnly K c ts Wout D) D σ H
section
variable {X : Cx} {x n : Str} {c : Value} {i : Nat} {body suite : List Stmt} {b₀ : Stmt} {np pos pos' : Pos} {Wout : WX}
theorem ps_try_asM (hs : X.stack = X.env :: X.outer) (hf : X.env.frame = some X.env.locals) (hN : X.N.Nodup) (hi : X.N[i]? = some n) (hln : X.env.kindOf n = some .local) (hc : Names X x c) (tk : Takes X Wout)
    (kb : ∀ W : WX, {t : TS // ∀ (pn : List (Addr × Obj)) (xe : Value → Shared → Prop), Takes (X.tr pn xe) W → PassesOwn (model X.prog X.w) X.A X.env xe → PSs (X.tr pn xe) body t})
    (ks : ∀ (a : Addr) (cls : Value) (d : Option Addr), {t : TS // ∀ (oe : Obj) (pn : List (Addr × Obj)), Zc cls d oe → (∃ vs, oe.data = .fields vs) → PSs (X.suite a ((a, oe) :: pn)) (b₀ :: suite) t}) {t : TS} (ht : tTry X.K c i (fun W => (kb W).1) (fun a cls d => (ks a cls d).1) Wout = t) :
    PS X (.Try body [.ExceptHandler (some (.Name x np)) (some n) (b₀ :: suite) pos'] [] [] pos) t := ps_try_as1 hs hf hN hi hln hc tk kb ks ht
theorem ps_try_onlyM (hs : X.stack = X.env :: X.outer) (hf : X.env.frame = some X.env.locals) (hc : Names X x c) (tk : Takes X Wout)
    (kb : ∀ W : WX, {t : TS // ∀ (pn : List (Addr × Obj)) (xe : Value → Shared → Prop), Takes (X.tr pn xe) W → PassesOwn (model X.prog X.w) X.A X.env xe → PSs (X.tr pn xe) body t})
    (ks : ∀ (a : Addr) (cls : Value) (d : Option Addr), {t : TS // ∀ (oe : Obj) (pn : List (Addr × Obj)), Zc cls d oe → (∃ vs, oe.data = .fields vs) → PSs (X.suite a ((a, oe) :: pn)) (b₀ :: suite) t}) {t : TS} (ht : tTryO X.K c (fun W => (kb W).1) (fun a cls d => (ks a cls d).1) Wout = t) :
    PS X (.Try body [.ExceptHandler (some (.Name x np)) none (b₀ :: suite) pos'] [] [] pos) t := ps_try_only1 hs hf hc tk kb ks ht
end
section
variable {Z : Zx} {L : List (V × D)} {O : List (Addr × D)} {σ : L2.St} {α β γ δ : Type} [Enc α] [Enc β] [Enc δ] {nx : L2.St → Hp → Prop} {rt : VK} {bk ct : L2.St → Hp → Prop} {H : Hp} {px : Exn → Prop} {ρ : Type} {post : ρ → Prop}
/-- the state of the draws is made -/
theorem s_start {K : PySem.W.Frag} {E : XK} {i : Nat} {a : Addr} {ns : List Int} (S : Addr → L2.St) (hS : ∀ p, σ.set i (some (.ref p)) = S p) (h0 : σ[0]? = some (some (.ref a))) (hs : SqL K H a (ns.map V.int)) (c : ∀ p q H', Cf.StAt H' p q → nx (S p) H') : tAsg (tCall (Cf.spStart K) [] E (tCons (tVar 0) tNil)) (gName i) ⟨nx, rt, bk, ct⟩ σ H := by
  refine ⟨.ref a, h0, a, ns, rfl, hs, fun p q H' _ _ s _ => ?_⟩
  show nx (σ.set i (some (.ref p))) H'
  rw [hS p]; exact c p q H' s
theorem law_end {Z : Zx} {Q : VK} (k : ∀ H', Q (.bl true) H') : ∀ (a : Bool) (v : V) (H : Hp), Pt Z [(v, enc a)] [] H → a = true → Q v H := fun a v H hp e => by
  obtain rfl := is_bl hp.hd
  rw [e]; exact k H
/-- errors of the classes known, caught -/
def mtry0 {τ : Type} (known : List Str) (m : M τ) (h : Exn → M τ) : M τ := fun post px => m post (fun e => e.cls ∈ known ∧ h e post px)
theorem if_here {τ : Type} {c : Prop} [Decidable c] {a b : M τ} {k : τ → M ρ} (h : c) (hm : mb (if c then a else b) k post px) : mb a k post px := by rw [if_pos h] at hm; exact hm
theorem if_there {τ : Type} {c : Prop} [Decidable c] {a b : M τ} {k : τ → M ρ} (h : ¬ c) (hm : mb (if c then a else b) k post px) : mb b k post px := by rw [if_neg h] at hm; exact hm
theorem s_tryJ {ι γ τ : Type} {tb : WX → TS} {ts : Addr → Value → Option Addr → TS} {i : Nat} {cv : Value} {Wout : WX} {known : List Str} {m : M τ} {h : Exn → M τ} {k : τ → M ρ} (inj : γ → τ) (S : ι → γ → L2.St) (Lf : ι → γ → List (V × D)) (hp : Pt Z L O H) (hm : mb (mtry0 known m h) k post px)
    (hcl : ∀ c ∈ known, ∀ A, Z.C c = some A → PySem.W.exmOne Z.K (.ref A) cv = some true)
    (body : ∀ (nx' : L2.St → Hp → Prop) (G F : Hp) (px' : Exn → Prop), (∀ r c H', Pt ⟨Z.K, Z.C, Z.R, G, F, fun c d H' => wAs Z.K cv i ts Wout ⟨nx', rt, bk, ct⟩ c d σ H'⟩ (Lf r c) [] H' → k (inj c) post px → nx' (S r c) H') →
      (∀ x H', Pt ⟨Z.K, Z.C, Z.R, G, F, fun c d H' => wAs Z.K cv i ts Wout ⟨nx', rt, bk, ct⟩ c d σ H'⟩ [x] [] H' → Pt Z [x] [] H') →
      Pt ⟨Z.K, Z.C, Z.R, G, F, fun c d H' => wAs Z.K cv i ts Wout ⟨nx', rt, bk, ct⟩ c d σ H'⟩ L [] H → HX ⟨Z.K, Z.C, Z.R, G, F, fun c d H' => wAs Z.K cv i ts Wout ⟨nx', rt, bk, ct⟩ c d σ H'⟩ px' → m (fun a => k a post px) px' → tb (wAs Z.K cv i ts Wout ⟨nx', rt, bk, ct⟩) ⟨nx', rt, bk, ct⟩ σ H)
    (suite : ∀ (nx' : L2.St → Hp → Prop), (∀ r c H', Pt Z (Lf r c) O H' → k (inj c) post px → nx' (S r c) H') → ∀ (e : Exn) (a A dd : Addr) (H' : Hp), e.cls ∈ known → Z.C e.cls = some A → Fresh H' a → Pt Z ((.ref dd, .xd e.ns e.ds) :: L) O H' → mb (h e) k post px →
      ts a (.ref A) (some dd) ⟨fun σ' H' => nx' (σ'.set i none) H', rt, fun σ' H' => bk (σ'.set i none) H', fun σ' H' => ct (σ'.set i none) H'⟩ (σ.set i (some (.ref a))) H')
    (j : ∀ r c H', Pt Z (Lf r c) O H' → k (inj c) post px → nx (S r c) H') : tTry Z.K cv i tb ts Wout ⟨nx, rt, bk, ct⟩ σ H := by
  show tb (wAs Z.K cv i ts Wout ⟨nx, rt, bk, ct⟩) ⟨nx, rt, bk, ct⟩ σ H
  obtain ⟨G, F, W, h0⟩ := hp
  refine body nx G F (fun e => e.cls ∈ known ∧ mb (h e) k post px) (fun r c H' q hk => j r c H' ((h0.back q).less fun x hx => List.mem_append_left _ hx) hk) (fun x H' q => ((h0.back q).less fun y hy => List.mem_append_left _ hy).lessO (List.nil_sublist _)) ⟨G, F, W, { h0 with g0 := .refl _, f0 := .refl _, o := (fun x hx => by cases hx), nd := List.nodup_nil }⟩ ?_ hm
  rintro e c d H' ⟨G', F', W', q, A, dd, fs, rfl, hA, rfl, hdd, hns, hds⟩ ⟨hk, hh⟩
  refine ⟨true, hcl e.cls hk A hA, fun _ a fa => ?_, fun z => by cases z⟩
  refine suite nx j e a A dd H' hk hA fa ?_ hh
  have z : Is Z.K Z.C G' (.ref dd) (.xd e.ns e.ds) := by rw [← hns]; exact .xd hdd hds
  exact (h0.back (L' := [(.ref dd, .xd e.ns e.ds)]) (PtS.add q z))
theorem s_tryO {ι γ τ : Type} {tb : WX → TS} {ts : Addr → Value → Option Addr → TS} {cv : Value} {Wout : WX} {known : List Str} {m : M τ} {h : Exn → M τ} {k : τ → M ρ} (inj : γ → τ) (S : ι → γ → L2.St) (Lf : ι → γ → List (V × D)) (hp : Pt Z L O H) (hm : mb (mtry0 known m h) k post px)
    (hcl : ∀ c ∈ known, ∀ A, Z.C c = some A → PySem.W.exmOne Z.K (.ref A) cv = some true)
    (body : ∀ (nx' : L2.St → Hp → Prop) (G F : Hp) (px' : Exn → Prop), (∀ r c H', Pt ⟨Z.K, Z.C, Z.R, G, F, fun c d H' => wOnly Z.K cv ts Wout ⟨nx', rt, bk, ct⟩ c d σ H'⟩ (Lf r c) [] H' → k (inj c) post px → nx' (S r c) H') →
      (∀ x H', Pt ⟨Z.K, Z.C, Z.R, G, F, fun c d H' => wOnly Z.K cv ts Wout ⟨nx', rt, bk, ct⟩ c d σ H'⟩ [x] [] H' → Pt Z [x] [] H') →
      Pt ⟨Z.K, Z.C, Z.R, G, F, fun c d H' => wOnly Z.K cv ts Wout ⟨nx', rt, bk, ct⟩ c d σ H'⟩ L [] H → HX ⟨Z.K, Z.C, Z.R, G, F, fun c d H' => wOnly Z.K cv ts Wout ⟨nx', rt, bk, ct⟩ c d σ H'⟩ px' → m (fun a => k a post px) px' → tb (wOnly Z.K cv ts Wout ⟨nx', rt, bk, ct⟩) ⟨nx', rt, bk, ct⟩ σ H)
    (suite : ∀ (nx' : L2.St → Hp → Prop), (∀ r c H', Pt Z (Lf r c) O H' → k (inj c) post px → nx' (S r c) H') → ∀ (e : Exn) (a A dd : Addr) (H' : Hp), e.cls ∈ known → Z.C e.cls = some A → Fresh H' a → Pt Z ((.ref dd, .xd e.ns e.ds) :: L) O H' → mb (h e) k post px →
      ts a (.ref A) (some dd) ⟨nx', rt, bk, ct⟩ σ H')
    (j : ∀ r c H', Pt Z (Lf r c) O H' → k (inj c) post px → nx (S r c) H') : tTryO Z.K cv tb ts Wout ⟨nx, rt, bk, ct⟩ σ H := by
  show tb (wOnly Z.K cv ts Wout ⟨nx, rt, bk, ct⟩) ⟨nx, rt, bk, ct⟩ σ H
  obtain ⟨G, F, W, h0⟩ := hp
  refine body nx G F (fun e => e.cls ∈ known ∧ mb (h e) k post px) (fun r c H' q hk => j r c H' ((h0.back q).less fun x hx => List.mem_append_left _ hx) hk) (fun x H' q => ((h0.back q).less fun y hy => List.mem_append_left _ hy).lessO (List.nil_sublist _)) ⟨G, F, W, { h0 with g0 := .refl _, f0 := .refl _, o := (fun x hx => by cases hx), nd := List.nodup_nil }⟩ ?_ hm
  rintro e c d H' ⟨G', F', W', q, A, dd, fs, rfl, hA, rfl, hdd, hns, hds⟩ ⟨hk, hh⟩
  refine ⟨true, hcl e.cls hk A hA, fun _ a fa => ?_, fun z => by cases z⟩
  refine suite nx j e a A dd H' hk hA fa ?_ hh
  have z : Is Z.K Z.C G' (.ref dd) (.xd e.ns e.ds) := by rw [← hns]; exact .xd hdd hds
  exact (h0.back (L' := [(.ref dd, .xd e.ns e.ds)]) (PtS.add q z))
end
end Mi

/-! the wishes, read -/
namespace Mi
open Enc (enc)
open PySem L2 PySem.Spec PyProof.Rows
/-- what a loop of plain turns comes to -/
def go {α γ ρ : Type} (g : α → γ → Stp γ ρ) : List α → γ → γ ⊕ ρ
  | [], c => .inl c
  | x :: xs, c => match g x c with
    | .next c' => go g xs c'
    | .brk c' => .inl c'
    | .ret r => .inr r
section
variable {α β γ ρ : Type} {post : α → Prop} {px : Exn → Prop}
theorem mb_ap {m : M β} {k : β → M α} : mb m k post px = m (fun a => k a post px) px := Eq.trans rfl rfl
theorem mr_ap {a : α} : mr a post px = post a := Eq.trans rfl rfl
theorem mx_ap {e : Exn} : mx (α := α) e post px = px e := Eq.trans rfl rfl
theorem mreq_ap {c : Prop} {m : M α} : mreq c m post px = (c ∧ m post px) := Eq.trans rfl rfl
theorem mite_ap {m : M Bool} {a b : M α} : mite m a b post px = m (fun c => (if c = true then a else b) post px) px := Eq.trans rfl rfl
theorem ite_ap {c : Prop} [Decidable c] {a b : M α} : (if c then a else b) post px = if c then a post px else b post px := by split <;> rfl
theorem mand_ap {m1 m2 : M Bool} {post : Bool → Prop} : mand m1 m2 post px = m1 (fun a => if a = true then m2 post px else post false) px := by
  show m1 (fun a => (if a = true then m2 else mr false) post px) px = _
  congr; funext a; rw [ite_ap]; rfl
theorem mor_ap {m1 m2 : M Bool} {post : Bool → Prop} : mor m1 m2 post px = m1 (fun a => if a = true then post true else m2 post px) px := by
  show m1 (fun a => (if a = true then mr true else m2) post px) px = _
  congr; funext a; rw [ite_ap]; rfl
theorem mno_ap {m : M α} : mno m post px = m post (fun _ => False) := Eq.trans rfl rfl
theorem mget_ap {a : α} : mget (some a) post px = post a := Eq.trans rfl rfl
theorem mint_ap {i : Int} {post : Int → Prop} : mint (.int i) post px = post i := Eq.trans rfl rfl
theorem mstr_ap {i : Str} {post : Str → Prop} : mstr (.str i) post px = post i := Eq.trans rfl rfl
theorem mbl_ap {i : Bool} {post : Bool → Prop} : mbl (.bl i) post px = post i := Eq.trans rfl rfl
theorem mtry0_ap {known : List Str} {m : M α} {h : Exn → M α} : mtry0 known m h post px = m post (fun e => e.cls ∈ known ∧ h e post px) := Eq.trans rfl rfl
theorem mlenT_ap {ds : List D} {post : Int → Prop} : mlenD (.tup ds) post px = post ds.length := Eq.trans rfl rfl
theorem mlenL_ap {ds : List D} {post : Int → Prop} : mlenD (.lst ds) post px = post ds.length := Eq.trans rfl rfl
theorem mlenDS_ap {z : Str} {post : Int → Prop} : mlenD (.str z) post px = (z.length ≤ sizeLine ∧ post z.length) := Eq.trans rfl rfl
theorem mlenS_ap {z : Str} {post : Int → Prop} : mlenS z post px = (z.length ≤ sizeLine ∧ post z.length) := Eq.trans rfl rfl
theorem mpush_ap {xs : List β} {a : β} {post : List β → Prop} : mpush xs a post px = (xs.length < 1000000 ∧ post (xs ++ [a])) := Eq.trans rfl rfl
theorem maddL_ap {xs ys : List β} {post : List β → Prop} : maddL xs ys post px = (xs.length + ys.length ≤ 1000000 ∧ post (xs ++ ys)) := Eq.trans rfl rfl
theorem maddS_ap {xs ys : Str} {post : Str → Prop} : maddS xs ys post px = (xs.length + ys.length ≤ sizeLine ∧ post (xs ++ ys)) := Eq.trans rfl rfl
theorem mmulI_ap {a b : Int} {post : Int → Prop} : mmulI a b post px = (CMul a b ∧ post (a * b)) := Eq.trans rfl rfl
theorem misD_ap {k : Cf.Kd} {d : D} {post : Bool → Prop} : misD k d post px = (NoObj d ∧ post (isD k d)) := Eq.trans rfl rfl
theorem msame_ap {x y : D} {post : Bool → Prop} : msame x y post px = ((plainD x = true ∧ plainD y = true ∧ x.depth < 8) ∧ post (dsame x y)) := Eq.trans rfl rfl
theorem mixT_ap {ds : List D} {i : Int} {d : D} {post : D → Prop} (h : atI ds i = some d) : mixD (.tup ds) i post px = post d := by
  have e : mixD (.tup ds) i = mix ds i := rfl
  rw [e]
  unfold mix
  rw [h]; rfl
theorem mixT0_ap {d : D} {ds : List D} {post : D → Prop} : mixD (.tup (d :: ds)) 0 post px = post d := mixT_ap (Cf.atI_zero)
theorem mixT1_ap {d e : D} {ds : List D} {post : D → Prop} : mixD (.tup (d :: e :: ds)) 1 post px = post e := mixT_ap (L2.atI_nat (j := 1) rfl)
theorem mixT2_ap {d e f : D} {ds : List D} {post : D → Prop} : mixD (.tup (d :: e :: f :: ds)) 2 post px = post f := mixT_ap (L2.atI_nat (j := 2) rfl)
theorem mixT3_ap {d e f g : D} {ds : List D} {post : D → Prop} : mixD (.tup (d :: e :: f :: g :: ds)) 3 post px = post g := mixT_ap (L2.atI_nat (j := 3) rfl)
theorem draw_i {n : Int} {post : Int → Prop} (h : 0 < n) (l : n.natAbs.log2 < 9000) (k : ∀ d, 0 ≤ d → d < n → post d) : mdraw n post (fun _ => True) := ⟨h, l, k⟩
/-- a loop with nothing that breaks it -/
theorem forM_n {xs : List α} {c0 : γ} {f : α → γ → M γ} {post : γ → Prop} (I : Nat → γ → Prop) (h0 : I 0 c0) (hs : ∀ i x c, xs[i]? = some x → I i c → ∀ Q : γ → Prop, (∀ c', I (i + 1) c' → Q c') → f x c Q px) (hk : ∀ c, I xs.length c → post c) : forM xs c0 f post px := by
  induction xs generalizing c0 I with
  | nil => exact hk c0 h0
  | cons x xs ih =>
    refine hs 0 x c0 rfl h0 _ fun c' h' => ?_
    exact ih (fun i => I (i + 1)) h' (fun i y c e h Q q => hs (i + 1) y c (by simpa using e) h Q q) (fun c h => hk c h)
/-- a loop, its turns all alike -/
theorem forR_i {xs : List α} {c0 : γ} {f : α → γ → M (Stp γ ρ)} {post : γ ⊕ ρ → Prop} (I : γ → Prop) (h0 : I c0) (hs : ∀ x c, x ∈ xs → I c → ∀ Q : Stp γ ρ → Prop, (∀ c', I c' → Q (.next c')) → f x c Q px) (hk : ∀ c, I c → post (.inl c)) : forR xs c0 f post px := by
  induction xs generalizing c0 with
  | nil => exact hk c0 h0
  | cons x xs ih =>
    refine hs x c0 List.mem_cons_self h0 _ fun c' h' => ?_
    exact ih h' (fun y c e h Q q => hs y c (List.mem_cons_of_mem _ e) h Q q)
/-- a loop over plain turns, given as a value -/
theorem forR_v {xs : List α} {c0 : γ} {f : α → γ → M (Stp γ ρ)} {g : α → γ → Stp γ ρ} {post : γ ⊕ ρ → Prop} (hf : ∀ x ∈ xs, ∀ c (Q : Stp γ ρ → Prop), Q (g x c) → f x c Q px) (hk : post ((go g xs c0))) : forR xs c0 f post px := by
  induction xs generalizing c0 with
  | nil => exact hk
  | cons x xs ih =>
    refine hf x List.mem_cons_self c0 _ ?_
    unfold go at hk
    split at hk <;> rename_i e <;> simp only [e]
    · exact ih (fun y h => hf y (List.mem_cons_of_mem _ h)) hk
    · exact hk
    · exact hk
end
/-- it comes to a -/
def Ret {α : Type} (m : M α) (a : α) : Prop := ∀ (post : α → Prop) (px : Exn → Prop), post a → m post px
section
variable {α β γ ρ : Type}
theorem Ret.use {m : M α} {a : α} (h : Ret m a) {post : α → Prop} {px : Exn → Prop} (k : post a) : m post px := h _ _ k
theorem Ret.of {m : M α} {a b : α} (h : Ret m a) (e : a = b) : Ret m b := e ▸ h
theorem Ret.r {a : α} : Ret (mr a) a := fun _ _ k => k
theorem Ret.b {m : M β} {k : β → M α} {b : β} {a : α} (h1 : Ret m b) (h2 : Ret (k b) a) : Ret (mb m k) a := fun _ _ q => h1 _ _ (h2 _ _ q)
theorem Ret.no {m : M α} {a : α} (h : Ret m a) : Ret (mno m) a := fun _ _ q => h _ _ q
theorem Ret.req {c : Prop} {m : M α} {a : α} (h : c) (h2 : Ret m a) : Ret (mreq c m) a := fun _ _ q => ⟨h, h2 _ _ q⟩
theorem Ret.ite {m : M Bool} {A B : M α} {c : Bool} {a : α} (h : Ret m c) (h1 : c = true → Ret A a) (h2 : c = false → Ret B a) : Ret (mite m A B) a := fun post px q => h _ _ (by
  cases c with
  | true => exact h1 rfl post px q
  | false => exact h2 rfl post px q)
/-- the branch is known -/
theorem Ret.iteT {m : M Bool} {A B : M α} {a : α} (h : Ret m true) (h1 : Ret A a) : Ret (mite m A B) a := .ite h (fun _ => h1) (fun z => by cases z)
theorem Ret.iteF {m : M Bool} {A B : M α} {a : α} (h : Ret m false) (h1 : Ret B a) : Ret (mite m A B) a := .ite h (fun z => by cases z) (fun _ => h1)
theorem Ret.ite' {m : M Bool} {A B : M α} {c : Bool} {a b : α} (h : Ret m c) (h1 : c = true → Ret A a) (h2 : c = false → Ret B b) : Ret (mite m A B) (if c = true then a else b) := .ite h (fun z => by rw [if_pos z]; exact h1 z) (fun z => by rw [if_neg (by rw [z]; decide)]; exact h2 z)
theorem Ret.if' {c : Prop} [Decidable c] {A B : M α} {a b : α} (h1 : c → Ret A a) (h2 : ¬ c → Ret B b) : Ret (if c then A else B) (if c then a else b) := by
  by_cases h : c
  · rw [if_pos h, if_pos h]; exact h1 h
  · rw [if_neg h, if_neg h]; exact h2 h
theorem Ret.and {m1 m2 : M Bool} {a b : Bool} (h1 : Ret m1 a) (h2 : a = true → Ret m2 b) : Ret (mand m1 m2) (a && b) := fun post px q => h1 _ _ (by
  cases a with
  | true => exact h2 rfl post px q
  | false => exact q)
theorem Ret.or {m1 m2 : M Bool} {a b : Bool} (h1 : Ret m1 a) (h2 : a = false → Ret m2 b) : Ret (mor m1 m2) (a || b) := fun post px q => h1 _ _ (by
  cases a with
  | false => exact h2 rfl post px q
  | true => exact q)
theorem Ret.isD {k : Cf.Kd} {d : D} (h : NoObj d) : Ret (misD k d) (isD k d) := fun _ _ q => ⟨h, q⟩
theorem Ret.int {i : Int} : Ret (mint (.int i)) i := fun _ _ q => q
theorem Ret.str {i : Str} : Ret (mstr (.str i)) i := fun _ _ q => q
theorem Ret.lenT {ds : List D} : Ret (mlenD (.tup ds)) (ds.length : Int) := fun _ _ q => q
theorem Ret.lenL {ds : List D} : Ret (mlenD (.lst ds)) (ds.length : Int) := fun _ _ q => q
theorem Ret.lenDS {z : Str} (h : z.length ≤ 1000) : Ret (mlenD (.str z)) (z.length : Int) := fun _ _ q => ⟨Cf.size_ok h, q⟩
theorem Ret.lenS {z : Str} (h : z.length ≤ 1000) : Ret (mlenS z) (z.length : Int) := fun _ _ q => ⟨Cf.size_ok h, q⟩
theorem Ret.ixT {ds : List D} {i : Int} {d : D} (h : atI ds i = some d) : Ret (mixD (.tup ds) i) d := fun _ _ q => by rw [mixT_ap h]; exact q
theorem Ret.ixT0 {d : D} {ds : List D} : Ret (mixD (.tup (d :: ds)) 0) d := .ixT Cf.atI_zero
theorem Ret.ixT1 {d e : D} {ds : List D} : Ret (mixD (.tup (d :: e :: ds)) 1) e := .ixT (L2.atI_nat (j := 1) rfl)
theorem Ret.ixT2 {d e f : D} {ds : List D} : Ret (mixD (.tup (d :: e :: f :: ds)) 2) f := .ixT (L2.atI_nat (j := 2) rfl)
theorem Ret.ixT3 {d e f g : D} {ds : List D} : Ret (mixD (.tup (d :: e :: f :: g :: ds)) 3) g := .ixT (L2.atI_nat (j := 3) rfl)
theorem Ret.ninSg {c : Nat} {b : Str} : Ret (mninSg ⟨#[c]⟩ b) (!decide (c ∈ b.cps.toList)) := fun _ _ q => q
theorem Ret.inSg {c : Nat} {b : Str} : Ret (minSg ⟨#[c]⟩ b) (decide (c ∈ b.cps.toList)) := fun _ _ q => q
theorem Ret.signs {z : Str} (h : z.length ≤ 1000000) : Ret (msigns z) (signs z) := fun _ _ q => ⟨h, q⟩
theorem Ret.forR {xs : List α} {c0 : γ} {f : α → γ → M (Stp γ ρ)} (g : α → γ → Stp γ ρ) (hf : ∀ x ∈ xs, ∀ c, Ret (f x c) (g x c)) : Ret (forR xs c0 f) (go g xs c0) := fun post px q => forR_v (g := g) (fun x hx c Q q => hf x hx c Q px q) q
/-- nothing breaks the loop -/
theorem Ret.forRn {xs : List α} {f : α → Unit → M (Stp Unit ρ)} (hf : ∀ x ∈ xs, Ret (f x ()) (.next ())) : Ret (Mi.forR xs () f) (.inl ()) := fun post px q =>
  forR_i (fun _ => True) trivial (fun x c hx _ Q q => hf x hx Q px (q () trivial)) (fun _ _ => q)
theorem Ret.forM {xs : List α} {c0 : γ} {f : α → γ → M γ} (g : α → γ → γ) (hf : ∀ x ∈ xs, ∀ c, Ret (f x c) (g x c)) : Ret (Mi.forM xs c0 f) (xs.foldl (fun c x => g x c) c0) := by
  induction xs generalizing c0 with
  | nil => exact .r
  | cons x xs ih => exact .b (hf x List.mem_cons_self c0) (ih fun y h => hf y (List.mem_cons_of_mem _ h))
theorem mite_i {b : Bool} {A B : M α} {post : α → Prop} {px : Exn → Prop} (h1 : b = true → A post px) (h2 : b = false → B post px) : mite (mr b) A B post px := by
  show (if b = true then A else B) post px
  cases b with
  | true => exact h1 rfl
  | false => exact h2 rfl
/-- the test comes to b -/
theorem mite_r {m : M Bool} {b : Bool} {A B : M α} {post : α → Prop} {px : Exn → Prop} (h : Ret m b) (h1 : b = true → A post px) (h2 : b = false → B post px) : mite m A B post px := by
  rw [mite_ap]
  refine h _ _ ?_
  cases b with
  | true => exact h1 rfl
  | false => exact h2 rfl
theorem Ret.ixS {z : Str} {i : Int} {c : Nat} (l : z.length ≤ sizeLine) (h : atI z.cps.toList i = some c) : Ret (mixS z i) (⟨#[c]⟩ : Str) := fun post px q => by
  refine ⟨l, ?_⟩
  rw [h]
  exact q
theorem Ret.ix {xs : List α} {i : Int} {a : α} (h : atI xs i = some a) : Ret (mix xs i) a := fun post px q => by
  unfold mix
  rw [h]
  exact q
theorem Ret.addS {a b : Str} (l : a.length + b.length ≤ 1000) : Ret (maddS a b) (a ++ b) := fun _ _ q => ⟨Cf.size_ok l, q⟩
theorem Ret.addL {a b : List α} (l : a.length + b.length ≤ 1000000) : Ret (maddL a b) (a ++ b) := fun _ _ q => ⟨l, q⟩
theorem Ret.push {a : List α} {b : α} (l : a.length < 1000000) : Ret (mpush a b) (a ++ [b]) := fun _ _ q => ⟨l, q⟩
theorem Ret.mulI {a b : Int} (l : CMul a b) : Ret (mmulI a b) (a * b) := fun _ _ q => ⟨l, q⟩
theorem Ret.range {lo hi : Int} (l : -1000000 ≤ lo ∧ lo ≤ 1000000 ∧ -1000000 ≤ hi ∧ hi ≤ 1000000 ∧ hi - lo ≤ 1000000) : Ret (mrange lo hi) ((List.range (hi - lo).toNat).map fun (i : Nat) => lo + (i : Int)) := fun _ _ q => ⟨by omega, q⟩
theorem Ret.strI {i : Int} (l : i.natAbs.log2 < 1920) : Ret (mstrI i) (Str.ofString (toString i)) := fun _ _ q => ⟨l, q⟩
theorem Ret.same {x y : D} (h1 : plainD x = true) (h2 : plainD y = true) (h3 : x.depth < 8) : Ret (msame x y) (dsame x y) := fun _ _ q => ⟨⟨h1, h2, h3⟩, q⟩
end
end Mi

/-! texts joined; parts of a tuple; the text of an int or a text -/
namespace Mi
open Enc (enc)
open PySem L2 PySem.Spec PyProof.Rows
open Cf (Fresh)
section
variable {Z : Zx} {L : List (V × D)} {O : List (Addr × D)} {σ : L2.St} {α β γ δ : Type} [Enc α] [Enc β] [Enc δ]
def rJoinT (K : PySem.W.Frag) : V → List V → Hp → VK → Prop := fun x xs H Q => ∃ a p, ∃ ys : List Str, x = .str a ∧ xs = [.ref p] ∧ (SqL K H p (ys.map V.str) ∨ SqT K H p (ys.map V.str)) ∧
    (ys.map (·.length)).sum + ys.length * a.length ≤ 16777216 ∧ Q (.str (Txt.join a ys)) H
theorem mt_joinM {X : Cx} : MtR X "str.join" (rJoinT X.K) := mt_join
def mjoin (a : Str) (ys : List Str) : M Str := mreq ((ys.map (·.length)).sum + ys.length * a.length ≤ 16777216) (mr (Txt.join a ys))
theorem EV.join {to ta : TE} {m1 : M Str} {m2 : M (List Str)} (e1 : EV Z L O to σ m1) (e2 : EV Z L O ta σ m2) : EV Z L O (tBM Z.K "str" (rJoinT Z.K) to (tCons ta tNil)) σ (mb m1 fun a => mb m2 fun b => mjoin a b) := fun L1 H post px Q s hp hx hm k =>
  e1 L1 H _ px _ s hp hx hm fun a x H1 hp1 hm1 => by
    obtain rfl := is_str hp1.hd
    refine ⟨rfl, e2 _ H1 _ px _ (sub_cons s) hp1 hx hm1 fun b y H2 hp2 hm2 => ?_⟩
    obtain ⟨hz, hm2⟩ := hm2
    have hp3 := hp2.tail.tail.add (v := .str (Txt.join a b)) (d := .str (Txt.join a b)) fun G _ => .str _
    obtain ⟨G, F, W, h⟩ := hp2
    obtain ⟨q, ys, rfl, f1, l1, t1⟩ := is_lst h.x0
    obtain rfl := isL_strs t1
    exact ⟨a, q, b, rfl, rfl, .inl (.inl (.inl (h.g _ _ f1))), hz, k _ _ H2 hp3 hm2⟩
theorem EV.joinP {to ta : TE} {a : Str} {b : List Str} (e1 : EV Z L O to σ (mr a)) (e2 : EV Z L O ta σ (mr b)) : EV Z L O (tBM Z.K "str" (rJoinT Z.K) to (tCons ta tNil)) σ (mjoin a b) := EV.join e1 e2
/-- str of an int or of a text -/
def rStrIS : List V → Hp → VK → Prop := fun xs H Q => (∃ i, xs = [.int i] ∧ i.natAbs.log2 < 1920 ∧ Q (.str (toString i)) H) ∨ ∃ a, xs = [.str a] ∧ Q (.str a) H
theorem call_strIS {X : Cx} : CallR X (.type "str") rStrIS := CallR.or call_str_int SkE.call_str_str
def mstrD : D → M Str
  | .int i => mstrI i
  | .str z => mr z
  | _ => mstuck
theorem ok_strD : OkB Z rStrIS mstrD := fun L O H a x post px Q hp hx hm k => by
  cases a with
  | int i =>
    obtain rfl := is_int hp.hd
    exact .inl ⟨i, rfl, hm.1, k _ _ H (hp.tail.add fun G _ => .str _) hm.2⟩
  | str z =>
    obtain rfl := is_str hp.hd
    exact .inr ⟨z, rfl, k _ _ H (hp.tail.add fun G _ => .str _) hm⟩
  | _ => exact hm.elim
theorem EV.strD {ta : TE} {m1 : M D} (e1 : EV Z L O ta σ m1) : EV Z L O (tCB rStrIS (tCons ta tNil)) σ (mb m1 mstrD) := EV.cb1 (f := mstrD) ok_strD e1
theorem EV.strDP {ta : TE} {a : D} (e1 : EV Z L O ta σ (mr a)) : EV Z L O (tCB rStrIS (tCons ta tNil)) σ (mstrD a) := EV.cb1P (f := mstrD) ok_strD e1
/-- a part of a tuple, not the whole of it -/
def mcutT (d : D) (lo hi : Option Int) : M D := match d with
  | .tup ds => mreq (¬ (HT.sIx ds.length 0 lo = 0 ∧ HT.sIx ds.length ds.length hi = ds.length)) (mr (.tup (cutL ds lo hi)))
  | _ => mstuck
theorem EV.slT {te : TE} {tl th : TO} {m : M D} {ml mh : M (Option Int)} (e : EV Z L O te σ m) (el : EO Z L O tl σ ml) (eh : EO Z L O th σ mh) : EV Z L O (tSl (rSlT Z.K) te tl th) σ (mb m fun a => mb ml fun l => mb mh fun h => mcutT a l h) := fun L1 H post px Q s hp hx hm k =>
  e L1 H _ px _ s hp hx hm fun a x H1 hp1 hm1 => el _ H1 _ px _ (sub_cons s) hp1 hx hm1 fun lo H2 hp2 hm2 => eh _ H2 _ px _ (sub_cons s) hp2 hx hm2 fun hi H3 hp3 hm3 => by
    cases a with
    | tup ds =>
      obtain ⟨hw, hm3⟩ := hm3
      obtain ⟨G, F, W, h⟩ := hp3
      obtain ⟨p, xs, rfl, e, l, t⟩ := is_tup h.x0
      have n := t.len
      refine ⟨p, xs, rfl, sqT_mono h.g e, by rw [n]; exact hw, fun q hq => k _ _ _ (h.t1.new hq (.tup (.inl (.inl upd_same)) ?_ ?_)) hm3⟩
      · exact Nat.le_trans (cutV_length _ _ _) l
      · unfold cutV cutL
        rw [n]
        exact ((t.drop _).take _).mono (.self (h.g.free hq))
    | _ => exact hm3.elim
theorem EV.slTP {te : TE} {tl th : TO} {a : D} {lo hi : Option Int} (e : EV Z L O te σ (mr a)) (el : EO Z L O tl σ (mr lo)) (eh : EO Z L O th σ (mr hi)) : EV Z L O (tSl (rSlT Z.K) te tl th) σ (mcutT a lo hi) := EV.slT e el eh
end
end Mi

/-! texts cut at a sign; the int of a text -/
namespace Mi
open Enc (enc)
open PySem L2 PySem.Spec PyProof.Rows
open Cf (Fresh)
section
variable {Z : Zx} {L : List (V × D)} {O : List (Addr × D)} {σ : L2.St} {α β γ δ : Type} [Enc α] [Enc β] [Enc δ]
def rSplitT : V → List V → Hp → VK → Prop := fun x xs H Q => ∃ a b, x = .str a ∧ xs = [.str b] ∧ (b.length == 0) = false ∧ a.length + 2 ≤ sizeLine ∧ rNewStrs (Txt.split a b) H Q
theorem mt_splitM {X : Cx} : MtR X "str.split" rSplitT := mt_split
def msplit (a b : Str) : M (List Str) := mreq ((b.length == 0) = false ∧ a.length + 2 ≤ 1000000) (mr (Txt.split a b))
theorem isL_of_strs {K : PySem.W.Frag} {C : CT} {G : Hp} : ∀ ys : List Str, IsL K C G (ys.map V.str) (ys.map enc)
  | [] => .nil
  | y :: ys => .cons (.str y) (isL_of_strs ys)
theorem EV.split {to ta : TE} {m1 : M Str} {m2 : M Str} (e1 : EV Z L O to σ m1) (e2 : EV Z L O ta σ m2) : EV Z L O (tBM Z.K "str" rSplitT to (tCons ta tNil)) σ (mb m1 fun a => mb m2 fun b => msplit a b) := fun L1 H post px Q s hp hx hm k =>
  e1 L1 H _ px _ s hp hx hm fun a x H1 hp1 hm1 => by
    obtain rfl := is_str hp1.hd
    refine ⟨rfl, e2 _ H1 _ px _ (sub_cons s) hp1 hx hm1 fun b y H2 hp2 hm2 => ?_⟩
    obtain rfl := is_str hp2.hd
    obtain ⟨⟨h1, h2⟩, hm2⟩ := hm2
    have hl : a.length + 2 ≤ sizeLine := le_size h2
    refine ⟨a, b, rfl, rfl, h1, hl, fun p np => k (Txt.split a b) _ _ ?_ hm2⟩
    refine hp2.tail.tail.new np fun G hG nG => .lst upd_same ?_ (isL_of_strs _)
    rw [List.length_map]
    have := PyProof.Rows.split_le a b
    omega
theorem EV.splitP {to ta : TE} {a b : Str} (e1 : EV Z L O to σ (mr a)) (e2 : EV Z L O ta σ (mr b)) : EV Z L O (tBM Z.K "str" rSplitT to (tCons ta tNil)) σ (msplit a b) := EV.split e1 e2
def rIntS : List V → Hp → VK → Prop := fun xs H Q => ∃ a n, xs = [.str a] ∧ PySem.intText? a = some n ∧ a.length ≤ 640 ∧ Q (.int n) H
theorem call_intS {X : Cx} : CallR X (.type "int") rIntS := call_int_str
def mintS (a : Str) : M Int := match PySem.intText? a with
  | some n => mreq (a.length ≤ 640) (mr n)
  | none => mstuck
theorem ok_intS : OkB Z rIntS mintS := fun L O H a x post px Q hp hx hm k => by
  obtain rfl := is_str hp.hd
  unfold mintS at hm
  cases e : PySem.intText? a with
  | none => rw [e] at hm; exact hm.elim
  | some n =>
    rw [e] at hm
    exact ⟨a, n, rfl, e, hm.1, k n _ H (hp.tail.add fun G _ => .int n) hm.2⟩
theorem EV.intS {ta : TE} {m1 : M Str} (e1 : EV Z L O ta σ m1) : EV Z L O (tCB rIntS (tCons ta tNil)) σ (mb m1 mintS) := EV.cb1 (f := mintS) ok_intS e1
theorem EV.intSP {ta : TE} {a : Str} (e1 : EV Z L O ta σ (mr a)) : EV Z L O (tCB rIntS (tCons ta tNil)) σ (mintS a) := EV.cb1P (f := mintS) ok_intS e1
end
/-- a walk over a text's signs that ends at the first one that is none of some -/
def goS {ρ : Type} (p : Nat → Bool) (r : ρ) (x : Str) (_ : Unit) : Stp Unit ρ := match x.cps.toList with
  | [c] => if (!p c) = true then .ret r else .next ()
  | _ => .ret r
theorem go_goS {ρ : Type} (p : Nat → Bool) (r : ρ) (l : List Nat) : go (goS p r) (l.map fun c => (⟨#[c]⟩ : Str)) () = if l.all p = true then .inl () else .inr r := by
  induction l with
  | nil => rfl
  | cons c l ih =>
    rw [List.map_cons, List.all_cons]
    have e0 : goS p r (⟨#[c]⟩ : Str) () = if (!p c) = true then .ret r else .next () := rfl
    unfold go
    rw [e0]
    cases e : p c with
    | true => exact ih
    | false => rfl
theorem allS_ret {ρ : Type} {r : ρ} {z chars : Str} : Ret (Mi.forR (signs z) () (fun x_sign c_ => mite (mninSg x_sign chars) (mb (mr r) fun a => mr (Stp.ret a)) (mr (Stp.next ())))) (if z.cps.toList.all (fun c => decide (c ∈ chars.cps.toList)) = true then .inl () else .inr r) := by
  refine Ret.of (.forR (goS (fun c => decide (c ∈ chars.cps.toList)) r) ?_) (go_goS _ _ _)
  intro x hx c
  obtain ⟨a, ha, rfl⟩ := List.mem_map.mp hx
  exact .ite' .ninSg (fun _ => .b .r .r) (fun _ => .r)
section
variable {α : Type}
theorem Ret.split {a b : Str} (h : (b.length == 0) = false) (l : a.length ≤ 1000) : Ret (msplit a b) (Txt.split a b) := fun _ _ q => ⟨⟨h, by omega⟩, q⟩
theorem Ret.intS {a : Str} {n : Int} (h : PySem.intText? a = some n) (l : a.length ≤ 640) : Ret (mintS a) n := fun _ _ q => by
  unfold mintS; rw [h]; exact ⟨l, q⟩
theorem Ret.slS {a : Str} {l h : Option Int} (z : a.length ≤ 1000) : Ret (mreq (a.length ≤ sizeLine) (mr (cutS a l h))) (cutS a l h) := fun _ _ q => ⟨Cf.size_ok z, q⟩
theorem Ret.comp {β : Type} {xs : List α} {f : α → M β} {g : α → β} (h : ∀ x ∈ xs, Ret (f x) (g x)) : Ret (compM (fun _ => mr true) f xs) (xs.map g) := by
  induction xs with
  | nil => exact .r
  | cons x xs ih =>
    have e : compM (fun _ => mr true) f (x :: xs) = mb (f x) fun y => mb (compM (fun _ => mr true) f xs) fun ys => mr (y :: ys) := by
      funext post px
      rfl
    rw [e]
    exact .b (h x List.mem_cons_self) (.b (ih fun y hy => h y (List.mem_cons_of_mem _ hy)) .r)
end
/-! a loop whose turns are plain -/
section
variable {α γ : Type} {px : Exn → Prop}
theorem forM_g {xs : List α} {c0 : γ} {f : α → γ → M γ} {post : γ → Prop} (g : α → γ → γ) (B : Nat → γ → Prop) (h0 : B 0 c0) (hs : ∀ i x c, xs[i]? = some x → B i c → ∀ Q : γ → Prop, Q (g x c) → f x c Q px) (hB : ∀ i x c, xs[i]? = some x → B i c → B (i + 1) (g x c)) (hk : post (xs.foldl (fun c x => g x c) c0)) : forM xs c0 f post px := by
  induction xs generalizing c0 B with
  | nil => exact hk
  | cons x xs ih => exact hs 0 x c0 rfl h0 _ (ih (fun i => B (i + 1)) (hB 0 x c0 rfl h0) (fun i y c e h Q q => hs (i + 1) y c (by simpa using e) h Q q) (fun i y c e h => hB (i + 1) y c (by simpa using e) h) hk)
theorem Ret.forMg {xs : List α} {c0 : γ} {f : α → γ → M γ} (g : α → γ → γ) (B : Nat → γ → Prop) (h0 : B 0 c0) (hs : ∀ i x c, xs[i]? = some x → B i c → Ret (f x c) (g x c)) (hB : ∀ i x c, xs[i]? = some x → B i c → B (i + 1) (g x c)) : Ret (Mi.forM xs c0 f) (xs.foldl (fun c x => g x c) c0) := fun post px q =>
  forM_g g B h0 (fun i x c e h Q k => hs i x c e h Q px k) hB q
/-- a walk that ends with r at the first thing that p does not hold of -/
theorem Ret.forAll {ρ : Type} {xs : List α} {f : α → Unit → M (Stp Unit ρ)} (p : α → Bool) (r : ρ) (h : ∀ x ∈ xs, Ret (f x ()) (if p x = true then .next () else .ret r)) : Ret (Mi.forR xs () f) (if xs.all p = true then .inl () else .inr r) := by
  induction xs with
  | nil => exact .r
  | cons x xs ih =>
    have h1 := h x List.mem_cons_self
    have ih := ih fun y hy => h y (List.mem_cons_of_mem _ hy)
    show Ret (mb (f x ()) _) _
    refine .b h1 ?_
    rw [List.all_cons]
    cases e : p x with
    | true => rw [Bool.true_and]; exact ih
    | false => exact .r
end
theorem mdraw_g {n : Int} {post : Int → Prop} {px : Exn → Prop} (h : 0 < n ∧ n < 1000000000000000000000000000000000000000000000000000000000000) (k : ∀ d, 0 ≤ d → d < n → post d) : mdraw n post px :=
  ⟨h.1, Nat.lt_of_lt_of_le (PySem.Flt.log2_lt_of (k := 200) (by decide) (by omega)) (by decide), k⟩
theorem mulS {a b : Int} {post : Int → Prop} {px : Exn → Prop} (h : -1000000000000000000 < a ∧ a < 1000000000000000000) (k : post (a * b)) : mmulI a b post px := ⟨.inl ⟨by omega, by omega⟩, k⟩
theorem mulT {a b : Int} {post : Int → Prop} {px : Exn → Prop} (h : -1000000000000000000 < b ∧ b < 1000000000000000000) (k : post (a * b)) : mmulI a b post px := ⟨.inr ⟨by omega, by omega⟩, k⟩
theorem mix_b' {α : Type} {xs : List α} {i : Int} {post : α → Prop} {px : Exn → Prop} (h0 : 0 ≤ i) (h1 : i < xs.length) (k : ∀ a ∈ xs, post a) : mix xs i post px := by
  obtain ⟨j, rfl⟩ := Int.eq_ofNat_of_zero_le h0
  have hj : j < xs.length := by omega
  exact Ret.ix (L2.atI_nat (List.getElem?_eq_getElem hj)) _ _ (k _ (List.getElem_mem hj))
/-! bounds of texts, kept while one walks on -/
section
variable {px : Exn → Prop}
theorem addS_b {a b : Str} {n m : Nat} {post : Str → Prop} (ha : a.length ≤ n) (hb : b.length ≤ m) (l : n + m ≤ 1000000) (k : ∀ z : Str, z.length ≤ n + m → post z) : maddS a b post px := by
  have e : (a ++ b).length = a.length + b.length := by
    show (a.cps ++ b.cps).size = _
    rw [Array.size_append]; rfl
  exact ⟨by have := sizeLine_eq; omega, k _ (by omega)⟩
theorem cutS_len (a : Str) (l h : Option Int) : (cutS a l h).length ≤ a.length := by
  show (List.toArray _).size ≤ _
  rw [List.size_toArray, List.length_take, List.length_drop]
  have : a.cps.toList.length = a.length := Array.length_toList
  omega
theorem cut_b {a : Str} {l h : Option Int} {n : Nat} {post : Str → Prop} (ha : a.length ≤ n) (hn : n ≤ 1000000) (k : ∀ z : Str, z.length ≤ n → post z) : mreq (a.length ≤ sizeLine) (mr (cutS a l h)) post px :=
  ⟨by have := sizeLine_eq; omega, k _ (Nat.le_trans (cutS_len a l h) ha)⟩
theorem lenS_b {a : Str} {n : Nat} {post : Int → Prop} (ha : a.length ≤ n) (hn : n ≤ 1000000) (k : post (a.length : Int)) : mlenS a post px := ⟨by have := sizeLine_eq; omega, k⟩
structure LB (n B : Nat) (c : List Str) : Prop where
  l : c.length ≤ n
  b : ∀ z ∈ c, z.length ≤ B
theorem LB.nil {B : Nat} : LB 0 B [] := ⟨Nat.le_refl _, fun z h => by cases h⟩
theorem LB.cons {n B : Nat} {z : Str} {c : List Str} (h : z.length ≤ B) (t : LB n B c) : LB (n + 1) B (z :: c) := ⟨Nat.succ_le_succ t.l, fun y hy => by
  rcases List.mem_cons.mp hy with rfl | hy
  · exact h
  · exact t.b y hy⟩
theorem LB.app {n m B : Nat} {c e : List Str} (h : LB n B c) (t : LB m B e) : LB (n + m) B (c ++ e) := ⟨by rw [List.length_append]; have := h.l; have := t.l; omega, fun y hy => by
  rcases List.mem_append.mp hy with hy | hy
  · exact h.b y hy
  · exact t.b y hy⟩
theorem LB.mono {n m B D : Nat} {c : List Str} (h : LB n B c) (l : n ≤ m) (b : B ≤ D) : LB m D c := ⟨Nat.le_trans h.l l, fun z hz => Nat.le_trans (h.b z hz) b⟩
theorem addL_b {n m B : Nat} {c e : List Str} {post : List Str → Prop} (h : LB n B c) (t : LB m B e) (l : n + m ≤ 1000000) (k : ∀ x, LB (n + m) B x → post x) : maddL c e post px := ⟨by have := h.l; have := t.l; omega, k _ (h.app t)⟩
theorem push_b {n B : Nat} {c : List Str} {z : Str} {post : List Str → Prop} (h : LB n B c) (t : z.length ≤ B) (l : n < 1000000) (k : ∀ x, LB (n + 1) B x → post x) : mpush c z post px := ⟨Nat.lt_of_le_of_lt h.l l, k _ (h.app (.cons t .nil))⟩
end
end Mi

/-! list(o) where o's own __iter__ gives an iterator over a list -/
namespace PySem
section
variable {prog : Program} {w : World} {A : Around} {E : Value → Shared → Prop} {s : Shared}
theorem pyNext_end2 {it l : Addr} {i : Nat} {items : Array Value} {Q : Option Value → Shared → Prop} (hh : A.handled = none)
    (hit : s.heap.get? it = some (GNX.itObj l i)) (hl : s.heap.IsList l items) (hx : items[i]? = none)
    (hQ : ∀ h', Heap.ExtBut it s.heap h' → (∃ u, h'.get? it = some u) → Q none { s with heap := h' }) : wpAny (model prog w) A (pyNext (.ref it)) Q E s := by
  obtain ⟨ol, hol, _, nl, hdl⟩ := hl
  unfold pyNext
  refine wpAny_bind (wpAny_attempt (wpAny_callSpecial?_slot (name := Str.ofString "__next__") ⟨_, hit, rfl⟩ slot_listiter_next
    (wpAny_call_entry slot_listiter_next ⟨_, hit, rfl⟩ entry_listiter_next ?_ (args_listiter_next _))))
  show wpAny _ _ (field (.ref it) 0 >>= _) _ _ s
  refine wpAny_bind (wpAny_field hit rfl (x := .ref l) rfl ?_)
  show wpAny _ _ (if (Value.ref l == Value.none) = true then _ else _) _ _ s
  rw [if_neg (show ¬ ((Value.ref l == Value.none) = true) from Bool.false_ne_true)]
  show wpAny _ _ (field (.ref it) 1 >>= _) _ _ s
  refine wpAny_bind (wpAny_field hit rfl (x := .int i 0) rfl ?_)
  show wpAny _ _ (seqItems? (.ref l) >>= _) _ _ s
  refine wpAny_bind (wpAny_seqItems hol hdl ?_)
  simp only [Int.toNat_natCast, hx]
  refine wpAny_bind (wpAny_rule (wpAny_bind (wpAny_setField hit rfl (by simp) ?_)))
  show wpAny _ _ (newExc (.type "StopIteration") [] >>= _) _ _ _
  refine wpAny_bind ?_
  simp only [newExc, newTuple]
  refine wpAny_bind (wpAny_newObj_type ?_ (by size_fits))
  refine wpAny_bind (m := firstArgMember _ _) (wpAny_of_eq (a := Value.none) (by first | rfl | (simp only [firstArgMember]; rfl)) ?_)
  refine wpAny_newObj_type ?_ (by size_fits)
  simp only [raiseNew]
  refine wpAny_bind (wpAny_handled ?_)
  rw [show A.in1.handled = none from hh]
  refine wpAny_bind (wpAny_pure (wpAny_throw ?_))
  refine wpAny_bind (wpAny_isInstance (T := "StopIteration") (b := true) ⟨_, Heap.get?_push_size _ rfl, rfl⟩ isSubtype_stop ?_)
  exact wpAny_pure (hQ _ (((Heap.SameBut.update ..).extBut.push _).push _) ⟨_, Heap.get?_push_of_some _ (Heap.get?_push_of_some _ (Heap.get?_update_self _ hit (by rfl)))⟩)
theorem pyNext_item2 {it l : Addr} {i : Nat} {items : Array Value} {x : Value} {Q : Option Value → Shared → Prop} (hit : s.heap.get? it = some (GNX.itObj l i)) (hl : s.heap.IsList l items) (hx : items[i]? = some x)
    (hQ : ∀ h', h'.get? it = some (GNX.itObj l (i + 1)) → Heap.SameBut it s.heap h' → Q (some x) { s with heap := h' }) : wpAny (model prog w) A (pyNext (.ref it)) Q E s := by
  obtain ⟨ol, hol, _, nl, hdl⟩ := hl
  unfold pyNext
  refine wpAny_bind (wpAny_attempt (wpAny_callSpecial?_slot (name := Str.ofString "__next__") ⟨_, hit, rfl⟩ slot_listiter_next
    (wpAny_call_entry slot_listiter_next ⟨_, hit, rfl⟩ entry_listiter_next ?_ (args_listiter_next _))))
  show wpAny _ _ (field (.ref it) 0 >>= _) _ _ s
  refine wpAny_bind (wpAny_field hit rfl (x := .ref l) rfl ?_)
  show wpAny _ _ (if (Value.ref l == Value.none) = true then _ else _) _ _ s
  rw [if_neg (show ¬ ((Value.ref l == Value.none) = true) from Bool.false_ne_true)]
  show wpAny _ _ (field (.ref it) 1 >>= _) _ _ s
  refine wpAny_bind (wpAny_field hit rfl (x := .int i 0) rfl ?_)
  show wpAny _ _ (seqItems? (.ref l) >>= _) _ _ s
  refine wpAny_bind (wpAny_seqItems hol hdl ?_)
  simp only [Int.toNat_natCast, hx]
  refine wpAny_bind (wpAny_setField hit rfl (by simp) (wpAny_pure ⟨x, rfl, wpAny_pure (hQ _ ?_ (Heap.SameBut.update ..))⟩))
  rw [Heap.get?_update_self _ hit (by rfl)]
  exact congrArg some (GNX.next_obj l i)
end
end PySem
namespace L2
open PySem PySem.Spec PyProof.Rows
/-- a class with an own __iter__, without __len__ and __length_hint__ -/
structure ItF (K : PySem.W.Frag) (C fi : Addr) : Prop where
  it : PySem.W.findIn K (.ref C) "__iter__" = some (some (.ref fi))
  itF : PySem.W.isFn K (.ref fi) = true
  nolen : PySem.W.findIn K (.ref C) "__len__" = some none
  nohint : PySem.W.findIn K (.ref C) "__length_hint__" = some none
def AnyO (it : Addr) : HO := .ext fun h => ∃ u, h.get? it = some u
theorem anyO_ok {P : Program} {w : World} {H : Hp} {h : Heap} {it : Addr} {u : Obj} (e : h.get? it = some u) : ObjOk P w H h it (AnyO it) := ⟨⟨u, e⟩, ⟨_, e⟩, fun h1 h2 q k => by
  obtain ⟨u, q⟩ := q
  exact ⟨u, k _ q⟩⟩
section
variable {X : Cx} {pins : List (Addr × Obj)} {σ : St} {H : Hp} {s : Shared} {n : Nat} {C fi : Addr} {fdI : FuncData} {psI : List Str} {spI : Sp} {CI : CXT} {EI : XK} {A1 : Around} {q it l a : Addr}
theorem it_loop {zs : List V} {Rs : Result → Shared → Prop} (hh : A1.in1.handled = none) (hz : zs.length ≤ 1000000)
    :
    ∀ (k i : Nat) (H : Hp) (s : Shared), i + k = zs.length → Inv X pins σ H s → H q = some (.lst (zs.take i)) → H l = some (.lst zs) → H it = some (ItO l it i) → q ≠ l → q ≠ it → l ≠ it →
      (∀ H' s', Inv X pins σ H' s' → (∀ b, b ≠ it → H' b = upd H q (.lst zs) b) → Rs (.ok (.ret .none)) s') →
      codeAny (model X.prog X.w) A1 (.builtin "list.extend.loop" ⟨[.ref q, .ref it, .none], []⟩) Rs s := by
  intro k
  induction k with
  | zero =>
    intro i H s hk I hq hl hi n1 n2 n3 hd
    refine codeAny_builtin PySem.F.entry_extend_loop ?_
    rw [Around.under_plainId PySem.F.plain_extend_loop _]
    show wpAny _ A1.in1 (pyNext (.ref it) >>= _) _ _ s
    obtain ⟨its, rv, pl, hz'⟩ := I.list (.inl (.inl hl))
    refine wpAny_bind (pyNext_end2 hh (itO_get I hi) pl.isList (by rw [List.getElem?_toArray]; exact rv.none_of (List.getElem?_eq_none (by omega))) fun h' e he => ?_)
    obtain ⟨u, hu⟩ := he
    refine wpAny_pure ?_
    refine hd (upd H it (AnyO it)) _ (I.write (x := it) (e := it) (t' := s.toks) (by rw [hi]; exact True.intro) (.inl rfl) (fun b o nb z => e b o nb z) ⟨u, hu⟩ (anyO_ok hu)) fun b nb => ?_
    rw [upd_ne nb]
    by_cases hb : b = q
    · rw [hb, hq, upd_same, List.take_of_length_le (by omega)]
    · rw [upd_ne hb]
  | succ k ih =>
    intro i H s hk I hq hl hi n1 n2 n3 hd
    refine codeAny_builtin PySem.F.entry_extend_loop ?_
    rw [Around.under_plainId PySem.F.plain_extend_loop _]
    show wpAny _ A1.in1 (pyNext (.ref it) >>= _) _ _ s
    obtain ⟨its, rv, pl, hz'⟩ := I.list (.inl (.inl hl))
    have hv : zs[i]? = some zs[i] := List.getElem?_eq_getElem (by omega)
    obtain ⟨u, hu, ru⟩ := rv.get hv
    refine wpAny_bind (pyNext_item2 (itO_get I hi) pl.isList (by rw [List.getElem?_toArray]; exact hu) fun h' e' sb => ?_)
    have I1 : Inv X pins σ (upd H it (ItO l it (i + 1))) { s with heap := h' } := I.write (x := it) (e := it) (t' := s.toks) (by rw [hi]; exact True.intro) (.inl rfl) (fun b o nb z => (sb.2 b nb).trans z) ⟨_, e'⟩ (itO_ok e')
    have hq1 : upd H it (ItO l it (i + 1)) q = some (.lst (zs.take i)) := by rw [upd_ne n2]; exact hq
    show wpAny _ A1.in1 (updateSeq q (·.push u) >>= _) _ _ _
    obtain ⟨z, its2, k2, r2, hl2, e2⟩ := I1.lstM hq1
    have hlen : (zs.take i).length ≤ 1000000 := by rw [List.length_take]; omega
    have hsz := sizeLine_eq
    have r2l : its2.length = (zs.take i).length := r2.length.symm
    refine wpAny_bind (wpAny_updateSeq e2 rfl (wpAny_pure ⟨plainId_quiet PySem.F.plain_extend_loop _, ?_⟩) (by rw [List.size_toArray]; omega) (by show (its2.toArray.push u).size ≤ sizeLine + 1; rw [Array.size_push, List.size_toArray]; omega))
    have I2 := I1.lset (f := (·.push u)) (its' := its2 ++ [u]) (t' := s.toks) (ys := zs.take i ++ [zs[i]]) hq1 e2 (by simp) (r2.append (.cons ru .nil)) (by rw [List.length_append, List.length_singleton]; omega)
    have et : zs.take i ++ [zs[i]] = zs.take (i + 1) := by rw [List.take_succ, hv]; rfl
    rw [et] at I2
    refine ih (i + 1) _ _ (by omega) I2 upd_same (by rw [upd_ne (Ne.symm n1), upd_ne n3]; exact hl) (by rw [upd_ne (Ne.symm n2), upd_same]) n1 n2 n3 fun H' s' I' h' => hd H' s' I' fun b nb => ?_
    rw [h' b nb]
    by_cases hb : b = q
    · rw [hb, upd_same, upd_same]
    · rw [upd_ne hb, upd_ne hb, upd_ne hb, upd_ne nb]
theorem it_hint {M : Model} {A : Around} {E : Value → Shared → Prop} {Q : Bool → Shared → Prop} {K : PySem.W.Frag} {ox : Obj} {od : Option Obj} (hc : ItF K C fi) (hK : K.In s.heap) (J : PySem.W.InstAt s.heap a ox C od) (h : Q true s) :
    wpAny M A (Builtin.List.listLengthHint (.ref a)) Q E s := by
  unfold Builtin.List.listLengthHint
  refine wpAny_bind (wpAny_bind (J.type.here ((PySem.W.looks_findIn hK hc.nolen).here ?_)))
  refine PySem.W.KFB.if_not rfl ?_
  refine PySem.W.KFB.if_not rfl ?_
  refine wpAny_bind (wpAny_bind (J.type.here ((PySem.W.looks_findIn hK hc.nohint).here ?_)))
  exact wpAny_pure h
/-- what is asked of the def __iter__ -/
def itWish (C a q dx : Addr) (fs : List (Str × V)) (QQ : Hp → Prop) : VK := fun v H' => ∃ it l zs, v = .ref it ∧ H' it = some (ItO l it 0) ∧ H' l = some (.lst zs) ∧ zs.length ≤ 1000000 ∧ H' q = some (.lst []) ∧ H' a = some (.ins C dx fs) ∧ q ≠ l ∧ q ≠ it ∧ l ≠ it ∧
    ∀ H'', (∀ b, b ≠ it → H'' b = upd H' q (.lst zs) b) → QQ H''
theorem it_extend {Rs : Result → Shared → Prop} {dx : Addr} {fs : List (Str × V)} {QQ : Hp → Prop} (hcalm : A1.in1.handled = none) (sb : Sub X n A1.in1) (hc : ItF X.K C fi)
    (FI : FnOk X.prog X.w X.K X.mg X.base CI n fi fdI psI spI) (bI : Binds X.K fdI psI []) (xI : Passes CI X EI) (hsp : spI [.ref a] H (itWish C a q dx fs QQ) EI)
    (hdone : ∀ H s, Inv X pins σ H s → QQ H → Rs (.ok (.ret .none)) s) (herr : ∀ e s, X.xe e s → Rs (.error e) s)
    (I : Inv X pins σ H s) (ha : H a = some (.ins C dx fs)) (hq : H q = some (.lst [])) :
    wpAny (model X.prog X.w) A1.in1 (Builtin.List.listExtendWith (.ref q) (.ref a) .none)
      (fun fin s' => match fin with | .done f => Rs (.ok f) s' | .again c' => c'.quiet = true ∧ codeAny (model X.prog X.w) A1 c' Rs s') (fun e s' => Rs (.error e) s') s := by
  have hne : q ≠ a := ne_of hq ha (fun z => nomatch z)
  obtain ⟨mA, J, _⟩ := ins_get I.hok ha
  obtain ⟨od, J, _⟩ := J.look
  obtain ⟨m0, hF⟩ := I.fr
  unfold Builtin.List.listExtendWith
  refine wpAny_bind (J.type.here ?_)
  have h1 : Builtin.List.listSameRef (.ref q) (.ref a) = false := by simp [Builtin.List.listSameRef, hne]
  have h2 : (Value.ref C == Value.type "list") = false := rfl
  have h3 : (Value.ref C == Value.type "tuple") = false := rfl
  simp only [h1, h2, h3, Bool.or_false, Bool.false_eq_true, if_false]
  refine wpAny_bind (PySem.W.owit_iter hF I.ok.mod.kin J hc.it hc.itF ?_)
  have e0 : Env0 X.prog X.w X.K X.mg X.base A1.in1 X.stack s H := by
    have e := I.env0
    exact ⟨by rw [sb.fr]; exact e.frames, e.mod, e.bs, e.bsz, e.funs, e.frf, e.hok, e.bare⟩
  have hl := FI.len _ _ _ _ hsp
  have r2 : Vals [V.ref a] [Value.ref a] := .cons rfl .nil
  refine wpAny_call (codeAny_mono (FI.run A1.in1 X.stack s H ⟨[.ref a], []⟩ [.ref a] [.ref a] _ EI sb.room e0 (by
    have := bI s [.ref a] I.kIn (by simpa using hl)
    simpa using this) r2 hsp) fun r s' hq' => ?_)
  cases r with
  | error e => exact herr e s' (xI pins σ H s e s' I hq')
  | ok fl =>
    cases fl with
    | next => exact False.elim hq'
    | brk => exact False.elim hq'
    | cont => exact False.elim hq'
    | ret u =>
      obtain ⟨v, H', I', rv, it, l, zs, rfl, hi, hl, hz, hq2, ha2, n1, n2, n3, fin⟩ := I.after hq'
      cases rv
      obtain ⟨mA', J', _⟩ := ins_get I'.hok ha2
      obtain ⟨od', J', _⟩ := J'.look
      have hit := itO_get I' hi
      unfold PySem.W.OwitIt
      refine wpAny_specialOf (T := "list_iterator") ⟨_, hit, rfl⟩ slot_listiter_next.lookup ?_
      refine wpAny_bind (wpAny_holding (it_hint hc I'.kIn J' ?_))
      obtain ⟨z, its, k, r3, hl3, e3⟩ := I'.lstM hq2
      cases r3
      have loop : ∀ s'', Inv X pins σ H' s'' → codeAny (model X.prog X.w) A1 (.builtin "list.extend.loop" ⟨[.ref q, .ref it, .none], []⟩) Rs s'' := fun s'' I'' =>
        it_loop hcalm hz zs.length 0 H' s'' (by omega) I'' (by rw [List.take_zero]; exact hq2) hl hi n1 n2 n3 fun H3 s3 I3 h3 => hdone H3 s3 I3 (fin H3 h3)
      refine wpAny_ite_split (fun _ => ?_) (fun _ => wpAny_pure ⟨plainId_quiet PySem.F.plain_extend_loop _, loop s' I'⟩)
      refine wpAny_bind (wpAny_rule ?_)
      refine wpAny_bind ?_
      show wpAny _ _ (updateSeq q (·.push .none) >>= fun _ => updateSeq q (·.pop)) _ _ _
      refine wpAny_bind (wpAny_updateSeq e3 rfl ?_)
      have I2 := I'.lset (f := (·.push Value.none)) (its' := [Value.none]) (ys := [.non]) (t' := s'.toks) hq2 e3 (by simp) (.cons rfl .nil) (by rw [List.length_singleton, sizeLine_eq]; decide)
      obtain ⟨z4, its4, k4, r4, hl4, e4⟩ := I2.lstM upd_same
      obtain ⟨u4, rfl, ru4⟩ := r4.one
      refine wpAny_updateSeq e4 rfl ?_ (by show 1 ≤ sizeLine; rw [sizeLine_eq]; decide) (by show 0 ≤ sizeLine + 1; exact Nat.zero_le _)
      refine wpAny_pure ⟨plainId_quiet PySem.F.plain_extend_loop _, loop _ ?_⟩
      have I3 := I2.lset (f := (·.pop)) (its := [u4]) (its' := []) (ys := []) (t' := s'.toks) upd_same e4 (by rfl) .nil (Nat.zero_le _)
      rw [upd_upd] at I3
      have hH : upd H' q (.lst []) = H' := by
        funext b
        by_cases hb : b = q
        · rw [hb, upd_same, hq2]
        · rw [upd_ne hb]
      rw [hH] at I3
      exact I3
def rOwnIt (C : Addr) (spI : Sp) (EI : XK) : List V → Hp → VK → Prop := fun xs H Q => ∃ a dx fs, xs = [.ref a] ∧ H a = some (.ins C dx fs) ∧
  ∀ q, H q = none → spI [.ref a] (upd H q (.lst [])) (itWish C a q dx fs fun H'' => Q (.ref q) H'') EI
theorem call_listIt (hcalm : X.calm = true) (hc : ItF X.K C fi) (FI : FnOk X.prog X.w X.K X.mg X.base CI n fi fdI psI spI) (bI : Binds X.K fdI psI []) (xI : Passes CI X EI) (hr : Room (n + 2) X.A) : CallR X (.type "list") (rOwnIt C spI EI) := by
  intro pins s σ H xs us Q I rv h
  obtain ⟨a, dx, fs, rfl, ha, hq⟩ := h
  obtain ⟨u, rfl, ru⟩ := rv.one
  cases ru
  have sb : Sub X n X.A.in1.in1 := (Sub.in1 (Sub.in1 (⟨hr, rfl⟩ : Sub X (n + 2) X.A)))
  refine callType_codes (Q₁ := fun obj s₁ => obj = .ref s.heap.objs.size ∧ s₁ = { s with heap := s.heap.push { cls := .type "list", data := .seq #[] } }) PySem.F.called_list (PySem.F.typeCall_list_1 _) PySem.F.entry_list_init
    (code_list_new _ ⟨rfl, rfl⟩) fun obj s₁ h₁ => ?_
  obtain ⟨rfl, rfl⟩ := h₁
  have hS : (s.heap.push { cls := .type "list", data := .seq #[] }).get? s.heap.objs.size = some { cls := .type "list", data := .seq #[] } := Heap.get?_push_size _ rfl
  refine ⟨⟨_, hS, rfl⟩, PySem.F.args_list_init_2 _ _, ?_⟩
  have fr : H s.heap.objs.size = none := I.hok.fresh (Nat.le_refl _)
  have hsp := hq _ fr
  have I1 : Inv X pins σ (upd H s.heap.objs.size (.lst [])) { s with heap := s.heap.push { cls := .type "list", data := .seq #[] } } := I.lnew (its := []) (t' := s.toks) .nil (Nat.zero_le _)
  show wpAny _ _ (do let old ← Builtin.List.listItems (.ref s.heap.objs.size); Builtin.List.listUpdate (.ref s.heap.objs.size) (fun _ => #[]); letGo old.toList.reverse; Builtin.List.listExtendWith (.ref s.heap.objs.size) (.ref a) .none) _ _ _
  refine wpAny_bind ?_
  unfold Builtin.List.listItems
  refine wpAny_bind (wpAny_seqItems hS rfl (wpAny_pure ?_))
  show wpAny _ _ (updateSeq s.heap.objs.size (fun _ => #[]) >>= fun _ => letGo (#[] : Array Value).toList.reverse >>= fun _ => Builtin.List.listExtendWith (.ref s.heap.objs.size) (.ref a) .none) _ _ _
  refine wpAny_bind (wpAny_updateSeq hS rfl ?_)
  have I2 := I1.lset (f := fun _ => #[]) (its := []) (its' := []) (ys := []) (t' := s.toks) upd_same hS rfl .nil (Nat.zero_le _)
  rw [upd_upd] at I2
  refine wpAny_bind (wpAny_letGo ?_)
  have ha2 : upd H s.heap.objs.size (.lst []) a = some (.ins C dx fs) := by rw [upd_ne (ne_of_none ha fr)]; exact ha
  have hh : X.A.in1.in1.handled = none := I.ok.hd hcalm
  exact it_extend (A1 := X.A.in1) (Rs := wants (fun r s₂ => r = .none ∧ EP X pins σ Q (.ref s.heap.objs.size) s₂) X.xe) hh sb hc FI bI xI hsp
    (fun H' s' I' hR => ⟨rfl, .ref s.heap.objs.size, H', I', rfl, hR⟩) (fun e s' he => he) I2 ha2 upd_same
end
end L2

/-! lists or tuples; defaults; list(o); tests by own special methods -/
namespace L2
open PySem PySem.Spec PyProof.Rows
section
variable {P : Program} {w : World} {K : PySem.W.Frag} {mg : Str → Option Value} {base : Heap} {x qual : Str} {params : Arguments} {body : List Stmt} {scope : Scope} {dvs : List V} {kws : List (Str × V)} {f : Addr} {fd : FuncData}
theorem FunD.ok0 {N ps : List Str} {k : Nat} {sp : Sp} (F : FunD K x qual params body scope dvs kws f fd) (S : FnScope N ps scope) (len : ∀ vs H Q E, sp vs H Q E → vs.length = ps.length)
    (hbody : ∀ (cdv : Value) (A : Around) (outer : List Env) (s : Shared) (H : Hp) (vs : List V) (Q : VK) (E : XK), Room k (A.deeper (envOfC qual scope s.heap.objs.size f cdv)) → sp vs H Q E →
      ∃ t, PSs (cxOf CX0 P w K mg base N qual scope f cdv A outer s H E).nox body t ∧ t { nx := fun _ H' => Q .non H', rt := Q } (start N vs) H) : FnOk P w K mg base CX0 (k + 1) f fd ps sp := by
  obtain ⟨oc, od, dV, kV, doc, pm, an, cdv, ct, osl, rfl, lk, hcd, _, _⟩ := F.ex
  refine fn_of lk hcd S len fun A outer s H vs Q E hr hsp => ?_
  obtain ⟨t, h, q⟩ := hbody cdv A outer s H vs Q E hr hsp
  exact ⟨t, h.nox, q⟩
theorem FunD.okXD {N ps : List Str} {k : Nat} {sp : Sp} (F : FunD K x qual params body scope dvs kws f fd) (S : FnScope N ps scope) (len : ∀ vs H Q E, sp vs H Q E → vs.length = ps.length)
    (hbody : ∀ (cdv : Value) (A : Around) (outer : List Env) (s : Shared) (H : Hp) (vs : List V) (Q : VK) (E : XK), Room k (A.deeper (envOfC qual scope s.heap.objs.size f cdv)) → sp vs H Q E →
      ∃ t, PSs (cxOf (L2.CX P w) P w K mg base N qual scope f cdv A outer s H E) body t ∧ t { nx := fun _ H' => Q .non H', rt := Q } (start N vs) H) : FnOk P w K mg base (L2.CX P w) (k + 1) f fd ps sp := F.ok S len hbody
end
def iOr (a b : TI) : TI := fun σ H R => a σ H R ∨ b σ H R
theorem PI.or {X : Cx} {tg e : Expr} {a b : TI} (h : PI X tg e a) (k : PI X tg e b) : PI X tg e (iOr a b) := ⟨fun pins s σ H R I q => by
  rcases q with q | q
  · exact h.run pins s σ H R I q
  · exact k.run pins s σ H R I q⟩
theorem pi_sq {X : Cx} {tg l : Expr} {tl : TE} (hl : PE X l tl) : PI X tg l (iOr (iList X.K tl) (iTup X.K tl)) := (pi_list hl).or (pi_tup hl)
theorem op_ownNotInR {X : Cx} {C f : Addr} {fd : FuncData} {ps : List Str} {sp : Sp} {E : St → XK} {k : Nat} {CX : CXT} (o : OwnM X.K C "__contains__" f) (F : FnOk X.prog X.w X.K X.mg X.base CX k f fd ps sp) (hr : Room k X.A) (hb : Binds X.K fd ps []) (hx : ∀ σ, PassesAt CX X σ (E σ)) :
    OpRS X (compareOp .NotIn) (fun σ x y H Q => rOwnIn C sp E σ x y H fun r H' => ∃ b, r = .bl b ∧ Q (.bl (!b)) H') := fun pins s σ H x y u v Q I rx ry h =>
  op_ownNotIn o F hr hb hx pins s σ H x y u v Q I rx ry (by
    obtain ⟨a, dx, fs, e1, e2, q⟩ := h
    refine ⟨a, dx, fs, e1, e2, ?_⟩
    have e : (fun r H' => ∃ b, r = V.bl b ∧ ∃ b_1, V.bl b = V.bl b_1 ∧ Q (V.bl !b_1) H') = (fun r H' => ∃ b, r = V.bl b ∧ Q (V.bl !b) H') := by
      funext r H'
      apply propext
      constructor
      · rintro ⟨b, rfl, b', e, q⟩
        cases e
        exact ⟨b, rfl, q⟩
      · rintro ⟨b, rfl, q⟩
        exact ⟨b, rfl, b, rfl, q⟩
    rw [e] at q
    exact q)
end L2
namespace Mi
open Enc (enc)
open PySem L2 PySem.Spec PyProof.Rows
open Cf (Fresh)
/-- a list or a tuple of things of one kind -/
structure Sq (α : Type) where
  t : Bool
  l : List α
instance {α : Type} [Enc α] : Enc (Sq α) := ⟨fun q => if q.t = true then .tup (q.l.map enc) else .lst (q.l.map enc)⟩
section
variable {Z : Zx} {L : List (V × D)} {O : List (Addr × D)} {σ : L2.St} {α β γ δ : Type} [Enc α] [Enc β] [Enc γ] [Enc δ]
theorem EV.asF {t : TE} {m : M α} {f : α → β} (e : EV Z L O t σ m) (h : ∀ a, enc (f a) = enc a) : EV Z L O t σ (mb m fun a => mr (f a)) := fun L1 H post px Q s hp hx hm k =>
  e L1 H _ px Q s hp hx hm fun a v H' hp' hb => k (f a) v H' (by rw [h a]; exact hp') hb
theorem sq_l {l : List α} : enc (⟨false, l⟩ : Sq α) = enc l := rfl
theorem sq_t {l : Tp α} : enc (⟨true, l.l⟩ : Sq α) = enc l := rfl
theorem sq_e {a : Sq α} : enc a = if a.t = true then D.tup (a.l.map enc) else D.lst (a.l.map enc) := rfl
theorem EI.sqP {tl : TE} {a : Sq α} (e : EV Z L O tl σ (mr a)) : EI Z L O (iOr (iList Z.K tl) (iTup Z.K tl)) σ (mr a.l) := fun L1 H post px R s hp hx hm k => by
  obtain ⟨b, l⟩ := a
  cases b with
  | false => exact .inl (EI.list (e.asP (b := l) rfl) L1 H post px R s hp hx hm k)
  | true => exact .inr (EI.tupP (e.asP (b := (⟨l⟩ : Tp α)) rfl) L1 H post px R s hp hx hm k)
/-! ### defaults -/
theorem Pt.addR {H : Hp} (h : Pt Z L O H) {v : V} {d : D} (hd : ∀ G, Is Z.K Z.C G v d) : Pt Z (L ++ [(v, d)]) O H := by
  obtain ⟨G, F, W, h⟩ := h
  exact ⟨G, F, W, { h with l := fun x hx => by rcases List.mem_append.mp hx with e | e; (· exact h.l x e); (· rw [List.mem_singleton.mp e]; exact hd G) }⟩
theorem CallN.add {K : PySem.W.Frag} {C : CT} {R : Hp → Prop} {m : M α} {H : Hp} {Q : VK} {v : V} {d : D} (hd : ∀ G, Is K C G v d) (h : CallN K C R L m H Q) : CallN K C R (L ++ [(v, d)]) m H Q := by
  obtain ⟨G0, F0, post, px, hp, hm, hq⟩ := h
  exact ⟨G0, F0, post, px, hp.addR hd, hm, hq⟩
theorem Call.add {K : PySem.W.Frag} {C : CT} {R : Hp → Prop} {m : M α} {H : Hp} {Q : VK} {E : XK} {v : V} {d : D} (hd : ∀ G, Is K C G v d) (h : Call K C R L m H Q E) : Call K C R (L ++ [(v, d)]) m H Q E := by
  obtain ⟨G0, F0, post, px, hp, hm, hq⟩ := h
  exact ⟨G0, F0, post, px, hp.addR hd, hm, hq⟩
theorem CallI.add {K : PySem.W.Frag} {C : CT} {c : Str} {x : Addr} {m : M α} {H : Hp} {Q : VK} {E : XK} {v : V} {d : D} (hd : ∀ G, Is K C G v d) (h : CallI K C c x L m H Q E) : CallI K C c x (L ++ [(v, d)]) m H Q E := by
  obtain ⟨G0, F0, post, px, hp, hm, hq⟩ := h
  exact ⟨G0, F0, post, px, hp.addR hd, hm, hq⟩
theorem CallIN.add {K : PySem.W.Frag} {C : CT} {c : Str} {x : Addr} {m : M α} {H : Hp} {Q : VK} {v : V} {d : D} (hd : ∀ G, Is K C G v d) (h : CallIN K C c x L m H Q) : CallIN K C c x (L ++ [(v, d)]) m H Q := by
  obtain ⟨G0, F0, post, px, hp, hm, hq⟩ := h
  exact ⟨G0, F0, post, px, hp.addR hd, hm, hq⟩
theorem is_emp {K : PySem.W.Frag} {C : CT} {a : Addr} (h : ∀ H, SqT K H a []) (G : Hp) : Is K C G (.ref a) (.tup []) := .tup (h G) (Nat.zero_le _) .nil
/-! ### list(o) -/
theorem Pt.junk {H H' : Hp} {it : Addr} (h : Pt Z L O H) (f : Fresh H it) (e : ∀ b, b ≠ it → H' b = H b) : Pt Z L O H' := by
  obtain ⟨G, F, W, h⟩ := h
  have sub : ∀ {A : Hp}, Sub A H → Sub A H' := fun {A} s b o q => by
    have n : b ≠ it := fun z => by rw [z, s.free f] at q; cases q
    rw [e b n]; exact s b o q
  exact ⟨G, F, W, { h with g := sub h.g, f := sub h.f, w := sub h.w }⟩
/-- an __iter__ that gives an iterator over the field f -/
def spIter (B : Addr) (f : Str) : Sp := fun vs H Q _ => ∃ a A dx fs l zs, vs = [.ref a] ∧ (H a = some (.ins A dx fs) ∧ B = A) ∧ fs.lookup f = some (.ref l) ∧ H l = some (.lst zs) ∧ ∀ it, H it = none → Q (.ref it) (upd H it (ItO l it 0))
theorem EV.listIt {c f : Str} {A : Addr} {E : XK} {ta : TE} {m : M α} (g : α → List β) (e : EV Z L O ta σ m) (ha : Z.C c = some A) (h : ∀ a, ∃ ns ds, enc a = .obj c ns ds ∧ (ns.zip ds).lookup f = some (enc (g a))) : EV Z L O (tCB (rOwnIt A (spIter A f) E) (tCons ta tNil)) σ (mb m fun a => mr (g a)) := fun L1 H post px Q s hp hx hm k =>
  e L1 H _ px _ s hp hx hm fun a v H1 hp1 hm1 => by
    obtain ⟨G, F, W, h1⟩ := id hp1
    obtain ⟨ns, ds, e1, e2⟩ := h a
    have hv := h1.x0
    rw [e1] at hv
    obtain ⟨p, A', dx, fs, rfl, g1, g2, g3, t⟩ := is_obj hv
    obtain rfl : A' = A := Option.some.inj (g2.symm.trans ha)
    obtain ⟨u, q1, q2⟩ := lookup_isL g3 t e2
    obtain ⟨l, zs, rfl, g4, g5, g6⟩ := is_lst q2
    refine ⟨p, dx, fs, rfl, h1.g _ _ g1, fun q hq => ?_⟩
    have np : p ≠ q := fun z => by rw [z, h1.g.free hq] at g1; cases g1
    have nl : l ≠ q := fun z => by rw [z, h1.g.free hq] at g4; cases g4
    refine ⟨p, _, dx, fs, l, zs, rfl, ⟨by rw [upd_ne np]; exact h1.g _ _ g1, rfl⟩, q1, by rw [upd_ne nl]; exact h1.g _ _ g4, fun it hit => ?_⟩
    obtain ⟨nq, hit'⟩ := Cf.upd_none hit
    have nit : ∀ b o, H1 b = some o → b ≠ it := fun b o e z => by rw [z, hit'] at e; cases e
    have npi := nit p _ (h1.g _ _ g1)
    have nli := nit l _ (h1.g _ _ g4)
    refine ⟨it, l, zs, rfl, upd_same, by rw [upd_ne nli, upd_ne nl]; exact h1.g _ _ g4, g5, by rw [upd_ne (Ne.symm nq), upd_same], by rw [upd_ne npi, upd_ne np]; exact h1.g _ _ g1, Ne.symm nl, Ne.symm nq, nli, fun H'' hH => ?_⟩
    have hnew : Pt Z ((.ref q, enc (g a)) :: L1) O (upd H1 q (.lst zs)) := (h1.new (d := enc (g a)) hq (.lst upd_same g5 (g6.mono (.self (h1.g.free hq))))).less (pk (.head _) fun z hz => .tail _ (.tail _ hz))
    refine k (g a) _ H'' (hnew.junk (it := it) ?_ fun b nb => ?_) hm1
    · show upd H1 q (.lst zs) it = none
      rw [upd_ne nq]; exact hit'
    · rw [hH b nb]
      by_cases hb : b = q
      · rw [hb, upd_same, upd_same]
      · rw [upd_ne hb, upd_ne nb, upd_ne hb, upd_ne hb]
/-- o's __iter__ -/
theorem kr_iter {H : Hp} {p A dx : Addr} {fs : List (Str × V)} {f : Str} {l : Addr} {Q : VK} (ea : H p = some (.ins A dx fs)) (el : fs.lookup f = some (.ref l)) {zs : List V} (hl : H l = some (.lst zs)) (q : ∀ it, H it = none → Q (.ref it) (upd H it (ItO l it 0))) : (∃ (l : Addr) (zs : List V), [V.ref l] = [.ref l] ∧ SqL Z.K H l zs ∧ ∀ it, H it = none → Q (.ref it) (upd H it (ItO l it 0))) := ⟨l, zs, rfl, .inl (.inl hl), q⟩
/-- x not in o -/
theorem EV.ownNin {c : Str} {A : Addr} {sp : Sp} {E : L2.St → XK} {to ti : TE} {mo : M α} {mi : M δ} {k : α → δ → M Bool} (e1 : EV Z L O ti σ mi) (e0 : EV Z L O to σ mo) (ha : Z.C c = some A) (ho : ∀ a : α, ObjIs c (enc a))
    (hc : ∀ (a : α) (b : δ) (x y : V) (H : Hp) (Q : VK), CallN Z.K Z.C R0 [(x, enc a), (y, enc b)] (k a b) H Q → sp [x, y] H Q (E σ)) : EV Z L O (tOpS (fun σ x y H Q => rOwnIn A sp E σ x y H fun r H' => ∃ b, r = .bl b ∧ Q (.bl (!b)) H') ti to) σ (mb mi fun b => mb mo fun a => mb (k a b) fun r => mr (!r)) := fun L1 H post px Q s hp hx hm kk =>
  e1 L1 H _ px _ s hp hx hm fun b y H1 hp1 hm1 => e0 _ H1 _ px _ (sub_cons s) hp1 hx hm1 fun a x H2 hp2 hm2 => by
    obtain ⟨G, F, W, h2⟩ := hp2
    obtain ⟨p, dx, fs, rfl, ea⟩ := h2.ins List.mem_cons_self ha (ho a)
    refine ⟨p, dx, fs, rfl, ea, hc a b _ _ H2 _ (call_n (ps := [(.ref p, enc a), (y, enc b)]) (L1 := L1) (h2.pt.less (pk (.head _) (pk (.tail _ (.head _)) fun z hz => .tail _ (.tail _ hz)))) hm2 fun r v H' hp' hr => ?_)⟩
    obtain rfl := is_bl hp'.hd
    exact ⟨r, rfl, r, rfl, kk (!r) _ H' (hp'.tail.add fun G _ => .bl _) hr⟩
end
end Mi

/-! classmethods; defs with *args -/
namespace L2
open PySem PySem.Spec PyProof.Rows
section
variable {X : Cx} {CX : CXT} {k : Nat} {C p g : Addr} {mc : Value} {sp : Sp} {E : XK} {o : Expr} {m : Str} {pos apos : Pos} {ta : TE} {pl : Sem Bool}
theorem pe_cmeth0 (he : PE X o ta) (r : ClX.CRead X.K C mc) (c : ClX.CMet X.K C mc m p g) (F : FnR X.prog X.w X.K X.mg X.base CX k g sp) (hr : Room k X.A) (hx : Passes CX X E)
    (ht : eval (.Call (.Attribute o m apos) [] [] pos) X.env = (do
      let ov ← eval o X.env
      standAt apos.atName
      let (f, first) ← holding [ov] (getMethod ov m pl)
      callWith pos f first (backTo pos (starEach [] X.env)) (backToKw pos (keywordEach [] X.env))) := by rfl) :
    PE X (.Call (.Attribute o m apos) [] [] pos) (ClX.tCMeth C sp E ta tNil) := by
  refine ⟨fun pins s σ H Q I h => ?_⟩
  refine PySem.W.methodCall_KW (pl := pl) (thn (he.run pins s σ H _ I h) fun u s1 ⟨x, H1, I1, rx, ex, q⟩ => ?_) ht
  subst ex
  obtain rfl : u = Value.ref C := rx
  refine ClX.getmethcm_ok I1 r c fun s2 I2 => ?_
  exact PySem.W.callWith_M0 (first := []) ⟨ClX.pin_at I2, I2.kIn⟩ c.fi (ClX.run_cm F hr hx I2 .nil q)
end
section
variable {X : Cx} {CX : CXT} {k : Nat} {C f : Addr} {fd : FuncData} {ps : List Str} {sp : Sp} {E : XK} {x : Str} {p pos : Pos} {e : Expr} {es : List Expr} {t : TA} {dvs : List V} {ds : List Value}
/-- x(e, ..), x a local name that holds the class C -/
def tMakeL (C : Addr) (sp : Sp) (dvs : List V) (E : XK) (i : Nat) (t : TA) : TE := fun σ H Q => σ[i]? = some (some (.ref C)) ∧ tMake C sp dvs E t σ H Q
theorem pe_makeL {i : Nat} (hN : X.N[i]? = some x) (hv : Vis X.env.scope x) (M : Mk X.K C f) (F : FnOk X.prog X.w X.K X.mg X.base CX k f fd ps sp) (hr : Room (k + 1) X.A) (hb : Binds X.K fd ps ds) (hd : Vals dvs ds) (hx : Passes CX X E)
    (ha : PA X (e :: es) t) (hdb : (x == ("__debug__" : Str)) = false := by decide) (hcd : (x == ("__classdict__" : Str)) = false := by decide) (he : starEach (e :: es) X.env = (false, eval e X.env) :: starEach es X.env := by rfl) (hpl : (backTo pos (starEach es X.env)).any (·.1) = false := by rfl) :
    PE X (.Call (.Name x p) (e :: es) [] pos) (tMakeL C sp dvs E i t) := by
  refine ⟨fun pins s σ H Q I h => ?_⟩
  obtain ⟨hs, q⟩ := h
  refine wpAny_Call_Name_kw (thn ((pe_var (pos := p) hN hv hdb hcd).run pins s σ H (fun v H' => v = .ref C ∧ tMake C sp dvs E t σ H' Q) I ⟨_, hs, rfl, q⟩) fun u s1 ⟨v, H1, I1, rv, ev, q1⟩ => ?_)
  subst ev
  obtain rfl : u = Value.ref C := rv
  refine PySem.W.callWith_K (h₀ := X.base) I1.ok.mod.kin M.kp (thn (ha.run pos pins s1 σ H1 _ I1 q1) fun us s2 ⟨vs, H2, I2, r, q2⟩ => ⟨I2.kIn, ?_⟩) he hpl
  exact run_make M F hr hb hd hx I2 r q2
/-- x(e, ..), x a def of the module, by a positional promise -/
theorem pe_callR (F : FnR X.prog X.w X.K X.mg X.base CX k f sp) (hr : Room k X.A) (hg : Gl X x) (hm : X.mg x = some (.ref f)) (hk : PySem.W.keepIn X.K (.ref f) = true) (hx : Passes CX X E) (ha : PA X (e :: es) t) (hd : (x == ("__debug__" : Str)) = false := by decide)
    (he : starEach (e :: es) X.env = (false, eval e X.env) :: starEach es X.env := by rfl) (hpl : (backTo pos (starEach es X.env)).any (·.1) = false := by rfl) :
    PE X (.Call (.Name x p) (e :: es) [] pos) (tCall sp [] E t) := by
  refine ⟨fun pins s σ H Q I h => ?_⟩
  refine wpAny_Call_Name_kw (ld_glob I hg hm ?_ hd)
  refine PySem.W.callWith_K (h₀ := X.base) I.ok.mod.kin hk (thn (ha.run pos pins s σ H _ I h) fun us s1 ⟨vs, H1, I1, r, q⟩ => ⟨I1.kIn, ?_⟩) he hpl
  have q : sp (vs ++ []) H1 Q E := q
  rw [List.append_nil] at q
  exact wpAny_call (run_fnR F hr hx I1 r q)
theorem pe_callR0 (F : FnR X.prog X.w X.K X.mg X.base CX k f sp) (hr : Room k X.A) (hg : Gl X x) (hm : X.mg x = some (.ref f)) (hk : PySem.W.keepIn X.K (.ref f) = true) (hx : Passes CX X E) (hd : (x == ("__debug__" : Str)) = false := by decide) :
    PE X (.Call (.Name x p) [] [] pos) (tCall sp [] E tNil) := by
  refine ⟨fun pins s σ H Q I h => ?_⟩
  refine wpAny_Call_Name_kw (ld_glob I hg hm ?_ hd)
  exact PySem.W.callWith_K0 I.kIn hk (wpAny_call (run_fnR (us := []) F hr hx I .nil h))
/-- the promise of a def with *args: n written parameters, then the tuple -/
def starSp (n : Nat) (sp : Sp) : Sp := fun vs H Q E => ∃ ws rest, vs = ws ++ rest ∧ ws.length = n ∧ rest.length ≤ sizeLine ∧ ∀ p, H p = Option.none → sp (ws ++ [V.ref p]) (upd H p (.tup rest)) Q E
end
open Calls in
theorem abs_K {prog : Program} {w : World} {A : Around} {E : Value → Shared → Prop} {s : Shared} {K : PySem.W.Frag} {x C L f : Addr} {h₀ : Heap} {m : Str → Option Value} {ox : Obj} {od : Option Obj} {Q : Value → Shared → Prop} (F : Fr h₀ L s.heap m) (X₀ : K.In h₀) (I : PySem.W.InstAt s.heap x ox C od) (hs : PySem.W.findIn K (.ref C) "__abs__" = some (some (.ref f))) (hf : PySem.W.isFn K (.ref f) = true)
    (h : wpAny (model prog w) A.in1 (call (.ref f) [.ref x]) Q E s) : wpAny (model prog w) A (call (.builtin "abs") [.ref x]) Q E s := by
  refine Calls.call_function_entry kind_abs plain_abs entry_abs (args_abs _) ?_
  unfold Builtin.«abs»
  refine wpAny_bind (m := oneArg "abs" _) (wpAny_pure ?_)
  refine wpAny_bind (m := callSpecial? (.ref x) (Str.ofString "__abs__")) (PySem.W.special_fn (X₀.keeps F.keep) I hs (beq_iff_eq.mp hf) (wpAny_mono h (fun r s' hr => ?_) fun _ _ y => y))
  exact wpAny_pure ⟨_, rfl, hr⟩
section
variable {X : Cx} {CX : CXT} {k : Nat} {C f : Addr} {fd : FuncData} {ps : List Str} {sp : Sp}
/-- abs(o) -/
theorem cr_ownAbs (o : OwnM X.K C "__abs__" f) (F : FnOk X.prog X.w X.K X.mg X.base CX k f fd ps sp) (hr : Room (k + 1) X.A) (hb : Binds X.K fd ps []) (hx : ∀ σ, PassesAt CX X σ E0) :
    CallR X (.builtin "abs") (fun xs H Q => ∃ a dx fs, xs = [.ref a] ∧ H a = some (.ins C dx fs) ∧ sp xs H Q (E0 : XK)) := by
  intro pins s σ H xs us Q I r h
  obtain ⟨a, dx, fs, rfl, ea, q⟩ := h
  cases r with
  | cons rx rr =>
    cases rr
    rename_i u
    obtain rfl : u = Value.ref a := rx
    obtain ⟨mA, M, _⟩ := ins_get I.hok ea
    obtain ⟨od, J, _⟩ := M.look
    obtain ⟨m, hF⟩ := I.fr
    exact abs_K hF I.ok.mod.kin J o.at_ o.fn (run_in (E := fun _ => E0) F hr.in1 rfl hb hx I (.cons rel_ref .nil) q)
end
section
variable {P : Program} {w : World} {K : PySem.W.Frag} {mg : Str → Option Value} {base : Heap} {x qual pv : Str} {st : Stmt} {f : Addr} {fd : FuncData} {N ps : List Str} {k : Nat} {sp : Sp}
theorem Fun.star0 (F : Fun K x qual st f fd) (S : FnScope N (ps ++ [pv]) (defScope st))
    (hb : ∀ (kV doc pm : Value) (an : Option Addr) (cdv ct : Value) (us rest : List Value), us.length = ps.length → bindArgs (PySem.W.fnOf x qual (defArgs st) (defBody st) (defScope st) .none kV doc pm an cdv ct) ⟨us ++ rest, []⟩ = (newTuple rest >>= fun t => pure (ps.zip us ++ [(pv, t)])))
    (hbody : ∀ (cdv : Value) (A : Around) (outer : List Env) (s : Shared) (H : Hp) (vs : List V) (Q : VK) (E : XK), Room k (A.deeper (envOfC qual (defScope st) s.heap.objs.size f cdv)) → sp vs H Q E →
      ∃ t, PSs (cxOf CX0 P w K mg base N qual (defScope st) f cdv A outer s H E).nox (defBody st) t ∧ t { nx := fun _ H' => Q .non H', rt := Q } (start N vs) H) : FnR P w K mg base CX0 (k + 1) f (starSp ps.length sp) := by
  obtain ⟨oc, od, kV, doc, pm, an, cdv, ct, osl, rfl, lk, hcd⟩ := F.ex
  refine StX.fn_star lk hcd S StX.cxUp_none (hb kV doc pm an cdv ct) fun A outer s H vs Q E hr h => ?_
  obtain ⟨t, h1, q⟩ := hbody cdv A outer s H vs Q E hr h
  exact ⟨t, h1.nox, q⟩
theorem Fun.starX (F : Fun K x qual st f fd) (S : FnScope N (ps ++ [pv]) (defScope st))
    (hb : ∀ (kV doc pm : Value) (an : Option Addr) (cdv ct : Value) (us rest : List Value), us.length = ps.length → bindArgs (PySem.W.fnOf x qual (defArgs st) (defBody st) (defScope st) .none kV doc pm an cdv ct) ⟨us ++ rest, []⟩ = (newTuple rest >>= fun t => pure (ps.zip us ++ [(pv, t)])))
    (hbody : ∀ (cdv : Value) (A : Around) (outer : List Env) (s : Shared) (H : Hp) (vs : List V) (Q : VK) (E : XK), Room k (A.deeper (envOfC qual (defScope st) s.heap.objs.size f cdv)) → sp vs H Q E →
      ∃ t, PSs (cxOf (L2.CX P w) P w K mg base N qual (defScope st) f cdv A outer s H E) (defBody st) t ∧ t { nx := fun _ H' => Q .non H', rt := Q } (start N vs) H) : FnR P w K mg base (L2.CX P w) (k + 1) f (starSp ps.length sp) := by
  obtain ⟨oc, od, kV, doc, pm, an, cdv, ct, osl, rfl, lk, hcd⟩ := F.ex
  exact StX.fn_star lk hcd S StX.cxUp (hb kV doc pm an cdv ct) fun A outer s H vs Q E hr h => hbody cdv A outer s H vs Q E hr h
end
end L2
namespace Mi
open Enc (enc)
open PySem L2 PySem.Spec PyProof.Rows
open Cf (Fresh)
section
variable {Z : Zx} {L : List (V × D)} {O : List (Addr × D)} {σ : L2.St} {α β γ δ : Type} [Enc α] [Enc β] [Enc γ] [Enc δ]
theorem zip_app {vs : List V} {ds : List D} {v : V} {d : D} : ∀ {vs : List V} {ds : List D}, vs.length = ds.length → (vs ++ [v]).zip (ds ++ [d]) = vs.zip ds ++ [(v, d)]
  | [], [], _ => rfl
  | _ :: vs, _ :: ds, h => by
    show _ :: (vs ++ [v]).zip (ds ++ [d]) = _
    rw [zip_app (vs := vs) (ds := ds) (by simpa using h)]; rfl
/-- some arguments become a tuple -/
theorem Pt.star {H : Hp} {ws rest : List V} {e1 e2 : List D} {p : Addr} (h : Pt Z ((ws ++ rest).zip (e1 ++ e2)) O H) (l1 : ws.length = e1.length) (l2 : rest.length = e2.length) (hz : rest.length ≤ 1000000) (hp : Fresh H p) : Pt Z (ws.zip e1 ++ [(.ref p, .tup e2)]) O (upd H p (.tup rest)) := by
  obtain ⟨G, F, W, h⟩ := h
  have hr : IsL Z.K Z.C G rest e2 := zip_is l2 fun x hx => h.l x (by rw [List.zip_append l1]; exact List.mem_append_right _ hx)
  refine (h.new (d := .tup e2) hp (.tup (.inl (.inl upd_same)) hz (hr.mono (.self (h.g.free hp))))).less fun x hx => ?_
  rcases List.mem_append.mp hx with e | e
  · exact List.mem_cons_of_mem _ (by rw [List.zip_append l1]; exact List.mem_append_left _ e)
  · rw [List.mem_singleton.mp e]; exact List.mem_cons_self
theorem CallN.star {K : PySem.W.Frag} {C : CT} {R : Hp → Prop} {m : M α} {H : Hp} {Q : VK} {ws rest : List V} {e1 e2 : List D} {p : Addr} (h : CallN K C R ((ws ++ rest).zip (e1 ++ e2)) m H Q) (l1 : ws.length = e1.length) (l2 : rest.length = e2.length) (hz : rest.length ≤ 1000000) (hp : Fresh H p) : CallN K C R (ws.zip e1 ++ [(.ref p, .tup e2)]) m (upd H p (.tup rest)) Q := by
  obtain ⟨G0, F0, post, px, hq, hm, k⟩ := h
  exact ⟨G0, F0, post, px, hq.star l1 l2 hz hp, hm, k⟩
theorem Call.star {K : PySem.W.Frag} {C : CT} {R : Hp → Prop} {m : M α} {H : Hp} {Q : VK} {E : XK} {ws rest : List V} {e1 e2 : List D} {p : Addr} (h : Call K C R ((ws ++ rest).zip (e1 ++ e2)) m H Q E) (l1 : ws.length = e1.length) (l2 : rest.length = e2.length) (hz : rest.length ≤ 1000000) (hp : Fresh H p) : Call K C R (ws.zip e1 ++ [(.ref p, .tup e2)]) m (upd H p (.tup rest)) Q E := by
  obtain ⟨G0, F0, post, px, hq, hm, hx, k⟩ := h
  exact ⟨G0, F0, post, px, hq.star l1 l2 hz hp, hm, hx, k⟩
/-! ### classmethods -/
theorem EV.cmN {A : Addr} {sp : Sp} {E : XK} {t : TA} {m : M γ} {ds : γ → List D} {f : γ → M α} (e : EA Z L O t σ m ds) (hc : ∀ g vs H Q, vs.length = (ds g).length → CallN Z.K Z.C R0 (vs.zip (ds g)) (f g) H Q → sp (.ref A :: vs) H Q E) : EV Z L O (ClX.tCMeth A sp E (tC (.ref A)) t) σ (mb m f) := fun L1 H post px Q s hp hx hm k =>
  ⟨rfl, e L1 H _ px _ s hp hx hm fun g vs H1 h1 hp1 hm1 => hc g vs H1 Q h1 (call_n hp1 hm1 k)⟩
theorem EV.cmX {A : Addr} {sp : Sp} {t : TA} {m : M γ} {ds : γ → List D} {f : γ → M α} (e : EA Z L O t σ m ds) (hc : ∀ g vs H Q, vs.length = (ds g).length → Call Z.K Z.C R0 (vs.zip (ds g)) (f g) H Q Z.E → sp (.ref A :: vs) H Q Z.E) : EV Z L O (ClX.tCMeth A sp Z.E (tC (.ref A)) t) σ (mb m f) := fun L1 H post px Q s hp hx hm k =>
  ⟨rfl, e L1 H _ px _ s hp hx hm fun g vs H1 h1 hp1 hm1 => hc g vs H1 Q h1 (call_x hp1 hx hm1 k)⟩
theorem EV.cmF {A : Addr} {sp : Sp} {E : XK} {t : TA} {m : M γ} {ds : γ → List D} {f : γ → M α} (e : EA Z L O t σ m ds) (hc : ∀ g vs H Q, vs.length = (ds g).length → Call Z.K Z.C R0 (vs.zip (ds g)) (f g) H Q E → sp (.ref A :: vs) H Q E) : EV Z L O (ClX.tCMeth A sp E (tC (.ref A)) t) σ (mb m fun g => mno (f g)) := fun L1 H post px Q s hp hx hm k =>
  ⟨rfl, e L1 H _ px _ s hp hx hm fun g vs H1 h1 hp1 hm1 => hc g vs H1 Q h1 (call_f (px := px) hp1 hm1 k)⟩
/-- abs(o), len(o): a built-in by an own special method -/
theorem EV.ownU {c : Str} {A : Addr} {sp : Sp} {ta : TE} {m : M α} {k : α → M β} (e : EV Z L O ta σ m) (ha : Z.C c = some A) (ho : ∀ a : α, ObjIs c (enc a)) (hc : ∀ (a : α) (x : V) (H : Hp) (Q : VK), CallN Z.K Z.C R0 [(x, enc a)] (k a) H Q → sp [x] H Q (E0 : XK)) :
    EV Z L O (tCB (fun xs H Q => ∃ a dx fs, xs = [.ref a] ∧ H a = some (.ins A dx fs) ∧ sp xs H Q (E0 : XK)) (tCons ta tNil)) σ (mb m k) := fun L1 H post px Q s hp hx hm kk =>
  e L1 H _ px _ s hp hx hm fun a x H1 hp1 hm1 => by
    obtain ⟨G, F, W, h1⟩ := id hp1
    obtain ⟨p, dx, fs, rfl, ea⟩ := h1.ins List.mem_cons_self ha (ho a)
    exact ⟨p, dx, fs, rfl, ea, hc a _ H1 Q (call_n (ps := [(.ref p, enc a)]) (L1 := L1) hp1 hm1 kk)⟩
theorem hcC0 {K : PySem.W.Frag} {C : CT} {R : Hp → Prop} {A : Addr} {sp : Sp} {E : XK} {m : M α} (k : ∀ (H : Hp) (Q : VK), CallN K C R [] m H Q → sp (.ref A :: []) H Q E) : ∀ (vs : List V) (H : Hp) (Q : VK), vs.length = ([] : List D).length → CallN K C R (vs.zip []) m H Q → sp (.ref A :: vs) H Q E := fun vs H Q hl h => match vs, hl, h with | [], _, h => k H Q h
theorem hcD0 {K : PySem.W.Frag} {C : CT} {R : Hp → Prop} {A : Addr} {sp : Sp} {E : XK} {m : M α} (k : ∀ (H : Hp) (Q : VK), Call K C R [] m H Q E → sp (.ref A :: []) H Q E) : ∀ (vs : List V) (H : Hp) (Q : VK), vs.length = ([] : List D).length → Call K C R (vs.zip []) m H Q E → sp (.ref A :: vs) H Q E := fun vs H Q hl h => match vs, hl, h with | [], _, h => k H Q h
theorem hcC1 {K : PySem.W.Frag} {C : CT} {R : Hp → Prop} {A : Addr} {sp : Sp} {E : XK} {m : M α} {d0 : D} (k : ∀ (v0 : V) (H : Hp) (Q : VK), CallN K C R [(v0, d0)] m H Q → sp (.ref A :: [v0]) H Q E) : ∀ (vs : List V) (H : Hp) (Q : VK), vs.length = ([d0] : List D).length → CallN K C R (vs.zip [d0]) m H Q → sp (.ref A :: vs) H Q E := fun vs H Q hl h => match vs, hl, h with | [v0], _, h => k v0 H Q h
theorem hcD1 {K : PySem.W.Frag} {C : CT} {R : Hp → Prop} {A : Addr} {sp : Sp} {E : XK} {m : M α} {d0 : D} (k : ∀ (v0 : V) (H : Hp) (Q : VK), Call K C R [(v0, d0)] m H Q E → sp (.ref A :: [v0]) H Q E) : ∀ (vs : List V) (H : Hp) (Q : VK), vs.length = ([d0] : List D).length → Call K C R (vs.zip [d0]) m H Q E → sp (.ref A :: vs) H Q E := fun vs H Q hl h => match vs, hl, h with | [v0], _, h => k v0 H Q h
theorem hcC2 {K : PySem.W.Frag} {C : CT} {R : Hp → Prop} {A : Addr} {sp : Sp} {E : XK} {m : M α} {d0 d1 : D} (k : ∀ (v0 v1 : V) (H : Hp) (Q : VK), CallN K C R [(v0, d0), (v1, d1)] m H Q → sp (.ref A :: [v0, v1]) H Q E) : ∀ (vs : List V) (H : Hp) (Q : VK), vs.length = ([d0, d1] : List D).length → CallN K C R (vs.zip [d0, d1]) m H Q → sp (.ref A :: vs) H Q E := fun vs H Q hl h => match vs, hl, h with | [v0, v1], _, h => k v0 v1 H Q h
theorem hcD2 {K : PySem.W.Frag} {C : CT} {R : Hp → Prop} {A : Addr} {sp : Sp} {E : XK} {m : M α} {d0 d1 : D} (k : ∀ (v0 v1 : V) (H : Hp) (Q : VK), Call K C R [(v0, d0), (v1, d1)] m H Q E → sp (.ref A :: [v0, v1]) H Q E) : ∀ (vs : List V) (H : Hp) (Q : VK), vs.length = ([d0, d1] : List D).length → Call K C R (vs.zip [d0, d1]) m H Q E → sp (.ref A :: vs) H Q E := fun vs H Q hl h => match vs, hl, h with | [v0, v1], _, h => k v0 v1 H Q h
theorem hcC3 {K : PySem.W.Frag} {C : CT} {R : Hp → Prop} {A : Addr} {sp : Sp} {E : XK} {m : M α} {d0 d1 d2 : D} (k : ∀ (v0 v1 v2 : V) (H : Hp) (Q : VK), CallN K C R [(v0, d0), (v1, d1), (v2, d2)] m H Q → sp (.ref A :: [v0, v1, v2]) H Q E) : ∀ (vs : List V) (H : Hp) (Q : VK), vs.length = ([d0, d1, d2] : List D).length → CallN K C R (vs.zip [d0, d1, d2]) m H Q → sp (.ref A :: vs) H Q E := fun vs H Q hl h => match vs, hl, h with | [v0, v1, v2], _, h => k v0 v1 v2 H Q h
theorem hcD3 {K : PySem.W.Frag} {C : CT} {R : Hp → Prop} {A : Addr} {sp : Sp} {E : XK} {m : M α} {d0 d1 d2 : D} (k : ∀ (v0 v1 v2 : V) (H : Hp) (Q : VK), Call K C R [(v0, d0), (v1, d1), (v2, d2)] m H Q E → sp (.ref A :: [v0, v1, v2]) H Q E) : ∀ (vs : List V) (H : Hp) (Q : VK), vs.length = ([d0, d1, d2] : List D).length → Call K C R (vs.zip [d0, d1, d2]) m H Q E → sp (.ref A :: vs) H Q E := fun vs H Q hl h => match vs, hl, h with | [v0, v1, v2], _, h => k v0 v1 v2 H Q h
theorem hcC4 {K : PySem.W.Frag} {C : CT} {R : Hp → Prop} {A : Addr} {sp : Sp} {E : XK} {m : M α} {d0 d1 d2 d3 : D} (k : ∀ (v0 v1 v2 v3 : V) (H : Hp) (Q : VK), CallN K C R [(v0, d0), (v1, d1), (v2, d2), (v3, d3)] m H Q → sp (.ref A :: [v0, v1, v2, v3]) H Q E) : ∀ (vs : List V) (H : Hp) (Q : VK), vs.length = ([d0, d1, d2, d3] : List D).length → CallN K C R (vs.zip [d0, d1, d2, d3]) m H Q → sp (.ref A :: vs) H Q E := fun vs H Q hl h => match vs, hl, h with | [v0, v1, v2, v3], _, h => k v0 v1 v2 v3 H Q h
theorem hcD4 {K : PySem.W.Frag} {C : CT} {R : Hp → Prop} {A : Addr} {sp : Sp} {E : XK} {m : M α} {d0 d1 d2 d3 : D} (k : ∀ (v0 v1 v2 v3 : V) (H : Hp) (Q : VK), Call K C R [(v0, d0), (v1, d1), (v2, d2), (v3, d3)] m H Q E → sp (.ref A :: [v0, v1, v2, v3]) H Q E) : ∀ (vs : List V) (H : Hp) (Q : VK), vs.length = ([d0, d1, d2, d3] : List D).length → Call K C R (vs.zip [d0, d1, d2, d3]) m H Q E → sp (.ref A :: vs) H Q E := fun vs H Q hl h => match vs, hl, h with | [v0, v1, v2, v3], _, h => k v0 v1 v2 v3 H Q h
theorem hcC5 {K : PySem.W.Frag} {C : CT} {R : Hp → Prop} {A : Addr} {sp : Sp} {E : XK} {m : M α} {d0 d1 d2 d3 d4 : D} (k : ∀ (v0 v1 v2 v3 v4 : V) (H : Hp) (Q : VK), CallN K C R [(v0, d0), (v1, d1), (v2, d2), (v3, d3), (v4, d4)] m H Q → sp (.ref A :: [v0, v1, v2, v3, v4]) H Q E) : ∀ (vs : List V) (H : Hp) (Q : VK), vs.length = ([d0, d1, d2, d3, d4] : List D).length → CallN K C R (vs.zip [d0, d1, d2, d3, d4]) m H Q → sp (.ref A :: vs) H Q E := fun vs H Q hl h => match vs, hl, h with | [v0, v1, v2, v3, v4], _, h => k v0 v1 v2 v3 v4 H Q h
theorem hcD5 {K : PySem.W.Frag} {C : CT} {R : Hp → Prop} {A : Addr} {sp : Sp} {E : XK} {m : M α} {d0 d1 d2 d3 d4 : D} (k : ∀ (v0 v1 v2 v3 v4 : V) (H : Hp) (Q : VK), Call K C R [(v0, d0), (v1, d1), (v2, d2), (v3, d3), (v4, d4)] m H Q E → sp (.ref A :: [v0, v1, v2, v3, v4]) H Q E) : ∀ (vs : List V) (H : Hp) (Q : VK), vs.length = ([d0, d1, d2, d3, d4] : List D).length → Call K C R (vs.zip [d0, d1, d2, d3, d4]) m H Q E → sp (.ref A :: vs) H Q E := fun vs H Q hl h => match vs, hl, h with | [v0, v1, v2, v3, v4], _, h => k v0 v1 v2 v3 v4 H Q h
theorem ET.truL {t : TE} {m : M (List α)} (e : EV Z L O t σ m) : ET Z L O (Cf.tTru Z.K t) σ (mb m fun a => mr (!a.isEmpty)) := fun L1 H post px Q s hp hx hm k => e L1 H _ px _ s hp hx hm fun a v H' hp' hb => by
  have hp0 := hp'
  obtain ⟨G, F, W, h⟩ := hp'
  obtain ⟨q, ys, rfl, e1, l1, t1⟩ := is_lst h.x0
  have n := t1.len
  rw [List.length_map] at n
  refine ⟨_, .inl ⟨ys, .inl (.inl (h.g _ _ e1)), rfl⟩, ?_⟩
  have z : (!ys.isEmpty) = !a.isEmpty := by cases ys <;> cases a <;> simp_all
  rw [z]
  exact k _ H' hp0.tail hb
theorem ET.truLP {t : TE} {a : List α} (e : EV Z L O t σ (mr a)) : ET Z L O (Cf.tTru Z.K t) σ (mr (!a.isEmpty)) := ET.truL e
/-- cls(..) -/
theorem EV.makeL {A : Addr} {sp : Sp} {dvs : List V} {E : XK} {ta : TA} {i : Nat} {m : M α} (h : σ[i]? = some (some (.ref A))) (e : EV Z L O (tMake A sp dvs E ta) σ m) : EV Z L O (tMakeL A sp dvs E i ta) σ m := fun L1 H post px Q s hp hx hm k => ⟨h, e L1 H post px Q s hp hx hm k⟩
/-! ### one's own list is changed -/
def mset {α : Type} (xs : List α) (i : Int) (a : α) : M (List α) := match ixN xs.length i with
  | some j => mr (xs.set j a)
  | none => mstuck
def minsert {α : Type} (xs : List α) (i : Int) (a : α) : M (List α) := mreq (xs.length < 1000000 ∧ 0 ≤ i ∧ i ≤ 1000000) (mr (xs.take i.toNat ++ [a] ++ xs.drop i.toNat))
def rIns : V → List V → Hp → VK → Prop := fun x vs H Q => ∃ (l : Addr) (xs : List V) (i : Int) (y : V), x = .ref l ∧ vs = [.int i, y] ∧ H l = some (.lst xs) ∧ xs.length < sizeLine ∧ 0 ≤ i ∧ i < 2 ^ 63 ∧ Q .non (upd H l (.lst (xs.take i.toNat ++ [y] ++ xs.drop i.toNat)))
theorem mt_insertM {X : Cx} : MtR X "list.insert" rIns := mt_insert
section
variable {nx : L2.St → Hp → Prop} {rt : VK} {bk ct : L2.St → Hp → Prop} {H : Hp} {px : Exn → Prop} {ρ : Type} {post : ρ → Prop}
theorem s_setIx {te ti : TE} {p : Addr} {O' : List α → List (Addr × D)} {i : Nat} {m : M α} {mi : M Int} {xs : List α} {k : List α → M ρ} (hi : σ[i]? = some (some (.ref p))) (hmem : (p, enc xs) ∈ O) (hp : Pt Z L O H) (hx : HX Z px) (hm : (mb m fun a => mb mi fun j => mb (mset xs j a) k) post px) (e : EV Z L O te σ m) (e2 : EV Z L O ti σ mi)
    (u : ∀ ys : List α, Up p (enc xs) (enc ys) O (O' ys)) (c : ∀ ys H', Pt Z L (O' ys) H' → k ys post px → nx σ H') : tAsg te (gSub (tVar i) ti Cf.rSett) ⟨nx, rt, bk, ct⟩ σ H := by
  refine e L H _ px _ sub_refl' hp hx hm fun a v H1 hp1 hm1 => ⟨_, hi, ?_⟩
  refine e2 _ H1 _ px _ (sub_cons sub_refl') hp1 hx hm1 fun j w H2 hp2 hm2 => ?_
  obtain rfl := is_int hp2.hd
  obtain ⟨ho, G, e1, c1, e3, e4⟩ := hp2.at hmem
  obtain ⟨vs, rfl, l, t⟩ := is_cell c1
  have n := t.len
  rw [List.length_map] at n
  have hm2 : mb (mset xs j a) k post px := hm2
  unfold mset at hm2
  cases ej : ixN xs.length j with
  | none => rw [ej] at hm2; exact hm2.elim
  | some z =>
    rw [ej] at hm2
    refine .inl ⟨p, vs, j, z, rfl, rfl, e1, by rw [n]; exact ej, c (xs.set z a) _ ((hp2.put (o := .lst (vs.set z v)) (u (xs.set z a)) fun G' hG ho hh hc => ?_).less fun x hx => List.mem_cons_of_mem _ (List.mem_cons_of_mem _ hx)) hm2⟩
    rw [e1] at hh
    cases hh
    obtain ⟨ws, e, l', t'⟩ := is_cell hc
    cases e
    have hv := hG (v, enc a) (List.mem_cons_of_mem _ List.mem_cons_self)
    show Cell _ _ _ _ (.lst ((xs.set z a).map enc))
    rw [List.map_set]
    exact .lst (by rw [List.length_set]; exact l') (t'.set z hv)
theorem s_setCopy {ta : TE} {i : Nat} {m : M (List α)} {k : List α → M ρ} (S : Addr → L2.St) (hS : ∀ p, σ.set i (some (.ref p)) = S p) (hp : Pt Z L O H) (hx : HX Z px) (hm : mb m k post px) (e1 : EV Z L O ta σ m)
    (c : ∀ a p H', Pt Z L ((p, enc a) :: O) H' → k a post px → nx (S p) H') : tAsg (tCB (Cf.rListOf Z.K) (tCons ta tNil)) (gName i) ⟨nx, rt, bk, ct⟩ σ H :=
  e1 L H _ px _ sub_refl' hp hx hm fun a x H1 hp1 hm1 => by
    obtain ⟨G, F, W, h⟩ := hp1
    obtain ⟨q, ys, rfl, e1, l1, t1⟩ := is_lst h.x0
    refine ⟨q, ys, rfl, .inl (.inl (.inl (h.g _ _ e1))), fun r hr => ?_⟩
    show nx (σ.set i (some (.ref r))) _
    rw [hS r]
    have z : Pt Z L ((r, enc a) :: O) (upd H1 r (.lst ys)) := by
      have q := PtS.own' h hr (o := .lst ys) (d := .lst (a.map enc)) (.lst l1 t1)
      exact q.less fun x hx => .tail _ hx
    exact c a r _ z hm1
theorem s_insert {ta ti : TE} {p : Addr} {O' : List α → List (Addr × D)} {i : Nat} {m : M α} {mi : M Int} {xs : List α} {k : List α → M ρ} (hi : σ[i]? = some (some (.ref p))) (hmem : (p, enc xs) ∈ O) (hp : Pt Z L O H) (hx : HX Z px) (hm : (mb mi fun j => mb m fun a => mb (minsert xs j a) k) post px) (e2 : EV Z L O ti σ mi) (e : EV Z L O ta σ m)
    (u : ∀ ys : List α, Up p (enc xs) (enc ys) O (O' ys)) (c : ∀ ys H', Pt Z L (O' ys) H' → k ys post px → nx σ H') : tDrop (tBM Z.K "list" rIns (tVar i) (tCons ti (tCons ta tNil))) ⟨nx, rt, bk, ct⟩ σ H := by
  refine ⟨_, hi, ?_, ?_⟩
  · obtain ⟨G, F, W, h⟩ := hp
    obtain ⟨ho, e1, e2, e3⟩ := h.o _ hmem
    obtain ⟨vs, rfl, l, t⟩ := is_cell e3
    exact .inl ⟨rfl, vs, .inl (.inl (h.f _ _ e1))⟩
  · refine e2 L H _ px _ sub_refl' hp hx hm fun j w H1 hp1 hm1 => e _ H1 _ px _ (sub_cons sub_refl') hp1 hx hm1 fun a v H2 hp2 hm2 => ?_
    obtain rfl := is_int hp2.hd2
    obtain ⟨⟨q1, q2, q3⟩, hm2⟩ := hm2
    obtain ⟨ho, G, e1, c1, e3, e4⟩ := hp2.at hmem
    obtain ⟨vs, rfl, l, t⟩ := is_cell c1
    have n := t.len
    rw [List.length_map] at n
    refine ⟨p, vs, j, v, rfl, rfl, e1, by rw [n]; exact Nat.lt_of_lt_of_le q1 (by rw [sizeLine_eq]; decide), q2, Int.lt_of_le_of_lt q3 (by decide), c (xs.take j.toNat ++ [a] ++ xs.drop j.toNat) _ ((hp2.put (o := .lst (vs.take j.toNat ++ [v] ++ vs.drop j.toNat)) (u _) fun G' hG ho hh hc => ?_).less fun x hx => List.mem_cons_of_mem _ (List.mem_cons_of_mem _ hx)) hm2⟩
    rw [e1] at hh
    cases hh
    obtain ⟨ws, e, l', t'⟩ := is_cell hc
    cases e
    have hv := hG (v, enc a) List.mem_cons_self
    show Cell _ _ _ _ (.lst ((xs.take j.toNat ++ [a] ++ xs.drop j.toNat).map enc))
    rw [List.map_append, List.map_append, List.map_take, List.map_drop]
    refine .lst ?_ (((t'.take _).app (.cons hv .nil)).app (t'.drop _))
    simp only [List.length_append, List.length_take, List.length_drop, List.length_cons, List.length_nil]
    omega
end
end
end Mi

/-! bool(o), isinstance of own objects -/
namespace L2
open PySem PySem.Spec PyProof.Rows
theorem bool_new_own {prog : Program} {w : World} (x : Addr) : MeetsIn prog w (Builtin.«bool.__new__» ⟨[.type "bool", .ref x], []⟩) (fun A R s => wpAny (model prog w) A.in1 (truthy (.ref x)) (fun b s' => R (.ok (.ret (.bool b))) s') (fun e s' => R (.error e) s') s) :=
  .of_wp fun A R s h => by
    have f1 := F.conv_sub_bool
    obtain ⟨hp, g, d, tk, os⟩ := s
    repeat (any_goals (first | assumption | (with_reducible refine wpAny_bind (wpAny_mono h (fun b s' hb => ?_) fun _ _ y => y)) | wp_step))
    all_goals first | exact ⟨_, rfl, hb⟩ | skip
theorem bool_K {prog : Program} {w : World} {A : Around} {E : Value → Shared → Prop} {s : Shared} {K : PySem.W.Frag} {x C f : Addr} {ox : Obj} {od : Option Obj} {Q : Value → Shared → Prop} (X : K.In s.heap) (I : PySem.W.InstAt s.heap x ox C od) (hs : PySem.W.findIn K (.ref C) "__bool__" = some (some (.ref f))) (hf : PySem.W.isFn K (.ref f) = true)
    (h : wpAny (model prog w) A.in1.in1 (call (.ref f) [.ref x]) (PySem.W.BoolBack fun b s1 => Q (.bool b) s1) E s) : wpAny (model prog w) A (call (.type "bool") [.ref x]) Q E s := by
  refine callType_newIn F.called_bool F.newNe_bool (F.typeCall_bool_1 _) (F.newCall_bool_1 _) (fun obj => F.args_object_init_2 obj _) F.entry_bool_new (bool_new_own x) ?_
  show wpAny _ A.in1.in1 (truthy (.ref x)) _ _ s
  unfold truthy
  refine wpAny_bind (m := callSpecial? (.ref x) (Str.ofString "__bool__")) (PySem.W.special_fn X I hs (beq_iff_eq.mp hf) (wpAny_mono h (fun r s' hr => ?_) fun _ _ y => y))
  cases r <;> first | exact hr.elim | skip
  exact wpAny_pure ⟨rfl, hr⟩
section
variable {X : Cx} {CX : CXT} {k : Nat} {C f : Addr} {fd : FuncData} {ps : List Str} {sp : Sp}
/-- bool(o) -/
theorem cr_ownBool (o : OwnM X.K C "__bool__" f) (F : FnOk X.prog X.w X.K X.mg X.base CX k f fd ps sp) (hr : Room (k + 2) X.A) (hb : Binds X.K fd ps []) (hx : ∀ σ, PassesAt CX X σ E0) :
    CallR X (.type "bool") (fun xs H Q => ∃ a dx fs, xs = [.ref a] ∧ H a = some (.ins C dx fs) ∧ sp xs H (fun r H' => ∃ z, r = .bl z ∧ Q (.bl z) H') (E0 : XK)) := by
  intro pins s σ H xs us Q I r h
  obtain ⟨a, dx, fs, rfl, ea, q⟩ := h
  cases r with
  | cons rx rr =>
    cases rr
    rename_i u
    obtain rfl : u = Value.ref a := rx
    obtain ⟨mA, M, _⟩ := ins_get I.hok ea
    obtain ⟨od, J, _⟩ := M.look
    refine bool_K I.kIn J o.at_ o.fn (wpAny_mono (run_in (E := fun _ => E0) F hr.in1.in1 rfl hb hx I (.cons rel_ref .nil) q) (fun r s' hq => ?_) fun _ _ z => z)
    obtain ⟨v, H', I', rv, z, rfl, hq⟩ := hq
    obtain rfl := id rv
    exact ⟨.bl z, H', I', rfl, hq⟩
end
end L2
namespace Mi
open Enc (enc)
open PySem L2 PySem.Spec PyProof.Rows
open Cf (Fresh)
section
variable {Z : Zx} {L : List (V × D)} {O : List (Addr × D)} {σ : L2.St} {α β γ δ : Type} [Enc α] [Enc β] [Enc γ] [Enc δ]
/-- bool(o) -/
theorem EV.ownB {c : Str} {A : Addr} {sp : Sp} {ta : TE} {m : M α} {k : α → M Bool} (e : EV Z L O ta σ m) (ha : Z.C c = some A) (ho : ∀ a : α, ObjIs c (enc a)) (hc : ∀ (a : α) (x : V) (H : Hp) (Q : VK), CallN Z.K Z.C R0 [(x, enc a)] (k a) H Q → sp [x] H Q (E0 : XK)) :
    EV Z L O (tCB (fun xs H Q => ∃ a dx fs, xs = [.ref a] ∧ H a = some (.ins A dx fs) ∧ sp xs H (fun r H' => ∃ z, r = .bl z ∧ Q (.bl z) H') (E0 : XK)) (tCons ta tNil)) σ (mb m k) := fun L1 H post px Q s hp hx hm kk =>
  e L1 H _ px _ s hp hx hm fun a x H1 hp1 hm1 => by
    obtain ⟨G, F, W, h1⟩ := id hp1
    obtain ⟨p, dx, fs, rfl, ea⟩ := h1.ins List.mem_cons_self ha (ho a)
    refine ⟨p, dx, fs, rfl, ea, hc a _ H1 _ (call_n (ps := [(.ref p, enc a)]) (L1 := L1) hp1 hm1 fun b v H2 hp2 hb => ?_)⟩
    have hv := hp2.hd
    cases hv
    exact ⟨b, rfl, kk b _ H2 hp2 hb⟩
/-- bool(a list) -/
theorem EV.boolL {ta : TE} {m : M (List α)} (e : EV Z L O ta σ m) : EV Z L O (tCB (fun xs H Q => ∃ (a : Addr) (zs : List V), xs = [.ref a] ∧ SqL Z.K H a zs ∧ Q (.bl (!zs.isEmpty)) H) (tCons ta tNil)) σ (mb m fun a => mr (!a.isEmpty)) := fun L1 H post px Q s hp hx hm k => e L1 H _ px _ s hp hx hm fun a v H' hp' hb => by
  have hp0 := hp'
  obtain ⟨G, F, W, h⟩ := hp'
  obtain ⟨q, ys, rfl, e1, l1, t1⟩ := is_lst h.x0
  have n := t1.len
  rw [List.length_map] at n
  refine ⟨q, ys, rfl, .inl (.inl (h.g _ _ e1)), ?_⟩
  have z : (!ys.isEmpty) = !a.isEmpty := by cases ys <;> cases a <;> simp_all
  rw [z]
  exact k _ _ H' (hp0.tail.add fun G _ => .bl _) hb
theorem EV.boolLP {ta : TE} {a : List α} (e : EV Z L O ta σ (mr a)) : EV Z L O (tCB (fun xs H Q => ∃ (a : Addr) (zs : List V), xs = [.ref a] ∧ SqL Z.K H a zs ∧ Q (.bl (!zs.isEmpty)) H) (tCons ta tNil)) σ (mr (!a.isEmpty)) := EV.boolL e
/-- isinstance(o, its class) -/
theorem EV.isC {c : Str} {A : Addr} {ta : TE} {m : M α} (e : EV Z L O ta σ m) (ha : Z.C c = some A) (ho : ∀ a : α, ObjIs c (enc a)) : EV Z L O (tCB (fun xs H Q => ∃ a dx fs, xs = [.ref a, .ref A] ∧ H a = some (.ins A dx fs) ∧ Q (.bl true) H) (tCons ta (tCons (tC (.ref A)) tNil))) σ (mb m fun _ => mr true) := fun L1 H post px Q s hp hx hm kk =>
  e L1 H _ px _ s hp hx hm fun a x H1 hp1 hm1 => by
    obtain ⟨G, F, W, h1⟩ := id hp1
    obtain ⟨p, dx, fs, rfl, ea⟩ := h1.ins List.mem_cons_self ha (ho a)
    exact ⟨p, dx, fs, rfl, ea, kk true _ H1 (hp1.tail.add fun G _ => .bl _) hm1⟩
theorem EV.isCP {c : Str} {A : Addr} {ta : TE} {a : α} (e : EV Z L O ta σ (mr a)) (ha : Z.C c = some A) (ho : ∀ a : α, ObjIs c (enc a)) : EV Z L O (tCB (fun xs H Q => ∃ a dx fs, xs = [.ref a, .ref A] ∧ H a = some (.ins A dx fs) ∧ Q (.bl true) H) (tCons ta (tCons (tC (.ref A)) tNil))) σ (mr true) := EV.isC e ha ho
end
end Mi

/-! int * o by the class's own __rmul__ -/
namespace L2
open PySem PySem.Spec PyProof.Rows
theorem int_mul_ref {prog : Program} {w : World} (a : Int) (t : Tok) (x C dx : Addr) : MeetsIn prog w (Builtin.«int.__mul__» ⟨[.int a t, .ref x], []⟩) (fun A R s => s.heap.get? x = some (PySem.W.instObj C dx) ∧ R (.ok (.ret .notImplemented)) s) :=
  .of_wp fun A R s hs => by
    obtain ⟨ho, h⟩ := hs
    obtain ⟨hp, g, d, tk, os⟩ := s
    repeat (any_goals (first | assumption | (with_reducible refine wpAny_bind (wpAny_load' ho ?_)) | (with_reducible refine wpAny_load' ho ?_) | wp_step))
    all_goals exact ⟨_, rfl, h⟩
end L2
namespace PySem.W
open Lean Elab Tactic Meta PySem PySem.Calls PyProof.Rows
section
variable {prog : Program} {w : World} {A : Around} {E : Value → Shared → Prop} {s : Shared} {K : Frag} {x C L f fm dx : Addr} {h₀ : Heap} {m : Str → Option Value} {ox : Obj} {od : Option Obj}
theorem int_try {i : Int} {t : Tok} {Q : Option Value → Shared → Prop} (ho : s.heap.get? x = some (instObj C dx)) (h : Q none s) : wpAny (model prog w) A (tryMethod (.int i t) (PySem.dunder "mul") (.ref x)) Q E s := by
  unfold tryMethod
  refine wpAny_bind (wpAny_callSpecial?_slot (typeIs_int s i t) F.slot_int_mul (call_meetsIn F.slot_int_mul (typeIs_int s i t) F.entry_int_mul (F.args_int_mul_2 _ _) (L2.int_mul_ref i t x C dx) ⟨ho, ?_⟩))
  exact wpAny_pure h
theorem rbin_mul {i : Int} {t : Tok} {fo ro : Option Value} {Q : Value → Shared → Prop} (F : Fr h₀ L s.heap m) (X₀ : K.In h₀) (I : InstAt s.heap x ox C od) (ho : s.heap.get? x = some (instObj C dx)) (hc : selfFirst K C = true)
    (hs : findIn K (.ref C) (PySem.dunder "mul") = some (some (.ref fm))) (hr : findIn K (.ref C) (dunderR "mul") = some (some (.ref f))) (hf : isFn K (.ref f) = true)
    (h1 : findIn K (.type "int") (PySem.dunder "mul") = some fo) (h2 : findIn K (.type "int") (dunderR "mul") = some ro) (hsub : subIn K (.ref C) (.type "int") = some false)
    (h : wpAny (model prog w) A (call (.ref f) [.ref x, .int i t]) (CmpBack Q) E s) : wpAny (model prog w) A (binaryOp .Mult (.int i t) (.ref x)) Q E s := by
  have X := X₀.keeps F.keep
  obtain ⟨cd, rest, hcd, hm⟩ := ksp_first hc
  have one := ksp_try X I hr hf h
  have zero : ∀ Q : Option Value → Shared → Prop, Q none s → wpAny (model prog w) A (tryMethod (.int i t) (PySem.dunder "mul") (.ref x)) Q E s := fun Q q => int_try ho q
  obtain ⟨hh, g, d, tt, os⟩ := s
  have L1 : Looks (model prog w) hh (typeOf (.ref x)) (.ref C) := I.type
  have L2 : Looks (model prog w) hh (typeOf (.int i t)) (.type "int") := Looks.of_pure rfl
  have L3 : Looks (model prog w) hh (fillsNumberSlot (.ref C) "mul") true := fills_K X hcd hm hs
  have L4 : Looks (model prog w) hh (fillsNumberSlot (.type "int") "mul") ((fo.isSome && !isSeqSlot fo) || (ro.isSome && !isSeqSlot ro)) := ksp_fillsT X h1 h2
  have L5 : Looks (model prog w) hh (isSubtype (.ref C) (.type "int")) false := looks_subIn X hsub
  have L7 : Looks (model prog w) hh (numberSlotInPython (.type "int") "mul") false := Looks.of_pure rfl
  generalize ((fo.isSome && !isSeqSlot fo) || (ro.isSome && !isSeqSlot ro)) = left at L4
  have hne : (Value.type "int" == Value.ref C) = false := Bool.eq_false_iff.mpr fun q => by cases beq_iff_eq.mp q
  simp only [binaryOp, Operator.info]
  refine wpAny_holding (wpAny_bind ?_)
  unfold binaryOp1
  refine wpAny_bind (L2.at (wpAny_bind (L1.at (wpAny_bind (L4.at ?_)))))
  simp only [hne, Bool.false_eq_true, if_false]
  cases left with
  | false =>
    ksp_lk
    refine wpAny_mono one (fun r s' hr' => ?_) fun _ _ e => e
    obtain ⟨v, rfl, hq⟩ := hr'
    ksp_lk
    exact hq
  | true =>
    ksp_lk
    refine zero _ ?_
    ksp_lk
    refine wpAny_mono one (fun r s' hr' => ?_) fun _ _ e => e
    obtain ⟨v, rfl, hq⟩ := hr'
    ksp_lk
    exact hq
end
end PySem.W

namespace L2
open PySem PySem.Spec PyProof.Rows
section
variable {X : Cx} {CX : CXT} {k : Nat} {C f : Addr} {fd : FuncData} {ps : List Str} {sp : Sp} {E : St → XK}
def rOwnR (C : Addr) (sp : Sp) (E : St → XK) : St → R2 := fun σ x y H Q => ∃ a dx fs i, x = .int i ∧ y = .ref a ∧ H a = some (.ins C dx fs) ∧ sp [y, x] H Q (E σ)
/-- what is asked of the class for int * o -/
structure OwnR (K : PySem.W.Frag) (C f : Addr) : Prop where
  m : OwnM K C (dunderR "mul") f
  first : PySem.W.selfFirst K C = true
  mul : ∃ fm : Addr, PySem.W.findIn K (.ref C) (PySem.dunder "mul") = some (some (.ref fm))
  t1 : ∃ fo, PySem.W.findIn K (.type "int") (PySem.dunder "mul") = some fo
  t2 : ∃ ro, PySem.W.findIn K (.type "int") (dunderR "mul") = some ro
  sub : PySem.W.subIn K (.ref C) (.type "int") = some false
theorem op_ownR (o : OwnR X.K C f) (F : FnOk X.prog X.w X.K X.mg X.base CX k f fd ps sp) (hr : Room k X.A) (hb : Binds X.K fd ps []) (hx : ∀ σ, PassesAt CX X σ (E σ)) : OpRS X (binaryOp .Mult) (rOwnR C sp E) := by
  intro pins s σ H x y u v Q I rx ry h
  obtain ⟨a, dx, fs, i, rfl, rfl, ea, q⟩ := h
  obtain rfl : v = Value.ref a := ry
  obtain ⟨t, rfl⟩ := id rx
  obtain ⟨mA, M, _⟩ := ins_get I.hok ea
  obtain ⟨od, J, _⟩ := M.look
  obtain ⟨m, hF⟩ := I.fr
  obtain ⟨fm, h0⟩ := o.mul
  obtain ⟨fo, h3⟩ := o.t1
  obtain ⟨ro, h4⟩ := o.t2
  exact PySem.W.rbin_mul hF I.ok.mod.kin J M.obj o.first h0 o.m.at_ o.m.fn h3 h4 o.sub (wpAny_mono (run_own F hr hb hx I (.cons rel_ref (.cons rx .nil)) q) (fun _ _ hq => cmpBack_of hq) fun _ _ z => z)
end
end L2
namespace Mi
open Enc (enc)
open PySem L2 PySem.Spec PyProof.Rows
open Cf (Fresh)
section
variable {Z : Zx} {L : List (V × D)} {O : List (Addr × D)} {σ : L2.St} {α β γ δ : Type} [Enc α] [Enc β] [Enc γ] [Enc δ]
theorem EV.ownRN {c : Str} {A : Addr} {sp : Sp} {E : L2.St → XK} {to ti : TE} {mo : M α} {mi : M Int} {k : α → Int → M β} (e1 : EV Z L O ti σ mi) (e0 : EV Z L O to σ mo) (ha : Z.C c = some A) (ho : ∀ a : α, ObjIs c (enc a))
    (hc : ∀ (a : α) (i : Int) (x y : V) (H : Hp) (Q : VK), CallN Z.K Z.C R0 [(x, enc a), (y, enc i)] (k a i) H Q → sp [x, y] H Q (E σ)) : EV Z L O (tOpS (rOwnR A sp E) ti to) σ (mb mi fun i => mb mo fun a => k a i) := fun L1 H post px Q s hp hx hm kk =>
  e1 L1 H _ px _ s hp hx hm fun i y H1 hp1 hm1 => e0 _ H1 _ px _ (sub_cons s) hp1 hx hm1 fun a x H2 hp2 hm2 => by
    obtain ⟨G, F, W, h2⟩ := hp2
    obtain rfl := is_int (h2.l _ (List.mem_cons_of_mem _ List.mem_cons_self))
    obtain ⟨p, dx, fs, rfl, ea⟩ := h2.ins List.mem_cons_self ha (ho a)
    refine ⟨p, dx, fs, i, rfl, rfl, ea, ?_⟩
    exact hc a i _ _ H2 Q (call_n (ps := [(.ref p, enc a), (.int i, enc i)]) (L1 := L1) (h2.pt.less (pk (.head _) (pk (.tail _ (.head _)) fun z hz => .tail _ (.tail _ hz)))) hm2 kk)
theorem EV.ownRF {c : Str} {A : Addr} {sp : Sp} {E : L2.St → XK} {to ti : TE} {mo : M α} {mi : M Int} {k : α → Int → M β} (e1 : EV Z L O ti σ mi) (e0 : EV Z L O to σ mo) (ha : Z.C c = some A) (ho : ∀ a : α, ObjIs c (enc a))
    (hc : ∀ (a : α) (i : Int) (x y : V) (H : Hp) (Q : VK), Call Z.K Z.C R0 [(x, enc a), (y, enc i)] (k a i) H Q (E σ) → sp [x, y] H Q (E σ)) : EV Z L O (tOpS (rOwnR A sp E) ti to) σ (mb mi fun i => mb mo fun a => mno (k a i)) := fun L1 H post px Q s hp hx hm kk =>
  e1 L1 H _ px _ s hp hx hm fun i y H1 hp1 hm1 => e0 _ H1 _ px _ (sub_cons s) hp1 hx hm1 fun a x H2 hp2 hm2 => by
    obtain ⟨G, F, W, h2⟩ := hp2
    obtain rfl := is_int (h2.l _ (List.mem_cons_of_mem _ List.mem_cons_self))
    obtain ⟨p, dx, fs, rfl, ea⟩ := h2.ins List.mem_cons_self ha (ho a)
    refine ⟨p, dx, fs, i, rfl, rfl, ea, ?_⟩
    exact hc a i _ _ H2 Q (call_f (px := px) (ps := [(.ref p, enc a), (.int i, enc i)]) (L1 := L1) (h2.pt.less (pk (.head _) (pk (.tail _ (.head _)) fun z hz => .tail _ (.tail _ hz)))) hm2 kk)
theorem EV.ownRX {c : Str} {A : Addr} {sp : Sp} {E : L2.St → XK} {to ti : TE} {mo : M α} {mi : M Int} {k : α → Int → M β} (hE : E σ = Z.E) (e1 : EV Z L O ti σ mi) (e0 : EV Z L O to σ mo) (ha : Z.C c = some A) (ho : ∀ a : α, ObjIs c (enc a))
    (hc : ∀ (a : α) (i : Int) (x y : V) (H : Hp) (Q : VK), Call Z.K Z.C R0 [(x, enc a), (y, enc i)] (k a i) H Q Z.E → sp [x, y] H Q Z.E) : EV Z L O (tOpS (rOwnR A sp E) ti to) σ (mb mi fun i => mb mo fun a => k a i) := fun L1 H post px Q s hp hx hm kk =>
  e1 L1 H _ px _ s hp hx hm fun i y H1 hp1 hm1 => e0 _ H1 _ px _ (sub_cons s) hp1 hx hm1 fun a x H2 hp2 hm2 => by
    obtain ⟨G, F, W, h2⟩ := hp2
    obtain rfl := is_int (h2.l _ (List.mem_cons_of_mem _ List.mem_cons_self))
    obtain ⟨p, dx, fs, rfl, ea⟩ := h2.ins List.mem_cons_self ha (ho a)
    refine ⟨p, dx, fs, i, rfl, rfl, ea, ?_⟩
    rw [hE]; exact hc a i _ _ H2 Q (call_x (ps := [(.ref p, enc a), (.int i, enc i)]) (L1 := L1) (h2.pt.less (pk (.head _) (pk (.tail _ (.head _)) fun z hz => .tail _ (.tail _ hz)))) hx hm2 kk)
/-- sorted(ints) -/
def msortI (xs : List Int) : M (List Int) := fun post _ => ∀ ys : List Int, ys.Perm xs → ys.Pairwise (· ≤ ·) → post ys
theorem ints_isL {K : PySem.W.Frag} {C : CT} {G : Hp} (ys : List Int) : IsL K C G (ys.map V.int) (ys.map enc) := by
  induction ys with
  | nil => exact .nil
  | cons a t ih => exact .cons (.int a) ih
theorem ok_sortI : OkB Z (rSortedI Z.K) msortI := fun L O H a x post px Q hp hx hm k => by
  obtain ⟨G, F, W, h⟩ := hp
  obtain ⟨p, xs, rfl, e, l, t⟩ := is_lst h.x0
  have n := t.len
  rw [List.length_map] at n
  refine ⟨p, a, rfl, .inl (.inl (isL_ints t ▸ h.g _ _ e)), fun ys q hp hs hq => k ys _ _ (h.t1.new hq (.lst upd_same ?_ (ints_isL ys))) (hm ys hp hs)⟩
  rw [List.length_map, hp.length_eq, ← n]; exact l
theorem EV.sortI {ta : TE} {m1 : M (List Int)} (e1 : EV Z L O ta σ m1) : EV Z L O (tCB (rSortedI Z.K) (tCons ta tNil)) σ (mb m1 msortI) := EV.cb1 ok_sortI e1
theorem EV.sortIP {ta : TE} {a : List Int} (e1 : EV Z L O ta σ (mr a)) : EV Z L O (tCB (rSortedI Z.K) (tCons ta tNil)) σ (msortI a) := EV.cb1P ok_sortI e1
end
end Mi

/-! wishes in their plain form; more of what they come to -/
namespace Mi
open Enc (enc)
open PySem L2 PySem.Spec PyProof.Rows
section
variable {α β γ : Type}
theorem mb_mr {a : α} {k : α → M β} : mb (mr a) k = k a := Eq.trans rfl rfl
theorem mb_mb {m : M α} {f : α → M β} {g : β → M γ} : mb (mb m f) g = mb m fun a => mb (f a) g := Eq.trans rfl rfl
theorem mite_mr {c : Bool} {a b : M α} : mite (mr c) a b = if c = true then a else b := Eq.trans rfl rfl
theorem compM_cons {p : α → M Bool} {f : α → M β} {x : α} {xs : List α} : compM p f (x :: xs) = mb (p x) fun c => if c = true then mb (f x) fun y => mb (compM p f xs) fun ys => mr (y :: ys) else compM p f xs := by
  funext post px; rfl
theorem Ret.compF {xs : List α} {p : α → Bool} {q : α → M Bool} {f : α → M β} {g : α → β} (hq : ∀ x ∈ xs, Ret (q x) (p x)) (h : ∀ x ∈ xs, p x = true → Ret (f x) (g x)) : Ret (compM q f xs) ((xs.filter p).map g) := by
  induction xs with
  | nil => exact .r
  | cons x xs ih =>
    have ih := ih (fun y hy => hq y (List.mem_cons_of_mem _ hy)) fun y hy => h y (List.mem_cons_of_mem _ hy)
    rw [compM_cons]
    refine .b (hq x List.mem_cons_self) ?_
    rw [List.filter_cons]
    cases e : p x with
    | true => exact (show Ret (mb (f x) fun y => mb (compM q f xs) fun ys => mr (y :: ys)) (g x :: (xs.filter p).map g) from .b (h x List.mem_cons_self e) (.b ih .r))
    | false => exact ih
end
end Mi
namespace Mi
open Enc (enc)
open PySem L2 PySem.Spec PyProof.Rows
section
variable {α γ : Type}
/-- a loop by what holds ahead of each turn -/
theorem Ret.forMe {xs : List α} {c0 : γ} {f : α → γ → M γ} (I : Nat → γ → Prop) (h0 : I 0 c0) (hs : ∀ i x c, xs[i]? = some x → I i c → ∃ c', Ret (f x c) c' ∧ I (i + 1) c') : ∃ c', Ret (Mi.forM xs c0 f) c' ∧ I xs.length c' := by
  induction xs generalizing c0 I with
  | nil => exact ⟨c0, .r, h0⟩
  | cons x xs ih =>
    obtain ⟨c1, h1, i1⟩ := hs 0 x c0 rfl h0
    obtain ⟨c2, h2, i2⟩ := ih (fun i => I (i + 1)) i1 fun i y c e h => hs (i + 1) y c (by simpa using e) h
    exact ⟨c2, .b h1 h2, i2⟩
theorem range0 {n i : Nat} {x : Int} (h : ((List.range ((n : Int) - 0).toNat).map fun (k : Nat) => (0 : Int) + (k : Int))[i]? = some x) : x = (i : Int) ∧ i < n := by
  have hi := (List.getElem?_eq_some_iff.mp h).1
  simp only [List.length_map, List.length_range] at hi
  rw [List.getElem?_map, List.getElem?_range hi] at h
  simp at h
  exact ⟨by omega, by omega⟩
theorem Ret.ixN {xs : List α} {i : Nat} {a : α} (h : xs[i]? = some a) : Ret (mix xs (i : Int)) a := .ix (L2.atI_nat h)
end
end Mi
/-! what each outcome is like; what is raised -/
namespace Mi
open Enc (enc)
open PySem L2 PySem.Spec PyProof.Rows
/-- each outcome of m is so -/
def Any {α : Type} (m : M α) (P : α → Prop) : Prop := ∀ (post : α → Prop) (px : Exn → Prop), (∀ a, P a → post a) → m post px
/-- m raises e -/
def Rai {α : Type} (m : M α) (e : Exn) : Prop := ∀ (post : α → Prop) (px : Exn → Prop), px e → m post px
section
variable {α β γ ρ : Type} {P : α → Prop} {R : β → Prop}
theorem Ret.any {m : M α} {a : α} (h : Ret m a) (p : P a) : Any m P := fun _ _ q => h _ _ (q a p)
theorem Any.ret {m : M α} {a : α} (h : Any m fun x => x = a) : Ret m a := fun _ _ q => h _ _ fun x e => e ▸ q
theorem Any.r {a : α} (h : P a) : Any (mr a) P := fun _ _ q => q a h
theorem Any.mono {m : M α} {P' : α → Prop} (h : Any m P) (e : ∀ a, P a → P' a) : Any m P' := fun _ _ q => h _ _ fun a p => q a (e a p)
theorem Any.b {m : M α} {k : α → M β} (h : Any m P) (h2 : ∀ a, P a → Any (k a) R) : Any (mb m k) R := fun post px q => h _ _ fun a p => h2 a p post px q
theorem Any.bR {m : M α} {a : α} {k : α → M β} (h : Ret m a) (h2 : Any (k a) R) : Any (mb m k) R := fun post px q => h _ _ (h2 post px q)
theorem Any.no {m : M α} (h : Any m P) : Any (mno m) P := fun _ _ q => h _ _ q
theorem Any.draw {n : Int} (h : 0 < n ∧ n < 1000000000000000000000000000000000000000000000000000000000000) : Any (mdraw n) fun d => 0 ≤ d ∧ d < n := fun _ _ q => mdraw_g h fun d d0 d1 => q d ⟨d0, d1⟩
theorem Any.bd {n : Int} {k : Int → M β} (h : 0 < n ∧ n < 1000000000000000000000000000000000000000000000000000000000000) (h2 : ∀ d, 0 ≤ d → d < n → Any (k d) R) : Any (mb (mdraw n) k) R := fun post px q => mdraw_g h fun d d0 d1 => h2 d d0 d1 post px q
theorem Ret.bA {m : M α} {k : α → M β} {b : β} (h : Any m P) (h2 : ∀ a, P a → Ret (k a) b) : Ret (mb m k) b := fun post px q => h _ _ fun a p => h2 a p post px q
theorem Ret.bd {n : Int} {k : Int → M β} {b : β} (h : 0 < n ∧ n < 1000000000000000000000000000000000000000000000000000000000000) (h2 : ∀ d, 0 ≤ d → d < n → Ret (k d) b) : Ret (mb (mdraw n) k) b := fun post px q => mdraw_g h fun d d0 d1 => h2 d d0 d1 post px q
theorem Any.ite {m : M Bool} {A B : M α} {c : Bool} (h : Ret m c) (h1 : c = true → Any A P) (h2 : c = false → Any B P) : Any (mite m A B) P := fun post px q => h _ _ (by
  cases c with
  | true => exact h1 rfl post px q
  | false => exact h2 rfl post px q)
theorem Any.if' {c : Prop} [Decidable c] {A B : M α} (h1 : c → Any A P) (h2 : ¬ c → Any B P) : Any (if c then A else B) P := by
  by_cases h : c
  · rw [if_pos h]; exact h1 h
  · rw [if_neg h]; exact h2 h
theorem Any.forM {xs : List γ} {c0 : α} {f : γ → α → M α} (I : Nat → α → Prop) (h0 : I 0 c0) (hs : ∀ i x c, xs[i]? = some x → I i c → Any (f x c) (I (i + 1))) : Any (Mi.forM xs c0 f) (I xs.length) := by
  induction xs generalizing c0 I with
  | nil => exact .r h0
  | cons x xs ih => exact .b (hs 0 x c0 rfl h0) fun c i1 => ih (fun i => I (i + 1)) i1 fun i y c e h => hs (i + 1) y c (by simpa using e) h
theorem Any.mix {xs : List α} {i : Int} (h0 : 0 ≤ i) (h1 : i < xs.length) : Any (Mi.mix xs i) fun a => a ∈ xs := fun _ _ q => mix_b' h0 h1 q
theorem Ret.bix {xs : List α} {i : Int} {k : α → M β} {b : β} (h0 : 0 ≤ i) (h1 : i < xs.length) (h2 : ∀ a ∈ xs, Ret (k a) b) : Ret (mb (Mi.mix xs i) k) b := .bA (.mix h0 h1) h2
theorem Rai.x {e : Exn} : Rai (α := α) (mx e) e := fun _ _ q => q
theorem Rai.b1 {m : M α} {k : α → M β} {e : Exn} (h : Rai m e) : Rai (mb m k) e := fun _ px q => h _ px q
theorem Rai.b {m : M α} {a : α} {k : α → M β} {e : Exn} (h : Ret m a) (h2 : Rai (k a) e) : Rai (mb m k) e := fun post px q => h _ _ (h2 post px q)
theorem Rai.ite {m : M Bool} {A B : M α} {c : Bool} {e : Exn} (h : Ret m c) (h1 : c = true → Rai A e) (h2 : c = false → Rai B e) : Rai (mite m A B) e := fun post px q => h _ _ (by
  cases c with
  | true => exact h1 rfl post px q
  | false => exact h2 rfl post px q)
theorem Rai.iteT {m : M Bool} {A B : M α} {e : Exn} (h : Ret m true) (h1 : Rai A e) : Rai (mite m A B) e := .ite h (fun _ => h1) (fun z => by cases z)
theorem Rai.iteF {m : M Bool} {A B : M α} {e : Exn} (h : Ret m false) (h1 : Rai B e) : Rai (mite m A B) e := .ite h (fun z => by cases z) (fun _ => h1)
theorem Rai.if' {c : Prop} [Decidable c] {A B : M α} {e : Exn} (h1 : c → Rai A e) (h2 : ¬ c → Rai B e) : Rai (if c then A else B) e := by
  by_cases h : c
  · rw [if_pos h]; exact h1 h
  · rw [if_neg h]; exact h2 h
theorem Ret.tryX {known : List Str} {m : M α} {h : Exn → M α} {e : Exn} {a : α} (h1 : Rai m e) (hk : e.cls ∈ known) (h2 : Ret (h e) a) : Ret (mtry0 known m h) a := fun post px q => h1 _ _ ⟨hk, h2 post px q⟩
theorem Ret.try0 {known : List Str} {m : M α} {h : Exn → M α} {a : α} (h1 : Ret m a) : Ret (mtry0 known m h) a := fun post px q => h1 _ _ q
theorem Ret.exf {ns : List Str} {ds : List D} {f : Str} {d : D} (h : (ns.zip ds).lookup f = some d) : Ret (mexf ns ds f) d := fun _ _ q => by
  unfold mexf; rw [h]; exact q
/-- nothing breaks the loop -/
theorem Any.forR {xs : List γ} {c0 : α} {f : γ → α → M (Stp α ρ)} (I : α → Prop) (h0 : I c0) (hs : ∀ x ∈ xs, ∀ c, I c → Any (f x c) fun s => ∃ c', s = .next c' ∧ I c') : Any (Mi.forR xs c0 f) fun o => ∃ c, o = .inl c ∧ I c := fun post px q =>
  forR_i I h0 (fun x c hx hc Q k => hs x hx c hc Q px fun s ⟨c', e, i⟩ => e ▸ k c' i) fun c h => q _ ⟨c, rfl, h⟩
end
end Mi

local macro_rules | `(tactic| walk_at "tr") => `(tactic| first
  | assumption
  | exact Cf.Tr.same
  | exact Cf.Tr.of (by assumption)
  | exact Cf.StAt.tp (by assumption)
  | exact Cf.StAt.tq (by assumption)
  | (refine Cf.Tr.up ?_; walk_at "tr")
  | (refine Cf.Tr.keep (by assumption) (by walk_at "nin") ?_; walk_at "tr"))
local macro_rules | `(tactic| walk_at "ne") => `(tactic| first
  | assumption
  | exact Ne.symm (by assumption)
  | exact Cf.ne_new (by assumption) (by walk_at "tr")
  | exact Cf.ne_new' (by assumption) (by walk_at "tr"))
local macro_rules | `(tactic| walk_at "nin") => `(tactic| first
  | exact Cf.nin0
  | (refine Cf.nin1 ?_; walk_at "ne")
  | (refine Cf.ninc ?a ?b; (case a => walk_at "ne"); (case b => walk_at "nin")))
local macro_rules | `(tactic| walk_at "hp") => `(tactic| first
  | assumption
  | exact L2.upd_same
  | (refine Cf.get_new (by assumption) ?_; walk_at "hp")
  | (refine Cf.get_ne (by walk_at "ne") ?_; walk_at "hp")
  | (refine Cf.Keep.at (by assumption) (by walk_at "nin") ?_; walk_at "hp"))
local macro_rules | `(tactic| walk_at "kd") => `(tactic| first
  | exact Cf.KdOf.non | exact Cf.KdOf.bl _ | exact Cf.KdOf.int _ | exact Cf.KdOf.str _
  | (exact Cf.KdOf.lst (by walk_at "hp")) | (exact Cf.KdOf.tup (by walk_at "hp")) | (exact Cf.KdOf.dic (by walk_at "hp")))
local macro_rules | `(tactic| walk_at "fr") => `(tactic| first
  | assumption
  | exact (Cf.upd_none (by assumption)).2
  | exact (Cf.upd_none (Cf.upd_none (by assumption)).2).2
  | exact (Cf.upd_none (Cf.upd_none (Cf.upd_none (by assumption)).2).2).2
  | exact (Cf.upd_none (Cf.upd_none (Cf.upd_none (Cf.upd_none (by assumption)).2).2).2).2
  | exact (Cf.upd_none (Cf.upd_none (Cf.upd_none (Cf.upd_none (Cf.upd_none (by assumption)).2).2).2).2).2
  | exact (Cf.upd_none (Cf.upd_none (Cf.upd_none (Cf.upd_none (Cf.upd_none (Cf.upd_none (by assumption)).2).2).2).2).2).2
  | exact (Cf.upd_none (Cf.upd_none (Cf.upd_none (Cf.upd_none (Cf.upd_none (Cf.upd_none (Cf.upd_none (by assumption)).2).2).2).2).2).2).2
  | exact (Cf.upd_none (Cf.upd_none (Cf.upd_none (Cf.upd_none (Cf.upd_none (Cf.upd_none (Cf.upd_none (Cf.upd_none (by assumption)).2).2).2).2).2).2).2).2
  | exact (Cf.upd_none (Cf.upd_none (Cf.upd_none (Cf.upd_none (Cf.upd_none (Cf.upd_none (Cf.upd_none (Cf.upd_none (Cf.upd_none (by assumption)).2).2).2).2).2).2).2).2).2)
local macro_rules | `(tactic| walk_at "sub") => `(tactic| first
  | (intro b hb; exact hb)
  | (simp; done)
  | (intro b hb; simp only [List.mem_cons, List.not_mem_nil, or_false] at hb ⊢; first | exact hb | (subst hb; simp) | (rcases hb with h | h <;> simp [h]) | (rcases hb with h | h | h <;> simp [h]) | (rcases hb with h | h | h | h <;> simp [h])))
local macro_rules | `(tactic| walk_at "kp") => `(tactic| first
  | exact Cf.Keep.refl _
  | assumption
  | (refine Cf.Keep.new ?_ (by assumption); walk_at "kp")
  | (refine Cf.Keep.mut ?_ (by first | (simp; done) | assumption); walk_at "kp")
  | (refine Cf.Keep.mutN ?_ (by walk_at "fr"); walk_at "kp")
  | (refine Cf.Keep.step (by assumption) (by walk_at "sub") ?_; walk_at "kp"))
local macro_rules | `(tactic| walk_at "side") => `(tactic| first
  | assumption
  | omega
  | (exact And.intro (by omega) (by omega))
  | rfl
  | decide
  | (exact Or.inr (by decide))
  | (exact Or.inl (by decide))
  | (exact Or.inl (by constructor <;> omega))
  | (exact Or.inr (by constructor <;> omega))
  | (exact And.intro (by first | assumption | decide | omega) (by first | assumption | decide | omega))
  | (exact And.intro (by omega) (by decide))
  | (exact And.intro (by decide) (And.intro (by decide) (by decide))))
local macro_rules | `(tactic| walk_at "gx1") => `(tactic| first
  | ((with_reducible refine' Cf.k_var ?e ?_); (case e => rfl))
  | (with_reducible refine' Cf.k_c ?_)
  | (with_reducible refine' Cf.k_op ?_)
  | (with_reducible refine' Cf.k_cons ?_)
  | (with_reducible refine' Cf.k_nil ?_)
  | (with_reducible refine' Cf.k_un ?_)
  | (with_reducible refine' Cf.k_call ?_)
  | (with_reducible refine' Cf.k_cb ?_)
  | (with_reducible refine' Cf.k_test ?_)
  | (with_reducible refine' Cf.k_tB ?_)
  | (with_reducible refine' Cf.k_tru ?_)
  | (with_reducible refine' Cf.k_ex ?_)
  | (with_reducible refine' Cf.k_exT ?_)
  | (with_reducible refine' Cf.k_exI ?_)
  | (with_reducible refine' Cf.k_exint ?_)
  | (with_reducible refine' Cf.k_and ?_)
  | (with_reducible refine' Cf.k_or ?_)
  | (with_reducible refine' Cf.k_not ?_)
  | (with_reducible refine' Cf.k_andV ?_)
  | (with_reducible refine' Cf.k_orV ?_)
  | (with_reducible refine' Cf.k_notV ?_)
  | (with_reducible refine' Cf.k_ifE ?_)
  | (with_reducible refine' Cf.k_tup ?_)
  | (with_reducible refine' Cf.k_lst ?_)
  | (with_reducible refine' Cf.k_asg ?_)
  | ((with_reducible refine' Cf.k_gname ?e ?_); (case e => ((try simp only [List.map_cons, List.map_nil, L2.wipe, List.set_cons_succ, List.set_cons_zero]); rfl)))
  | ((with_reducible refine' Cf.k_wipe ?e ?_); (case e => rfl))
  | (with_reducible refine' Cf.k_gsub ?_)
  | (with_reducible refine' Cf.k_ifs ?_)
  | (with_reducible refine' Cf.k_ret ?_)
  | (with_reducible refine' Cf.k_retN ?_)
  | (with_reducible refine' Cf.k_drop ?_)
  | (with_reducible refine' Cf.k_next ?_)
  | (with_reducible refine' Cf.k_for ?_)
  | (with_reducible refine' Cf.k_rng1 ?_)
  | (with_reducible refine' Cf.k_rng2 ?_)
  | (with_reducible refine' Cf.k_ilist ?_)
  | (with_reducible refine' Cf.k_itup ?_)
  | ((with_reducible refine' Cf.k_exrng ?c ?_); (case c => walk_at "side"))
  | ((with_reducible refine' Cf.k_exrng2 ?c ?_); (case c => walk_at "side"))
  | ((with_reducible refine' Cf.k_exlst ?c ?_); (case c => walk_at "hp"))
  | ((with_reducible refine' Cf.k_extup ?c ?_); (case c => walk_at "hp"))
  | (with_reducible refine' Cf.k_lc ?_)
  | (with_reducible refine' Cf.k_yes ?_)
  | (with_reducible refine' Cf.k_brk ?_)
  | (with_reducible refine' Cf.k_cont ?_)
  | (with_reducible refine' Cf.k_bm0 ?_)
  | (with_reducible refine' Cf.k_bm ?_)
  | (with_reducible refine' Cf.k_fld ?_)
  | (with_reducible refine' Cf.k_sfld ?_)
  | (with_reducible refine' Cf.k_prop ?_)
  | ((with_reducible refine' Cf.k_size ?h ?_); (case h => rfl))
  | (with_reducible refine' Cf.k_meth ?_)
  | (with_reducible refine' Cf.k_make ?_)
  | (with_reducible refine' Cf.k_disp ?_)
  | (with_reducible refine' Cf.k_pairs_nil ?_)
  | (with_reducible refine' Cf.k_pairs ?_)
  | ((with_reducible refine' Cf.kr_fld ?h ?c ?n ?l ?_); (case h => walk_at "hp"); (case c => assumption); (case n => assumption); (case l => walk_at "lk"))
  | ((with_reducible refine' Cf.kr_sfld ?h ?c ?n ?l ?e ?_); (case h => walk_at "hp"); (case c => assumption); (case n => assumption); (case l => walk_at "lk"); (case e => walk_at "lk"))
  | ((with_reducible refine' Cf.kr_meth ?h ?l ?_); (case h => walk_at "hp"); (case l => walk_at "lk"))
  | ((with_reducible refine' Cf.kr_prop ?h ?_); (case h => walk_at "hp"))
  | ((with_reducible refine' Cf.k_tyL ?h ?_); (case h => walk_at "hp"))
  | ((with_reducible refine' Cf.kr_append ?h ?l ?_); (case h => walk_at "hp"); (case l => walk_at "side"))
  | ((with_reducible refine' Cf.kr_pop0 ?h ?_); (case h => walk_at "hp"))
  | ((with_reducible refine' Cf.kr_inI ?h ?f ?g ?e ?_); (case h => walk_at "hp"); (case f => rfl); (case g => (first | exact Cf.ints_flat | rfl)); (case e => (first | exact Cf.inV_ints | rfl)))
  | ((with_reducible refine' Cf.kr_slL ?h ?_); (case h => walk_at "hp"))
  | (with_reducible refine' Cf.k_sl ?_)
  | (with_reducible refine' Cf.k_nopart ?_)
  | (with_reducible refine' Cf.k_part ?_)
  | (with_reducible refine' Cf.kr_I0 ?_)
  | ((with_reducible refine' Cf.kr_I ?c ?_); (case c => walk_at "side"))
  | (with_reducible refine' Cf.kr_U ?_)
  | (with_reducible refine' Cf.kr_plus ?_)
  | ((with_reducible refine' Cf.kr_times ?c ?_); (case c => walk_at "side"))
  | ((with_reducible refine' Cf.kr_eq ?c ?_); (case c => rfl))
  | ((with_reducible refine' Cf.kr_ne ?c ?_); (case c => rfl))
  | ((with_reducible refine' Cf.kr_ixL ?h ?a ?_); (case h => walk_at "hp"); (case a => (first | rfl | exact Cf.atI_zero | exact L2.atI_last _ _)))
  | ((with_reducible refine' Cf.kr_ixT ?h ?a ?_); (case h => walk_at "hp"); (case a => (first | rfl | exact Cf.atI_zero | exact L2.atI_last _ _)))
  | ((with_reducible refine' Cf.kr_ixD ?h ?a ?_); (case h => walk_at "hp"); (case a => walk_at "lk"))
  | ((with_reducible refine' Cf.kr_setD ?h ?l ?e ?_); (case h => walk_at "hp"); (case l => walk_at "lk"); (case e => walk_at "lk"))
  | ((with_reducible refine' Cf.kr_setL ?h ?a ?e ?_); (case h => walk_at "hp"); (case a => rfl); (case e => ((try simp only [Int.reduceToNat, List.set_cons_succ, List.set_cons_zero]); rfl)))
  | ((with_reducible refine' Cf.kr_lenL ?h ?_); (case h => walk_at "hp"))
  | ((with_reducible refine' Cf.kr_lenT ?h ?_); (case h => walk_at "hp"))
  | (with_reducible refine' Cf.kr_int ?_)
  | (with_reducible refine' Cf.kr_isN ?_)
  | (with_reducible refine' Cf.kr_notN ?_)
  | ((with_reducible refine' Cf.kr_isi_bool ?ty ?_); (case ty => walk_at "kd"))
  | ((with_reducible refine' Cf.kr_isi_int ?ty ?_); (case ty => walk_at "kd"))
  | ((with_reducible refine' Cf.kr_isi_str ?ty ?_); (case ty => walk_at "kd"))
  | ((with_reducible refine' Cf.kr_isi_list ?ty ?_); (case ty => walk_at "kd"))
  | ((with_reducible refine' Cf.kr_isi_tuple ?ty ?_); (case ty => walk_at "kd"))
  | ((with_reducible refine' Cf.kr_isi_dict ?ty ?_); (case ty => walk_at "kd"))
  | ((with_reducible refine' Cf.kr_listL ?h ?_); (case h => walk_at "hp"))
  | ((with_reducible refine' Cf.kr_tupL ?h ?_); (case h => walk_at "hp"))
  | ((with_reducible refine' Cf.k_iteT ?c ?_); (case c => first | assumption | rfl))
  | ((with_reducible refine' Cf.k_iteF ?c ?_); (case c => first | assumption | rfl)))
local macro_rules | `(tactic| walk_at "go1") => `(tactic| first
  | walk_at "gx1"
  | (with_reducible refine' Cf.k_seq ?_))
local macro_rules | `(tactic| walk_at "go") => `(tactic| repeat walk_at "go1")
local macro_rules | `(tactic| walk_at "gx") => `(tactic| repeat walk_at "gx1")
local macro_rules | `(tactic| walk_at "g1") => `(tactic| ((with_reducible refine' Cf.k_seq ?_); walk_at "gx"))
local macro_rules | `(tactic| walk_at "start") => `(tactic| simp only [Cf.start_cons, Cf.start_none, Cf.start_nil])

local macro_rules | `(tactic| walk_at "ret1") => `(tactic| first
  | with_reducible assumption
  | with_reducible exact Mi.Ret.r
  | with_reducible apply Mi.Ret.b
  | with_reducible apply Mi.Ret.no
  | with_reducible exact Mi.Ret.int
  | with_reducible exact Mi.Ret.str
  | with_reducible exact Mi.Ret.ix rfl
  | with_reducible exact Mi.Ret.lenT
  | with_reducible exact Mi.Ret.lenL
  | with_reducible refine Mi.Ret.addS (by walk_at "sz")
  | with_reducible refine Mi.Ret.lenS (by walk_at "sz")
  | with_reducible refine Mi.Ret.slS (by walk_at "sz")
  | with_reducible refine Mi.Ret.mulI (by walk_at "sz")
  | with_reducible refine Mi.Ret.addL (by walk_at "sz")
  | with_reducible refine Mi.Ret.push (by walk_at "sz"))
local macro_rules | `(tactic| walk_at "sz") => `(tactic| first | assumption | omega | decide)
local macro_rules | `(tactic| walk_at "ret") => `(tactic| repeat' (walk_at "ret1"))
local macro_rules | `(tactic| walk_at "retof") => `(tactic| (apply Mi.Ret.of; (· walk_at "ret"); (· rfl)))
local macro_rules | `(tactic| walk_at "ln") => `(tactic| first | assumption | exact Nat.le_refl _)
local macro_rules | `(tactic| walk_at "lz") => `(tactic| first | assumption | (refine Nat.le_trans (by assumption) ?_; first | omega | decide) | decide)
local macro_rules | `(tactic| walk_at "lb") => `(tactic| repeat' (first | exact Mi.LB.nil | apply Mi.LB.cons | walk_at "lz"))
local macro_rules | `(tactic| walk_at "wp1") => `(tactic| first
  | (with_reducible apply Mi.addS_b; (· walk_at "ln"); (· walk_at "ln"); (· first | omega | decide); intro z hz)
  | (with_reducible apply Mi.cut_b; (· walk_at "ln"); (· first | omega | decide); intro z hz)
  | (with_reducible apply Mi.lenS_b; (· walk_at "ln"); (· first | omega | decide))
  | (with_reducible apply Mi.addL_b; (· first | assumption | walk_at "lb"); (· walk_at "lb"); (· first | omega | decide); intro x hx)
  | (with_reducible apply Mi.push_b; (· assumption); (· walk_at "lz"); (· first | omega | decide); intro x hx))
local macro_rules | `(tactic| walk_at "wp") => `(tactic| repeat (walk_at "wp1"))

namespace K
open PySem L2
open Cf hiding D Is IsL D.depth D.depths D.key is_key is_keys key_inj keys_inj keys_depth depth_mem Grow
open Mi
open Mi.Enc (enc)
structure Cover where
  spans : (List (Int × Int))
instance : Enc Cover := ⟨fun o => .obj "Cover" ["_spans"] [enc o.spans]⟩
instance : NotNon Cover := ⟨fun _ h => nomatch h⟩
def top (i : Nat) : Stmt := PySem.Challenge.pw_copiesfollow_k06_whole_cover_pieces.main.body.getD i (.Pass ⟨0, 0, 0, 0⟩)
abbrev s_law_mixed : Stmt := top 19
theorem sc_law_mixed : FnScope ["cell", "turn", "limit", "once"] ["cell", "turn", "limit"] (defScope s_law_mixed) := ⟨rfl, rfl, rfl, by decide +kernel, rfl, by decide +kernel, by decide +kernel⟩
abbrev s_law_draw : Stmt := top 20
theorem sc_law_draw : FnScope ["state", "limit", "digit", "cell"] ["state", "limit"] (defScope s_law_draw) := ⟨rfl, rfl, rfl, by decide +kernel, rfl, by decide +kernel, by decide +kernel⟩
abbrev s_law_start : Stmt := top 18
theorem sc_law_start : FnScope ["script"] ["script"] (defScope s_law_start) := ⟨rfl, rfl, rfl, by decide +kernel, rfl, by decide +kernel, by decide +kernel⟩
abbrev s_law_same : Stmt := top 17
theorem sc_law_same : FnScope ["here", "there", "key", "k"] ["here", "there"] (defScope s_law_same) := ⟨rfl, rfl, rfl, by decide +kernel, rfl, by decide +kernel, by decide +kernel⟩
abbrev s_with_span : Stmt := top 7
theorem sc_with_span : FnScope ["spans", "start", "stop", "found", "placed", "left", "right"] ["spans", "start", "stop"] (defScope s_with_span) := ⟨rfl, rfl, rfl, by decide +kernel, rfl, by decide +kernel, by decide +kernel⟩
abbrev s_union : Stmt := top 8
theorem sc_union : FnScope ["first", "second", "found", "start", "stop"] ["first", "second"] (defScope s_union) := ⟨rfl, rfl, rfl, by decide +kernel, rfl, by decide +kernel, by decide +kernel⟩
abbrev s_without : Stmt := top 10
theorem sc_without : FnScope ["first", "second", "found", "left", "right", "at", "start", "stop"] ["first", "second"] (defScope s_without) := ⟨rfl, rfl, rfl, by decide +kernel, rfl, by decide +kernel, by decide +kernel⟩
abbrev s_remainders : Stmt := top 11
theorem sc_remainders : FnScope ["spans", "size", "found", "start", "stop", "low", "high"] ["spans", "size"] (defScope s_remainders) := ⟨rfl, rfl, rfl, by decide +kernel, rfl, by decide +kernel, by decide +kernel⟩
abbrev s_check_size : Stmt := top 12
theorem sc_check_size : FnScope ["size"] ["size"] (defScope s_check_size) := ⟨rfl, rfl, rfl, by decide +kernel, rfl, by decide +kernel, by decide +kernel⟩
abbrev s_Cover_init : Stmt := inClass (top 14) 0
theorem sc_Cover_init : FnScope ["self", "spans", "found", "start", "stop"] ["self", "spans"] (defScope s_Cover_init) := ⟨rfl, rfl, rfl, by decide +kernel, rfl, by decide +kernel, by decide +kernel⟩
abbrev s_Coverdd__booldd_ : Stmt := inClass (top 14) 7
theorem sc_Coverdd__booldd_ : FnScope ["self"] ["self"] (defScope s_Coverdd__booldd_) := ⟨rfl, rfl, rfl, by decide +kernel, rfl, by decide +kernel, by decide +kernel⟩
abbrev s_Coverdd__eqdd_ : Stmt := inClass (top 14) 8
theorem sc_Coverdd__eqdd_ : FnScope ["self", "other"] ["self", "other"] (defScope s_Coverdd__eqdd_) := ⟨rfl, rfl, rfl, by decide +kernel, rfl, by decide +kernel, by decide +kernel⟩
abbrev s_Coverdd__ledd_ : Stmt := inClass (top 14) 9
theorem sc_Coverdd__ledd_ : FnScope ["self", "other"] ["self", "other"] (defScope s_Coverdd__ledd_) := ⟨rfl, rfl, rfl, by decide +kernel, rfl, by decide +kernel, by decide +kernel⟩
abbrev s_Coverdd__ordd_ : Stmt := inClass (top 14) 11
theorem sc_Coverdd__ordd_ : FnScope ["self", "other"] ["self", "other"] (defScope s_Coverdd__ordd_) := ⟨rfl, rfl, rfl, by decide +kernel, rfl, by decide +kernel, by decide +kernel⟩
abbrev s_Coverdd__subdd_ : Stmt := inClass (top 14) 14
theorem sc_Coverdd__subdd_ : FnScope ["self", "other"] ["self", "other"] (defScope s_Coverdd__subdd_) := ⟨rfl, rfl, rfl, by decide +kernel, rfl, by decide +kernel, by decide +kernel⟩
abbrev s_Coverdd__floordivdd_ : Stmt := inClass (top 14) 19
theorem sc_Coverdd__floordivdd_ : FnScope ["self", "other", "start", "stop"] ["self", "other"] (defScope s_Coverdd__floordivdd_) := ⟨rfl, rfl, rfl, by decide +kernel, rfl, by decide +kernel, by decide +kernel⟩
abbrev s_Coverdd__moddd_ : Stmt := inClass (top 14) 20
theorem sc_Coverdd__moddd_ : FnScope ["self", "other"] ["self", "other"] (defScope s_Coverdd__moddd_) := ⟨rfl, rfl, rfl, by decide +kernel, rfl, by decide +kernel, by decide +kernel⟩
abbrev s_Coverdd__muldd_ : Stmt := inClass (top 14) 21
theorem sc_Coverdd__muldd_ : FnScope ["self", "other", "start", "stop"] ["self", "other"] (defScope s_Coverdd__muldd_) := ⟨rfl, rfl, rfl, by decide +kernel, rfl, by decide +kernel, by decide +kernel⟩
abbrev s_Coverdd__rmuldd_ : Stmt := inClass (top 14) 22
theorem sc_Coverdd__rmuldd_ : FnScope ["self", "other", "start", "stop"] ["self", "other"] (defScope s_Coverdd__rmuldd_) := ⟨rfl, rfl, rfl, by decide +kernel, rfl, by decide +kernel, by decide +kernel⟩
abbrev s_law_whole : Stmt := top 16
theorem sc_law_whole : FnScope ["x"] ["x"] (defScope s_law_whole) := ⟨rfl, rfl, rfl, by decide +kernel, rfl, by decide +kernel, by decide +kernel⟩
abbrev s_law_pairs : Stmt := top 21
theorem sc_law_pairs : FnScope ["state", "most", "kind", "base", "found", "step", "wide", "many", "turn", "k", "start", "length", "near"] ["state", "most"] (defScope s_law_pairs) := ⟨rfl, rfl, rfl, by decide +kernel, rfl, by decide +kernel, by decide +kernel⟩
abbrev s_law_has : Stmt := top 22
theorem sc_law_has : FnScope ["pairs", "place", "pair"] ["pairs", "place"] (defScope s_law_has) := ⟨rfl, rfl, rfl, by decide +kernel, rfl, by decide +kernel, by decide +kernel⟩
abbrev s_law_exact : Stmt := top 23
theorem sc_law_exact : FnScope ["spans", "pairs", "behind", "span", "pair", "inside"] ["spans", "pairs"] (defScope s_law_exact) := ⟨rfl, rfl, rfl, by decide +kernel, rfl, by decide +kernel, by decide +kernel⟩
abbrev s_law_spans : Stmt := top 24
theorem sc_law_spans : FnScope ["points", "flags", "found", "start", "k"] ["points", "flags"] (defScope s_law_spans) := ⟨rfl, rfl, rfl, by decide +kernel, rfl, by decide +kernel, by decide +kernel⟩
abbrev s_law_touched : Stmt := top 25
theorem sc_law_touched : FnScope ["pairs", "size", "pair"] ["pairs", "size"] (defScope s_law_touched) := ⟨rfl, rfl, rfl, by decide +kernel, rfl, by decide +kernel, by decide +kernel⟩
abbrev s_law_left_over : Stmt := top 26
theorem sc_law_left_over : FnScope ["pairs", "size", "number", "pair"] ["pairs", "size", "number"] (defScope s_law_left_over) := ⟨rfl, rfl, rfl, by decide +kernel, rfl, by decide +kernel, by decide +kernel⟩
abbrev s_law_remainders : Stmt := top 27
theorem sc_law_remainders : FnScope ["pairs", "size", "found", "pair", "points", "x", "k"] ["pairs", "size"] (defScope s_law_remainders) := ⟨rfl, rfl, rfl, by decide +kernel, rfl, by decide +kernel, by decide +kernel⟩
abbrev s_law_sized : Stmt := top 28
theorem sc_law_sized : FnScope ["cover", "way", "size"] ["cover", "way", "size"] (defScope s_law_sized) := ⟨rfl, rfl, rfl, by decide +kernel, rfl, by decide +kernel, by decide +kernel⟩
abbrev s_law_refused : Stmt := top 29
theorem sc_law_refused : FnScope ["cover", "way", "size", "made", "e"] ["cover", "way", "size"] (defScope s_law_refused) := ⟨rfl, rfl, rfl, by decide +kernel, rfl, by decide +kernel, by decide +kernel⟩
abbrev s_law_least : Stmt := top 30
theorem sc_law_least : FnScope ["state", "cover", "pieces", "touched", "size", "pair", "one", "some", "more", "k", "near", "union_of_more"] ["state", "cover", "pieces", "touched", "size"] (defScope s_law_least) := ⟨rfl, rfl, rfl, by decide +kernel, rfl, by decide +kernel, by decide +kernel⟩
abbrev s_law_pieces : Stmt := top 31
theorem sc_law_pieces : FnScope ["state", "cover", "pairs", "size", "spans", "touched", "pieces", "wide", "pair"] ["state", "cover", "pairs", "size"] (defScope s_law_pieces) := ⟨rfl, rfl, rfl, by decide +kernel, rfl, by decide +kernel, by decide +kernel⟩
abbrev s_Coverdd__iterdd_ : Stmt := inClass (top 14) 4
theorem sc_Coverdd__iterdd_ : FnScope ["self"] ["self"] (defScope s_Coverdd__iterdd_) := ⟨rfl, rfl, rfl, by decide +kernel, rfl, by decide +kernel, by decide +kernel⟩
abbrev s_law : Stmt := top 32
theorem sc_law : FnScope ["script", "state", "pairs", "cover", "sizes", "pair", "size", "low", "way"] ["script"] (defScope s_law) := ⟨rfl, rfl, rfl, by decide +kernel, rfl, by decide +kernel, by decide +kernel⟩
abbrev s_BadSize_init : Stmt := inClass (top 5) 0
structure Txt (P : Program) (w : World) (K : PySem.W.Frag) (mg : Str → Option Value) : Type where
  z_bool : mg "bool" = none
  z_dict : mg "dict" = none
  z_int : mg "int" = none
  z_isinstance : mg "isinstance" = none
  z_iter : mg "iter" = none
  z_len : mg "len" = none
  z_list : mg "list" = none
  z_max : mg "max" = none
  z_range : mg "range" = none
  z_sorted : mg "sorted" = none
  z_str : mg "str" = none
  z_tuple : mg "tuple" = none
  c_Cover : Addr
  cl_Cover : Cls K c_Cover
  mc_Cover : mg "Cover" = some (.ref c_Cover)
  sf_Cover : PySem.W.selfFirst K c_Cover = true
  ii_Cover : C8.InsC K c_Cover
  nf_Cover : PySem.W.notFirst K c_Cover (.ref c_Cover) = true
  n_Cover_spans : NoAttr K c_Cover "_spans"
  a_law_mixed : Addr
  d_law_mixed : FuncData
  F_law_mixed : Fun K "_law_mixed" "_law_mixed" s_law_mixed a_law_mixed d_law_mixed
  b_law_mixed : Binds K d_law_mixed ["cell", "turn", "limit"] []
  m_law_mixed : mg "_law_mixed" = some (.ref a_law_mixed)
  a_law_draw : Addr
  d_law_draw : FuncData
  F_law_draw : Fun K "_law_draw" "_law_draw" s_law_draw a_law_draw d_law_draw
  b_law_draw : Binds K d_law_draw ["state", "limit"] []
  m_law_draw : mg "_law_draw" = some (.ref a_law_draw)
  a_law_start : Addr
  d_law_start : FuncData
  F_law_start : Fun K "_law_start" "_law_start" s_law_start a_law_start d_law_start
  b_law_start : Binds K d_law_start ["script"] []
  m_law_start : mg "_law_start" = some (.ref a_law_start)
  a_law_same : Addr
  d_law_same : FuncData
  F_law_same : Fun K "_law_same" "_law_same" s_law_same a_law_same d_law_same
  b_law_same : Binds K d_law_same ["here", "there"] []
  m_law_same : mg "_law_same" = some (.ref a_law_same)
  a_with_span : Addr
  d_with_span : FuncData
  F_with_span : Fun K "with_span" "with_span" s_with_span a_with_span d_with_span
  b_with_span : Binds K d_with_span ["spans", "start", "stop"] []
  m_with_span : mg "with_span" = some (.ref a_with_span)
  a_union : Addr
  d_union : FuncData
  F_union : Fun K "union" "union" s_union a_union d_union
  b_union : Binds K d_union ["first", "second"] []
  m_union : mg "union" = some (.ref a_union)
  a_without : Addr
  d_without : FuncData
  F_without : Fun K "without" "without" s_without a_without d_without
  b_without : Binds K d_without ["first", "second"] []
  m_without : mg "without" = some (.ref a_without)
  a_remainders : Addr
  d_remainders : FuncData
  F_remainders : Fun K "remainders" "remainders" s_remainders a_remainders d_remainders
  b_remainders : Binds K d_remainders ["spans", "size"] []
  m_remainders : mg "remainders" = some (.ref a_remainders)
  a_check_size : Addr
  d_check_size : FuncData
  F_check_size : Fun K "check_size" "check_size" s_check_size a_check_size d_check_size
  b_check_size : Binds K d_check_size ["size"] []
  m_check_size : mg "check_size" = some (.ref a_check_size)
  a_Cover_init : Addr
  d_Cover_init : FuncData
  e_Cover_init_0 : Addr
  te_Cover_init_0 : ∀ H, SqT K H e_Cover_init_0 []
  F_Cover_init : FunD K "__init__" "Cover.__init__" (defArgs s_Cover_init) (defBody s_Cover_init) (defScope s_Cover_init) [.ref e_Cover_init_0] [] a_Cover_init d_Cover_init
  bd_Cover_init_0 : ∃ ds, Vals ([.ref e_Cover_init_0] : List V) ds ∧ Binds K d_Cover_init ["self", "spans"] ds
  bd_Cover_init_1 : ∃ ds, Vals ([] : List V) ds ∧ Binds K d_Cover_init ["self", "spans"] ds
  mk_Cover : Mk K c_Cover a_Cover_init
  a_Coverdd__booldd_ : Addr
  d_Coverdd__booldd_ : FuncData
  F_Coverdd__booldd_ : Fun K "__bool__" "Cover.__bool__" s_Coverdd__booldd_ a_Coverdd__booldd_ d_Coverdd__booldd_
  b_Coverdd__booldd_ : Binds K d_Coverdd__booldd_ ["self"] []
  om_Coverdd__booldd_ : OwnM K c_Cover "__bool__" a_Coverdd__booldd_
  a_Coverdd__eqdd_ : Addr
  d_Coverdd__eqdd_ : FuncData
  F_Coverdd__eqdd_ : Fun K "__eq__" "Cover.__eq__" s_Coverdd__eqdd_ a_Coverdd__eqdd_ d_Coverdd__eqdd_
  b_Coverdd__eqdd_ : Binds K d_Coverdd__eqdd_ ["self", "other"] []
  om_Coverdd__eqdd_ : OwnM K c_Cover "__eq__" a_Coverdd__eqdd_
  a_Coverdd__ledd_ : Addr
  d_Coverdd__ledd_ : FuncData
  F_Coverdd__ledd_ : Fun K "__le__" "Cover.__le__" s_Coverdd__ledd_ a_Coverdd__ledd_ d_Coverdd__ledd_
  b_Coverdd__ledd_ : Binds K d_Coverdd__ledd_ ["self", "other"] []
  om_Coverdd__ledd_ : OwnM K c_Cover "__le__" a_Coverdd__ledd_
  a_Coverdd__ordd_ : Addr
  d_Coverdd__ordd_ : FuncData
  F_Coverdd__ordd_ : Fun K "__or__" "Cover.__or__" s_Coverdd__ordd_ a_Coverdd__ordd_ d_Coverdd__ordd_
  b_Coverdd__ordd_ : Binds K d_Coverdd__ordd_ ["self", "other"] []
  om_Coverdd__ordd_ : OwnM K c_Cover "__or__" a_Coverdd__ordd_
  a_Coverdd__subdd_ : Addr
  d_Coverdd__subdd_ : FuncData
  F_Coverdd__subdd_ : Fun K "__sub__" "Cover.__sub__" s_Coverdd__subdd_ a_Coverdd__subdd_ d_Coverdd__subdd_
  b_Coverdd__subdd_ : Binds K d_Coverdd__subdd_ ["self", "other"] []
  om_Coverdd__subdd_ : OwnM K c_Cover "__sub__" a_Coverdd__subdd_
  a_Coverdd__floordivdd_ : Addr
  d_Coverdd__floordivdd_ : FuncData
  F_Coverdd__floordivdd_ : Fun K "__floordiv__" "Cover.__floordiv__" s_Coverdd__floordivdd_ a_Coverdd__floordivdd_ d_Coverdd__floordivdd_
  b_Coverdd__floordivdd_ : Binds K d_Coverdd__floordivdd_ ["self", "other"] []
  om_Coverdd__floordivdd_ : OwnM K c_Cover "__floordiv__" a_Coverdd__floordivdd_
  ot_Coverdd__floordivdd_ : OwnT K c_Cover .FloorDiv "int" a_Coverdd__floordivdd_
  a_Coverdd__moddd_ : Addr
  d_Coverdd__moddd_ : FuncData
  F_Coverdd__moddd_ : Fun K "__mod__" "Cover.__mod__" s_Coverdd__moddd_ a_Coverdd__moddd_ d_Coverdd__moddd_
  b_Coverdd__moddd_ : Binds K d_Coverdd__moddd_ ["self", "other"] []
  om_Coverdd__moddd_ : OwnM K c_Cover "__mod__" a_Coverdd__moddd_
  ot_Coverdd__moddd_ : OwnT K c_Cover .Mod "int" a_Coverdd__moddd_
  a_Coverdd__muldd_ : Addr
  d_Coverdd__muldd_ : FuncData
  F_Coverdd__muldd_ : Fun K "__mul__" "Cover.__mul__" s_Coverdd__muldd_ a_Coverdd__muldd_ d_Coverdd__muldd_
  b_Coverdd__muldd_ : Binds K d_Coverdd__muldd_ ["self", "other"] []
  om_Coverdd__muldd_ : OwnM K c_Cover "__mul__" a_Coverdd__muldd_
  ot_Coverdd__muldd_ : OwnT K c_Cover .Mult "int" a_Coverdd__muldd_
  a_Coverdd__rmuldd_ : Addr
  d_Coverdd__rmuldd_ : FuncData
  F_Coverdd__rmuldd_ : Fun K "__rmul__" "Cover.__rmul__" s_Coverdd__rmuldd_ a_Coverdd__rmuldd_ d_Coverdd__rmuldd_
  b_Coverdd__rmuldd_ : Binds K d_Coverdd__rmuldd_ ["self", "other"] []
  om_Coverdd__rmuldd_ : OwnM K c_Cover "__rmul__" a_Coverdd__rmuldd_
  or_Coverdd__rmuldd_ : OwnR K c_Cover a_Coverdd__rmuldd_
  a_law_whole : Addr
  d_law_whole : FuncData
  F_law_whole : Fun K "_law_whole" "_law_whole" s_law_whole a_law_whole d_law_whole
  b_law_whole : Binds K d_law_whole ["x"] []
  m_law_whole : mg "_law_whole" = some (.ref a_law_whole)
  a_law_pairs : Addr
  d_law_pairs : FuncData
  F_law_pairs : Fun K "_law_pairs" "_law_pairs" s_law_pairs a_law_pairs d_law_pairs
  b_law_pairs : Binds K d_law_pairs ["state", "most"] []
  m_law_pairs : mg "_law_pairs" = some (.ref a_law_pairs)
  a_law_has : Addr
  d_law_has : FuncData
  F_law_has : Fun K "_law_has" "_law_has" s_law_has a_law_has d_law_has
  b_law_has : Binds K d_law_has ["pairs", "place"] []
  m_law_has : mg "_law_has" = some (.ref a_law_has)
  a_law_exact : Addr
  d_law_exact : FuncData
  F_law_exact : Fun K "_law_exact" "_law_exact" s_law_exact a_law_exact d_law_exact
  b_law_exact : Binds K d_law_exact ["spans", "pairs"] []
  m_law_exact : mg "_law_exact" = some (.ref a_law_exact)
  a_law_spans : Addr
  d_law_spans : FuncData
  F_law_spans : Fun K "_law_spans" "_law_spans" s_law_spans a_law_spans d_law_spans
  b_law_spans : Binds K d_law_spans ["points", "flags"] []
  m_law_spans : mg "_law_spans" = some (.ref a_law_spans)
  a_law_touched : Addr
  d_law_touched : FuncData
  F_law_touched : Fun K "_law_touched" "_law_touched" s_law_touched a_law_touched d_law_touched
  b_law_touched : Binds K d_law_touched ["pairs", "size"] []
  m_law_touched : mg "_law_touched" = some (.ref a_law_touched)
  a_law_left_over : Addr
  d_law_left_over : FuncData
  F_law_left_over : Fun K "_law_left_over" "_law_left_over" s_law_left_over a_law_left_over d_law_left_over
  b_law_left_over : Binds K d_law_left_over ["pairs", "size", "number"] []
  m_law_left_over : mg "_law_left_over" = some (.ref a_law_left_over)
  a_law_remainders : Addr
  d_law_remainders : FuncData
  F_law_remainders : Fun K "_law_remainders" "_law_remainders" s_law_remainders a_law_remainders d_law_remainders
  b_law_remainders : Binds K d_law_remainders ["pairs", "size"] []
  m_law_remainders : mg "_law_remainders" = some (.ref a_law_remainders)
  a_law_sized : Addr
  d_law_sized : FuncData
  F_law_sized : Fun K "_law_sized" "_law_sized" s_law_sized a_law_sized d_law_sized
  b_law_sized : Binds K d_law_sized ["cover", "way", "size"] []
  m_law_sized : mg "_law_sized" = some (.ref a_law_sized)
  a_law_refused : Addr
  d_law_refused : FuncData
  F_law_refused : Fun K "_law_refused" "_law_refused" s_law_refused a_law_refused d_law_refused
  b_law_refused : Binds K d_law_refused ["cover", "way", "size"] []
  m_law_refused : mg "_law_refused" = some (.ref a_law_refused)
  a_law_least : Addr
  d_law_least : FuncData
  F_law_least : Fun K "_law_least" "_law_least" s_law_least a_law_least d_law_least
  b_law_least : Binds K d_law_least ["state", "cover", "pieces", "touched", "size"] []
  m_law_least : mg "_law_least" = some (.ref a_law_least)
  a_law_pieces : Addr
  d_law_pieces : FuncData
  F_law_pieces : Fun K "_law_pieces" "_law_pieces" s_law_pieces a_law_pieces d_law_pieces
  b_law_pieces : Binds K d_law_pieces ["state", "cover", "pairs", "size"] []
  m_law_pieces : mg "_law_pieces" = some (.ref a_law_pieces)
  a_Coverdd__iterdd_ : Addr
  d_Coverdd__iterdd_ : FuncData
  F_Coverdd__iterdd_ : Fun K "__iter__" "Cover.__iter__" s_Coverdd__iterdd_ a_Coverdd__iterdd_ d_Coverdd__iterdd_
  b_Coverdd__iterdd_ : Binds K d_Coverdd__iterdd_ ["self"] []
  it_Cover : ItF K c_Cover a_Coverdd__iterdd_
  a_law : Addr
  d_law : FuncData
  F_law : Fun K "law" "law" s_law a_law d_law
  b_law : Binds K d_law ["script"] []
  m_law : mg "law" = some (.ref a_law)
  c_BadSize : Addr
  mc_BadSize : mg "BadSize" = some (.ref c_BadSize)
  c_SlotError : Addr
  mc_SlotError : mg "SlotError" = some (.ref c_SlotError)
  c_BadPlace : Addr
  mc_BadPlace : mg "BadPlace" = some (.ref c_BadPlace)
  c_BadSpan : Addr
  mc_BadSpan : mg "BadSpan" = some (.ref c_BadSpan)
  i_BadSize : Addr
  sup_BadSize : PySem.SupX.SupTxt P K mg "BadSize" c_BadSize c_BadSize i_BadSize "size"
  xc_BadSize : ExcC K c_BadSize
  kt_BadSize_SlotError : PySem.W.kitOne K (.ref c_BadSize) (.ref c_SlotError) = some true
  em_BadSize_SlotError : PySem.W.exmOne K (.ref c_BadSize) (.ref c_SlotError) = some true
  kt_BadSize_BadPlace : PySem.W.kitOne K (.ref c_BadSize) (.ref c_BadPlace) = some false
  em_BadSize_BadPlace : PySem.W.exmOne K (.ref c_BadSize) (.ref c_BadPlace) = some false
  kt_BadSize_BadSpan : PySem.W.kitOne K (.ref c_BadSize) (.ref c_BadSpan) = some false
  em_BadSize_BadSpan : PySem.W.exmOne K (.ref c_BadSize) (.ref c_BadSpan) = some false
section
variable {P : Program} {w : World} {K : PySem.W.Frag} {mg : Str → Option Value} {base : Heap}
def ct (T : Txt P w K mg) : CT := fun s => if s = "Cover" then some T.c_Cover else if s = "BadSize" then some T.c_BadSize else if s = "SlotError" then some T.c_SlotError else if s = "BadPlace" then some T.c_BadPlace else if s = "BadSpan" then some T.c_BadSpan else none
theorem ct_Cover (T : Txt P w K mg) : ct T "Cover" = some T.c_Cover := by unfold ct; repeat (first | rw [if_pos rfl] | rw [if_neg (by decide)])
theorem ct_BadSize (T : Txt P w K mg) : ct T "BadSize" = some T.c_BadSize := by unfold ct; repeat (first | rw [if_pos rfl] | rw [if_neg (by decide)])
theorem ct_SlotError (T : Txt P w K mg) : ct T "SlotError" = some T.c_SlotError := by unfold ct; repeat (first | rw [if_pos rfl] | rw [if_neg (by decide)])
theorem ct_BadPlace (T : Txt P w K mg) : ct T "BadPlace" = some T.c_BadPlace := by unfold ct; repeat (first | rw [if_pos rfl] | rw [if_neg (by decide)])
theorem ct_BadSpan (T : Txt P w K mg) : ct T "BadSpan" = some T.c_BadSpan := by unfold ct; repeat (first | rw [if_pos rfl] | rw [if_neg (by decide)])
theorem ok_law_mixed (T : Txt P w K mg)  : FnOk P w K mg base CX0 (1) T.a_law_mixed T.d_law_mixed ["cell", "turn", "limit"] (spMixed) := by
  refine T.F_law_mixed.ok sc_law_mixed (fun vs H Q E h => by obtain ⟨_, _, _, rfl, _⟩ := h; rfl) (fun cdv A outer s H vs Q E hr h => ?_)
  have hu := hu_of hr
  have hu64 := hr.units
  refine ⟨_, (pss_cons (ps_set (i := 3) sc_law_mixed.nd rfl (by first | exact Or.inl rfl | exact Or.inr rfl) (pe_op op_mod (pe_callTy call_intA (by rfl) T.z_int (by decide +kernel) (pa_cons (pe_op op_plus (pe_op op_plus (pe_op op_times (pv 0) pe_int) (pe_op op_times (pv 1) pe_int)) pe_int) pa_nil)) pe_int))
      (pss_one (ps_ret (pe_op op_mod (pe_op op_mod (pe_callTy call_intA (by rfl) T.z_int (by decide +kernel) (pa_cons (pe_op op_plus (pe_op op_plus (pe_op op_times (pv 3) pe_int) (pe_op op_times (pv 1) pe_int)) pe_int) pa_nil)) pe_int) (pv 2))))), ?_⟩
  obtain ⟨c, t, n, rfl, h0, k⟩ := h
  walk_at "start"
  walk_at "go"
  exact k _ (Int.emod_nonneg _ (by omega)) (Int.emod_lt_of_pos _ h0)
theorem ok_law_draw (T : Txt P w K mg)  : FnOk P w K mg base CX0 (2) T.a_law_draw T.d_law_draw ["state", "limit"] (spDraw) := by
  refine T.F_law_draw.ok sc_law_draw (fun vs H Q E h => by obtain ⟨_, _, _, rfl, _⟩ := h; rfl) (fun cdv A outer s H vs Q E hr h => ?_)
  have hu := hu_of hr
  have hu64 := hr.units
  refine ⟨_, (pss_cons (ps_if (pt_cmpR op_gt (pe_ix (ix_any hu) (pv 0) pe_int (fun _ _ => rfl)) pe_int (nomark _)) (pss_cons (ps_set (i := 2) sc_law_draw.nd rfl (by first | exact Or.inl rfl | exact Or.inr rfl) (pe_op op_mod (pe_callTy call_intA (by rfl) T.z_int (by decide +kernel) (pa_cons (pe_ix (ix_any hu) (pv 0) pe_int (fun _ _ => rfl)) pa_nil)) (pv 1)))
      (pss_cons (ps_asg (pe_op op_fdivW (pe_ix (ix_any hu) (pv 0) pe_int (fun _ _ => rfl)) (pv 1)) (pg_sub (pv 0) pe_int (set_any hu)))
      (pss_one (ps_ret (pv 2))))) pss_nil)
      (pss_cons (ps_if (pt_cmpR op_gt (pe_ix (ix_any hu) (pv 0) pe_int (fun _ _ => rfl)) pe_int (nomark _)) (pss_cons (ps_asg (pe_op op_sub (pe_ix (ix_any hu) (pv 0) pe_int (fun _ _ => rfl)) pe_int) (pg_sub (pv 0) pe_int (set_any hu)))
      (pss_cons (ps_asg (pe_op op_plus (pe_ix (ix_any hu) (pv 0) pe_int (fun _ _ => rfl)) pe_int) (pg_sub (pv 0) pe_int (set_any hu)))
      (pss_one (ps_ret (pe_call (ok_law_mixed T) (hr.mono (by first | decide | omega)) (by rfl) T.m_law_mixed T.F_law_mixed.kp T.b_law_mixed .nil pass0 (pa_cons (pe_ix (ix_any hu) (pv 0) pe_int (fun _ _ => rfl)) (pa_cons (pe_ix (ix_any hu) (pv 0) pe_int (fun _ _ => rfl)) (pa_cons (pv 1) pa_nil)))))))) pss_nil)
      (pss_cons (ps_if (pt_cmpR op_ge (pe_ix (ix_any hu) (pv 0) pe_int (fun _ _ => rfl)) (pe_callB call_lenA (by rfl) T.z_len (by decide +kernel) (pa_cons (pe_ix (ix_any hu) (pv 0) pe_int (fun _ _ => rfl)) pa_nil)) (nomark _)) (pss_one (ps_ret pe_int)) pss_nil)
      (pss_cons (ps_set (i := 3) sc_law_draw.nd rfl (by first | exact Or.inl rfl | exact Or.inr rfl) (pe_ix (ix_any hu) (pe_ix (ix_any hu) (pv 0) pe_int (fun _ _ => rfl)) (pe_ix (ix_any hu) (pv 0) pe_int (fun _ _ => rfl)) (fun _ _ => rfl)))
      (pss_cons (ps_asg (pe_op op_plus (pe_ix (ix_any hu) (pv 0) pe_int (fun _ _ => rfl)) pe_int) (pg_sub (pv 0) pe_int (set_any hu)))
      (pss_cons (ps_if (pt_cmpR op_ge (pv 3) (pe_op op_pow pe_int pe_int) (nomark _)) (pss_cons (ps_asg (pe_op op_fdivW (pv 3) (pv 1)) (pg_sub (pv 0) pe_int (set_any hu)))
      (pss_one (ps_ret (pe_op op_mod (pe_callTy call_intA (by rfl) T.z_int (by decide +kernel) (pa_cons (pv 3) pa_nil)) (pv 1))))) pss_nil)
      (pss_cons (ps_asg (pv 3) (pg_sub (pv 0) pe_int (set_any hu)))
      (pss_cons (ps_asg pe_int (pg_sub (pv 0) pe_int (set_any hu)))
      (pss_cons (ps_asg (pe_op op_plus (pe_ix (ix_any hu) (pv 0) pe_int (fun _ _ => rfl)) pe_int) (pg_sub (pv 0) pe_int (set_any hu)))
      (pss_one (ps_ret (pe_call (ok_law_mixed T) (hr.mono (by first | decide | omega)) (by rfl) T.m_law_mixed T.F_law_mixed.kp T.b_law_mixed .nil pass0 (pa_cons (pv 3) (pa_cons (pe_ix (ix_any hu) (pv 0) pe_int (fun _ _ => rfl)) (pa_cons (pv 1) pa_nil))))))))))))))), ?_⟩
  obtain ⟨p, q, n, rfl, S, h0, h1, k⟩ := h
  obtain ⟨ne, ns, i, b, c, m, t, e1, e2, e3⟩ := id S
  walk_at "start"
  walk_at "go"
  refine k_ite (fun c1 => ?_) (fun c1 => ?_)
  · walk_at "go"
    exact k _ _ (Int.emod_nonneg _ (by omega)) (Int.emod_lt_of_pos _ h0) ⟨ne, ns, i, b / n, c, m, t, upd_same, get_ne ne e2, e3⟩ ((Keep.refl H).mut (by simp))
  walk_at "go"
  refine k_ite (fun c2 => ?_) (fun c2 => ?_)
  · walk_at "go"
    refine use_mixed h0 fun d d0 d1 => ?_
    exact k _ _ d0 d1 ⟨ne, ns, i, b, c, m - 1, t + 1, upd_same, get_ne ne (get_ne ne e2), e3⟩ (((Keep.refl H).mut (by simp)).mut (by simp))
  walk_at "go"
  refine k_ite (fun c3 => ?_) (fun c3 => ?_)
  · walk_at "go"
    exact k _ _ (Int.le_refl 0) h0 S (Keep.refl H)
  walk_at "go"
  obtain ⟨x, -, hx⟩ := atI_ints (ns := ns) e3 (by simpa using c3)
  refine kr_ixL e2 hx ?_
  walk_at "go"
  refine k_ite (fun c4 => ?_) (fun c4 => ?_)
  · walk_at "go"
    exact k _ _ (Int.emod_nonneg _ (by omega)) (Int.emod_lt_of_pos _ h0) ⟨ne, ns, i + 1, x / n, c, m, t, upd_same, get_ne ne (get_ne ne e2), by omega⟩ (((Keep.refl H).mut (by simp)).mut (by simp))
  · walk_at "go"
    refine use_mixed h0 fun d d0 d1 => ?_
    refine k _ _ d0 d1 ⟨ne, ns, i + 1, b, x, 3, t + 1, upd_same, get_ne ne (get_ne ne (get_ne ne (get_ne ne e2))), by omega⟩ (((((Keep.refl H).mut (by simp)).mut (by simp)).mut (by simp)).mut (by simp))
theorem ok_law_start (T : Txt P w K mg)  : FnOk P w K mg base CX0 (1) T.a_law_start T.d_law_start ["script"] (spStart K) := by
  refine T.F_law_start.ok sc_law_start (fun vs H Q E h => by obtain ⟨_, _, rfl, _⟩ := h; rfl) (fun cdv A outer s H vs Q E hr h => ?_)
  have hu := hu_of hr
  have hu64 := hr.units
  refine ⟨_, (pss_one (ps_ret (pe_lst (pa_cons (pe_callTy call_listA (by rfl) T.z_list (by decide +kernel) (pa_cons (pv 0) pa_nil)) (pa_cons pe_int (pa_cons pe_int (pa_cons pe_int (pa_cons pe_int (pa_cons pe_int pa_nil))))))))), ?_⟩
  obtain ⟨a, ns, rfl, hs, k⟩ := h
  walk_at "start"
  walk_at "go"
  refine ⟨a, _, rfl, .inl hs, fun l hl => ?_⟩
  walk_at "go"
  intro p hp
  have ne : l ≠ p := ne_new hp .same
  exact k p l _ (((Keep.refl H).new hl).free' hp) hl ⟨ne, ns, 0, 0, 0, 0, 0, upd_same, get_new hp upd_same, Int.le_refl _⟩ (((Keep.refl H).new hl).new hp)
noncomputable abbrev m_law_draw (n : Int) : M Int := mdraw n

local macro_rules | `(tactic| walk_at "sq") => `(tactic| repeat (first | walk_at "go1" | ((with_reducible refine' Cf.kr_isiQ_bool ?h ?_); (case h => assumption)) | ((with_reducible refine' Cf.kr_isiQ_int ?h ?_); (case h => assumption)) | ((with_reducible refine' Cf.kr_isiQ_str ?h ?_); (case h => assumption)) | ((with_reducible refine' Cf.kr_isiQ_list ?h ?_); (case h => assumption)) | ((with_reducible refine' Cf.kr_isiQ_tuple ?h ?_); (case h => assumption)) | ((with_reducible refine' Cf.kr_isiQ_dict ?h ?_); (case h => assumption)) | ((with_reducible refine' Cf.kr_lenQ ?h ?_); (case h => assumption))))
theorem same_step (T : Txt P w K mg) (n : Nat) (G : FnOk P w K mg base CX0 n T.a_law_same T.d_law_same ["here", "there"] (spSameG K (ct T) n)) : FnOk P w K mg base CX0 (n + 1) T.a_law_same T.d_law_same ["here", "there"] (spSameG K (ct T) (n + 1)) := by
  refine T.F_law_same.ok sc_law_same (fun vs H Q E h => by obtain ⟨_, _, _, _, rfl, _⟩ := h; rfl) (fun cdv A outer s H vs Q E hr h => ?_)
  have hu := hu_of hr
  have hu64 := hr.units
  refine ⟨_, (pss_cons (ps_if (PW.pt (pw_or (pt_cmpR op_isNA (pv 0) pe_non (nomark _)) (pw_or1 (pt_cmpR op_isNA (pv 1) pe_non (nomark _))))) (pss_one (ps_ret (pe_and (pe_cmpR op_isNA (pv 0) pe_non (nomark _)) (pe_one (pe_cmpR op_isNA (pv 1) pe_non (nomark _)))))) pss_nil)
      (pss_cons (ps_if (PW.pt (pw_or (pt_val (pe_callB call_isi (by rfl) T.z_isinstance (by decide +kernel) (pa_cons (pv 0) (pa_cons (pe_bltn (v := .ty "bool") (by rfl) T.z_bool (by decide +kernel) rfl) pa_nil)))) (pw_or1 (pt_val (pe_callB call_isi (by rfl) T.z_isinstance (by decide +kernel) (pa_cons (pv 1) (pa_cons (pe_bltn (v := .ty "bool") (by rfl) T.z_bool (by decide +kernel) rfl) pa_nil))))))) (pss_one (ps_ret (pe_and (pe_callB call_isi (by rfl) T.z_isinstance (by decide +kernel) (pa_cons (pv 0) (pa_cons (pe_bltn (v := .ty "bool") (by rfl) T.z_bool (by decide +kernel) rfl) pa_nil))) (pe_and (pe_callB call_isi (by rfl) T.z_isinstance (by decide +kernel) (pa_cons (pv 1) (pa_cons (pe_bltn (v := .ty "bool") (by rfl) T.z_bool (by decide +kernel) rfl) pa_nil))) (pe_one (pe_cmpR (op_eqq hu64) (pv 0) (pv 1) (nomark _))))))) pss_nil)
      (pss_cons (ps_if (PW.pt (pw_or (pt_val (pe_callB call_isi (by rfl) T.z_isinstance (by decide +kernel) (pa_cons (pv 0) (pa_cons (pe_bltn (v := .ty "int") (by rfl) T.z_int (by decide +kernel) rfl) pa_nil)))) (pw_or1 (pt_val (pe_callB call_isi (by rfl) T.z_isinstance (by decide +kernel) (pa_cons (pv 1) (pa_cons (pe_bltn (v := .ty "int") (by rfl) T.z_int (by decide +kernel) rfl) pa_nil))))))) (pss_one (ps_ret (pe_and (pe_callB call_isi (by rfl) T.z_isinstance (by decide +kernel) (pa_cons (pv 0) (pa_cons (pe_bltn (v := .ty "int") (by rfl) T.z_int (by decide +kernel) rfl) pa_nil))) (pe_and (pe_callB call_isi (by rfl) T.z_isinstance (by decide +kernel) (pa_cons (pv 1) (pa_cons (pe_bltn (v := .ty "int") (by rfl) T.z_int (by decide +kernel) rfl) pa_nil))) (pe_one (pe_cmpR (op_eqq hu64) (pv 0) (pv 1) (nomark _))))))) pss_nil)
      (pss_cons (ps_if (PW.pt (pw_or (pt_val (pe_callB call_isi (by rfl) T.z_isinstance (by decide +kernel) (pa_cons (pv 0) (pa_cons (pe_bltn (v := .ty "str") (by rfl) T.z_str (by decide +kernel) rfl) pa_nil)))) (pw_or1 (pt_val (pe_callB call_isi (by rfl) T.z_isinstance (by decide +kernel) (pa_cons (pv 1) (pa_cons (pe_bltn (v := .ty "str") (by rfl) T.z_str (by decide +kernel) rfl) pa_nil))))))) (pss_one (ps_ret (pe_and (pe_callB call_isi (by rfl) T.z_isinstance (by decide +kernel) (pa_cons (pv 0) (pa_cons (pe_bltn (v := .ty "str") (by rfl) T.z_str (by decide +kernel) rfl) pa_nil))) (pe_and (pe_callB call_isi (by rfl) T.z_isinstance (by decide +kernel) (pa_cons (pv 1) (pa_cons (pe_bltn (v := .ty "str") (by rfl) T.z_str (by decide +kernel) rfl) pa_nil))) (pe_one (pe_cmpR (op_eqq hu64) (pv 0) (pv 1) (nomark _))))))) pss_nil)
      (pss_cons (ps_if (PW.pt (pw_and (pt_val (pe_callB call_isi (by rfl) T.z_isinstance (by decide +kernel) (pa_cons (pv 0) (pa_cons (pe_bltn (v := .ty "dict") (by rfl) T.z_dict (by decide +kernel) rfl) pa_nil)))) (pw_and1 (pt_val (pe_callB call_isi (by rfl) T.z_isinstance (by decide +kernel) (pa_cons (pv 1) (pa_cons (pe_bltn (v := .ty "dict") (by rfl) T.z_dict (by decide +kernel) rfl) pa_nil))))))) (pss_cons (ps_if (pt_not (pt_val (pe_call G (hr.mono (by first | decide | omega)) (by rfl) T.m_law_same T.F_law_same.kp T.b_law_same .nil pass0 (pa_cons (pe_callTy (call_list_dK rfl) (by rfl) T.z_list (by decide +kernel) (pa_cons (pv 0) pa_nil)) (pa_cons (pe_callTy (call_list_dK rfl) (by rfl) T.z_list (by decide +kernel) (pa_cons (pv 1) pa_nil)) pa_nil))))) (pss_one (ps_ret pe_bl)) pss_nil)
      (pss_one (ps_ret (pe_call G (hr.mono (by first | decide | omega)) (by rfl) T.m_law_same T.F_law_same.kp T.b_law_same .nil pass0 (pa_cons (pe_lock (pe_lc (own := [("key", 2)]) (g := gName 2)  (by rfl) sc_law_same.nd (pi_keys (pv 0)) (blkOk_by (own := [("key", 2)]) (N := ["here", "there", "key", "k"]) (sc := defScope s_law_same) (by decide +kernel)) (fun _ _ _ _ _ => pg_name (i := 2) sc_law_same.nd rfl (Or.inl rfl)) (fun _ _ _ _ _ => pts_nil) (fun _ _ _ _ _ => (pe_ix (ix_anyK (K := K) rfl hu) (pv 0) (pv 2) (fun _ _ => rfl))))) (pa_cons (pe_lock (pe_lc (own := [("key", 2)]) (g := gName 2)  (by rfl) sc_law_same.nd (pi_keys (pv 1)) (blkOk_by (own := [("key", 2)]) (N := ["here", "there", "key", "k"]) (sc := defScope s_law_same) (by decide +kernel)) (fun _ _ _ _ _ => pg_name (i := 2) sc_law_same.nd rfl (Or.inl rfl)) (fun _ _ _ _ _ => pts_nil) (fun _ _ _ _ _ => (pe_ix (ix_anyK (K := K) rfl hu) (pv 1) (pv 2) (fun _ _ => rfl))))) pa_nil)))))) pss_nil)
      (pss_cons (ps_if (PW.pt (pw_or (pt_cmpR (op_neq hu64) (pe_callB call_isi (by rfl) T.z_isinstance (by decide +kernel) (pa_cons (pv 0) (pa_cons (pe_bltn (v := .ty "tuple") (by rfl) T.z_tuple (by decide +kernel) rfl) pa_nil))) (pe_callB call_isi (by rfl) T.z_isinstance (by decide +kernel) (pa_cons (pv 1) (pa_cons (pe_bltn (v := .ty "tuple") (by rfl) T.z_tuple (by decide +kernel) rfl) pa_nil))) (nomark _)) (pw_or1 (pt_cmpR (op_neq hu64) (pe_callB call_isi (by rfl) T.z_isinstance (by decide +kernel) (pa_cons (pv 0) (pa_cons (pe_bltn (v := .ty "list") (by rfl) T.z_list (by decide +kernel) rfl) pa_nil))) (pe_callB call_isi (by rfl) T.z_isinstance (by decide +kernel) (pa_cons (pv 1) (pa_cons (pe_bltn (v := .ty "list") (by rfl) T.z_list (by decide +kernel) rfl) pa_nil))) (nomark _))))) (pss_one (ps_ret pe_bl)) pss_nil)
      (pss_cons (ps_if (PW.pt (pw_and (pt_not (pt_val (pe_callB call_isi (by rfl) T.z_isinstance (by decide +kernel) (pa_cons (pv 0) (pa_cons (pe_bltn (v := .ty "tuple") (by rfl) T.z_tuple (by decide +kernel) rfl) pa_nil))))) (pw_and1 (pt_not (pt_val (pe_callB call_isi (by rfl) T.z_isinstance (by decide +kernel) (pa_cons (pv 0) (pa_cons (pe_bltn (v := .ty "list") (by rfl) T.z_list (by decide +kernel) rfl) pa_nil)))))))) (pss_one (ps_ret pe_bl)) pss_nil)
      (pss_cons (ps_if (pt_cmpR (op_neq hu64) (pe_callB call_lenA (by rfl) T.z_len (by decide +kernel) (pa_cons (pv 0) pa_nil)) (pe_callB call_lenA (by rfl) T.z_len (by decide +kernel) (pa_cons (pv 1) pa_nil)) (nomark _)) (pss_one (ps_ret pe_bl)) pss_nil)
      (pss_cons (ps_for PassesOwn.never rfl (pi_range1 (by rfl) T.z_range (pa_cons (pe_callB call_lenA (by rfl) T.z_len (by decide +kernel) (pa_cons (pv 0) pa_nil)) pa_nil)) (pg_name (i := 3) sc_law_same.nd rfl (by first | exact Or.inl rfl | exact Or.inr rfl))
      (pss_one (ps_if (pt_not (pt_val (pe_call G (hr.mono (by first | decide | omega)) (by rfl) T.m_law_same T.F_law_same.kp T.b_law_same .nil pass0 (pa_cons (pe_ix (ix_any hu) (pv 0) (pv 3) (fun _ _ => rfl)) (pa_cons (pe_ix (ix_any hu) (pv 1) (pv 3) (fun _ _ => rfl)) pa_nil))))) (pss_one (ps_ret pe_bl)) pss_nil)))
      (pss_one (ps_ret pe_bl))))))))))), ?_⟩
  obtain ⟨x, y, d, e, rfl, hx, hy, pd, pe, hd, k⟩ := h
  walk_at "start"
  cases hx <;> cases hy
  all_goals (first | (simp [plainD] at pd; done) | (simp [plainD] at pe; done) | skip)
  all_goals (walk_at "sq")
  all_goals try (exact k _ _ (by simp) (.refl _))
  rotate_right 1
  · rename_i a kvs ds h1 n1 t1 a' lvs es h2 n2 t2
    have g1 := vals_nodup n1
    have g2 := vals_nodup n2
    simp only [D.depth] at hd
    have pd : ds.length ≤ 900 ∧ plainDs ds = true := by simpa [plainD] using pd
    have pe : es.length ≤ 900 ∧ plainDs es = true := by simpa [plainD] using pe
    have l1 : kvs.length = ds.length := by have := t1.len; simpa using this
    have l2 : lvs.length = es.length := by have := t2.len; simpa using this
    refine kr_listD h1 ?_
    intro L1 f1
    walk_at "sq"
    refine kr_listD (get_new f1 h2) ?_
    intro L2 f2
    walk_at "sq"
    have K2 : Mi.Sub H (upd (upd H L1 (.lst (kvs.map fun kv => kV kv.1))) L2 (.lst (lvs.map fun kv => kV kv.1))) := ((Mi.Sub.refl H).new f1).new f2
    refine use_sameG (.lst (get_new f2 upd_same) (by rw [List.length_map]; omega) (Mi.is_keys kvs)) (.lst upd_same (by rw [List.length_map]; omega) (Mi.is_keys lvs)) (by simp only [plainD]; exact Mi.keys_plain kvs) (by simp only [plainD]; exact Mi.keys_plain lvs) (by simp only [D.depth, Mi.keys_depth]; omega) fun b H3 hb k3 => ?_
    have K3 := K2.trans k3
    cases b with
    | false =>
      walk_at "sq"
      refine k _ _ ?_ K3
      constructor
      · intro z; cases z
      · intro z
        injection z with z1 z2
        have := hb.mpr (by rw [Mi.keys_inj.mpr z1])
        cases this
    | true =>
      have e := Mi.keys_inj.mp (by have := hb.mp rfl; injection this)
      walk_at "sq"
      refine k_vals (j := 2) (K3 _ _ h1) (by omega) g1 rfl (fun _ => rfl) (fun _ => rfl) (fun _ => rfl) fun L3 H4 f3 h4 k4 => ?_
      have K4 := K3.trans (keep_sub k4)
      walk_at "sq"
      refine k_vals (j := 2) (K4 _ _ h2) (by omega) g2 rfl (fun _ => rfl) (fun _ => rfl) (fun _ => rfl) fun L5 H5 f5 h5 k5 => ?_
      have K5 := K4.trans (keep_sub k5)
      walk_at "sq"
      refine use_sameG (.lst (keep_sub k5 _ _ h4) (by rw [List.length_map]; omega) (Mi.IsL.mono K5 t1)) (.lst h5 (by rw [List.length_map]; omega) (Mi.IsL.mono K5 t2)) (by simp only [plainD]; exact pd.2) (by simp only [plainD]; exact pe.2) (by simp only [D.depth]; omega) fun b H6 hb2 k6 => ?_
      walk_at "sq"
      refine k _ _ ?_ (K5.trans k6)
      rw [hb2, e]
      constructor
      · intro z
        injection z with z
        rw [z]
      · intro z
        injection z with _ z
        rw [z]
  all_goals
    rename_i a xs ds h1 l1 t1 a' ys es h2 l2 t2
    simp only [plainD] at pd pe
    refine k_ite (fun c1 => ?_) (fun c1 => ?_)
    · walk_at "sq"
      refine k _ _ ?_ (.refl H)
      have e1 := t1.len
      have e2 := t2.len
      have e3 : ¬ xs.length = ys.length := by intro z; rw [z] at c1; simp at c1
      constructor
      · intro z; cases z
      · intro z; cases z; exact absurd (e1.trans e2.symm) e3
    have e1 := t1.len
    have e2 := t2.len
    have e4 : (xs.length : Int) = ys.length := by simpa using c1
    have e3 : xs.length = ys.length := by omega
    walk_at "sq"
    refine for_r (fun i σ H' => (∃ v, σ = [some (.ref a), some (.ref a'), none, v]) ∧ Mi.Sub H H' ∧ ds.take i = es.take i) ⟨⟨none, rfl⟩, .refl H, rfl⟩ ?_ ?_
    · rintro i σ H1 hi ⟨⟨v, rfl⟩, k1, eq⟩
      have hi' : i < xs.length := by omega
      obtain ⟨x, hx⟩ := some_of hi'
      obtain ⟨y, hy⟩ := some_of (xs := ys) (i := i) (by omega)
      obtain ⟨d, hd1, id⟩ := t1.get hx
      obtain ⟨e, he1, ie⟩ := t2.get hy
      walk_at "sq"
      first | refine kr_ixL (k1 _ _ h1) (atI_nat hx) ?_ | refine Cf.kr_ixQ (Mi.sqT_mono k1 h1) (atI_nat hx) ?_
      walk_at "sq"
      first | refine kr_ixL (k1 _ _ h2) (atI_nat hy) ?_ | refine Cf.kr_ixQ (Mi.sqT_mono k1 h2) (atI_nat hy) ?_
      walk_at "sq"
      have dd : d.depth < n := by
        have := Mi.depth_mem (List.mem_of_getElem? hd1)
        simp only [D.depth] at hd
        omega
      refine use_sameG (Mi.Is.mono k1 id) (Mi.Is.mono k1 ie) (Mi.plain_mem pd (List.mem_of_getElem? hd1)) (Mi.plain_mem pe (List.mem_of_getElem? he1)) dd fun b H2 hb k2 => ?_
      walk_at "sq"
      cases b with
      | true =>
        walk_at "sq"
        have q := hb.mp rfl
        exact ⟨⟨_, rfl⟩, k1.trans k2, take_eq eq hd1 (q ▸ he1)⟩
      | false =>
        walk_at "sq"
        refine k _ _ ?_ (k1.trans k2)
        constructor
        · intro z; cases z
        · intro z
          cases z
          have q : d = e := Option.some.inj (hd1.symm.trans he1)
          have := hb.mpr q
          cases this
    · rintro σ H1 ⟨⟨v, rfl⟩, k1, eq⟩
      walk_at "sq"
      have q : ds = es := take_all (by omega) (by rw [← e1]; simpa using eq)
      exact k _ _ (by simp [q]) k1
theorem same_all (T : Txt P w K mg) : ∀ n : Nat, FnOk P w K mg base CX0 n T.a_law_same T.d_law_same ["here", "there"] (spSameG K (ct T) n)
  | 0 => sameG_none
  | n + 1 => same_step T n (same_all T n)
noncomputable abbrev m_law_same (x y : Mi.D) : M Bool := msame x y

noncomputable def m_with_span (x_spans : (List (Int × Int))) (x_start : Int) (x_stop : Int) : M (List (Int × Int)) := mite (mr (decide (x_start = x_stop))) ((mr x_spans)) (mb (mb (mr ()) fun g_ => mr ([] : (List (Int × Int)))) fun x_found => mb (mr false) fun x_placed => mb (mr x_spans) fun xs_ => mb (forM xs_ (x_start, x_stop, x_found, x_placed) (fun e_ c_ => (match e_ with | (x_left, x_right) => (match c_ with | (x_start, x_stop, x_found, x_placed) => mite (mr (decide (x_right < x_start))) (mb (mr (x_left, x_right)) fun a_ => mb (mpush x_found a_) fun x_found => mr (x_start, x_stop, x_found, x_placed)) (mite (mr (decide (x_stop < x_left))) (mb (mite (mr (!x_placed)) (mb (mr (x_start, x_stop)) fun a_ => mb (mpush x_found a_) fun x_found => mb (mr true) fun x_placed => mr (x_found, x_placed)) (mr (x_found, x_placed)) : M ((List (Int × Int)) × Bool)) fun c_ => (match c_ with | (x_found, x_placed) => mb (mr (x_left, x_right)) fun a_ => mb (mpush x_found a_) fun x_found => mr (x_start, x_stop, x_found, x_placed))) (mb (mr (if (decide (x_left < x_start)) = true then x_left else x_start)) fun x_start => mb (mr (if (decide (x_stop < x_right)) = true then x_right else x_stop)) fun x_stop => mr (x_start, x_stop, x_found, x_placed))))))) fun c_ => (match c_ with | (x_start, x_stop, x_found, x_placed) => mb (mite (mr (!x_placed)) (mb (mr (x_start, x_stop)) fun a_ => mb (mpush x_found a_) fun x_found => mr (x_found)) (mr (x_found)) : M ((List (Int × Int)))) fun c_ => ((fun x_found => (mr x_found)) c_)))
def sp_with_span (K : PySem.W.Frag) (C : CT) : Sp := fun vs H Q E => ∃ (x_spans : (List (Int × Int))) (x_start : Int) (x_stop : Int) (v_spans v_start v_stop : V), vs = [v_spans, v_start, v_stop] ∧ CallN K C R0 [(v_spans, enc x_spans), (v_start, enc x_start), (v_stop, enc x_stop)] (m_with_span x_spans x_start x_stop) H Q
theorem ok_with_span (T : Txt P w K mg)  : FnOk P w K mg base CX0 (1) T.a_with_span T.d_with_span ["spans", "start", "stop"] (sp_with_span K (ct T)) := by
  refine T.F_with_span.ok sc_with_span (fun vs H Q E h => by obtain ⟨_, _, _, _, _, _, rfl, _⟩ := h; rfl) (fun cdv A outer s H vs Q E hr h => ?_)
  have hu := hu_of hr
  have hu64 := hr.units
  refine ⟨_, (pss_cons (ps_if (pt_cmpR (op_eqq hu64) (pv 1) (pv 2) (nomark _)) (pss_one (ps_ret (pe_callTy call_listA (by rfl) T.z_list (by decide +kernel) (pa_cons (pv 0) pa_nil)))) pss_nil)
      (pss_cons (ps_set (i := 3) sc_with_span.nd rfl (by first | exact Or.inl rfl | exact Or.inr rfl) (pe_lst pa_nil))
      (pss_cons (ps_set (i := 4) sc_with_span.nd rfl (by first | exact Or.inl rfl | exact Or.inr rfl) pe_bl)
      (pss_cons (ps_for PassesOwn.never rfl (pi_list (pv 0)) (pg_tup (by rfl) (pgs_cons (pg_name (i := 5) sc_with_span.nd rfl (by first | exact Or.inl rfl | exact Or.inr rfl)) (pgs_cons (pg_name (i := 6) sc_with_span.nd rfl (by first | exact Or.inl rfl | exact Or.inr rfl)) pgs_nil)))
      (pss_one (ps_if (pt_cmpR op_lt (pv 6) (pv 1) (nomark _)) (pss_one (ps_expr (pe_bm PySem.F.plainAttrs_list PySem.F.slot_list_append PySem.F.type_list_append mt_append (pv 3) (pa_cons (pe_tup (pa_cons (pv 5) (pa_cons (pv 6) pa_nil))) pa_nil)))) (pss_one (ps_if (pt_cmpR op_lt (pv 2) (pv 5) (nomark _)) (pss_cons (ps_if (pt_not (pt_tru (pv 4) (by intro _; rfl))) (pss_cons (ps_expr (pe_bm PySem.F.plainAttrs_list PySem.F.slot_list_append PySem.F.type_list_append mt_append (pv 3) (pa_cons (pe_tup (pa_cons (pv 1) (pa_cons (pv 2) pa_nil))) pa_nil)))
      (pss_one (ps_set (i := 4) sc_with_span.nd rfl (by first | exact Or.inl rfl | exact Or.inr rfl) pe_bl))) pss_nil)
      (pss_one (ps_expr (pe_bm PySem.F.plainAttrs_list PySem.F.slot_list_append PySem.F.type_list_append mt_append (pv 3) (pa_cons (pe_tup (pa_cons (pv 5) (pa_cons (pv 6) pa_nil))) pa_nil))))) (pss_cons (ps_set (i := 1) sc_with_span.nd rfl (by first | exact Or.inl rfl | exact Or.inr rfl) (pe_ifExp (pt_cmpR op_lt (pv 5) (pv 1) (nomark _)) (pv 5) (pv 1)))
      (pss_one (ps_set (i := 2) sc_with_span.nd rfl (by first | exact Or.inl rfl | exact Or.inr rfl) (pe_ifExp (pt_cmpR op_gt (pv 6) (pv 2) (nomark _)) (pv 6) (pv 2))))))))))
      (pss_cons (ps_if (pt_not (pt_tru (pv 4) (by intro _; rfl))) (pss_one (ps_expr (pe_bm PySem.F.plainAttrs_list PySem.F.slot_list_append PySem.F.type_list_append mt_append (pv 3) (pa_cons (pe_tup (pa_cons (pv 1) (pa_cons (pv 2) pa_nil))) pa_nil)))) pss_nil)
      (pss_one (ps_ret (pv 3)))))))), ?_⟩
  obtain ⟨x_spans, x_start, x_stop, v_spans, v_start, v_stop, rfl, G0, F0, post, px, hp, hm, hQ⟩ := h
  have hx := hx0 (K := K) (C := ct T) (R := R0) (G0 := G0) (F0 := F0) (px := px)
  walk_at "start"
  unfold m_with_span at hm
  refine s_seq ?_
  refine s_if hp hx hm (ET.test (EV.eqSP (EV.var rfl (.tail _ (.head _))) (EV.var rfl (.tail _ (.tail _ (.head _)))))) (fun H hp hm => ?_) (fun H hp hm => ?_)
  · refine s_ret1 hp hx hm (EV.listLP (EV.var rfl (.head _))) (fun a v H hp hm => hQ a v H hp.fin hm)
  · refine s_next ?_
    refine s_seq ?_
    refine s_setL (ε := (Unit)) (fun g_ => ([] : (List (Int × Int)))) (fun p_found => [some v_spans, some v_start, some v_stop, some (.ref p_found), none, none, none]) (fun _ => rfl) hp hx hm EA.nil (fun _ => rfl) (fun _ => by simp) (fun x_found p_found H hp hm => ?_)
    refine s_seq ?_
    refine s_set (fun v_placed => [some v_spans, some v_start, some v_stop, some (.ref p_found), some v_placed, none, none]) (fun _ => rfl) hp hx hm EV.bl (fun x_placed v_placed H hp hm => ?_)
    refine s_seq ?_
    refine s_forM (γ := (Int × Int × (List (Int × Int)) × Bool)) (ι := (V × V × Addr × V × Option V × Option V)) hp hx hm (EI.list (EV.var rfl (.tail _ (.head _)))) (fun r c => [some v_spans, some r.1, some r.2.1, some (.ref r.2.2.1), some r.2.2.2.1, r.2.2.2.2.1, r.2.2.2.2.2]) (fun w10 r c => [w10, (r.1, enc c.1), (r.2.1, enc c.2.1), (r.2.2.2.1, enc c.2.2.2)]) (fun r c => ([(r.2.2.1, enc c.2.2.1)] : List (Addr × Mi.D))) (fun w H hp => ⟨(v_start, v_stop, p_found, v_placed, none, none), rfl, hp.less (pk (.head _) (pk (.tail _ (.tail _ (.tail _ (.head _)))) (pk (.tail _ (.tail _ (.tail _ (.tail _ (.head _))))) (pk (.tail _ (.head _)) pk0))))⟩) (fun _ _ _ => .head _) (fun w10 r c v_e e_ rest H hp hm => ?_) (fun w r c H hp hm => ?_)
    · obtain ⟨v_start, v_stop, p_found, v_placed, o_left, o_right⟩ := r
      obtain ⟨x_start, x_stop, x_found, x_placed⟩ := c
      obtain ⟨x_left, x_right⟩ := e_
      refine g_two' (fun v_left v_right => [some v_spans, some v_start, some v_stop, some (.ref p_found), some v_placed, some v_left, some v_right]) (fun _ _ => rfl) hp (fun v_left v_right hp => ?_)
      refine s_if hp hx hm (ET.test (EV.ltIP (EV.var rfl (.head _)) (EV.var rfl (.tail _ (.tail _ (.tail _ (.head _))))))) (fun H hp hm => ?_) (fun H hp hm => ?_)
      · refine s_append rfl (.head _) hp hx hm (EV.tupP (EA.consP (EV.var rfl (.tail _ (.head _))) (EA.consP (EV.var rfl (.head _)) EA.nil)) rfl (Nat.le_of_ble_eq_true rfl)) (fun _ => .hd) (fun a_ H hp hm => ?_)
        generalize x_found ++ [a_] = x_found at hp hm
        exact ⟨(v_start, v_stop, p_found, v_placed, some v_left, some v_right), (x_start, x_stop, x_found, x_placed), rfl, (hp.less (pk (.tail _ (.tail _ (.head _))) (pk (.tail _ (.tail _ (.tail _ (.head _)))) (pk (.tail _ (.tail _ (.tail _ (.tail _ (.head _))))) (pk (.tail _ (.tail _ (.tail _ (.tail _ (.tail _ (.head _)))))) pk0))))), hm⟩
      · refine s_if hp hx hm (ET.test (EV.ltIP (EV.var rfl (.tail _ (.tail _ (.tail _ (.tail _ (.head _)))))) (EV.var rfl (.tail _ (.head _))))) (fun H hp hm => ?_) (fun H hp hm => ?_)
        · refine s_join (τ := Unit) (γ := ((List (Int × Int)) × Bool)) (ι := (Addr × V)) hp hm (fun r c => [some v_spans, some v_start, some v_stop, some (.ref r.1), some r.2, some v_left, some v_right]) (fun r c => [(r.2, enc c.2), (v_start, enc x_start), (v_stop, enc x_stop), (v_left, enc x_left), (v_right, enc x_right), w10]) (fun r c => ([(r.1, enc c.1)] : List (Addr × Mi.D))) (fun nx_ hj hm => ?_) (fun r c H hp hm => ?_)
          · refine s_if hp hx hm (ET.notP (ET.tru (EV.var rfl (.tail _ (.tail _ (.tail _ (.tail _ (.tail _ (.head _))))))))) (fun H hp hm => ?_) (fun H hp hm => ?_)
            · refine s_seq ?_
              refine s_append rfl (.head _) hp hx hm (EV.tupP (EA.consP (EV.var rfl (.tail _ (.tail _ (.tail _ (.head _))))) (EA.consP (EV.var rfl (.tail _ (.tail _ (.tail _ (.tail _ (.head _)))))) EA.nil)) rfl (Nat.le_of_ble_eq_true rfl)) (fun _ => .hd) (fun a_ H hp hm => ?_)
              generalize x_found ++ [a_] = x_found at hp hm
              refine s_set (fun v_placed => [some v_spans, some v_start, some v_stop, some (.ref p_found), some v_placed, some v_left, some v_right]) (fun _ => rfl) hp hx hm EV.bl (fun x_placed v_placed H hp hm => ?_)
              exact hj (p_found, v_placed) (x_found, x_placed) _ (hp.less (pk (.head _) (pk (.tail _ (.tail _ (.tail _ (.tail _ (.head _))))) (pk (.tail _ (.tail _ (.tail _ (.tail _ (.tail _ (.head _)))))) (pk (.tail _ (.tail _ (.head _))) (pk (.tail _ (.head _)) (pk (.tail _ (.tail _ (.tail _ (.head _)))) pk0))))))) hm
            · refine s_next ?_
              exact hj (p_found, v_placed) (x_found, x_placed) _ (hp.less (pk (.tail _ (.tail _ (.tail _ (.tail _ (.tail _ (.head _)))))) (pk (.tail _ (.tail _ (.tail _ (.head _)))) (pk (.tail _ (.tail _ (.tail _ (.tail _ (.head _))))) (pk (.tail _ (.head _)) (pk (.head _) (pk (.tail _ (.tail _ (.head _))) pk0))))))) hm
          · obtain ⟨p_found, v_placed⟩ := r
            obtain ⟨x_found, x_placed⟩ := c
            refine s_append rfl (.head _) hp hx hm (EV.tupP (EA.consP (EV.var rfl (.tail _ (.tail _ (.tail _ (.head _))))) (EA.consP (EV.var rfl (.tail _ (.tail _ (.tail _ (.tail _ (.head _)))))) EA.nil)) rfl (Nat.le_of_ble_eq_true rfl)) (fun _ => .hd) (fun a_ H hp hm => ?_)
            generalize x_found ++ [a_] = x_found at hp hm
            exact ⟨(v_start, v_stop, p_found, v_placed, some v_left, some v_right), (x_start, x_stop, x_found, x_placed), rfl, (hp.less (pk (.tail _ (.tail _ (.tail _ (.tail _ (.tail _ (.head _)))))) (pk (.tail _ (.head _)) (pk (.tail _ (.tail _ (.head _))) (pk (.head _) pk0))))), hm⟩
        · refine s_seq ?_
          refine s_set (fun v_start => [some v_spans, some v_start, some v_stop, some (.ref p_found), some v_placed, some v_left, some v_right]) (fun _ => rfl) hp hx hm (EV.iteP (ET.test (EV.ltIP (EV.var rfl (.tail _ (.head _))) (EV.var rfl (.tail _ (.tail _ (.tail _ (.head _))))))) (EV.var rfl (.tail _ (.head _))) (EV.var rfl (.tail _ (.tail _ (.tail _ (.head _)))))) (fun x_start v_start H hp hm => ?_)
          refine s_set (fun v_stop => [some v_spans, some v_start, some v_stop, some (.ref p_found), some v_placed, some v_left, some v_right]) (fun _ => rfl) hp hx hm (EV.iteP (ET.test (EV.gtIP (EV.var rfl (.tail _ (.head _))) (EV.var rfl (.tail _ (.tail _ (.tail _ (.tail _ (.tail _ (.head _))))))))) (EV.var rfl (.tail _ (.head _))) (EV.var rfl (.tail _ (.tail _ (.tail _ (.tail _ (.tail _ (.head _)))))))) (fun x_stop v_stop H hp hm => ?_)
          exact ⟨(v_start, v_stop, p_found, v_placed, some v_left, some v_right), (x_start, x_stop, x_found, x_placed), rfl, (hp.less (pk (.tail _ (.tail _ (.tail _ (.tail _ (.head _))))) (pk (.tail _ (.head _)) (pk (.head _) (pk (.tail _ (.tail _ (.tail _ (.tail _ (.tail _ (.tail _ (.tail _ (.head _)))))))) pk0))))), hm⟩
    · obtain ⟨v_start, v_stop, p_found, v_placed, o_left, o_right⟩ := r
      obtain ⟨x_start, x_stop, x_found, x_placed⟩ := c
      refine s_join (τ := Unit) (γ := ((List (Int × Int)))) (ι := (Addr)) hp hm (fun r c => [some v_spans, some v_start, some v_stop, some (.ref r), some v_placed, o_left, o_right]) (fun r c => []) (fun r c => ([(r, enc c)] : List (Addr × Mi.D))) (fun nx_ hj hm => ?_) (fun p_found x_found H hp hm => ?_)
      · refine s_if hp hx hm (ET.notP (ET.tru (EV.var rfl (.tail _ (.tail _ (.tail _ (.head _))))))) (fun H hp hm => ?_) (fun H hp hm => ?_)
        · refine s_append rfl (.head _) hp hx hm (EV.tupP (EA.consP (EV.var rfl (.tail _ (.head _))) (EA.consP (EV.var rfl (.tail _ (.tail _ (.head _)))) EA.nil)) rfl (Nat.le_of_ble_eq_true rfl)) (fun _ => .hd) (fun a_ H hp hm => ?_)
          generalize x_found ++ [a_] = x_found at hp hm
          exact hj (p_found) (x_found) _ (hp.less pk0) hm
        · refine s_next ?_
          exact hj (p_found) (x_found) _ (hp.less pk0) hm
      · have hp := hp.freeze .hd
        refine s_ret1 hp hx hm (EV.var rfl (.head _)) (fun a v H hp hm => hQ a v H hp.fin hm)
noncomputable def m_union (x_first : (List (Int × Int))) (x_second : (List (Int × Int))) : M (List (Int × Int)) := mb (mr x_first) fun x_found => mb (mr x_second) fun xs_ => mb (forM xs_ (x_found) (fun e_ c_ => (match e_ with | (x_start, x_stop) => ((fun x_found => mb (m_with_span x_found x_start x_stop) fun x_found => mr (x_found)) c_)))) fun c_ => ((fun x_found => (mr x_found)) c_)
def sp_union (K : PySem.W.Frag) (C : CT) : Sp := fun vs H Q E => ∃ (x_first : (List (Int × Int))) (x_second : (List (Int × Int))) (v_first v_second : V), vs = [v_first, v_second] ∧ CallN K C R0 [(v_first, enc x_first), (v_second, enc x_second)] (m_union x_first x_second) H Q
theorem ok_union (T : Txt P w K mg)  : FnOk P w K mg base CX0 (2) T.a_union T.d_union ["first", "second"] (sp_union K (ct T)) := by
  refine T.F_union.ok sc_union (fun vs H Q E h => by obtain ⟨_, _, _, _, rfl, _⟩ := h; rfl) (fun cdv A outer s H vs Q E hr h => ?_)
  have hu := hu_of hr
  have hu64 := hr.units
  refine ⟨_, (pss_cons (ps_set (i := 2) sc_union.nd rfl (by first | exact Or.inl rfl | exact Or.inr rfl) (pe_callTy call_listA (by rfl) T.z_list (by decide +kernel) (pa_cons (pv 0) pa_nil)))
      (pss_cons (ps_for PassesOwn.never rfl (pi_list (pv 1)) (pg_tup (by rfl) (pgs_cons (pg_name (i := 3) sc_union.nd rfl (by first | exact Or.inl rfl | exact Or.inr rfl)) (pgs_cons (pg_name (i := 4) sc_union.nd rfl (by first | exact Or.inl rfl | exact Or.inr rfl)) pgs_nil)))
      (pss_one (ps_set (i := 2) sc_union.nd rfl (by first | exact Or.inl rfl | exact Or.inr rfl) (pe_call (ok_with_span T) (hr.mono (by first | decide | omega)) (by rfl) T.m_with_span T.F_with_span.kp T.b_with_span .nil pass0 (pa_cons (pv 2) (pa_cons (pv 3) (pa_cons (pv 4) pa_nil)))))))
      (pss_one (ps_ret (pv 2))))), ?_⟩
  obtain ⟨x_first, x_second, v_first, v_second, rfl, G0, F0, post, px, hp, hm, hQ⟩ := h
  have hx := hx0 (K := K) (C := ct T) (R := R0) (G0 := G0) (F0 := F0) (px := px)
  walk_at "start"
  unfold m_union at hm
  refine s_seq ?_
  refine s_set (fun v_found => [some v_first, some v_second, some v_found, none, none]) (fun _ => rfl) hp hx hm (EV.listLP (EV.var rfl (.head _))) (fun x_found v_found H hp hm => ?_)
  refine s_seq ?_
  refine s_forM (γ := ((List (Int × Int)))) (ι := (V × Option V × Option V)) hp hx hm (EI.list (EV.var rfl (.tail _ (.tail _ (.head _))))) (fun r c => [some v_first, some v_second, some r.1, r.2.1, r.2.2]) (fun w5 r c => [w5, (r.1, enc c)]) (fun r c => ([] : List (Addr × Mi.D))) (fun w H hp => ⟨(v_found, none, none), rfl, hp.less (pk (.head _) (pk (.tail _ (.head _)) pk0))⟩) (fun _ _ _ => .head _) (fun w5 r x_found v_e e_ rest H hp hm => ?_) (fun w r x_found H hp hm => ?_)
  · obtain ⟨v_found, o_start, o_stop⟩ := r
    obtain ⟨x_start, x_stop⟩ := e_
    refine g_two' (fun v_start v_stop => [some v_first, some v_second, some v_found, some v_start, some v_stop]) (fun _ _ => rfl) hp (fun v_start v_stop hp => ?_)
    refine s_set (fun v_found => [some v_first, some v_second, some v_found, some v_start, some v_stop]) (fun _ => rfl) hp hx hm (EV.callNP (EA.consP (EV.var rfl (.tail _ (.tail _ (.tail _ (.head _))))) (EA.consP (EV.var rfl (.tail _ (.head _))) (EA.consP (EV.var rfl (.head _)) EA.nil))) (hcN3 fun v0 v1 v2 H Q h => ⟨x_found, x_start, x_stop, v0, v1, v2, rfl, h⟩)) (fun x_found v_found H hp hm => ?_)
    exact ⟨(v_found, some v_start, some v_stop), (x_found), rfl, (hp.less (pk (.tail _ (.tail _ (.tail _ (.head _)))) (pk (.head _) pk0))), hm⟩
  · obtain ⟨v_found, o_start, o_stop⟩ := r
    refine s_ret1 hp hx hm (EV.var rfl (.tail _ (.head _))) (fun a v H hp hm => hQ a v H hp.fin hm)
noncomputable def m_without (x_first : (List (Int × Int))) (x_second : (List (Int × Int))) : M (List (Int × Int)) := mb (mb (mr ()) fun g_ => mr ([] : (List (Int × Int)))) fun x_found => mb (mr x_first) fun xs_ => mb (forM xs_ (x_found) (fun e_ c_ => (match e_ with | (x_left, x_right) => ((fun x_found => mb (mr x_left) fun x_at => mb (mr x_second) fun xs_ => mb (forM xs_ (x_found, x_at) (fun e_ c_ => (match e_ with | (x_start, x_stop) => (match c_ with | (x_found, x_at) => mite (mr ((decide (x_at < x_stop)) && (decide (x_start < x_right)))) (mb (mite (mr (decide (x_at < x_start))) (mb (mr (x_at, x_start)) fun a_ => mb (mpush x_found a_) fun x_found => mr (x_found)) (mr (x_found)) : M ((List (Int × Int)))) fun c_ => ((fun x_found => mb (mr x_stop) fun x_at => mr (x_found, x_at)) c_)) (mr (x_found, x_at)))))) fun c_ => (match c_ with | (x_found, x_at) => mite (mr (decide (x_at < x_right))) (mb (mr (x_at, x_right)) fun a_ => mb (mpush x_found a_) fun x_found => mr (x_found)) (mr (x_found)))) c_)))) fun c_ => ((fun x_found => (mr x_found)) c_)
def sp_without (K : PySem.W.Frag) (C : CT) : Sp := fun vs H Q E => ∃ (x_first : (List (Int × Int))) (x_second : (List (Int × Int))) (v_first v_second : V), vs = [v_first, v_second] ∧ CallN K C R0 [(v_first, enc x_first), (v_second, enc x_second)] (m_without x_first x_second) H Q
theorem ok_without (T : Txt P w K mg)  : FnOk P w K mg base CX0 (1) T.a_without T.d_without ["first", "second"] (sp_without K (ct T)) := by
  refine T.F_without.ok sc_without (fun vs H Q E h => by obtain ⟨_, _, _, _, rfl, _⟩ := h; rfl) (fun cdv A outer s H vs Q E hr h => ?_)
  have hu := hu_of hr
  have hu64 := hr.units
  refine ⟨_, (pss_cons (ps_set (i := 2) sc_without.nd rfl (by first | exact Or.inl rfl | exact Or.inr rfl) (pe_lst pa_nil))
      (pss_cons (ps_for PassesOwn.never rfl (pi_list (pv 0)) (pg_tup (by rfl) (pgs_cons (pg_name (i := 3) sc_without.nd rfl (by first | exact Or.inl rfl | exact Or.inr rfl)) (pgs_cons (pg_name (i := 4) sc_without.nd rfl (by first | exact Or.inl rfl | exact Or.inr rfl)) pgs_nil)))
      (pss_cons (ps_set (i := 5) sc_without.nd rfl (by first | exact Or.inl rfl | exact Or.inr rfl) (pv 3))
      (pss_cons (ps_for PassesOwn.never rfl (pi_list (pv 1)) (pg_tup (by rfl) (pgs_cons (pg_name (i := 6) sc_without.nd rfl (by first | exact Or.inl rfl | exact Or.inr rfl)) (pgs_cons (pg_name (i := 7) sc_without.nd rfl (by first | exact Or.inl rfl | exact Or.inr rfl)) pgs_nil)))
      (pss_one (ps_if (PW.pt (pw_and (pt_cmpR op_gt (pv 7) (pv 5) (nomark _)) (pw_and1 (pt_cmpR op_lt (pv 6) (pv 4) (nomark _))))) (pss_cons (ps_if (pt_cmpR op_gt (pv 6) (pv 5) (nomark _)) (pss_one (ps_expr (pe_bm PySem.F.plainAttrs_list PySem.F.slot_list_append PySem.F.type_list_append mt_append (pv 2) (pa_cons (pe_tup (pa_cons (pv 5) (pa_cons (pv 6) pa_nil))) pa_nil)))) pss_nil)
      (pss_one (ps_set (i := 5) sc_without.nd rfl (by first | exact Or.inl rfl | exact Or.inr rfl) (pv 7)))) pss_nil)))
      (pss_one (ps_if (pt_cmpR op_lt (pv 5) (pv 4) (nomark _)) (pss_one (ps_expr (pe_bm PySem.F.plainAttrs_list PySem.F.slot_list_append PySem.F.type_list_append mt_append (pv 2) (pa_cons (pe_tup (pa_cons (pv 5) (pa_cons (pv 4) pa_nil))) pa_nil)))) pss_nil)))))
      (pss_one (ps_ret (pv 2))))), ?_⟩
  obtain ⟨x_first, x_second, v_first, v_second, rfl, G0, F0, post, px, hp, hm, hQ⟩ := h
  have hx := hx0 (K := K) (C := ct T) (R := R0) (G0 := G0) (F0 := F0) (px := px)
  walk_at "start"
  unfold m_without at hm
  refine s_seq ?_
  refine s_setL (ε := (Unit)) (fun g_ => ([] : (List (Int × Int)))) (fun p_found => [some v_first, some v_second, some (.ref p_found), none, none, none, none, none]) (fun _ => rfl) hp hx hm EA.nil (fun _ => rfl) (fun _ => by simp) (fun x_found p_found H hp hm => ?_)
  refine s_seq ?_
  refine s_forM (γ := ((List (Int × Int)))) (ι := (Addr × Option V × Option V × Option V × Option V × Option V)) hp hx hm (EI.list (EV.var rfl (.head _))) (fun r c => [some v_first, some v_second, some (.ref r.1), r.2.1, r.2.2.1, r.2.2.2.1, r.2.2.2.2.1, r.2.2.2.2.2]) (fun w5 r c => [w5, (v_second, enc x_second)]) (fun r c => ([(r.1, enc c)] : List (Addr × Mi.D))) (fun w H hp => ⟨(p_found, none, none, none, none, none), rfl, hp.less (pk (.head _) (pk (.tail _ (.tail _ (.head _))) pk0))⟩) (fun _ _ _ => .head _) (fun w5 r x_found v_e e_ rest H hp hm => ?_) (fun w r x_found H hp hm => ?_)
  · obtain ⟨p_found, o_left, o_right, o_at, o_start, o_stop⟩ := r
    obtain ⟨x_left, x_right⟩ := e_
    refine g_two' (fun v_left v_right => [some v_first, some v_second, some (.ref p_found), some v_left, some v_right, o_at, o_start, o_stop]) (fun _ _ => rfl) hp (fun v_left v_right hp => ?_)
    refine s_seq ?_
    refine s_set (fun v_at => [some v_first, some v_second, some (.ref p_found), some v_left, some v_right, some v_at, o_start, o_stop]) (fun _ => rfl) hp hx hm (EV.var rfl (.tail _ (.head _))) (fun x_at v_at H hp hm => ?_)
    refine s_seq ?_
    refine s_forM (γ := ((List (Int × Int)) × Int)) (ι := (Addr × V × Option V × Option V)) hp hx hm (EI.list (EV.var rfl (.tail _ (.tail _ (.tail _ (.tail _ (.head _))))))) (fun r c => [some v_first, some v_second, some (.ref r.1), some v_left, some v_right, some r.2.1, r.2.2.1, r.2.2.2]) (fun w12 r c => [w12, (r.2.1, enc c.2), (v_second, enc x_second), (v_right, enc x_right), w5]) (fun r c => ([(r.1, enc c.1)] : List (Addr × Mi.D))) (fun w H hp => ⟨(p_found, v_at, o_start, o_stop), rfl, hp.less (pk (.head _) (pk (.tail _ (.head _)) (pk (.tail _ (.tail _ (.tail _ (.tail _ (.tail _ (.head _)))))) (pk (.tail _ (.tail _ (.head _))) (pk (.tail _ (.tail _ (.tail _ (.tail _ (.head _))))) pk0)))))⟩) (fun _ _ _ => .head _) (fun w12 r c v_e e_ rest H hp hm => ?_) (fun w r c H hp hm => ?_)
    · obtain ⟨p_found, v_at, o_start, o_stop⟩ := r
      obtain ⟨x_found, x_at⟩ := c
      obtain ⟨x_start, x_stop⟩ := e_
      refine g_two' (fun v_start v_stop => [some v_first, some v_second, some (.ref p_found), some v_left, some v_right, some v_at, some v_start, some v_stop]) (fun _ _ => rfl) hp (fun v_start v_stop hp => ?_)
      refine s_if hp hx hm (ET.andP (ET.test (EV.gtIP (EV.var rfl (.head _)) (EV.var rfl (.tail _ (.tail _ (.tail _ (.head _))))))) (ET.test (EV.ltIP (EV.var rfl (.tail _ (.head _))) (EV.var rfl (.tail _ (.tail _ (.tail _ (.tail _ (.tail _ (.head _)))))))))) (fun H hp hm => ?_) (fun H hp hm => ?_)
      · refine s_join (τ := Unit) (γ := ((List (Int × Int)))) (ι := (Addr)) hp hm (fun r c => [some v_first, some v_second, some (.ref r), some v_left, some v_right, some v_at, some v_start, some v_stop]) (fun r c => [(v_second, enc x_second), (v_right, enc x_right), (v_stop, enc x_stop), w5, w12]) (fun r c => ([(r, enc c)] : List (Addr × Mi.D))) (fun nx_ hj hm => ?_) (fun p_found x_found H hp hm => ?_)
        · refine s_if hp hx hm (ET.test (EV.gtIP (EV.var rfl (.tail _ (.head _))) (EV.var rfl (.tail _ (.tail _ (.tail _ (.head _))))))) (fun H hp hm => ?_) (fun H hp hm => ?_)
          · refine s_append rfl (.head _) hp hx hm (EV.tupP (EA.consP (EV.var rfl (.tail _ (.tail _ (.tail _ (.head _))))) (EA.consP (EV.var rfl (.tail _ (.head _))) EA.nil)) rfl (Nat.le_of_ble_eq_true rfl)) (fun _ => .hd) (fun a_ H hp hm => ?_)
            generalize x_found ++ [a_] = x_found at hp hm
            exact hj (p_found) (x_found) _ (hp.less (pk (.tail _ (.tail _ (.tail _ (.tail _ (.head _))))) (pk (.tail _ (.tail _ (.tail _ (.tail _ (.tail _ (.head _)))))) (pk (.head _) (pk (.tail _ (.tail _ (.tail _ (.tail _ (.tail _ (.tail _ (.head _))))))) (pk (.tail _ (.tail _ (.head _))) pk0)))))) hm
          · refine s_next ?_
            exact hj (p_found) (x_found) _ (hp.less (pk (.tail _ (.tail _ (.tail _ (.tail _ (.head _))))) (pk (.tail _ (.tail _ (.tail _ (.tail _ (.tail _ (.head _)))))) (pk (.head _) (pk (.tail _ (.tail _ (.tail _ (.tail _ (.tail _ (.tail _ (.head _))))))) (pk (.tail _ (.tail _ (.head _))) pk0)))))) hm
        · refine s_set (fun v_at => [some v_first, some v_second, some (.ref p_found), some v_left, some v_right, some v_at, some v_start, some v_stop]) (fun _ => rfl) hp hx hm (EV.var rfl (.tail _ (.tail _ (.head _)))) (fun x_at v_at H hp hm => ?_)
          exact ⟨(p_found, v_at, some v_start, some v_stop), (x_found, x_at), rfl, (hp.less (pk (.tail _ (.tail _ (.tail _ (.tail _ (.tail _ (.head _)))))) (pk (.head _) (pk (.tail _ (.head _)) (pk (.tail _ (.tail _ (.head _))) (pk (.tail _ (.tail _ (.tail _ (.tail _ (.head _))))) pk0)))))), hm⟩
      · refine s_next ?_
        exact ⟨(p_found, v_at, some v_start, some v_stop), (x_found, x_at), rfl, (hp.less (pk (.tail _ (.tail _ (.head _))) (pk (.tail _ (.tail _ (.tail _ (.head _)))) (pk (.tail _ (.tail _ (.tail _ (.tail _ (.head _))))) (pk (.tail _ (.tail _ (.tail _ (.tail _ (.tail _ (.head _)))))) (pk (.tail _ (.tail _ (.tail _ (.tail _ (.tail _ (.tail _ (.head _))))))) pk0)))))), hm⟩
    · obtain ⟨p_found, v_at, o_start, o_stop⟩ := r
      obtain ⟨x_found, x_at⟩ := c
      refine s_if hp hx hm (ET.test (EV.ltIP (EV.var rfl (.tail _ (.head _))) (EV.var rfl (.tail _ (.tail _ (.tail _ (.head _))))))) (fun H hp hm => ?_) (fun H hp hm => ?_)
      · refine s_append rfl (.head _) hp hx hm (EV.tupP (EA.consP (EV.var rfl (.tail _ (.head _))) (EA.consP (EV.var rfl (.tail _ (.tail _ (.tail _ (.head _))))) EA.nil)) rfl (Nat.le_of_ble_eq_true rfl)) (fun _ => .hd) (fun a_ H hp hm => ?_)
        generalize x_found ++ [a_] = x_found at hp hm
        exact ⟨(p_found, some v_left, some v_right, some v_at, o_start, o_stop), (x_found), rfl, (hp.less (pk (.tail _ (.tail _ (.tail _ (.tail _ (.head _))))) (pk (.tail _ (.tail _ (.head _))) pk0))), hm⟩
      · refine s_next ?_
        exact ⟨(p_found, some v_left, some v_right, some v_at, o_start, o_stop), (x_found), rfl, (hp.less (pk (.tail _ (.tail _ (.tail _ (.tail _ (.head _))))) (pk (.tail _ (.tail _ (.head _))) pk0))), hm⟩
  · obtain ⟨p_found, o_left, o_right, o_at, o_start, o_stop⟩ := r
    have hp := hp.freeze .hd
    refine s_ret1 hp hx hm (EV.var rfl (.head _)) (fun a v H hp hm => hQ a v H hp.fin hm)
noncomputable def m_remainders (x_spans : (List (Int × Int))) (x_size : Int) : M (List (Int × Int)) := mb (mr ([] : (List (Int × Int)))) fun x_found => mb (mr x_spans) fun xs_ => mb (forM xs_ (x_found) (fun e_ c_ => (match e_ with | (x_start, x_stop) => ((fun x_found => mb (mmodI x_start x_size) fun x_low => mb (mr ((x_low + x_stop) - x_start)) fun x_high => mite (mr (decide (x_size ≤ (x_stop - x_start)))) (mb (m_with_span x_found (0 : Int) x_size) fun x_found => mr (x_found)) (mite (mr (decide (x_high ≤ x_size))) (mb (m_with_span x_found x_low x_high) fun x_found => mr (x_found)) (mb (mb (mb (m_with_span x_found x_low x_size) fun a => mb (mb (mr (0 : Int)) fun a => mb (mb (mr (x_high - x_size)) fun a => mb (mr ()) fun g => mr (a, g)) fun g => mr (a, g)) fun g => mr (a, g)) fun g_ => (m_with_span g_.1 g_.2.1 g_.2.2.1)) fun x_found => mr (x_found)))) c_)))) fun c_ => ((fun x_found => (mr x_found)) c_)
def sp_remainders (K : PySem.W.Frag) (C : CT) : Sp := fun vs H Q E => ∃ (x_spans : (List (Int × Int))) (x_size : Int) (v_spans v_size : V), vs = [v_spans, v_size] ∧ CallN K C R0 [(v_spans, enc x_spans), (v_size, enc x_size)] (m_remainders x_spans x_size) H Q
theorem ok_remainders (T : Txt P w K mg)  : FnOk P w K mg base CX0 (2) T.a_remainders T.d_remainders ["spans", "size"] (sp_remainders K (ct T)) := by
  refine T.F_remainders.ok sc_remainders (fun vs H Q E h => by obtain ⟨_, _, _, _, rfl, _⟩ := h; rfl) (fun cdv A outer s H vs Q E hr h => ?_)
  have hu := hu_of hr
  have hu64 := hr.units
  refine ⟨_, (pss_cons (ps_set (i := 2) sc_remainders.nd rfl (by first | exact Or.inl rfl | exact Or.inr rfl) (pe_lst pa_nil))
      (pss_cons (ps_for PassesOwn.never rfl (pi_list (pv 0)) (pg_tup (by rfl) (pgs_cons (pg_name (i := 3) sc_remainders.nd rfl (by first | exact Or.inl rfl | exact Or.inr rfl)) (pgs_cons (pg_name (i := 4) sc_remainders.nd rfl (by first | exact Or.inl rfl | exact Or.inr rfl)) pgs_nil)))
      (pss_cons (ps_set (i := 5) sc_remainders.nd rfl (by first | exact Or.inl rfl | exact Or.inr rfl) (pe_op op_mod (pv 3) (pv 1)))
      (pss_cons (ps_set (i := 6) sc_remainders.nd rfl (by first | exact Or.inl rfl | exact Or.inr rfl) (pe_op op_sub (pe_op op_plus (pv 5) (pv 4)) (pv 3)))
      (pss_one (ps_if (pt_cmpR op_ge (pe_op op_sub (pv 4) (pv 3)) (pv 1) (nomark _)) (pss_one (ps_set (i := 2) sc_remainders.nd rfl (by first | exact Or.inl rfl | exact Or.inr rfl) (pe_call (ok_with_span T) (hr.mono (by first | decide | omega)) (by rfl) T.m_with_span T.F_with_span.kp T.b_with_span .nil pass0 (pa_cons (pv 2) (pa_cons pe_int (pa_cons (pv 1) pa_nil)))))) (pss_one (ps_if (pt_cmpR op_le (pv 6) (pv 1) (nomark _)) (pss_one (ps_set (i := 2) sc_remainders.nd rfl (by first | exact Or.inl rfl | exact Or.inr rfl) (pe_call (ok_with_span T) (hr.mono (by first | decide | omega)) (by rfl) T.m_with_span T.F_with_span.kp T.b_with_span .nil pass0 (pa_cons (pv 2) (pa_cons (pv 5) (pa_cons (pv 6) pa_nil)))))) (pss_one (ps_set (i := 2) sc_remainders.nd rfl (by first | exact Or.inl rfl | exact Or.inr rfl) (pe_call (ok_with_span T) (hr.mono (by first | decide | omega)) (by rfl) T.m_with_span T.F_with_span.kp T.b_with_span .nil pass0 (pa_cons (pe_call (ok_with_span T) (hr.mono (by first | decide | omega)) (by rfl) T.m_with_span T.F_with_span.kp T.b_with_span .nil pass0 (pa_cons (pv 2) (pa_cons (pv 5) (pa_cons (pv 1) pa_nil)))) (pa_cons pe_int (pa_cons (pe_op op_sub (pv 6) (pv 1)) pa_nil)))))))))))))
      (pss_one (ps_ret (pv 2))))), ?_⟩
  obtain ⟨x_spans, x_size, v_spans, v_size, rfl, G0, F0, post, px, hp, hm, hQ⟩ := h
  have hx := hx0 (K := K) (C := ct T) (R := R0) (G0 := G0) (F0 := F0) (px := px)
  walk_at "start"
  unfold m_remainders at hm
  refine s_seq ?_
  refine s_set (fun v_found => [some v_spans, some v_size, some v_found, none, none, none, none]) (fun _ => rfl) hp hx hm (EV.lstP EA.nil rfl (Nat.le_of_ble_eq_true rfl)) (fun x_found v_found H hp hm => ?_)
  refine s_seq ?_
  refine s_forM (γ := ((List (Int × Int)))) (ι := (V × Option V × Option V × Option V × Option V)) hp hx hm (EI.list (EV.var rfl (.tail _ (.head _)))) (fun r c => [some v_spans, some v_size, some r.1, r.2.1, r.2.2.1, r.2.2.2.1, r.2.2.2.2]) (fun w5 r c => [w5, (r.1, enc c), (v_size, enc x_size)]) (fun r c => ([] : List (Addr × Mi.D))) (fun w H hp => ⟨(v_found, none, none, none, none), rfl, hp.less (pk (.head _) (pk (.tail _ (.head _)) (pk (.tail _ (.tail _ (.tail _ (.head _)))) pk0)))⟩) (fun _ _ _ => .head _) (fun w5 r x_found v_e e_ rest H hp hm => ?_) (fun w r x_found H hp hm => ?_)
  · obtain ⟨v_found, o_start, o_stop, o_low, o_high⟩ := r
    obtain ⟨x_start, x_stop⟩ := e_
    refine g_two' (fun v_start v_stop => [some v_spans, some v_size, some v_found, some v_start, some v_stop, o_low, o_high]) (fun _ _ => rfl) hp (fun v_start v_stop hp => ?_)
    refine s_seq ?_
    refine s_set (fun v_low => [some v_spans, some v_size, some v_found, some v_start, some v_stop, some v_low, o_high]) (fun _ => rfl) hp hx hm (EV.modIP (EV.var rfl (.tail _ (.head _))) (EV.var rfl (.tail _ (.tail _ (.tail _ (.tail _ (.head _))))))) (fun x_low v_low H hp hm => ?_)
    refine s_seq ?_
    refine s_set (fun v_high => [some v_spans, some v_size, some v_found, some v_start, some v_stop, some v_low, some v_high]) (fun _ => rfl) hp hx hm (EV.subIP (EV.addIP (EV.var rfl (.head _)) (EV.var rfl (.tail _ (.head _)))) (EV.var rfl (.tail _ (.tail _ (.head _))))) (fun x_high v_high H hp hm => ?_)
    refine s_if hp hx hm (ET.test (EV.geIP (EV.subIP (EV.var rfl (.tail _ (.tail _ (.head _)))) (EV.var rfl (.tail _ (.tail _ (.tail _ (.head _)))))) (EV.var rfl (.tail _ (.tail _ (.tail _ (.tail _ (.tail _ (.tail _ (.head _)))))))))) (fun H hp hm => ?_) (fun H hp hm => ?_)
    · refine s_set (fun v_found => [some v_spans, some v_size, some v_found, some v_start, some v_stop, some v_low, some v_high]) (fun _ => rfl) hp hx hm (EV.callNP (EA.consP (EV.var rfl (.tail _ (.tail _ (.tail _ (.tail _ (.tail _ (.head _))))))) (EA.consP EV.int (EA.consP (EV.var rfl (.tail _ (.tail _ (.tail _ (.tail _ (.tail _ (.tail _ (.head _)))))))) EA.nil))) (hcN3 fun v0 v1 v2 H Q h => ⟨x_found, (0 : Int), x_size, v0, v1, v2, rfl, h⟩)) (fun x_found v_found H hp hm => ?_)
      exact ⟨(v_found, some v_start, some v_stop, some v_low, some v_high), (x_found), rfl, (hp.less (pk (.tail _ (.tail _ (.tail _ (.tail _ (.tail _ (.head _)))))) (pk (.head _) (pk (.tail _ (.tail _ (.tail _ (.tail _ (.tail _ (.tail _ (.tail _ (.head _)))))))) pk0)))), hm⟩
    · refine s_if hp hx hm (ET.test (EV.leIP (EV.var rfl (.head _)) (EV.var rfl (.tail _ (.tail _ (.tail _ (.tail _ (.tail _ (.tail _ (.head _)))))))))) (fun H hp hm => ?_) (fun H hp hm => ?_)
      · refine s_set (fun v_found => [some v_spans, some v_size, some v_found, some v_start, some v_stop, some v_low, some v_high]) (fun _ => rfl) hp hx hm (EV.callNP (EA.consP (EV.var rfl (.tail _ (.tail _ (.tail _ (.tail _ (.tail _ (.head _))))))) (EA.consP (EV.var rfl (.tail _ (.head _))) (EA.consP (EV.var rfl (.head _)) EA.nil))) (hcN3 fun v0 v1 v2 H Q h => ⟨x_found, x_low, x_high, v0, v1, v2, rfl, h⟩)) (fun x_found v_found H hp hm => ?_)
        exact ⟨(v_found, some v_start, some v_stop, some v_low, some v_high), (x_found), rfl, (hp.less (pk (.tail _ (.tail _ (.tail _ (.tail _ (.tail _ (.head _)))))) (pk (.head _) (pk (.tail _ (.tail _ (.tail _ (.tail _ (.tail _ (.tail _ (.tail _ (.head _)))))))) pk0)))), hm⟩
      · refine s_set (fun v_found => [some v_spans, some v_size, some v_found, some v_start, some v_stop, some v_low, some v_high]) (fun _ => rfl) hp hx hm (EV.callN (γ := ((List (Int × Int)) × Int × Int × Unit)) (f := fun g_ => m_with_span g_.1 g_.2.1 g_.2.2.1) (EA.cons (EV.callNP (EA.consP (EV.var rfl (.tail _ (.tail _ (.tail _ (.tail _ (.tail _ (.head _))))))) (EA.consP (EV.var rfl (.tail _ (.head _))) (EA.consP (EV.var rfl (.tail _ (.tail _ (.tail _ (.tail _ (.tail _ (.tail _ (.head _)))))))) EA.nil))) (hcN3 fun v0 v1 v2 H Q h => ⟨x_found, x_low, x_size, v0, v1, v2, rfl, h⟩)) (EA.cons EV.int (EA.cons (EV.subIP (EV.var rfl (.head _)) (EV.var rfl (.tail _ (.tail _ (.tail _ (.tail _ (.tail _ (.tail _ (.head _))))))))) EA.nil))) (fun g_ => hcN3 fun v0 v1 v2 H Q h => ⟨g_.1, g_.2.1, g_.2.2.1, v0, v1, v2, rfl, h⟩)) (fun x_found v_found H hp hm => ?_)
        exact ⟨(v_found, some v_start, some v_stop, some v_low, some v_high), (x_found), rfl, (hp.less (pk (.tail _ (.tail _ (.tail _ (.tail _ (.tail _ (.head _)))))) (pk (.head _) (pk (.tail _ (.tail _ (.tail _ (.tail _ (.tail _ (.tail _ (.tail _ (.head _)))))))) pk0)))), hm⟩
  · obtain ⟨v_found, o_start, o_stop, o_low, o_high⟩ := r
    refine s_ret1 hp hx hm (EV.var rfl (.tail _ (.head _))) (fun a v H hp hm => hQ a v H hp.fin hm)
noncomputable def m_check_size (x_size : Int) : M Unit := mite (mr (decide (x_size < (1 : Int)))) (mb (mr x_size) fun a => mx ⟨"BadSize", ["size"], [enc a]⟩) (mr ())
def sp_check_size (K : PySem.W.Frag) (C : CT) : Sp := fun vs H Q E => ∃ (x_size : Int) (v_size : V), vs = [v_size] ∧ Call K C R0 [(v_size, enc x_size)] (m_check_size x_size) H Q E
theorem ok_check_size (T : Txt P w K mg)  : FnOk P w K mg base (L2.CX P w) (2) T.a_check_size T.d_check_size ["size"] (sp_check_size K (ct T)) := by
  refine T.F_check_size.okX sc_check_size (fun vs H Q E h => by obtain ⟨_, _, rfl, _⟩ := h; rfl) (fun cdv A outer s H vs Q E hr h => ?_)
  have hu := hu_of hr
  have hu64 := hr.units
  refine ⟨_, (pss_one (ps_if (pt_cmpR op_lt (pv 0) pe_int (nomark _)) (pss_one (ps_raise1 (k := 1) rfl T.sup_BadSize (hr.mono (by first | decide | omega)) (takes_of rfl rfl rfl rfl) (pa_cons (pv 0) pa_nil))) pss_nil)), ?_⟩
  obtain ⟨x_size, v_size, rfl, G0, F0, post, px, hp, hm, hx, hQ⟩ := h
  walk_at "start"
  unfold m_check_size at hm
  refine s_if hp hx hm (ET.test (EV.ltIP (EV.var rfl (.head _)) EV.int)) (fun H hp hm => ?_) (fun H hp hm => ?_)
  · exact s_raise hp hx (ct_BadSize T) hm (EV.var rfl (.head _)) (fun _ _ _ h => h)
  · refine s_next ?_
    exact hQ () _ _ hp.finN hm
noncomputable def m_Cover_init (x_spans : (Sq (Int × Int))) : M Cover := mb (mr ([] : (List (Int × Int)))) fun x_found => mb (mr x_spans.l) fun xs_ => mb (forM xs_ (x_found) (fun e_ c_ => (match e_ with | (x_start, x_stop) => ((fun x_found => mite (mr ((decide (x_start < (0 : Int))) || (decide (x_stop < x_start)))) (mstuck) (mb (m_with_span x_found x_start x_stop) fun x_found => mr (x_found))) c_)))) fun c_ => ((fun x_found => mb (mr x_found) fun f_spans => mr (⟨f_spans⟩ : Cover)) c_)
def sp_Cover_init (K : PySem.W.Frag) (C : CT) : Sp := fun vs H Q E => ∃ (p_self : Addr) (x_spans : (Sq (Int × Int))) (v_spans : V), vs = [.ref p_self, v_spans] ∧ CallIN K C "Cover" p_self [(v_spans, enc x_spans)] (m_Cover_init x_spans) H Q
theorem ok_Cover_init (T : Txt P w K mg)  : FnOk P w K mg base CX0 (2) T.a_Cover_init T.d_Cover_init ["self", "spans"] (sp_Cover_init K (ct T)) := by
  refine T.F_Cover_init.ok0 sc_Cover_init (fun vs H Q E h => by obtain ⟨_, _, _, rfl, _⟩ := h; rfl) (fun cdv A outer s H vs Q E hr h => ?_)
  have hu := hu_of hr
  have hu64 := hr.units
  refine ⟨_, (pss_cons (ps_set (i := 2) sc_Cover_init.nd rfl (by first | exact Or.inl rfl | exact Or.inr rfl) (pe_lst pa_nil))
      (pss_cons (ps_for PassesOwn.never rfl (pi_sq (pv 1)) (pg_tup (by rfl) (pgs_cons (pg_name (i := 3) sc_Cover_init.nd rfl (by first | exact Or.inl rfl | exact Or.inr rfl)) (pgs_cons (pg_name (i := 4) sc_Cover_init.nd rfl (by first | exact Or.inl rfl | exact Or.inr rfl)) pgs_nil)))
      (pss_cons (ps_if (PW.pt (pw_or (pt_cmpR op_lt (pv 3) pe_int (nomark _)) (pw_or1 (pt_cmpR op_lt (pv 4) (pv 3) (nomark _))))) pss_never pss_nil)
      (pss_one (ps_set (i := 2) sc_Cover_init.nd rfl (by first | exact Or.inl rfl | exact Or.inr rfl) (pe_call (ok_with_span T) (hr.mono (by first | decide | omega)) (by rfl) T.m_with_span T.F_with_span.kp T.b_with_span .nil pass0 (pa_cons (pv 2) (pa_cons (pv 3) (pa_cons (pv 4) pa_nil))))))))
      (pss_one (ps_fld (pv 0) (pv 2) rfl)))), ?_⟩
  obtain ⟨p_self, x_spans, v_spans, rfl, G0, F0, post, px, hp, hm, hQ⟩ := h
  have hx := hx0 (K := K) (C := ct T) (R := R0) (G0 := G0) (F0 := F0) (px := px)
  walk_at "start"
  unfold m_Cover_init at hm
  refine s_seq ?_
  refine s_set (fun v_found => [some (.ref p_self), some v_spans, some v_found, none, none]) (fun _ => rfl) hp hx hm (EV.lstP EA.nil rfl (Nat.le_of_ble_eq_true rfl)) (fun x_found v_found H hp hm => ?_)
  refine s_seq ?_
  refine s_forM (γ := ((List (Int × Int)))) (ι := (V × Option V × Option V)) hp hx hm (EI.sqP (EV.var rfl (.tail _ (.head _)))) (fun r c => [some (.ref p_self), some v_spans, some r.1, r.2.1, r.2.2]) (fun w4 r c => [w4, (r.1, enc c)]) (fun r c => ([(p_self, .obj "Cover" [] [])] : List (Addr × Mi.D))) (fun w H hp => ⟨(v_found, none, none), rfl, hp.less (pk (.head _) (pk (.tail _ (.head _)) pk0))⟩) (fun _ _ _ => .head _) (fun w4 r x_found v_e e_ rest H hp hm => ?_) (fun w r x_found H hp hm => ?_)
  · obtain ⟨v_found, o_start, o_stop⟩ := r
    obtain ⟨x_start, x_stop⟩ := e_
    refine g_two' (fun v_start v_stop => [some (.ref p_self), some v_spans, some v_found, some v_start, some v_stop]) (fun _ _ => rfl) hp (fun v_start v_stop hp => ?_)
    refine s_seq ?_
    refine s_if hp hx hm (ET.orP (ET.test (EV.ltIP (EV.var rfl (.tail _ (.head _))) EV.int)) (ET.test (EV.ltIP (EV.var rfl (.head _)) (EV.var rfl (.tail _ (.head _)))))) (fun H hp hm => ?_) (fun H hp hm => ?_)
    · exact False.elim hm
    · refine s_next ?_
      refine s_set (fun v_found => [some (.ref p_self), some v_spans, some v_found, some v_start, some v_stop]) (fun _ => rfl) hp hx hm (EV.callNP (EA.consP (EV.var rfl (.tail _ (.tail _ (.tail _ (.head _))))) (EA.consP (EV.var rfl (.tail _ (.head _))) (EA.consP (EV.var rfl (.head _)) EA.nil))) (hcN3 fun v0 v1 v2 H Q h => ⟨x_found, x_start, x_stop, v0, v1, v2, rfl, h⟩)) (fun x_found v_found H hp hm => ?_)
      exact ⟨(v_found, some v_start, some v_stop), (x_found), rfl, (hp.less (pk (.tail _ (.tail _ (.tail _ (.head _)))) (pk (.head _) pk0))), hm⟩
  · obtain ⟨v_found, o_start, o_stop⟩ := r
    refine s_fldNew rfl hp hx hm (EV.var rfl (.tail _ (.head _))) (ct_Cover T) T.cl_Cover T.n_Cover_spans (by decide) (by decide) (fun _ => .hd) (fun f_spans H hp hm => ?_)
    exact hQ (⟨f_spans⟩ : Cover) _ (hp.less (L' := []) pk0) hm
theorem ok_Coverdd__iterdd_ (T : Txt P w K mg) : FnOk P w K mg base CX0 (1) T.a_Coverdd__iterdd_ T.d_Coverdd__iterdd_ ["self"] (spIter T.c_Cover "_spans") := by
  refine T.F_Coverdd__iterdd_.ok sc_Coverdd__iterdd_ (fun vs H Q E h => by obtain ⟨_, _, _, _, _, _, rfl, _⟩ := h; rfl) (fun cdv A outer s H vs Q E hr h => ?_)
  have hu := hu_of hr
  refine ⟨_, pss_one (ps_ret (pe_callB call_iterL (by rfl) T.z_iter (by decide +kernel) (pa_cons (pe_fld (pv 0) rfl) pa_nil))), ?_⟩
  obtain ⟨a, A, dx, fs, l, zs, rfl, ⟨h1, hC⟩, h2, h3, h4⟩ := h
  exact ⟨_, rfl, a, A, dx, fs, _, rfl, h1, hC ▸ T.cl_Cover, hC ▸ T.n_Cover_spans, h2, l, zs, rfl, .inl (.inl h3), h4⟩
noncomputable def m_Coverdd__booldd_ (x_self : Cover) : M Bool := (mr (!(x_self.spans).isEmpty))
def sp_Coverdd__booldd_ (K : PySem.W.Frag) (C : CT) : Sp := fun vs H Q E => ∃ (x_self : Cover) (v_self : V), vs = [v_self] ∧ CallN K C R0 [(v_self, enc x_self)] (m_Coverdd__booldd_ x_self) H Q
theorem ok_Coverdd__booldd_ (T : Txt P w K mg)  : FnOk P w K mg base CX0 (1) T.a_Coverdd__booldd_ T.d_Coverdd__booldd_ ["self"] (sp_Coverdd__booldd_ K (ct T)) := by
  refine T.F_Coverdd__booldd_.ok sc_Coverdd__booldd_ (fun vs H Q E h => by obtain ⟨_, _, rfl, _⟩ := h; rfl) (fun cdv A outer s H vs Q E hr h => ?_)
  have hu := hu_of hr
  have hu64 := hr.units
  refine ⟨_, (pss_one (ps_ret (pe_callTy call_boolL (by rfl) T.z_bool (by decide +kernel) (pa_cons (pe_fld (pv 0) rfl) pa_nil)))), ?_⟩
  obtain ⟨x_self, v_self, rfl, G0, F0, post, px, hp, hm, hQ⟩ := h
  have hx := hx0 (K := K) (C := ct T) (R := R0) (G0 := G0) (F0 := F0) (px := px)
  walk_at "start"
  unfold m_Coverdd__booldd_ at hm
  refine s_ret1 hp hx hm (EV.boolLP (EV.fldP (EV.var rfl (.head _)) (ct_Cover T) T.cl_Cover T.n_Cover_spans ⟨_, _, rfl, rfl⟩)) (fun a v H hp hm => hQ a v H hp.fin hm)
noncomputable def m_Coverdd__eqdd_ (x_self : Cover) (x_other : Cover) : M Bool := mite (mr (!true)) (mstuck) ((meqD (enc x_self.spans) (enc x_other.spans)))
def sp_Coverdd__eqdd_ (K : PySem.W.Frag) (C : CT) : Sp := fun vs H Q E => ∃ (x_self : Cover) (x_other : Cover) (v_self v_other : V), vs = [v_self, v_other] ∧ CallN K C R0 [(v_self, enc x_self), (v_other, enc x_other)] (m_Coverdd__eqdd_ x_self x_other) H Q
theorem ok_Coverdd__eqdd_ (T : Txt P w K mg)  : FnOk P w K mg base CX0 (1) T.a_Coverdd__eqdd_ T.d_Coverdd__eqdd_ ["self", "other"] (sp_Coverdd__eqdd_ K (ct T)) := by
  refine T.F_Coverdd__eqdd_.ok sc_Coverdd__eqdd_ (fun vs H Q E h => by obtain ⟨_, _, _, _, rfl, _⟩ := h; rfl) (fun cdv A outer s H vs Q E hr h => ?_)
  have hu := hu_of hr
  have hu64 := hr.units
  refine ⟨_, (pss_cons (ps_if (pt_not (pt_val (pe_callB (C8.call_isC T.ii_Cover) (by rfl) T.z_isinstance (by decide +kernel) (pa_cons (pv 1) (pa_cons (pe_glob (v := .ref T.c_Cover) (by rfl) T.mc_Cover rfl) pa_nil))))) pss_never pss_nil)
      (pss_one (ps_ret (pe_cmpR (op_eqq hu64) (pe_fld (pv 0) rfl) (pe_fld (pv 1) rfl) (nomark _))))), ?_⟩
  obtain ⟨x_self, x_other, v_self, v_other, rfl, G0, F0, post, px, hp, hm, hQ⟩ := h
  have hx := hx0 (K := K) (C := ct T) (R := R0) (G0 := G0) (F0 := F0) (px := px)
  walk_at "start"
  unfold m_Coverdd__eqdd_ at hm
  refine s_seq ?_
  refine s_if hp hx hm (ET.notP (ET.test (EV.isCP (EV.var rfl (.tail _ (.head _))) (ct_Cover T) (fun (_ : Cover) => ⟨_, _, rfl⟩)))) (fun H hp hm => ?_) (fun H hp hm => ?_)
  · exact False.elim hm
  · refine s_next ?_
    refine s_ret1 hp hx hm (EV.eqDP (EV.fldP (EV.var rfl (.head _)) (ct_Cover T) T.cl_Cover T.n_Cover_spans ⟨_, _, rfl, rfl⟩) (EV.fldP (EV.var rfl (.tail _ (.head _))) (ct_Cover T) T.cl_Cover T.n_Cover_spans ⟨_, _, rfl, rfl⟩)) (fun a v H hp hm => hQ a v H hp.fin hm)
noncomputable def m_Coverdd__ledd_ (x_self : Cover) (x_other : Cover) : M Bool := (mb (m_without x_self.spans x_other.spans) fun a => mb (mr ([] : (List (Int × Int)))) fun b => meqD (enc a) (enc b))
def sp_Coverdd__ledd_ (K : PySem.W.Frag) (C : CT) : Sp := fun vs H Q E => ∃ (x_self : Cover) (x_other : Cover) (v_self v_other : V), vs = [v_self, v_other] ∧ CallN K C R0 [(v_self, enc x_self), (v_other, enc x_other)] (m_Coverdd__ledd_ x_self x_other) H Q
theorem ok_Coverdd__ledd_ (T : Txt P w K mg)  : FnOk P w K mg base CX0 (2) T.a_Coverdd__ledd_ T.d_Coverdd__ledd_ ["self", "other"] (sp_Coverdd__ledd_ K (ct T)) := by
  refine T.F_Coverdd__ledd_.ok sc_Coverdd__ledd_ (fun vs H Q E h => by obtain ⟨_, _, _, _, rfl, _⟩ := h; rfl) (fun cdv A outer s H vs Q E hr h => ?_)
  have hu := hu_of hr
  have hu64 := hr.units
  refine ⟨_, (pss_one (ps_ret (pe_cmpR (op_eqq hu64) (pe_call (ok_without T) (hr.mono (by first | decide | omega)) (by rfl) T.m_without T.F_without.kp T.b_without .nil pass0 (pa_cons (pe_fld (pv 0) rfl) (pa_cons (pe_fld (pv 1) rfl) pa_nil))) (pe_lst pa_nil) (nomark _)))), ?_⟩
  obtain ⟨x_self, x_other, v_self, v_other, rfl, G0, F0, post, px, hp, hm, hQ⟩ := h
  have hx := hx0 (K := K) (C := ct T) (R := R0) (G0 := G0) (F0 := F0) (px := px)
  walk_at "start"
  unfold m_Coverdd__ledd_ at hm
  refine s_ret1 hp hx hm (EV.eqD (EV.callNP (EA.consP (EV.fldP (EV.var rfl (.head _)) (ct_Cover T) T.cl_Cover T.n_Cover_spans ⟨_, _, rfl, rfl⟩) (EA.consP (EV.fldP (EV.var rfl (.tail _ (.head _))) (ct_Cover T) T.cl_Cover T.n_Cover_spans ⟨_, _, rfl, rfl⟩) EA.nil)) (hcN2 fun v0 v1 H Q h => ⟨x_self.spans, x_other.spans, v0, v1, rfl, h⟩)) (EV.lstP EA.nil rfl (Nat.le_of_ble_eq_true rfl))) (fun a v H hp hm => hQ a v H hp.fin hm)
noncomputable def m_Coverdd__ordd_ (x_self : Cover) (x_other : Cover) : M Cover := (mb (mb (mb (m_union x_self.spans x_other.spans) fun a => mr (⟨false, a⟩ : (Sq (Int × Int)))) fun a => mb (mr ()) fun g => mr (a, g)) fun g_ => (m_Cover_init g_.1))
def sp_Coverdd__ordd_ (K : PySem.W.Frag) (C : CT) : Sp := fun vs H Q E => ∃ (x_self : Cover) (x_other : Cover) (v_self v_other : V), vs = [v_self, v_other] ∧ CallN K C R0 [(v_self, enc x_self), (v_other, enc x_other)] (m_Coverdd__ordd_ x_self x_other) H Q
theorem ok_Coverdd__ordd_ (T : Txt P w K mg)  : FnOk P w K mg base CX0 (4) T.a_Coverdd__ordd_ T.d_Coverdd__ordd_ ["self", "other"] (sp_Coverdd__ordd_ K (ct T)) := by
  refine T.F_Coverdd__ordd_.ok sc_Coverdd__ordd_ (fun vs H Q E h => by obtain ⟨_, _, _, _, rfl, _⟩ := h; rfl) (fun cdv A outer s H vs Q E hr h => ?_)
  have hu := hu_of hr
  have hu64 := hr.units
  refine ⟨_, (pss_one (ps_ret (pe_make T.mk_Cover (ok_Cover_init T) (hr.mono (by first | decide | omega)) (by rfl) T.mc_Cover (Classical.choose_spec T.bd_Cover_init_1).2 (Classical.choose_spec T.bd_Cover_init_1).1 pass0 (pa_cons (pe_call (ok_union T) (hr.mono (by first | decide | omega)) (by rfl) T.m_union T.F_union.kp T.b_union .nil pass0 (pa_cons (pe_fld (pv 0) rfl) (pa_cons (pe_fld (pv 1) rfl) pa_nil))) pa_nil)))), ?_⟩
  obtain ⟨x_self, x_other, v_self, v_other, rfl, G0, F0, post, px, hp, hm, hQ⟩ := h
  have hx := hx0 (K := K) (C := ct T) (R := R0) (G0 := G0) (F0 := F0) (px := px)
  walk_at "start"
  unfold m_Coverdd__ordd_ at hm
  refine s_ret1 hp hx hm (EV.makeN (γ := ((Sq (Int × Int)) × Unit)) (k := fun g_ => m_Cover_init g_.1) (EA.cons (EV.asF (f := fun a => (⟨false, a⟩ : (Sq (Int × Int)))) (EV.callNP (EA.consP (EV.fldP (EV.var rfl (.head _)) (ct_Cover T) T.cl_Cover T.n_Cover_spans ⟨_, _, rfl, rfl⟩) (EA.consP (EV.fldP (EV.var rfl (.tail _ (.head _))) (ct_Cover T) T.cl_Cover T.n_Cover_spans ⟨_, _, rfl, rfl⟩) EA.nil)) (hcN2 fun v0 v1 H Q h => ⟨x_self.spans, x_other.spans, v0, v1, rfl, h⟩)) fun _ => rfl) EA.nil) (ct_Cover T) (fun x g_ => hcI1 (fun x v0 H Q h => ⟨x, g_.1, v0, rfl, h⟩) x)) (fun a v H hp hm => hQ a v H hp.fin hm)
noncomputable def m_Coverdd__subdd_ (x_self : Cover) (x_other : Cover) : M Cover := (mb (mb (mb (m_without x_self.spans x_other.spans) fun a => mr (⟨false, a⟩ : (Sq (Int × Int)))) fun a => mb (mr ()) fun g => mr (a, g)) fun g_ => (m_Cover_init g_.1))
def sp_Coverdd__subdd_ (K : PySem.W.Frag) (C : CT) : Sp := fun vs H Q E => ∃ (x_self : Cover) (x_other : Cover) (v_self v_other : V), vs = [v_self, v_other] ∧ CallN K C R0 [(v_self, enc x_self), (v_other, enc x_other)] (m_Coverdd__subdd_ x_self x_other) H Q
theorem ok_Coverdd__subdd_ (T : Txt P w K mg)  : FnOk P w K mg base CX0 (4) T.a_Coverdd__subdd_ T.d_Coverdd__subdd_ ["self", "other"] (sp_Coverdd__subdd_ K (ct T)) := by
  refine T.F_Coverdd__subdd_.ok sc_Coverdd__subdd_ (fun vs H Q E h => by obtain ⟨_, _, _, _, rfl, _⟩ := h; rfl) (fun cdv A outer s H vs Q E hr h => ?_)
  have hu := hu_of hr
  have hu64 := hr.units
  refine ⟨_, (pss_one (ps_ret (pe_make T.mk_Cover (ok_Cover_init T) (hr.mono (by first | decide | omega)) (by rfl) T.mc_Cover (Classical.choose_spec T.bd_Cover_init_1).2 (Classical.choose_spec T.bd_Cover_init_1).1 pass0 (pa_cons (pe_call (ok_without T) (hr.mono (by first | decide | omega)) (by rfl) T.m_without T.F_without.kp T.b_without .nil pass0 (pa_cons (pe_fld (pv 0) rfl) (pa_cons (pe_fld (pv 1) rfl) pa_nil))) pa_nil)))), ?_⟩
  obtain ⟨x_self, x_other, v_self, v_other, rfl, G0, F0, post, px, hp, hm, hQ⟩ := h
  have hx := hx0 (K := K) (C := ct T) (R := R0) (G0 := G0) (F0 := F0) (px := px)
  walk_at "start"
  unfold m_Coverdd__subdd_ at hm
  refine s_ret1 hp hx hm (EV.makeN (γ := ((Sq (Int × Int)) × Unit)) (k := fun g_ => m_Cover_init g_.1) (EA.cons (EV.asF (f := fun a => (⟨false, a⟩ : (Sq (Int × Int)))) (EV.callNP (EA.consP (EV.fldP (EV.var rfl (.head _)) (ct_Cover T) T.cl_Cover T.n_Cover_spans ⟨_, _, rfl, rfl⟩) (EA.consP (EV.fldP (EV.var rfl (.tail _ (.head _))) (ct_Cover T) T.cl_Cover T.n_Cover_spans ⟨_, _, rfl, rfl⟩) EA.nil)) (hcN2 fun v0 v1 H Q h => ⟨x_self.spans, x_other.spans, v0, v1, rfl, h⟩)) fun _ => rfl) EA.nil) (ct_Cover T) (fun x g_ => hcI1 (fun x v0 H Q h => ⟨x, g_.1, v0, rfl, h⟩) x)) (fun a v H hp hm => hQ a v H hp.fin hm)
noncomputable def m_Coverdd__floordivdd_ (x_self : Cover) (x_other : Int) : M Cover := mb (m_check_size x_other) fun _ => (mb (mb (mb (mb (mr x_self.spans) (compM (fun _ => mr true) (fun x_start_stop => (mb (mb (mdivI x_start_stop.1 x_other) fun a => mb (mb (mb (mdivI (x_start_stop.2 - (1 : Int)) x_other) fun a => mb (mr (1 : Int)) fun b => mr (a + b)) fun a => mb (mr ()) fun g => mr (a, g)) fun g => mr (a, g)) fun g_ => mr (g_.1, g_.2.1))))) fun a => mr (⟨false, a⟩ : (Sq (Int × Int)))) fun a => mb (mr ()) fun g => mr (a, g)) fun g_ => (m_Cover_init g_.1))
def sp_Coverdd__floordivdd_ (K : PySem.W.Frag) (C : CT) : Sp := fun vs H Q E => ∃ (x_self : Cover) (x_other : Int) (v_self v_other : V), vs = [v_self, v_other] ∧ Call K C R0 [(v_self, enc x_self), (v_other, enc x_other)] (m_Coverdd__floordivdd_ x_self x_other) H Q E
theorem ok_Coverdd__floordivdd_ (T : Txt P w K mg)  : FnOk P w K mg base (L2.CX P w) (4) T.a_Coverdd__floordivdd_ T.d_Coverdd__floordivdd_ ["self", "other"] (sp_Coverdd__floordivdd_ K (ct T)) := by
  refine T.F_Coverdd__floordivdd_.okX sc_Coverdd__floordivdd_ (fun vs H Q E h => by obtain ⟨_, _, _, _, rfl, _⟩ := h; rfl) (fun cdv A outer s H vs Q E hr h => ?_)
  have hu := hu_of hr
  have hu64 := hr.units
  refine ⟨_, (pss_cons (ps_expr (pe_call (ok_check_size T) (hr.mono (by first | decide | omega)) (by rfl) T.m_check_size T.F_check_size.kp T.b_check_size .nil (passes_call (takes_of rfl rfl rfl rfl) (fun _ _ _ _ h => h)) (pa_cons (pv 1) pa_nil)))
      (pss_one (ps_ret (pe_make T.mk_Cover (ok_Cover_init T) (hr.mono (by first | decide | omega)) (by rfl) T.mc_Cover (Classical.choose_spec T.bd_Cover_init_1).2 (Classical.choose_spec T.bd_Cover_init_1).1 pass0 (pa_cons (pe_lc (own := [("start", 2), ("stop", 3)]) (g := (gTup K 2 (gCons (gName 2) (gCons (gName 3) gNil))))  (by rfl) sc_Coverdd__floordivdd_.nd (pi_list (pe_fld (pv 0) rfl)) (blkOk_by (own := [("start", 2), ("stop", 3)]) (N := ["self", "other", "start", "stop"]) (sc := defScope s_Coverdd__floordivdd_) (by decide +kernel)) (fun _ _ _ _ _ => (pg_tup (by rfl) (pgs_cons (pg_name (i := 2) sc_Coverdd__floordivdd_.nd rfl (by first | exact Or.inl rfl | exact Or.inr rfl)) (pgs_cons (pg_name (i := 3) sc_Coverdd__floordivdd_.nd rfl (by first | exact Or.inl rfl | exact Or.inr rfl)) pgs_nil)))) (fun _ _ _ _ _ => pts_nil) (fun _ _ _ _ _ => (pe_tup (pa_cons (pe_op op_fdivW (pv 2) (pv 1)) (pa_cons (pe_op op_plus (pe_op op_fdivW (pe_op op_sub (pv 3) pe_int) (pv 1)) pe_int) pa_nil))))) pa_nil))))), ?_⟩
  obtain ⟨x_self, x_other, v_self, v_other, rfl, G0, F0, post, px, hp, hm, hx, hQ⟩ := h
  walk_at "start"
  unfold m_Coverdd__floordivdd_ at hm
  refine s_seq ?_
  refine s_drop hp hx hm (EV.callXP (EA.consP (EV.var rfl (.tail _ (.head _))) EA.nil) (hcX1 fun v0 H Q h => ⟨x_other, v0, rfl, h⟩)) (fun _ H hp hm => ?_)
  refine s_ret1 hp hx hm (EV.makeN (γ := ((Sq (Int × Int)) × Unit)) (k := fun g_ => m_Cover_init g_.1) (EA.cons (EV.asF (f := fun a => (⟨false, a⟩ : (Sq (Int × Int)))) (EV.lc2 (EI.list (EV.fldP (EV.var rfl (.head _)) (ct_Cover T) T.cl_Cover T.n_Cover_spans ⟨_, _, rfl, rfl⟩)) (fun _ _ => rfl) (fun x_start_stop v_start v_stop q_ => ET.yes) (fun x_start_stop v_start v_stop q_ => (EV.tup (γ := (Int × Int × Unit)) (EA.cons (EV.divIP (EV.var rfl (.tail _ (.head _))) (EV.var rfl (.tail _ (.tail _ (.tail _ (.head _)))))) (EA.cons (EV.addI (EV.divIP (EV.subIP (EV.var rfl (.head _)) EV.int) (EV.var rfl (.tail _ (.tail _ (.tail _ (.head _)))))) EV.int) EA.nil)) (f := fun g_ => (g_.1, g_.2.1)) (fun _ => rfl) (fun _ => by simp)))) fun _ => rfl) EA.nil) (ct_Cover T) (fun x g_ => hcI1 (fun x v0 H Q h => ⟨x, g_.1, v0, rfl, h⟩) x)) (fun a v H hp hm => hQ a v H hp.fin hm)
noncomputable def m_Coverdd__moddd_ (x_self : Cover) (x_other : Int) : M Cover := mb (m_check_size x_other) fun _ => (mb (mb (mb (m_remainders x_self.spans x_other) fun a => mr (⟨false, a⟩ : (Sq (Int × Int)))) fun a => mb (mr ()) fun g => mr (a, g)) fun g_ => (m_Cover_init g_.1))
def sp_Coverdd__moddd_ (K : PySem.W.Frag) (C : CT) : Sp := fun vs H Q E => ∃ (x_self : Cover) (x_other : Int) (v_self v_other : V), vs = [v_self, v_other] ∧ Call K C R0 [(v_self, enc x_self), (v_other, enc x_other)] (m_Coverdd__moddd_ x_self x_other) H Q E
theorem ok_Coverdd__moddd_ (T : Txt P w K mg)  : FnOk P w K mg base (L2.CX P w) (4) T.a_Coverdd__moddd_ T.d_Coverdd__moddd_ ["self", "other"] (sp_Coverdd__moddd_ K (ct T)) := by
  refine T.F_Coverdd__moddd_.okX sc_Coverdd__moddd_ (fun vs H Q E h => by obtain ⟨_, _, _, _, rfl, _⟩ := h; rfl) (fun cdv A outer s H vs Q E hr h => ?_)
  have hu := hu_of hr
  have hu64 := hr.units
  refine ⟨_, (pss_cons (ps_expr (pe_call (ok_check_size T) (hr.mono (by first | decide | omega)) (by rfl) T.m_check_size T.F_check_size.kp T.b_check_size .nil (passes_call (takes_of rfl rfl rfl rfl) (fun _ _ _ _ h => h)) (pa_cons (pv 1) pa_nil)))
      (pss_one (ps_ret (pe_make T.mk_Cover (ok_Cover_init T) (hr.mono (by first | decide | omega)) (by rfl) T.mc_Cover (Classical.choose_spec T.bd_Cover_init_1).2 (Classical.choose_spec T.bd_Cover_init_1).1 pass0 (pa_cons (pe_call (ok_remainders T) (hr.mono (by first | decide | omega)) (by rfl) T.m_remainders T.F_remainders.kp T.b_remainders .nil pass0 (pa_cons (pe_fld (pv 0) rfl) (pa_cons (pv 1) pa_nil))) pa_nil))))), ?_⟩
  obtain ⟨x_self, x_other, v_self, v_other, rfl, G0, F0, post, px, hp, hm, hx, hQ⟩ := h
  walk_at "start"
  unfold m_Coverdd__moddd_ at hm
  refine s_seq ?_
  refine s_drop hp hx hm (EV.callXP (EA.consP (EV.var rfl (.tail _ (.head _))) EA.nil) (hcX1 fun v0 H Q h => ⟨x_other, v0, rfl, h⟩)) (fun _ H hp hm => ?_)
  refine s_ret1 hp hx hm (EV.makeN (γ := ((Sq (Int × Int)) × Unit)) (k := fun g_ => m_Cover_init g_.1) (EA.cons (EV.asF (f := fun a => (⟨false, a⟩ : (Sq (Int × Int)))) (EV.callNP (EA.consP (EV.fldP (EV.var rfl (.head _)) (ct_Cover T) T.cl_Cover T.n_Cover_spans ⟨_, _, rfl, rfl⟩) (EA.consP (EV.var rfl (.tail _ (.head _))) EA.nil)) (hcN2 fun v0 v1 H Q h => ⟨x_self.spans, x_other, v0, v1, rfl, h⟩)) fun _ => rfl) EA.nil) (ct_Cover T) (fun x g_ => hcI1 (fun x v0 H Q h => ⟨x, g_.1, v0, rfl, h⟩) x)) (fun a v H hp hm => hQ a v H hp.fin hm)
noncomputable def m_Coverdd__muldd_ (x_self : Cover) (x_other : Int) : M Cover := mb (m_check_size x_other) fun _ => (mb (mb (mb (mb (mr x_self.spans) (compM (fun _ => mr true) (fun x_start_stop => (mb (mb (mmulI x_start_stop.1 x_other) fun a => mb (mb (mmulI x_start_stop.2 x_other) fun a => mb (mr ()) fun g => mr (a, g)) fun g => mr (a, g)) fun g_ => mr (g_.1, g_.2.1))))) fun a => mr (⟨false, a⟩ : (Sq (Int × Int)))) fun a => mb (mr ()) fun g => mr (a, g)) fun g_ => (m_Cover_init g_.1))
def sp_Coverdd__muldd_ (K : PySem.W.Frag) (C : CT) : Sp := fun vs H Q E => ∃ (x_self : Cover) (x_other : Int) (v_self v_other : V), vs = [v_self, v_other] ∧ Call K C R0 [(v_self, enc x_self), (v_other, enc x_other)] (m_Coverdd__muldd_ x_self x_other) H Q E
theorem ok_Coverdd__muldd_ (T : Txt P w K mg)  : FnOk P w K mg base (L2.CX P w) (4) T.a_Coverdd__muldd_ T.d_Coverdd__muldd_ ["self", "other"] (sp_Coverdd__muldd_ K (ct T)) := by
  refine T.F_Coverdd__muldd_.okX sc_Coverdd__muldd_ (fun vs H Q E h => by obtain ⟨_, _, _, _, rfl, _⟩ := h; rfl) (fun cdv A outer s H vs Q E hr h => ?_)
  have hu := hu_of hr
  have hu64 := hr.units
  refine ⟨_, (pss_cons (ps_expr (pe_call (ok_check_size T) (hr.mono (by first | decide | omega)) (by rfl) T.m_check_size T.F_check_size.kp T.b_check_size .nil (passes_call (takes_of rfl rfl rfl rfl) (fun _ _ _ _ h => h)) (pa_cons (pv 1) pa_nil)))
      (pss_one (ps_ret (pe_make T.mk_Cover (ok_Cover_init T) (hr.mono (by first | decide | omega)) (by rfl) T.mc_Cover (Classical.choose_spec T.bd_Cover_init_1).2 (Classical.choose_spec T.bd_Cover_init_1).1 pass0 (pa_cons (pe_lc (own := [("start", 2), ("stop", 3)]) (g := (gTup K 2 (gCons (gName 2) (gCons (gName 3) gNil))))  (by rfl) sc_Coverdd__muldd_.nd (pi_list (pe_fld (pv 0) rfl)) (blkOk_by (own := [("start", 2), ("stop", 3)]) (N := ["self", "other", "start", "stop"]) (sc := defScope s_Coverdd__muldd_) (by decide +kernel)) (fun _ _ _ _ _ => (pg_tup (by rfl) (pgs_cons (pg_name (i := 2) sc_Coverdd__muldd_.nd rfl (by first | exact Or.inl rfl | exact Or.inr rfl)) (pgs_cons (pg_name (i := 3) sc_Coverdd__muldd_.nd rfl (by first | exact Or.inl rfl | exact Or.inr rfl)) pgs_nil)))) (fun _ _ _ _ _ => pts_nil) (fun _ _ _ _ _ => (pe_tup (pa_cons (pe_op op_times (pv 2) (pv 1)) (pa_cons (pe_op op_times (pv 3) (pv 1)) pa_nil))))) pa_nil))))), ?_⟩
  obtain ⟨x_self, x_other, v_self, v_other, rfl, G0, F0, post, px, hp, hm, hx, hQ⟩ := h
  walk_at "start"
  unfold m_Coverdd__muldd_ at hm
  refine s_seq ?_
  refine s_drop hp hx hm (EV.callXP (EA.consP (EV.var rfl (.tail _ (.head _))) EA.nil) (hcX1 fun v0 H Q h => ⟨x_other, v0, rfl, h⟩)) (fun _ H hp hm => ?_)
  refine s_ret1 hp hx hm (EV.makeN (γ := ((Sq (Int × Int)) × Unit)) (k := fun g_ => m_Cover_init g_.1) (EA.cons (EV.asF (f := fun a => (⟨false, a⟩ : (Sq (Int × Int)))) (EV.lc2 (EI.list (EV.fldP (EV.var rfl (.head _)) (ct_Cover T) T.cl_Cover T.n_Cover_spans ⟨_, _, rfl, rfl⟩)) (fun _ _ => rfl) (fun x_start_stop v_start v_stop q_ => ET.yes) (fun x_start_stop v_start v_stop q_ => (EV.tup (γ := (Int × Int × Unit)) (EA.cons (EV.mulIP (EV.var rfl (.tail _ (.head _))) (EV.var rfl (.tail _ (.tail _ (.tail _ (.head _)))))) (EA.cons (EV.mulIP (EV.var rfl (.head _)) (EV.var rfl (.tail _ (.tail _ (.tail _ (.head _)))))) EA.nil)) (f := fun g_ => (g_.1, g_.2.1)) (fun _ => rfl) (fun _ => by simp)))) fun _ => rfl) EA.nil) (ct_Cover T) (fun x g_ => hcI1 (fun x v0 H Q h => ⟨x, g_.1, v0, rfl, h⟩) x)) (fun a v H hp hm => hQ a v H hp.fin hm)
noncomputable def m_Coverdd__rmuldd_ (x_self : Cover) (x_other : Int) : M Cover := mb (m_check_size x_other) fun _ => (mb (mb (mb (mb (mr x_self.spans) (compM (fun _ => mr true) (fun x_start_stop => (mb (mb (mmulI x_start_stop.1 x_other) fun a => mb (mb (mmulI x_start_stop.2 x_other) fun a => mb (mr ()) fun g => mr (a, g)) fun g => mr (a, g)) fun g_ => mr (g_.1, g_.2.1))))) fun a => mr (⟨false, a⟩ : (Sq (Int × Int)))) fun a => mb (mr ()) fun g => mr (a, g)) fun g_ => (m_Cover_init g_.1))
def sp_Coverdd__rmuldd_ (K : PySem.W.Frag) (C : CT) : Sp := fun vs H Q E => ∃ (x_self : Cover) (x_other : Int) (v_self v_other : V), vs = [v_self, v_other] ∧ Call K C R0 [(v_self, enc x_self), (v_other, enc x_other)] (m_Coverdd__rmuldd_ x_self x_other) H Q E
theorem ok_Coverdd__rmuldd_ (T : Txt P w K mg)  : FnOk P w K mg base (L2.CX P w) (4) T.a_Coverdd__rmuldd_ T.d_Coverdd__rmuldd_ ["self", "other"] (sp_Coverdd__rmuldd_ K (ct T)) := by
  refine T.F_Coverdd__rmuldd_.okX sc_Coverdd__rmuldd_ (fun vs H Q E h => by obtain ⟨_, _, _, _, rfl, _⟩ := h; rfl) (fun cdv A outer s H vs Q E hr h => ?_)
  have hu := hu_of hr
  have hu64 := hr.units
  refine ⟨_, (pss_cons (ps_expr (pe_call (ok_check_size T) (hr.mono (by first | decide | omega)) (by rfl) T.m_check_size T.F_check_size.kp T.b_check_size .nil (passes_call (takes_of rfl rfl rfl rfl) (fun _ _ _ _ h => h)) (pa_cons (pv 1) pa_nil)))
      (pss_one (ps_ret (pe_make T.mk_Cover (ok_Cover_init T) (hr.mono (by first | decide | omega)) (by rfl) T.mc_Cover (Classical.choose_spec T.bd_Cover_init_1).2 (Classical.choose_spec T.bd_Cover_init_1).1 pass0 (pa_cons (pe_lc (own := [("start", 2), ("stop", 3)]) (g := (gTup K 2 (gCons (gName 2) (gCons (gName 3) gNil))))  (by rfl) sc_Coverdd__rmuldd_.nd (pi_list (pe_fld (pv 0) rfl)) (blkOk_by (own := [("start", 2), ("stop", 3)]) (N := ["self", "other", "start", "stop"]) (sc := defScope s_Coverdd__rmuldd_) (by decide +kernel)) (fun _ _ _ _ _ => (pg_tup (by rfl) (pgs_cons (pg_name (i := 2) sc_Coverdd__rmuldd_.nd rfl (by first | exact Or.inl rfl | exact Or.inr rfl)) (pgs_cons (pg_name (i := 3) sc_Coverdd__rmuldd_.nd rfl (by first | exact Or.inl rfl | exact Or.inr rfl)) pgs_nil)))) (fun _ _ _ _ _ => pts_nil) (fun _ _ _ _ _ => (pe_tup (pa_cons (pe_op op_times (pv 2) (pv 1)) (pa_cons (pe_op op_times (pv 3) (pv 1)) pa_nil))))) pa_nil))))), ?_⟩
  obtain ⟨x_self, x_other, v_self, v_other, rfl, G0, F0, post, px, hp, hm, hx, hQ⟩ := h
  walk_at "start"
  unfold m_Coverdd__rmuldd_ at hm
  refine s_seq ?_
  refine s_drop hp hx hm (EV.callXP (EA.consP (EV.var rfl (.tail _ (.head _))) EA.nil) (hcX1 fun v0 H Q h => ⟨x_other, v0, rfl, h⟩)) (fun _ H hp hm => ?_)
  refine s_ret1 hp hx hm (EV.makeN (γ := ((Sq (Int × Int)) × Unit)) (k := fun g_ => m_Cover_init g_.1) (EA.cons (EV.asF (f := fun a => (⟨false, a⟩ : (Sq (Int × Int)))) (EV.lc2 (EI.list (EV.fldP (EV.var rfl (.head _)) (ct_Cover T) T.cl_Cover T.n_Cover_spans ⟨_, _, rfl, rfl⟩)) (fun _ _ => rfl) (fun x_start_stop v_start v_stop q_ => ET.yes) (fun x_start_stop v_start v_stop q_ => (EV.tup (γ := (Int × Int × Unit)) (EA.cons (EV.mulIP (EV.var rfl (.tail _ (.head _))) (EV.var rfl (.tail _ (.tail _ (.tail _ (.head _)))))) (EA.cons (EV.mulIP (EV.var rfl (.head _)) (EV.var rfl (.tail _ (.tail _ (.tail _ (.head _)))))) EA.nil)) (f := fun g_ => (g_.1, g_.2.1)) (fun _ => rfl) (fun _ => by simp)))) fun _ => rfl) EA.nil) (ct_Cover T) (fun x g_ => hcI1 (fun x v0 H Q h => ⟨x, g_.1, v0, rfl, h⟩) x)) (fun a v H hp hm => hQ a v H hp.fin hm)
noncomputable def m_law_whole (x_x : Mi.D) : M Bool := (mand (misD .int x_x) (mb (misD .bl x_x) fun a => mr (!a)))
def sp_law_whole (K : PySem.W.Frag) (C : CT) : Sp := fun vs H Q E => ∃ (x_x : Mi.D) (v_x : V), vs = [v_x] ∧ CallN K C R0 [(v_x, enc x_x)] (m_law_whole x_x) H Q
theorem ok_law_whole (T : Txt P w K mg)  : FnOk P w K mg base CX0 (1) T.a_law_whole T.d_law_whole ["x"] (sp_law_whole K (ct T)) := by
  refine T.F_law_whole.ok sc_law_whole (fun vs H Q E h => by obtain ⟨_, _, rfl, _⟩ := h; rfl) (fun cdv A outer s H vs Q E hr h => ?_)
  have hu := hu_of hr
  have hu64 := hr.units
  refine ⟨_, (pss_one (ps_ret (pe_and (pe_callB call_isi (by rfl) T.z_isinstance (by decide +kernel) (pa_cons (pv 0) (pa_cons (pe_bltn (v := .ty "int") (by rfl) T.z_int (by decide +kernel) rfl) pa_nil))) (pe_one (pe_not (pe_callB call_isi (by rfl) T.z_isinstance (by decide +kernel) (pa_cons (pv 0) (pa_cons (pe_bltn (v := .ty "bool") (by rfl) T.z_bool (by decide +kernel) rfl) pa_nil)))))))), ?_⟩
  obtain ⟨x_x, v_x, rfl, G0, F0, post, px, hp, hm, hQ⟩ := h
  have hx := hx0 (K := K) (C := ct T) (R := R0) (G0 := G0) (F0 := F0) (px := px)
  walk_at "start"
  unfold m_law_whole at hm
  refine s_ret1 hp hx hm (EV.andV (EV.isiDP .int (EV.var rfl (.head _))) (EV.notV (EV.isiDP .bl (EV.var rfl (.head _))))) (fun a v H hp hm => hQ a v H hp.fin hm)
noncomputable def m_law_pairs (x_most : Int) : M (List (Int × Int)) := mb (m_law_draw (6 : Int)) fun x_kind => mb (mr (0 : Int)) fun x_base => mb (mite (mr (decide (x_kind = (3 : Int)))) (mb (mr (1000000000000000000000000000000 : Int)) fun x_base => mr (x_base)) (mr (x_base)) : M (Int)) fun c_ => ((fun x_base => mb (mite (mr (decide (x_kind = (4 : Int)))) (mb (m_law_draw (1000000000000000000000000000000 : Int)) fun x_base => mr (x_base)) (mr (x_base)) : M (Int)) fun c_ => ((fun x_base => mb (mb (mr ()) fun g_ => mr ([] : (List (Int × Int)))) fun x_found => mite (mr (decide (x_kind = (2 : Int)))) (mb (mb (mr (1 : Int)) fun a => mb (m_law_draw (4 : Int)) fun b => mr (a + b)) fun x_step => mb (m_law_draw (x_step + (1 : Int))) fun x_wide => mb (mb (mb (mb (mmulI (3 : Int) x_most) fun a => mb (mr (5 : Int)) fun b => mr (a + b)) fun a => mb (mr ()) fun g => mr (a, g)) fun g_ => (m_law_draw g_.1)) fun x_many => mb (mb (mr (1 : Int)) fun a => mb (m_law_draw (9 : Int)) fun b => mr (a + b)) fun x_turn => mb (mrange 0 x_many) fun xs_ => mb (forM xs_ (x_found) (fun x_k c_ => ((fun x_found => mb (mb (mr x_step) fun a => mb (mb (mb (mmulI x_k x_turn) fun a => mr a) fun a => mb (mr (if x_many > (1 : Int) then x_many else (1 : Int))) fun b => mmodI a b) fun b => mmulI a b) fun x_start => mb (mr (x_start, (x_start + x_wide))) fun a_ => mb (mpush x_found a_) fun x_found => mr (x_found)) c_))) fun c_ => ((fun x_found => (mr x_found)) c_)) (mb (mb (m_law_draw (x_most + (1 : Int))) fun n => mrange 0 n) fun xs_ => mb (forM xs_ (x_found) (fun x_k c_ => ((fun x_found => mb (mb (mr x_base) fun a => mb (m_law_draw (41 : Int)) fun b => mr (a + b)) fun x_start => mb (m_law_draw (9 : Int)) fun x_length => mb (m_law_draw (6 : Int)) fun x_near => mb (mite (mr (decide (x_kind = (5 : Int)))) (mb (m_law_draw (1000000000000 : Int)) fun x_start => mb (m_law_draw (1000000000000 : Int)) fun x_length => mr (x_start, x_length)) (mr (x_start, x_length)) : M (Int × Int)) fun c_ => (match c_ with | (x_start, x_length) => mb (mite (mr ((decide ((0 : Int) < x_k)) && (decide (x_near = (1 : Int))))) (mb (mb (mix x_found (x_k - (1 : Int))) fun a => mr a.2) fun x_start => mr (x_start)) (mr (x_start)) : M (Int)) fun c_ => ((fun x_start => mb (mite (mand (mr (decide ((0 : Int) < x_k))) (mand (mr (decide (x_near = (2 : Int)))) (mb (mb (mix x_found (x_k - (1 : Int))) fun a => mr a.1) fun a => mb (mr x_length) fun b => mr (decide (b ≤ a))))) (mb (mb (mb (mix x_found (x_k - (1 : Int))) fun a => mr a.1) fun a => mb (mr x_length) fun b => mr (a - b)) fun x_start => mr (x_start)) (mr (x_start)) : M (Int)) fun c_ => ((fun x_start => mb (mr (x_start, (x_start + x_length))) fun a_ => mb (mpush x_found a_) fun x_found => mr (x_found)) c_)) c_))) c_))) fun c_ => ((fun x_found => (mr x_found)) c_))) c_)) c_)
def sp_law_pairs (K : PySem.W.Frag) (C : CT) : Sp := fun vs H Q E => ∃ (p_st : Addr) (x_most : Int) (v_most : V), vs = [.ref p_st, v_most] ∧ CallN K C (RS p_st) [(v_most, enc x_most)] (m_law_pairs x_most) H Q
theorem ok_law_pairs (T : Txt P w K mg)  : FnOk P w K mg base CX0 (3) T.a_law_pairs T.d_law_pairs ["state", "most"] (sp_law_pairs K (ct T)) := by
  refine T.F_law_pairs.ok sc_law_pairs (fun vs H Q E h => by obtain ⟨_, _, _, rfl, _⟩ := h; rfl) (fun cdv A outer s H vs Q E hr h => ?_)
  have hu := hu_of hr
  have hu64 := hr.units
  refine ⟨_, (pss_cons (ps_set (i := 2) sc_law_pairs.nd rfl (by first | exact Or.inl rfl | exact Or.inr rfl) (pe_call (draw_ok (C := ct T) (ok_law_draw T)) (hr.mono (by first | decide | omega)) (by rfl) T.m_law_draw T.F_law_draw.kp T.b_law_draw .nil pass0 (pa_cons (pv 0) (pa_cons pe_int pa_nil))))
      (pss_cons (ps_set (i := 3) sc_law_pairs.nd rfl (by first | exact Or.inl rfl | exact Or.inr rfl) pe_int)
      (pss_cons (ps_if (pt_cmpR (op_eqq hu64) (pv 2) pe_int (nomark _)) (pss_one (ps_set (i := 3) sc_law_pairs.nd rfl (by first | exact Or.inl rfl | exact Or.inr rfl) (pe_op op_pow pe_int pe_int))) pss_nil)
      (pss_cons (ps_if (pt_cmpR (op_eqq hu64) (pv 2) pe_int (nomark _)) (pss_one (ps_set (i := 3) sc_law_pairs.nd rfl (by first | exact Or.inl rfl | exact Or.inr rfl) (pe_call (draw_ok (C := ct T) (ok_law_draw T)) (hr.mono (by first | decide | omega)) (by rfl) T.m_law_draw T.F_law_draw.kp T.b_law_draw .nil pass0 (pa_cons (pv 0) (pa_cons (pe_op op_pow pe_int pe_int) pa_nil))))) pss_nil)
      (pss_cons (ps_set (i := 4) sc_law_pairs.nd rfl (by first | exact Or.inl rfl | exact Or.inr rfl) (pe_lst pa_nil))
      (pss_cons (ps_if (pt_cmpR (op_eqq hu64) (pv 2) pe_int (nomark _)) (pss_cons (ps_set (i := 5) sc_law_pairs.nd rfl (by first | exact Or.inl rfl | exact Or.inr rfl) (pe_op op_plus pe_int (pe_call (draw_ok (C := ct T) (ok_law_draw T)) (hr.mono (by first | decide | omega)) (by rfl) T.m_law_draw T.F_law_draw.kp T.b_law_draw .nil pass0 (pa_cons (pv 0) (pa_cons pe_int pa_nil)))))
      (pss_cons (ps_set (i := 6) sc_law_pairs.nd rfl (by first | exact Or.inl rfl | exact Or.inr rfl) (pe_call (draw_ok (C := ct T) (ok_law_draw T)) (hr.mono (by first | decide | omega)) (by rfl) T.m_law_draw T.F_law_draw.kp T.b_law_draw .nil pass0 (pa_cons (pv 0) (pa_cons (pe_op op_plus (pv 5) pe_int) pa_nil))))
      (pss_cons (ps_set (i := 7) sc_law_pairs.nd rfl (by first | exact Or.inl rfl | exact Or.inr rfl) (pe_call (draw_ok (C := ct T) (ok_law_draw T)) (hr.mono (by first | decide | omega)) (by rfl) T.m_law_draw T.F_law_draw.kp T.b_law_draw .nil pass0 (pa_cons (pv 0) (pa_cons (pe_op op_plus (pe_op op_times pe_int (pv 1)) pe_int) pa_nil))))
      (pss_cons (ps_set (i := 8) sc_law_pairs.nd rfl (by first | exact Or.inl rfl | exact Or.inr rfl) (pe_op op_plus pe_int (pe_call (draw_ok (C := ct T) (ok_law_draw T)) (hr.mono (by first | decide | omega)) (by rfl) T.m_law_draw T.F_law_draw.kp T.b_law_draw .nil pass0 (pa_cons (pv 0) (pa_cons pe_int pa_nil)))))
      (pss_cons (ps_for PassesOwn.never rfl (pi_range1 (by rfl) T.z_range (pa_cons (pv 7) pa_nil)) (pg_name (i := 9) sc_law_pairs.nd rfl (by first | exact Or.inl rfl | exact Or.inr rfl))
      (pss_cons (ps_set (i := 10) sc_law_pairs.nd rfl (by first | exact Or.inl rfl | exact Or.inr rfl) (pe_op op_times (pv 5) (pe_op op_mod (pe_callTy call_intA (by rfl) T.z_int (by decide +kernel) (pa_cons (pe_op op_times (pv 9) (pv 8)) pa_nil)) (pe_callB (call_max2 (by rfl)) (by rfl) T.z_max (by decide +kernel) (pa_cons pe_int (pa_cons (pv 7) pa_nil))))))
      (pss_one (ps_expr (pe_bm PySem.F.plainAttrs_list PySem.F.slot_list_append PySem.F.type_list_append mt_append (pv 4) (pa_cons (pe_tup (pa_cons (pv 10) (pa_cons (pe_op op_plus (pv 10) (pv 6)) pa_nil))) pa_nil))))))
      (pss_one (ps_ret (pv 4)))))))) pss_nil)
      (pss_cons (ps_for PassesOwn.never rfl (pi_range1 (by rfl) T.z_range (pa_cons (pe_call (draw_ok (C := ct T) (ok_law_draw T)) (hr.mono (by first | decide | omega)) (by rfl) T.m_law_draw T.F_law_draw.kp T.b_law_draw .nil pass0 (pa_cons (pv 0) (pa_cons (pe_op op_plus (pv 1) pe_int) pa_nil))) pa_nil)) (pg_name (i := 9) sc_law_pairs.nd rfl (by first | exact Or.inl rfl | exact Or.inr rfl))
      (pss_cons (ps_set (i := 10) sc_law_pairs.nd rfl (by first | exact Or.inl rfl | exact Or.inr rfl) (pe_op op_plus (pv 3) (pe_call (draw_ok (C := ct T) (ok_law_draw T)) (hr.mono (by first | decide | omega)) (by rfl) T.m_law_draw T.F_law_draw.kp T.b_law_draw .nil pass0 (pa_cons (pv 0) (pa_cons pe_int pa_nil)))))
      (pss_cons (ps_set (i := 11) sc_law_pairs.nd rfl (by first | exact Or.inl rfl | exact Or.inr rfl) (pe_call (draw_ok (C := ct T) (ok_law_draw T)) (hr.mono (by first | decide | omega)) (by rfl) T.m_law_draw T.F_law_draw.kp T.b_law_draw .nil pass0 (pa_cons (pv 0) (pa_cons pe_int pa_nil))))
      (pss_cons (ps_set (i := 12) sc_law_pairs.nd rfl (by first | exact Or.inl rfl | exact Or.inr rfl) (pe_call (draw_ok (C := ct T) (ok_law_draw T)) (hr.mono (by first | decide | omega)) (by rfl) T.m_law_draw T.F_law_draw.kp T.b_law_draw .nil pass0 (pa_cons (pv 0) (pa_cons pe_int pa_nil))))
      (pss_cons (ps_if (pt_cmpR (op_eqq hu64) (pv 2) pe_int (nomark _)) (pss_cons (ps_set (i := 10) sc_law_pairs.nd rfl (by first | exact Or.inl rfl | exact Or.inr rfl) (pe_call (draw_ok (C := ct T) (ok_law_draw T)) (hr.mono (by first | decide | omega)) (by rfl) T.m_law_draw T.F_law_draw.kp T.b_law_draw .nil pass0 (pa_cons (pv 0) (pa_cons (pe_op op_pow pe_int pe_int) pa_nil))))
      (pss_one (ps_set (i := 11) sc_law_pairs.nd rfl (by first | exact Or.inl rfl | exact Or.inr rfl) (pe_call (draw_ok (C := ct T) (ok_law_draw T)) (hr.mono (by first | decide | omega)) (by rfl) T.m_law_draw T.F_law_draw.kp T.b_law_draw .nil pass0 (pa_cons (pv 0) (pa_cons (pe_op op_pow pe_int pe_int) pa_nil)))))) pss_nil)
      (pss_cons (ps_if (PW.pt (pw_and (pt_cmpR op_gt (pv 9) pe_int (nomark _)) (pw_and1 (pt_cmpR (op_eqq hu64) (pv 12) pe_int (nomark _))))) (pss_one (ps_set (i := 10) sc_law_pairs.nd rfl (by first | exact Or.inl rfl | exact Or.inr rfl) (pe_ix (ix_any hu) (pe_ix (ix_any hu) (pv 4) (pe_op op_sub (pv 9) pe_int) (fun _ _ => rfl)) pe_int (fun _ _ => rfl)))) pss_nil)
      (pss_cons (ps_if (PW.pt (pw_and (pt_cmpR op_gt (pv 9) pe_int (nomark _)) (pw_and (pt_cmpR (op_eqq hu64) (pv 12) pe_int (nomark _)) (pw_and1 (pt_cmpR op_ge (pe_ix (ix_any hu) (pe_ix (ix_any hu) (pv 4) (pe_op op_sub (pv 9) pe_int) (fun _ _ => rfl)) pe_int (fun _ _ => rfl)) (pv 11) (nomark _)))))) (pss_one (ps_set (i := 10) sc_law_pairs.nd rfl (by first | exact Or.inl rfl | exact Or.inr rfl) (pe_op op_sub (pe_ix (ix_any hu) (pe_ix (ix_any hu) (pv 4) (pe_op op_sub (pv 9) pe_int) (fun _ _ => rfl)) pe_int (fun _ _ => rfl)) (pv 11)))) pss_nil)
      (pss_one (ps_expr (pe_bm PySem.F.plainAttrs_list PySem.F.slot_list_append PySem.F.type_list_append mt_append (pv 4) (pa_cons (pe_tup (pa_cons (pv 10) (pa_cons (pe_op op_plus (pv 10) (pv 11)) pa_nil))) pa_nil)))))))))))
      (pss_one (ps_ret (pv 4)))))))))), ?_⟩
  obtain ⟨p_st, x_most, v_most, rfl, G0, F0, post, px, hp, hm, hQ⟩ := h
  have hx := hx0 (K := K) (C := ct T) (R := RS p_st) (G0 := G0) (F0 := F0) (px := px)
  walk_at "start"
  unfold m_law_pairs at hm
  refine s_seq ?_
  refine s_set (fun v_kind => [some (.ref p_st), some v_most, some v_kind, none, none, none, none, none, none, none, none, none, none]) (fun _ => rfl) hp hx hm (EV.callWP rfl (EA.consP EV.int EA.nil) (hcW1 fun v0 H Q h => ⟨_, (6 : Int), v0, rfl, h⟩)) (fun x_kind v_kind H hp hm => ?_)
  refine s_seq ?_
  refine s_set (fun v_base => [some (.ref p_st), some v_most, some v_kind, some v_base, none, none, none, none, none, none, none, none, none]) (fun _ => rfl) hp hx hm EV.int (fun x_base v_base H hp hm => ?_)
  refine s_join (τ := Unit) (γ := (Int)) (ι := (V)) hp hm (fun r c => [some (.ref p_st), some v_most, some v_kind, some r, none, none, none, none, none, none, none, none, none]) (fun r c => [(r, enc c), (v_most, enc x_most), (v_kind, enc x_kind)]) (fun r c => ([] : List (Addr × Mi.D))) (fun nx_ hj hm => ?_) (fun v_base x_base H hp hm => ?_)
  · refine s_if hp hx hm (ET.test (EV.eqSP (EV.var rfl (.tail _ (.head _))) EV.int)) (fun H hp hm => ?_) (fun H hp hm => ?_)
    · refine s_set (fun v_base => [some (.ref p_st), some v_most, some v_kind, some v_base, none, none, none, none, none, none, none, none, none]) (fun _ => rfl) hp hx hm (EV.powC ⟨by decide, by decide, by decide⟩ (by decide)) (fun x_base v_base H hp hm => ?_)
      exact hj (v_base) (x_base) _ (hp.less (pk (.head _) (pk (.tail _ (.tail _ (.tail _ (.head _)))) (pk (.tail _ (.tail _ (.head _))) pk0)))) hm
    · refine s_next ?_
      exact hj (v_base) (x_base) _ (hp.less (pk (.head _) (pk (.tail _ (.tail _ (.head _))) (pk (.tail _ (.head _)) pk0)))) hm
  · refine s_join (τ := Unit) (γ := (Int)) (ι := (V)) hp hm (fun r c => [some (.ref p_st), some v_most, some v_kind, some r, none, none, none, none, none, none, none, none, none]) (fun r c => [(r, enc c), (v_most, enc x_most), (v_kind, enc x_kind)]) (fun r c => ([] : List (Addr × Mi.D))) (fun nx_ hj hm => ?_) (fun v_base x_base H hp hm => ?_)
    · refine s_if hp hx hm (ET.test (EV.eqSP (EV.var rfl (.tail _ (.tail _ (.head _)))) EV.int)) (fun H hp hm => ?_) (fun H hp hm => ?_)
      · refine s_set (fun v_base => [some (.ref p_st), some v_most, some v_kind, some v_base, none, none, none, none, none, none, none, none, none]) (fun _ => rfl) hp hx hm (EV.callWP rfl (EA.consP (EV.powC ⟨by decide, by decide, by decide⟩ (by decide)) EA.nil) (hcW1 fun v0 H Q h => ⟨_, (1000000000000000000000000000000 : Int), v0, rfl, h⟩)) (fun x_base v_base H hp hm => ?_)
        exact hj (v_base) (x_base) _ (hp.less (pk (.head _) (pk (.tail _ (.tail _ (.head _))) (pk (.tail _ (.tail _ (.tail _ (.head _)))) pk0)))) hm
      · refine s_next ?_
        exact hj (v_base) (x_base) _ (hp.less (pk (.head _) (pk (.tail _ (.head _)) (pk (.tail _ (.tail _ (.head _))) pk0)))) hm
    · refine s_seq ?_
      refine s_setL (ε := (Unit)) (fun g_ => ([] : (List (Int × Int)))) (fun p_found => [some (.ref p_st), some v_most, some v_kind, some v_base, some (.ref p_found), none, none, none, none, none, none, none, none]) (fun _ => rfl) hp hx hm EA.nil (fun _ => rfl) (fun _ => by simp) (fun x_found p_found H hp hm => ?_)
      refine s_seq ?_
      refine s_if hp hx hm (ET.test (EV.eqSP (EV.var rfl (.tail _ (.tail _ (.head _)))) EV.int)) (fun H hp hm => ?_) (fun H hp hm => ?_)
      · refine s_seq ?_
        refine s_set (fun v_step => [some (.ref p_st), some v_most, some v_kind, some v_base, some (.ref p_found), some v_step, none, none, none, none, none, none, none]) (fun _ => rfl) hp hx hm (EV.addI EV.int (EV.callWP rfl (EA.consP EV.int EA.nil) (hcW1 fun v0 H Q h => ⟨_, (4 : Int), v0, rfl, h⟩))) (fun x_step v_step H hp hm => ?_)
        refine s_seq ?_
        refine s_set (fun v_wide => [some (.ref p_st), some v_most, some v_kind, some v_base, some (.ref p_found), some v_step, some v_wide, none, none, none, none, none, none]) (fun _ => rfl) hp hx hm (EV.callWP rfl (EA.consP (EV.addIP (EV.var rfl (.head _)) EV.int) EA.nil) (hcW1 fun v0 H Q h => ⟨_, (x_step + (1 : Int)), v0, rfl, h⟩)) (fun x_wide v_wide H hp hm => ?_)
        refine s_seq ?_
        refine s_set (fun v_many => [some (.ref p_st), some v_most, some v_kind, some v_base, some (.ref p_found), some v_step, some v_wide, some v_many, none, none, none, none, none]) (fun _ => rfl) hp hx hm (EV.callW (γ := (Int × Unit)) (f := fun g_ => m_law_draw g_.1) rfl (EA.cons (EV.addI (EV.mulIP EV.int (EV.var rfl (.tail _ (.tail _ (.tail _ (.head _)))))) EV.int) EA.nil) (fun g_ => hcW1 fun v0 H Q h => ⟨_, g_.1, v0, rfl, h⟩)) (fun x_many v_many H hp hm => ?_)
        refine s_seq ?_
        refine s_set (fun v_turn => [some (.ref p_st), some v_most, some v_kind, some v_base, some (.ref p_found), some v_step, some v_wide, some v_many, some v_turn, none, none, none, none]) (fun _ => rfl) hp hx hm (EV.addI EV.int (EV.callWP rfl (EA.consP EV.int EA.nil) (hcW1 fun v0 H Q h => ⟨_, (9 : Int), v0, rfl, h⟩))) (fun x_turn v_turn H hp hm => ?_)
        refine s_seq ?_
        refine s_forM (γ := ((List (Int × Int)))) (ι := (Addr × Option V × Option V)) hp hx hm (EI.range1P (EV.var rfl (.tail _ (.head _)))) (fun r c => [some (.ref p_st), some v_most, some v_kind, some v_base, some (.ref r.1), some v_step, some v_wide, some v_many, some v_turn, r.2.1, r.2.2, none, none]) (fun w14 r c => [w14, (v_step, enc x_step), (v_wide, enc x_wide), (v_many, enc x_many), (v_turn, enc x_turn)]) (fun r c => ([(r.1, enc c)] : List (Addr × Mi.D))) (fun w H hp => ⟨(p_found, none, none), rfl, hp.less (pk (.head _) (pk (.tail _ (.tail _ (.tail _ (.tail _ (.head _))))) (pk (.tail _ (.tail _ (.tail _ (.head _)))) (pk (.tail _ (.tail _ (.head _))) (pk (.tail _ (.head _)) pk0)))))⟩) (fun _ _ _ => .head _) (fun w14 r x_found v_k x_k rest H hp hm => ?_) (fun w r x_found H hp hm => ?_)
        · obtain ⟨p_found, o_k, o_start⟩ := r
          refine g_one' (fun v_k => [some (.ref p_st), some v_most, some v_kind, some v_base, some (.ref p_found), some v_step, some v_wide, some v_many, some v_turn, some v_k, o_start, none, none]) (fun _ => rfl) hp (fun hp => ?_)
          refine s_seq ?_
          refine s_set (fun v_start => [some (.ref p_st), some v_most, some v_kind, some v_base, some (.ref p_found), some v_step, some v_wide, some v_many, some v_turn, some v_k, some v_start, none, none]) (fun _ => rfl) hp hx hm (EV.mulI (EV.var rfl (.tail _ (.tail _ (.head _)))) (EV.modI (EV.intI (EV.mulIP (EV.var rfl (.head _)) (EV.var rfl (.tail _ (.tail _ (.tail _ (.tail _ (.tail _ (.head _))))))))) (EV.max2P EV.int (EV.var rfl (.tail _ (.tail _ (.tail _ (.tail _ (.head _))))))))) (fun x_start v_start H hp hm => ?_)
          refine s_append rfl (.head _) hp hx hm (EV.tupP (EA.consP (EV.var rfl (.head _)) (EA.consP (EV.addIP (EV.var rfl (.head _)) (EV.var rfl (.tail _ (.tail _ (.tail _ (.tail _ (.head _))))))) EA.nil)) rfl (Nat.le_of_ble_eq_true rfl)) (fun _ => .hd) (fun a_ H hp hm => ?_)
          generalize x_found ++ [a_] = x_found at hp hm
          exact ⟨(p_found, some v_k, some v_start), (x_found), rfl, (hp.less (pk (.tail _ (.tail _ (.head _))) (pk (.tail _ (.tail _ (.tail _ (.head _)))) (pk (.tail _ (.tail _ (.tail _ (.tail _ (.head _))))) (pk (.tail _ (.tail _ (.tail _ (.tail _ (.tail _ (.head _)))))) (pk (.tail _ (.tail _ (.tail _ (.tail _ (.tail _ (.tail _ (.head _))))))) pk0)))))), hm⟩
        · obtain ⟨p_found, o_k, o_start⟩ := r
          have hp := hp.freeze .hd
          refine s_ret1 hp hx hm (EV.var rfl (.head _)) (fun a v H hp hm => hQ a v H hp.fin hm)
      · refine s_next ?_
        refine s_seq ?_
        refine s_forM (γ := ((List (Int × Int)))) (ι := (Addr × Option V × Option V × Option V × Option V)) hp hx hm (EI.range1 (EV.callWP rfl (EA.consP (EV.addIP (EV.var rfl (.tail _ (.head _))) EV.int) EA.nil) (hcW1 fun v0 H Q h => ⟨_, (x_most + (1 : Int)), v0, rfl, h⟩))) (fun r c => [some (.ref p_st), some v_most, some v_kind, some v_base, some (.ref r.1), none, none, none, none, r.2.1, r.2.2.1, r.2.2.2.1, r.2.2.2.2]) (fun w21 r c => [w21, (v_kind, enc x_kind), (v_base, enc x_base)]) (fun r c => ([(r.1, enc c)] : List (Addr × Mi.D))) (fun w H hp => ⟨(p_found, none, none, none, none), rfl, hp.less (pk (.head _) (pk (.tail _ (.tail _ (.tail _ (.head _)))) (pk (.tail _ (.head _)) pk0)))⟩) (fun _ _ _ => .head _) (fun w21 r x_found v_k x_k rest H hp hm => ?_) (fun w r x_found H hp hm => ?_)
        · obtain ⟨p_found, o_k, o_start, o_length, o_near⟩ := r
          refine g_one' (fun v_k => [some (.ref p_st), some v_most, some v_kind, some v_base, some (.ref p_found), none, none, none, none, some v_k, o_start, o_length, o_near]) (fun _ => rfl) hp (fun hp => ?_)
          refine s_seq ?_
          refine s_set (fun v_start => [some (.ref p_st), some v_most, some v_kind, some v_base, some (.ref p_found), none, none, none, none, some v_k, some v_start, o_length, o_near]) (fun _ => rfl) hp hx hm (EV.addI (EV.var rfl (.tail _ (.tail _ (.tail _ (.head _))))) (EV.callWP rfl (EA.consP EV.int EA.nil) (hcW1 fun v0 H Q h => ⟨_, (41 : Int), v0, rfl, h⟩))) (fun x_start v_start H hp hm => ?_)
          refine s_seq ?_
          refine s_set (fun v_length => [some (.ref p_st), some v_most, some v_kind, some v_base, some (.ref p_found), none, none, none, none, some v_k, some v_start, some v_length, o_near]) (fun _ => rfl) hp hx hm (EV.callWP rfl (EA.consP EV.int EA.nil) (hcW1 fun v0 H Q h => ⟨_, (9 : Int), v0, rfl, h⟩)) (fun x_length v_length H hp hm => ?_)
          refine s_seq ?_
          refine s_set (fun v_near => [some (.ref p_st), some v_most, some v_kind, some v_base, some (.ref p_found), none, none, none, none, some v_k, some v_start, some v_length, some v_near]) (fun _ => rfl) hp hx hm (EV.callWP rfl (EA.consP EV.int EA.nil) (hcW1 fun v0 H Q h => ⟨_, (6 : Int), v0, rfl, h⟩)) (fun x_near v_near H hp hm => ?_)
          refine s_join (τ := Unit) (γ := (Int × Int)) (ι := (V × V)) hp hm (fun r c => [some (.ref p_st), some v_most, some v_kind, some v_base, some (.ref p_found), none, none, none, none, some v_k, some r.1, some r.2, some v_near]) (fun r c => [(r.1, enc c.1), (r.2, enc c.2), (v_kind, enc x_kind), (v_base, enc x_base), (v_k, enc x_k), (v_near, enc x_near), w21]) (fun r c => ([(p_found, enc x_found)] : List (Addr × Mi.D))) (fun nx_ hj hm => ?_) (fun r c H hp hm => ?_)
          · refine s_if hp hx hm (ET.test (EV.eqSP (EV.var rfl (.tail _ (.tail _ (.tail _ (.tail _ (.tail _ (.head _))))))) EV.int)) (fun H hp hm => ?_) (fun H hp hm => ?_)
            · refine s_seq ?_
              refine s_set (fun v_start => [some (.ref p_st), some v_most, some v_kind, some v_base, some (.ref p_found), none, none, none, none, some v_k, some v_start, some v_length, some v_near]) (fun _ => rfl) hp hx hm (EV.callWP rfl (EA.consP (EV.powC ⟨by decide, by decide, by decide⟩ (by decide)) EA.nil) (hcW1 fun v0 H Q h => ⟨_, (1000000000000 : Int), v0, rfl, h⟩)) (fun x_start v_start H hp hm => ?_)
              refine s_set (fun v_length => [some (.ref p_st), some v_most, some v_kind, some v_base, some (.ref p_found), none, none, none, none, some v_k, some v_start, some v_length, some v_near]) (fun _ => rfl) hp hx hm (EV.callWP rfl (EA.consP (EV.powC ⟨by decide, by decide, by decide⟩ (by decide)) EA.nil) (hcW1 fun v0 H Q h => ⟨_, (1000000000000 : Int), v0, rfl, h⟩)) (fun x_length v_length H hp hm => ?_)
              exact hj (v_start, v_length) (x_start, x_length) _ (hp.less (pk (.tail _ (.head _)) (pk (.head _) (pk (.tail _ (.tail _ (.tail _ (.tail _ (.tail _ (.tail _ (.tail _ (.head _)))))))) (pk (.tail _ (.tail _ (.tail _ (.tail _ (.tail _ (.tail _ (.tail _ (.tail _ (.head _))))))))) (pk (.tail _ (.tail _ (.tail _ (.tail _ (.tail _ (.head _)))))) (pk (.tail _ (.tail _ (.head _))) (pk (.tail _ (.tail _ (.tail _ (.tail _ (.tail _ (.tail _ (.head _))))))) pk0)))))))) hm
            · refine s_next ?_
              exact hj (v_start, v_length) (x_start, x_length) _ (hp.less (pk (.tail _ (.tail _ (.head _))) (pk (.tail _ (.head _)) (pk (.tail _ (.tail _ (.tail _ (.tail _ (.tail _ (.head _)))))) (pk (.tail _ (.tail _ (.tail _ (.tail _ (.tail _ (.tail _ (.head _))))))) (pk (.tail _ (.tail _ (.tail _ (.head _)))) (pk (.head _) (pk (.tail _ (.tail _ (.tail _ (.tail _ (.head _))))) pk0)))))))) hm
          · obtain ⟨v_start, v_length⟩ := r
            obtain ⟨x_start, x_length⟩ := c
            refine s_join (τ := Unit) (γ := (Int)) (ι := (V)) hp hm (fun r c => [some (.ref p_st), some v_most, some v_kind, some v_base, some (.ref p_found), none, none, none, none, some v_k, some r, some v_length, some v_near]) (fun r c => [(r, enc c), (v_kind, enc x_kind), (v_base, enc x_base), (v_k, enc x_k), (v_length, enc x_length), (v_near, enc x_near), w21]) (fun r c => ([(p_found, enc x_found)] : List (Addr × Mi.D))) (fun nx_ hj hm => ?_) (fun v_start x_start H hp hm => ?_)
            · refine s_if hp hx hm (ET.andP (ET.test (EV.gtIP (EV.var rfl (.tail _ (.tail _ (.tail _ (.tail _ (.head _)))))) EV.int)) (ET.test (EV.eqSP (EV.var rfl (.tail _ (.tail _ (.tail _ (.tail _ (.tail _ (.head _))))))) EV.int))) (fun H hp hm => ?_) (fun H hp hm => ?_)
              · refine s_set (fun v_start => [some (.ref p_st), some v_most, some v_kind, some v_base, some (.ref p_found), none, none, none, none, some v_k, some v_start, some v_length, some v_near]) (fun _ => rfl) hp hx hm (EV.scal fun G0 F0 => (EV.proj (EV.ixLP (EV.var rfl (.head _)) (EV.subIP (EV.var rfl (.tail _ (.tail _ (.tail _ (.tail _ (.tail _ (.head _))))))) EV.int)) (fun (a : (Int × Int)) => a.2) fun _ => ⟨_, .inl rfl, rfl⟩)) (fun x_start v_start H hp hm => ?_)
                exact hj (v_start) (x_start) _ (hp.less (pk (.head _) (pk (.tail _ (.tail _ (.tail _ (.head _)))) (pk (.tail _ (.tail _ (.tail _ (.tail _ (.head _))))) (pk (.tail _ (.tail _ (.tail _ (.tail _ (.tail _ (.head _)))))) (pk (.tail _ (.tail _ (.head _))) (pk (.tail _ (.tail _ (.tail _ (.tail _ (.tail _ (.tail _ (.head _))))))) (pk (.tail _ (.tail _ (.tail _ (.tail _ (.tail _ (.tail _ (.tail _ (.head _)))))))) pk0)))))))) hm
              · refine s_next ?_
                exact hj (v_start) (x_start) _ (hp.less (pk (.head _) (pk (.tail _ (.tail _ (.head _))) (pk (.tail _ (.tail _ (.tail _ (.head _)))) (pk (.tail _ (.tail _ (.tail _ (.tail _ (.head _))))) (pk (.tail _ (.head _)) (pk (.tail _ (.tail _ (.tail _ (.tail _ (.tail _ (.head _)))))) (pk (.tail _ (.tail _ (.tail _ (.tail _ (.tail _ (.tail _ (.head _))))))) pk0)))))))) hm
            · refine s_join (τ := Unit) (γ := (Int)) (ι := (V)) hp hm (fun r c => [some (.ref p_st), some v_most, some v_kind, some v_base, some (.ref p_found), none, none, none, none, some v_k, some r, some v_length, some v_near]) (fun r c => [(r, enc c), (v_kind, enc x_kind), (v_base, enc x_base), (v_length, enc x_length), w21]) (fun r c => ([(p_found, enc x_found)] : List (Addr × Mi.D))) (fun nx_ hj hm => ?_) (fun v_start x_start H hp hm => ?_)
              · refine s_if hp hx hm (ET.scal fun G0 F0 => (ET.and (ET.test (EV.gtIP (EV.var rfl (.tail _ (.tail _ (.tail _ (.tail _ (.head _)))))) EV.int)) (ET.and (ET.test (EV.eqSP (EV.var rfl (.tail _ (.tail _ (.tail _ (.tail _ (.tail _ (.tail _ (.head _)))))))) EV.int)) (ET.test (EV.geI (EV.proj (EV.ixLP (EV.var rfl (.head _)) (EV.subIP (EV.var rfl (.tail _ (.tail _ (.tail _ (.tail _ (.head _)))))) EV.int)) (fun (a : (Int × Int)) => a.1) fun _ => ⟨_, .inl rfl, rfl⟩) (EV.var rfl (.tail _ (.tail _ (.tail _ (.tail _ (.tail _ (.head _)))))))))))) (fun H hp hm => ?_) (fun H hp hm => ?_)
                · refine s_set (fun v_start => [some (.ref p_st), some v_most, some v_kind, some v_base, some (.ref p_found), none, none, none, none, some v_k, some v_start, some v_length, some v_near]) (fun _ => rfl) hp hx hm (EV.scal fun G0 F0 => (EV.subI (EV.proj (EV.ixLP (EV.var rfl (.head _)) (EV.subIP (EV.var rfl (.tail _ (.tail _ (.tail _ (.tail _ (.head _)))))) EV.int)) (fun (a : (Int × Int)) => a.1) fun _ => ⟨_, .inl rfl, rfl⟩) (EV.var rfl (.tail _ (.tail _ (.tail _ (.tail _ (.tail _ (.head _))))))))) (fun x_start v_start H hp hm => ?_)
                  exact hj (v_start) (x_start) _ (hp.less (pk (.head _) (pk (.tail _ (.tail _ (.head _))) (pk (.tail _ (.tail _ (.tail _ (.head _)))) (pk (.tail _ (.tail _ (.tail _ (.tail _ (.tail _ (.head _)))))) (pk (.tail _ (.tail _ (.tail _ (.tail _ (.tail _ (.tail _ (.tail _ (.head _)))))))) pk0)))))) hm
                · refine s_next ?_
                  exact hj (v_start) (x_start) _ (hp.less (pk (.head _) (pk (.tail _ (.head _)) (pk (.tail _ (.tail _ (.head _))) (pk (.tail _ (.tail _ (.tail _ (.tail _ (.head _))))) (pk (.tail _ (.tail _ (.tail _ (.tail _ (.tail _ (.tail _ (.head _))))))) pk0)))))) hm
              · refine s_append rfl (.head _) hp hx hm (EV.tupP (EA.consP (EV.var rfl (.head _)) (EA.consP (EV.addIP (EV.var rfl (.head _)) (EV.var rfl (.tail _ (.tail _ (.tail _ (.head _)))))) EA.nil)) rfl (Nat.le_of_ble_eq_true rfl)) (fun _ => .hd) (fun a_ H hp hm => ?_)
                generalize x_found ++ [a_] = x_found at hp hm
                exact ⟨(p_found, some v_k, some v_start, some v_length, some v_near), (x_found), rfl, (hp.less (pk (.tail _ (.tail _ (.tail _ (.tail _ (.head _))))) (pk (.tail _ (.head _)) (pk (.tail _ (.tail _ (.head _))) pk0)))), hm⟩
        · obtain ⟨p_found, o_k, o_start, o_length, o_near⟩ := r
          have hp := hp.freeze .hd
          refine s_ret1 hp hx hm (EV.var rfl (.head _)) (fun a v H hp hm => hQ a v H hp.fin hm)
noncomputable def m_law_has (x_pairs : (List (Int × Int))) (x_place : Int) : M Bool := mb (mr x_pairs) fun xs_ => mb (forR (ρ := Bool) xs_ () (fun x_pair c_ => (mite (mr (decide (x_pair.1 ≤ x_place) && decide (x_place < x_pair.2))) (mb (mr true) fun a => mr (Stp.ret a)) (mr (Stp.next ()))))) fun o_ => match o_ with | .inl c_ => ((mr false)) | .inr r_ => mr r_
def sp_law_has (K : PySem.W.Frag) (C : CT) : Sp := fun vs H Q E => ∃ (x_pairs : (List (Int × Int))) (x_place : Int) (v_pairs v_place : V), vs = [v_pairs, v_place] ∧ CallN K C R0 [(v_pairs, enc x_pairs), (v_place, enc x_place)] (m_law_has x_pairs x_place) H Q
theorem ok_law_has (T : Txt P w K mg)  : FnOk P w K mg base CX0 (1) T.a_law_has T.d_law_has ["pairs", "place"] (sp_law_has K (ct T)) := by
  refine T.F_law_has.ok sc_law_has (fun vs H Q E h => by obtain ⟨_, _, _, _, rfl, _⟩ := h; rfl) (fun cdv A outer s H vs Q E hr h => ?_)
  have hu := hu_of hr
  have hu64 := hr.units
  refine ⟨_, (pss_cons (ps_for PassesOwn.never rfl (pi_list (pv 0)) (pg_name (i := 2) sc_law_has.nd rfl (by first | exact Or.inl rfl | exact Or.inr rfl))
      (pss_one (ps_if (pt_chain op_le op_lt (pe_ix (ix_any hu) (pv 2) pe_int (fun _ _ => rfl)) (pv 1) (pe_ix (ix_any hu) (pv 2) pe_int (fun _ _ => rfl))) (pss_one (ps_ret pe_bl)) pss_nil)))
      (pss_one (ps_ret pe_bl))), ?_⟩
  obtain ⟨x_pairs, x_place, v_pairs, v_place, rfl, G0, F0, post, px, hp, hm, hQ⟩ := h
  have hx := hx0 (K := K) (C := ct T) (R := R0) (G0 := G0) (F0 := F0) (px := px)
  walk_at "start"
  unfold m_law_has at hm
  refine s_seq ?_
  refine s_for (γ := Unit) (ι := (Option V)) (ρ' := Bool) hp hx hm (EI.list (EV.var rfl (.head _))) (fun r c => [some v_pairs, some v_place, r]) (fun w3 r c => [w3, (v_place, enc x_place)]) (fun r c => ([] : List (Addr × Mi.D))) (fun w H hp => ⟨(none), rfl, hp.less (pk (.head _) (pk (.tail _ (.tail _ (.head _))) pk0))⟩) (fun _ _ _ => .head _) (fun nx_ hbk_ w3 o_pair c v_pair x_pair rest H hp hm => ?_) (fun w o_pair c H hp hm => ?_)
  · refine g_one' (fun v_pair => [some v_pairs, some v_place, some v_pair]) (fun _ => rfl) hp (fun hp => ?_)
    refine s_if hp hx hm (ET.test (EV.chainP (g1 := fun i j => decide (i ≤ j)) (g2 := fun i j => decide (i < j)) (EV.projP (EV.var rfl (.head _)) ⟨_, .inl rfl, rfl⟩) (EV.var rfl (.tail _ (.tail _ (.head _)))) (EV.projP (EV.var rfl (.head _)) ⟨_, .inl rfl, rfl⟩))) (fun H hp hm => ?_) (fun H hp hm => ?_)
    · refine s_ret hp hx hm EV.bl (fun a v H hp hm => hQ a v H hp.fin hm)
    · refine s_next ?_
      exact ⟨(some v_pair), (), rfl, (hp.less (pk (.tail _ (.head _)) (pk (.tail _ (.tail _ (.head _))) pk0))), hm⟩
  · refine s_ret1 hp hx hm EV.bl (fun a v H hp hm => hQ a v H hp.fin hm)
noncomputable def m_law_exact (x_spans : (List (Int × Int))) (x_pairs : (List (Int × Int))) : M Bool := mb (mr ((0 : Int) - (1 : Int))) fun x_behind => mb (mr x_spans) fun xs_ => mb (forR (ρ := Bool) xs_ (x_behind) (fun x_span c_ => ((fun x_behind => mite (mor (mr (!(isD .tup (enc x_span)))) (mor (mb (mlenD (enc x_span : Mi.D)) fun a => mb (mr (2 : Int)) fun b => mr (!decide (a = b))) (mor (mb (m_law_whole (enc x_span.1 : Mi.D)) fun a => mr (!a)) (mb (m_law_whole (enc x_span.2 : Mi.D)) fun a => mr (!a))))) (mb (mr false) fun a => mr (Stp.ret a)) (mite (mor (mr (decide (x_span.1 ≤ x_behind))) (mor (mr (decide (x_span.2 ≤ x_span.1))) (mb (m_law_has x_pairs x_span.1) fun a => mr (!a)))) (mb (mr false) fun a => mr (Stp.ret a)) (mb (mr x_span.2) fun x_behind => mb (mr x_pairs) fun xs_ => mb (forR (ρ := Bool) xs_ () (fun x_pair c_ => (mite (mand (mr (decide (x_span.1 < x_pair.2) && decide (x_pair.2 < x_span.2))) (mb (m_law_has x_pairs x_pair.2) fun a => mr (!a))) (mb (mr false) fun a => mr (Stp.ret a)) (mr (Stp.next ()))))) fun o_ => match o_ with | .inl c_ => (mr (Stp.next (x_behind))) | .inr r_ => mr (Stp.ret r_)))) c_))) fun o_ => match o_ with | .inl c_ => ((fun x_behind => mb (mr x_pairs) fun xs_ => mb (forR (ρ := Bool) xs_ () (fun x_pair c_ => (mb (mr ((x_spans.filter fun x_span => ((decide (x_span.1 ≤ x_pair.1)) && (decide (x_pair.2 ≤ x_span.2)))).map fun x_span => x_span)) fun x_inside => mite (mr ((decide (x_pair.1 < x_pair.2)) && (!decide (((x_inside).length : Int) = (1 : Int))))) (mb (mr false) fun a => mr (Stp.ret a)) (mr (Stp.next ()))))) fun o_ => match o_ with | .inl c_ => ((mr true)) | .inr r_ => mr r_) c_) | .inr r_ => mr r_
def sp_law_exact (K : PySem.W.Frag) (C : CT) : Sp := fun vs H Q E => ∃ (x_spans : (List (Int × Int))) (x_pairs : (List (Int × Int))) (v_spans v_pairs : V), vs = [v_spans, v_pairs] ∧ CallN K C R0 [(v_spans, enc x_spans), (v_pairs, enc x_pairs)] (m_law_exact x_spans x_pairs) H Q
theorem ok_law_exact (T : Txt P w K mg)  : FnOk P w K mg base CX0 (2) T.a_law_exact T.d_law_exact ["spans", "pairs"] (sp_law_exact K (ct T)) := by
  refine T.F_law_exact.ok sc_law_exact (fun vs H Q E h => by obtain ⟨_, _, _, _, rfl, _⟩ := h; rfl) (fun cdv A outer s H vs Q E hr h => ?_)
  have hu := hu_of hr
  have hu64 := hr.units
  refine ⟨_, (pss_cons (ps_set (i := 2) sc_law_exact.nd rfl (by first | exact Or.inl rfl | exact Or.inr rfl) (pe_op op_sub pe_int pe_int))
      (pss_cons (ps_for PassesOwn.never rfl (pi_list (pv 0)) (pg_name (i := 3) sc_law_exact.nd rfl (by first | exact Or.inl rfl | exact Or.inr rfl))
      (pss_cons (ps_if (PW.pt (pw_or (pt_not (pt_val (pe_callB call_isi (by rfl) T.z_isinstance (by decide +kernel) (pa_cons (pv 3) (pa_cons (pe_bltn (v := .ty "tuple") (by rfl) T.z_tuple (by decide +kernel) rfl) pa_nil))))) (pw_or (pt_cmpR (op_neq hu64) (pe_callB call_lenA (by rfl) T.z_len (by decide +kernel) (pa_cons (pv 3) pa_nil)) pe_int (nomark _)) (pw_or (pt_not (pt_val (pe_call (ok_law_whole T) (hr.mono (by first | decide | omega)) (by rfl) T.m_law_whole T.F_law_whole.kp T.b_law_whole .nil pass0 (pa_cons (pe_ix (ix_any hu) (pv 3) pe_int (fun _ _ => rfl)) pa_nil)))) (pw_or1 (pt_not (pt_val (pe_call (ok_law_whole T) (hr.mono (by first | decide | omega)) (by rfl) T.m_law_whole T.F_law_whole.kp T.b_law_whole .nil pass0 (pa_cons (pe_ix (ix_any hu) (pv 3) pe_int (fun _ _ => rfl)) pa_nil))))))))) (pss_one (ps_ret pe_bl)) pss_nil)
      (pss_cons (ps_if (PW.pt (pw_or (pt_cmpR op_le (pe_ix (ix_any hu) (pv 3) pe_int (fun _ _ => rfl)) (pv 2) (nomark _)) (pw_or (pt_cmpR op_le (pe_ix (ix_any hu) (pv 3) pe_int (fun _ _ => rfl)) (pe_ix (ix_any hu) (pv 3) pe_int (fun _ _ => rfl)) (nomark _)) (pw_or1 (pt_not (pt_val (pe_call (ok_law_has T) (hr.mono (by first | decide | omega)) (by rfl) T.m_law_has T.F_law_has.kp T.b_law_has .nil pass0 (pa_cons (pv 1) (pa_cons (pe_ix (ix_any hu) (pv 3) pe_int (fun _ _ => rfl)) pa_nil))))))))) (pss_one (ps_ret pe_bl)) pss_nil)
      (pss_cons (ps_set (i := 2) sc_law_exact.nd rfl (by first | exact Or.inl rfl | exact Or.inr rfl) (pe_ix (ix_any hu) (pv 3) pe_int (fun _ _ => rfl)))
      (pss_one (ps_for PassesOwn.never rfl (pi_list (pv 1)) (pg_name (i := 4) sc_law_exact.nd rfl (by first | exact Or.inl rfl | exact Or.inr rfl))
      (pss_one (ps_if (PW.pt (pw_and (pt_chain op_lt op_lt (pe_ix (ix_any hu) (pv 3) pe_int (fun _ _ => rfl)) (pe_ix (ix_any hu) (pv 4) pe_int (fun _ _ => rfl)) (pe_ix (ix_any hu) (pv 3) pe_int (fun _ _ => rfl))) (pw_and1 (pt_not (pt_val (pe_call (ok_law_has T) (hr.mono (by first | decide | omega)) (by rfl) T.m_law_has T.F_law_has.kp T.b_law_has .nil pass0 (pa_cons (pv 1) (pa_cons (pe_ix (ix_any hu) (pv 4) pe_int (fun _ _ => rfl)) pa_nil)))))))) (pss_one (ps_ret pe_bl)) pss_nil))))))))
      (pss_cons (ps_for PassesOwn.never rfl (pi_list (pv 1)) (pg_name (i := 4) sc_law_exact.nd rfl (by first | exact Or.inl rfl | exact Or.inr rfl))
      (pss_cons (ps_setLc (i := 5) (own := [("span", 3)]) (g := gName 3)  (by rfl) sc_law_exact.nd rfl rfl (sw_true rfl rfl rfl (by decide +kernel)) (pi_list (pv 0)) (blkOk_by (own := [("span", 3)]) (N := ["spans", "pairs", "behind", "span", "pair", "inside"]) (sc := defScope s_law_exact) (by decide +kernel)) (fun _ _ _ _ _ => pg_name (i := 3) sc_law_exact.nd rfl (Or.inl rfl)) (fun _ _ _ _ _ => pts_one (PW.pt (pw_and (pt_cmpR op_le (pe_ix (ix_anyK (K := K) rfl hu) (pv 3) pe_int (fun _ _ => rfl)) (pe_ix (ix_anyK (K := K) rfl hu) (pv 4) pe_int (fun _ _ => rfl)) (nomark _)) (pw_and1 (pt_cmpR op_le (pe_ix (ix_anyK (K := K) rfl hu) (pv 4) pe_int (fun _ _ => rfl)) (pe_ix (ix_anyK (K := K) rfl hu) (pv 3) pe_int (fun _ _ => rfl)) (nomark _)))))) (fun _ _ _ _ _ => (pv 3)))
      (pss_one (ps_if (PW.pt (pw_and (pt_cmpR op_lt (pe_ix (ix_any hu) (pv 4) pe_int (fun _ _ => rfl)) (pe_ix (ix_any hu) (pv 4) pe_int (fun _ _ => rfl)) (nomark _)) (pw_and1 (pt_cmpR (op_neq hu64) (pe_callB call_lenA (by rfl) T.z_len (by decide +kernel) (pa_cons (pv 5) pa_nil)) pe_int (nomark _))))) (pss_one (ps_ret pe_bl)) pss_nil))))
      (pss_one (ps_ret pe_bl))))), ?_⟩
  obtain ⟨x_spans, x_pairs, v_spans, v_pairs, rfl, G0, F0, post, px, hp, hm, hQ⟩ := h
  have hx := hx0 (K := K) (C := ct T) (R := R0) (G0 := G0) (F0 := F0) (px := px)
  walk_at "start"
  unfold m_law_exact at hm
  refine s_seq ?_
  refine s_set (fun v_behind => [some v_spans, some v_pairs, some v_behind, none, none, none]) (fun _ => rfl) hp hx hm (EV.subIP EV.int EV.int) (fun x_behind v_behind H hp hm => ?_)
  refine s_seq ?_
  refine s_for (γ := (Int)) (ι := (V × Option V × Option V)) (ρ' := Bool) hp hx hm (EI.list (EV.var rfl (.tail _ (.head _)))) (fun r c => [some v_spans, some v_pairs, some r.1, r.2.1, r.2.2, none]) (fun w5 r c => [w5, (r.1, enc c), (v_spans, enc x_spans), (v_pairs, enc x_pairs)]) (fun r c => ([] : List (Addr × Mi.D))) (fun w H hp => ⟨(v_behind, none, none), rfl, hp.less (pk (.head _) (pk (.tail _ (.head _)) (pk (.tail _ (.tail _ (.head _))) (pk (.tail _ (.tail _ (.tail _ (.head _)))) pk0))))⟩) (fun _ _ _ => .head _) (fun nx_ hbk_ w5 r x_behind v_span x_span rest H hp hm => ?_) (fun w r x_behind H hp hm => ?_)
  · obtain ⟨v_behind, o_span, o_pair⟩ := r
    refine g_one' (fun v_span => [some v_spans, some v_pairs, some v_behind, some v_span, o_pair, none]) (fun _ => rfl) hp (fun hp => ?_)
    refine s_seq ?_
    refine s_if hp hx hm (ET.or (ET.notP (ET.test (EV.isiP .tup (EV.var rfl (.head _)) trivial))) (ET.or (ET.test (EV.neS (EV.lenDP (EV.toD (EV.var rfl (.head _)))) EV.int)) (ET.or (ET.not (ET.test (EV.callNP (EA.consP (EV.toD (EV.projP (EV.var rfl (.head _)) ⟨_, .inl rfl, rfl⟩)) EA.nil) (hcN1 fun v0 H Q h => ⟨(enc x_span.1 : Mi.D), v0, rfl, h⟩)))) (ET.not (ET.test (EV.callNP (EA.consP (EV.toD (EV.projP (EV.var rfl (.head _)) ⟨_, .inl rfl, rfl⟩)) EA.nil) (hcN1 fun v0 H Q h => ⟨(enc x_span.2 : Mi.D), v0, rfl, h⟩))))))) (fun H hp hm => ?_) (fun H hp hm => ?_)
    · refine s_ret hp hx hm EV.bl (fun a v H hp hm => hQ a v H hp.fin hm)
    · refine s_next ?_
      refine s_seq ?_
      refine s_if hp hx hm (ET.or (ET.test (EV.leIP (EV.projP (EV.var rfl (.head _)) ⟨_, .inl rfl, rfl⟩) (EV.var rfl (.tail _ (.tail _ (.head _)))))) (ET.or (ET.test (EV.leIP (EV.projP (EV.var rfl (.head _)) ⟨_, .inl rfl, rfl⟩) (EV.projP (EV.var rfl (.head _)) ⟨_, .inl rfl, rfl⟩))) (ET.not (ET.test (EV.callNP (EA.consP (EV.var rfl (.tail _ (.tail _ (.tail _ (.tail _ (.head _)))))) (EA.consP (EV.projP (EV.var rfl (.head _)) ⟨_, .inl rfl, rfl⟩) EA.nil)) (hcN2 fun v0 v1 H Q h => ⟨x_pairs, x_span.1, v0, v1, rfl, h⟩)))))) (fun H hp hm => ?_) (fun H hp hm => ?_)
      · refine s_ret hp hx hm EV.bl (fun a v H hp hm => hQ a v H hp.fin hm)
      · refine s_next ?_
        refine s_seq ?_
        refine s_set (fun v_behind => [some v_spans, some v_pairs, some v_behind, some v_span, o_pair, none]) (fun _ => rfl) hp hx hm (EV.projP (EV.var rfl (.head _)) ⟨_, .inl rfl, rfl⟩) (fun x_behind v_behind H hp hm => ?_)
        refine s_for (γ := Unit) (ι := (Option V)) (ρ' := Bool) hp hx hm (EI.list (EV.var rfl (.tail _ (.tail _ (.tail _ (.tail _ (.tail _ (.head _)))))))) (fun r c => [some v_spans, some v_pairs, some v_behind, some v_span, r, none]) (fun w9 r c => [w9, (v_spans, enc x_spans), (v_pairs, enc x_pairs), (v_behind, enc x_behind), (v_span, enc x_span), w5]) (fun r c => ([] : List (Addr × Mi.D))) (fun w H hp => ⟨(o_pair), rfl, hp.less (pk (.head _) (pk (.tail _ (.tail _ (.tail _ (.tail _ (.tail _ (.head _)))))) (pk (.tail _ (.tail _ (.tail _ (.tail _ (.tail _ (.tail _ (.head _))))))) (pk (.tail _ (.head _)) (pk (.tail _ (.tail _ (.head _))) (pk (.tail _ (.tail _ (.tail _ (.head _)))) pk0))))))⟩) (fun _ _ _ => .head _) (fun nx_ hbk_ w9 o_pair c v_pair x_pair rest H hp hm => ?_) (fun w o_pair c H hp hm => ?_)
        · refine g_one' (fun v_pair => [some v_spans, some v_pairs, some v_behind, some v_span, some v_pair, none]) (fun _ => rfl) hp (fun hp => ?_)
          refine s_if hp hx hm (ET.and (ET.test (EV.chainP (g1 := fun i j => decide (i < j)) (g2 := fun i j => decide (i < j)) (EV.projP (EV.var rfl (.tail _ (.tail _ (.tail _ (.tail _ (.tail _ (.head _))))))) ⟨_, .inl rfl, rfl⟩) (EV.projP (EV.var rfl (.head _)) ⟨_, .inl rfl, rfl⟩) (EV.projP (EV.var rfl (.tail _ (.tail _ (.tail _ (.tail _ (.tail _ (.head _))))))) ⟨_, .inl rfl, rfl⟩))) (ET.not (ET.test (EV.callNP (EA.consP (EV.var rfl (.tail _ (.tail _ (.tail _ (.head _))))) (EA.consP (EV.projP (EV.var rfl (.head _)) ⟨_, .inl rfl, rfl⟩) EA.nil)) (hcN2 fun v0 v1 H Q h => ⟨x_pairs, x_pair.2, v0, v1, rfl, h⟩))))) (fun H hp hm => ?_) (fun H hp hm => ?_)
          · refine s_ret hp hx hm EV.bl (fun a v H hp hm => hQ a v H hp.fin hm)
          · refine s_next ?_
            exact ⟨(some v_pair), (), rfl, (hp.less (pk (.tail _ (.head _)) (pk (.tail _ (.tail _ (.head _))) (pk (.tail _ (.tail _ (.tail _ (.head _)))) (pk (.tail _ (.tail _ (.tail _ (.tail _ (.head _))))) (pk (.tail _ (.tail _ (.tail _ (.tail _ (.tail _ (.head _)))))) (pk (.tail _ (.tail _ (.tail _ (.tail _ (.tail _ (.tail _ (.head _))))))) pk0))))))), hm⟩
        · exact ⟨(v_behind, some v_span, o_pair), (x_behind), rfl, (hp.less (pk (.tail _ (.tail _ (.tail _ (.tail _ (.tail _ (.head _)))))) (pk (.tail _ (.tail _ (.tail _ (.head _)))) (pk (.tail _ (.head _)) (pk (.tail _ (.tail _ (.head _))) pk0))))), hm⟩
  · obtain ⟨v_behind, o_span, o_pair⟩ := r
    refine s_seq ?_
    refine s_for (γ := Unit) (ι := (Option V × Option V × Option V)) (ρ' := Bool) hp hx hm (EI.list (EV.var rfl (.tail _ (.tail _ (.tail _ (.head _)))))) (fun r c => [some v_spans, some v_pairs, some v_behind, r.1, r.2.1, r.2.2]) (fun w14 r c => [w14, (v_spans, enc x_spans)]) (fun r c => ([] : List (Addr × Mi.D))) (fun w H hp => ⟨(o_span, o_pair, none), rfl, hp.less (pk (.head _) (pk (.tail _ (.tail _ (.tail _ (.head _)))) pk0))⟩) (fun _ _ _ => .head _) (fun nx_ hbk_ w14 r c v_pair x_pair rest H hp hm => ?_) (fun w r c H hp hm => ?_)
    · obtain ⟨o_span, o_pair, o_inside⟩ := r
      refine g_one' (fun v_pair => [some v_spans, some v_pairs, some v_behind, o_span, some v_pair, o_inside]) (fun _ => rfl) hp (fun hp => ?_)
      refine s_seq ?_
      refine s_set (fun v_inside => [some v_spans, some v_pairs, some v_behind, o_span, some v_pair, some v_inside]) (fun _ => rfl) hp hx hm (EV.lc1P (EI.list (EV.var rfl (.tail _ (.tail _ (.head _))))) (fun _ => rfl) (fun x_span v_span q_ => (ET.andP (ET.test (EV.leIP (EV.projP (EV.var rfl (.head _)) ⟨_, .inl rfl, rfl⟩) (EV.projP (EV.var rfl (.tail _ (.head _))) ⟨_, .inl rfl, rfl⟩))) (ET.test (EV.leIP (EV.projP (EV.var rfl (.tail _ (.head _))) ⟨_, .inl rfl, rfl⟩) (EV.projP (EV.var rfl (.head _)) ⟨_, .inl rfl, rfl⟩))))) (fun x_span v_span q_ => (EV.var rfl (.head _)))) (fun x_inside v_inside H hp hm => ?_)
      refine s_if hp hx hm (ET.andP (ET.test (EV.ltIP (EV.projP (EV.var rfl (.tail _ (.head _))) ⟨_, .inl rfl, rfl⟩) (EV.projP (EV.var rfl (.tail _ (.head _))) ⟨_, .inl rfl, rfl⟩))) (ET.test (EV.neSP (EV.lenLP (EV.var rfl (.head _))) EV.int))) (fun H hp hm => ?_) (fun H hp hm => ?_)
      · refine s_ret hp hx hm EV.bl (fun a v H hp hm => hQ a v H hp.fin hm)
      · refine s_next ?_
        exact ⟨(o_span, some v_pair, some v_inside), (), rfl, (hp.less (pk (.tail _ (.tail _ (.head _))) (pk (.tail _ (.tail _ (.tail _ (.head _)))) pk0))), hm⟩
    · obtain ⟨o_span, o_pair, o_inside⟩ := r
      refine s_ret1 hp hx hm EV.bl (fun a v H hp hm => hQ a v H hp.fin hm)
noncomputable def m_law_spans (x_points : (List Int)) (x_flags : (List Bool)) : M (List (Int × Int)) := mb (mb (mr ()) fun g_ => mr ([] : (List (Int × Int)))) fun x_found => mb (mr ((0 : Int) - (1 : Int))) fun x_start => mb (mrange 0 ((x_flags).length : Int)) fun xs_ => mb (forM xs_ (x_found, x_start) (fun x_k c_ => (match c_ with | (x_found, x_start) => mb (mite (mand (mix x_flags x_k) (mr (decide (x_start < (0 : Int))))) (mb (mix x_points x_k) fun x_start => mr (x_start)) (mr (x_start)) : M (Int)) fun c_ => ((fun x_start => mite (mand (mb (mix x_flags x_k) fun a => mr (!a)) (mr (decide ((0 : Int) ≤ x_start)))) (mb (mb (mb (mr x_start) fun a => mb (mb (mix x_points x_k) fun a => mb (mr ()) fun g => mr (a, g)) fun g => mr (a, g)) fun g_ => mr (g_.1, g_.2.1)) fun a_ => mb (mpush x_found a_) fun x_found => mb (mr ((0 : Int) - (1 : Int))) fun x_start => mr (x_found, x_start)) (mr (x_found, x_start))) c_)))) fun c_ => (match c_ with | (x_found, x_start) => mb (mite (mr (decide ((0 : Int) ≤ x_start))) (mb (mb (mb (mr x_start) fun a => mb (mb (mix x_points ((x_flags).length : Int)) fun a => mb (mr ()) fun g => mr (a, g)) fun g => mr (a, g)) fun g_ => mr (g_.1, g_.2.1)) fun a_ => mb (mpush x_found a_) fun x_found => mr (x_found)) (mr (x_found)) : M ((List (Int × Int)))) fun c_ => ((fun x_found => (mr x_found)) c_))
def sp_law_spans (K : PySem.W.Frag) (C : CT) : Sp := fun vs H Q E => ∃ (x_points : (List Int)) (x_flags : (List Bool)) (v_points v_flags : V), vs = [v_points, v_flags] ∧ CallN K C R0 [(v_points, enc x_points), (v_flags, enc x_flags)] (m_law_spans x_points x_flags) H Q
theorem ok_law_spans (T : Txt P w K mg)  : FnOk P w K mg base CX0 (1) T.a_law_spans T.d_law_spans ["points", "flags"] (sp_law_spans K (ct T)) := by
  refine T.F_law_spans.ok sc_law_spans (fun vs H Q E h => by obtain ⟨_, _, _, _, rfl, _⟩ := h; rfl) (fun cdv A outer s H vs Q E hr h => ?_)
  have hu := hu_of hr
  have hu64 := hr.units
  refine ⟨_, (pss_cons (ps_set (i := 2) sc_law_spans.nd rfl (by first | exact Or.inl rfl | exact Or.inr rfl) (pe_lst pa_nil))
      (pss_cons (ps_set (i := 3) sc_law_spans.nd rfl (by first | exact Or.inl rfl | exact Or.inr rfl) (pe_op op_sub pe_int pe_int))
      (pss_cons (ps_for PassesOwn.never rfl (pi_range1 (by rfl) T.z_range (pa_cons (pe_callB call_lenA (by rfl) T.z_len (by decide +kernel) (pa_cons (pv 1) pa_nil)) pa_nil)) (pg_name (i := 4) sc_law_spans.nd rfl (by first | exact Or.inl rfl | exact Or.inr rfl))
      (pss_cons (ps_if (PW.pt (pw_and (pt_tru (pe_ix (ix_any hu) (pv 1) (pv 4) (fun _ _ => rfl)) (by intro _; rfl)) (pw_and1 (pt_cmpR op_lt (pv 3) pe_int (nomark _))))) (pss_one (ps_set (i := 3) sc_law_spans.nd rfl (by first | exact Or.inl rfl | exact Or.inr rfl) (pe_ix (ix_any hu) (pv 0) (pv 4) (fun _ _ => rfl)))) pss_nil)
      (pss_one (ps_if (PW.pt (pw_and (pt_not (pt_tru (pe_ix (ix_any hu) (pv 1) (pv 4) (fun _ _ => rfl)) (by intro _; rfl))) (pw_and1 (pt_cmpR op_ge (pv 3) pe_int (nomark _))))) (pss_cons (ps_expr (pe_bm PySem.F.plainAttrs_list PySem.F.slot_list_append PySem.F.type_list_append mt_append (pv 2) (pa_cons (pe_tup (pa_cons (pv 3) (pa_cons (pe_ix (ix_any hu) (pv 0) (pv 4) (fun _ _ => rfl)) pa_nil))) pa_nil)))
      (pss_one (ps_set (i := 3) sc_law_spans.nd rfl (by first | exact Or.inl rfl | exact Or.inr rfl) (pe_op op_sub pe_int pe_int)))) pss_nil))))
      (pss_cons (ps_if (pt_cmpR op_ge (pv 3) pe_int (nomark _)) (pss_one (ps_expr (pe_bm PySem.F.plainAttrs_list PySem.F.slot_list_append PySem.F.type_list_append mt_append (pv 2) (pa_cons (pe_tup (pa_cons (pv 3) (pa_cons (pe_ix (ix_any hu) (pv 0) (pe_callB call_lenA (by rfl) T.z_len (by decide +kernel) (pa_cons (pv 1) pa_nil)) (fun _ _ => rfl)) pa_nil))) pa_nil)))) pss_nil)
      (pss_one (ps_ret (pv 2))))))), ?_⟩
  obtain ⟨x_points, x_flags, v_points, v_flags, rfl, G0, F0, post, px, hp, hm, hQ⟩ := h
  have hx := hx0 (K := K) (C := ct T) (R := R0) (G0 := G0) (F0 := F0) (px := px)
  walk_at "start"
  unfold m_law_spans at hm
  refine s_seq ?_
  refine s_setL (ε := (Unit)) (fun g_ => ([] : (List (Int × Int)))) (fun p_found => [some v_points, some v_flags, some (.ref p_found), none, none]) (fun _ => rfl) hp hx hm EA.nil (fun _ => rfl) (fun _ => by simp) (fun x_found p_found H hp hm => ?_)
  refine s_seq ?_
  refine s_set (fun v_start => [some v_points, some v_flags, some (.ref p_found), some v_start, none]) (fun _ => rfl) hp hx hm (EV.subIP EV.int EV.int) (fun x_start v_start H hp hm => ?_)
  refine s_seq ?_
  refine s_forM (γ := ((List (Int × Int)) × Int)) (ι := (Addr × V × Option V)) hp hx hm (EI.range1P (EV.lenLP (EV.var rfl (.tail _ (.tail _ (.head _)))))) (fun r c => [some v_points, some v_flags, some (.ref r.1), some r.2.1, r.2.2]) (fun w7 r c => [w7, (r.2.1, enc c.2), (v_points, enc x_points), (v_flags, enc x_flags)]) (fun r c => ([(r.1, enc c.1)] : List (Addr × Mi.D))) (fun w H hp => ⟨(p_found, v_start, none), rfl, hp.less (pk (.head _) (pk (.tail _ (.head _)) (pk (.tail _ (.tail _ (.head _))) (pk (.tail _ (.tail _ (.tail _ (.head _)))) pk0))))⟩) (fun _ _ _ => .head _) (fun w7 r c v_k x_k rest H hp hm => ?_) (fun w r c H hp hm => ?_)
  · obtain ⟨p_found, v_start, o_k⟩ := r
    obtain ⟨x_found, x_start⟩ := c
    refine g_one' (fun v_k => [some v_points, some v_flags, some (.ref p_found), some v_start, some v_k]) (fun _ => rfl) hp (fun hp => ?_)
    refine s_join (τ := Unit) (γ := (Int)) (ι := (V)) hp hm (fun r c => [some v_points, some v_flags, some (.ref p_found), some r, some v_k]) (fun r c => [(r, enc c), (v_points, enc x_points), (v_flags, enc x_flags), (v_k, enc x_k), w7]) (fun r c => ([(p_found, enc x_found)] : List (Addr × Mi.D))) (fun nx_ hj hm => ?_) (fun v_start x_start H hp hm => ?_)
    · refine s_if hp hx hm (ET.and (ET.tru (EV.ixLP (EV.var rfl (.tail _ (.tail _ (.tail _ (.tail _ (.head _)))))) (EV.var rfl (.head _)))) (ET.test (EV.ltIP (EV.var rfl (.tail _ (.tail _ (.head _)))) EV.int))) (fun H hp hm => ?_) (fun H hp hm => ?_)
      · refine s_set (fun v_start => [some v_points, some v_flags, some (.ref p_found), some v_start, some v_k]) (fun _ => rfl) hp hx hm (EV.ixLP (EV.var rfl (.tail _ (.tail _ (.tail _ (.head _))))) (EV.var rfl (.head _))) (fun x_start v_start H hp hm => ?_)
        exact hj (v_start) (x_start) _ (hp.less (pk (.head _) (pk (.tail _ (.tail _ (.tail _ (.tail _ (.head _))))) (pk (.tail _ (.tail _ (.tail _ (.tail _ (.tail _ (.head _)))))) (pk (.tail _ (.head _)) (pk (.tail _ (.tail _ (.head _))) pk0)))))) hm
      · refine s_next ?_
        exact hj (v_start) (x_start) _ (hp.less (pk (.tail _ (.tail _ (.head _))) (pk (.tail _ (.tail _ (.tail _ (.head _)))) (pk (.tail _ (.tail _ (.tail _ (.tail _ (.head _))))) (pk (.head _) (pk (.tail _ (.head _)) pk0)))))) hm
    · refine s_if hp hx hm (ET.and (ET.not (ET.tru (EV.ixLP (EV.var rfl (.tail _ (.tail _ (.head _)))) (EV.var rfl (.tail _ (.tail _ (.tail _ (.head _)))))))) (ET.test (EV.geIP (EV.var rfl (.head _)) EV.int))) (fun H hp hm => ?_) (fun H hp hm => ?_)
      · refine s_seq ?_
        refine s_append rfl (.head _) hp hx hm (EV.tup (γ := (Int × Int × Unit)) (EA.cons (EV.var rfl (.head _)) (EA.cons (EV.ixLP (EV.var rfl (.tail _ (.head _))) (EV.var rfl (.tail _ (.tail _ (.tail _ (.head _)))))) EA.nil)) (f := fun g_ => (g_.1, g_.2.1)) (fun _ => rfl) (fun _ => by simp)) (fun _ => .hd) (fun a_ H hp hm => ?_)
        generalize x_found ++ [a_] = x_found at hp hm
        refine s_set (fun v_start => [some v_points, some v_flags, some (.ref p_found), some v_start, some v_k]) (fun _ => rfl) hp hx hm (EV.subIP EV.int EV.int) (fun x_start v_start H hp hm => ?_)
        exact ⟨(p_found, v_start, some v_k), (x_found, x_start), rfl, (hp.less (pk (.tail _ (.tail _ (.tail _ (.tail _ (.tail _ (.head _)))))) (pk (.head _) (pk (.tail _ (.tail _ (.head _))) (pk (.tail _ (.tail _ (.tail _ (.head _)))) pk0))))), hm⟩
      · refine s_next ?_
        exact ⟨(p_found, v_start, some v_k), (x_found, x_start), rfl, (hp.less (pk (.tail _ (.tail _ (.tail _ (.tail _ (.head _))))) (pk (.head _) (pk (.tail _ (.head _)) (pk (.tail _ (.tail _ (.head _))) pk0))))), hm⟩
  · obtain ⟨p_found, v_start, o_k⟩ := r
    obtain ⟨x_found, x_start⟩ := c
    refine s_join (τ := Unit) (γ := ((List (Int × Int)))) (ι := (Addr)) hp hm (fun r c => [some v_points, some v_flags, some (.ref r), some v_start, o_k]) (fun r c => []) (fun r c => ([(r, enc c)] : List (Addr × Mi.D))) (fun nx_ hj hm => ?_) (fun p_found x_found H hp hm => ?_)
    · refine s_if hp hx hm (ET.test (EV.geIP (EV.var rfl (.tail _ (.head _))) EV.int)) (fun H hp hm => ?_) (fun H hp hm => ?_)
      · refine s_append rfl (.head _) hp hx hm (EV.tup (γ := (Int × Int × Unit)) (EA.cons (EV.var rfl (.tail _ (.head _))) (EA.cons (EV.ixLP (EV.var rfl (.tail _ (.tail _ (.head _)))) (EV.lenLP (EV.var rfl (.tail _ (.tail _ (.tail _ (.head _))))))) EA.nil)) (f := fun g_ => (g_.1, g_.2.1)) (fun _ => rfl) (fun _ => by simp)) (fun _ => .hd) (fun a_ H hp hm => ?_)
        generalize x_found ++ [a_] = x_found at hp hm
        exact hj (p_found) (x_found) _ (hp.less pk0) hm
      · refine s_next ?_
        exact hj (p_found) (x_found) _ (hp.less pk0) hm
    · have hp := hp.freeze .hd
      refine s_ret1 hp hx hm (EV.var rfl (.head _)) (fun a v H hp hm => hQ a v H hp.fin hm)
noncomputable def m_law_touched (x_pairs : (List (Int × Int))) (x_size : Int) : M (List (Int × Int)) := (mb (mr x_pairs) (compM (fun x_pair => (mr (decide (x_pair.1 < x_pair.2)))) (fun x_pair => (mb (mb (mdivI x_pair.1 x_size) fun a => mb (mb (mb (mdivI (x_pair.2 - (1 : Int)) x_size) fun a => mb (mr (1 : Int)) fun b => mr (a + b)) fun a => mb (mr ()) fun g => mr (a, g)) fun g => mr (a, g)) fun g_ => mr (g_.1, g_.2.1)))))
def sp_law_touched (K : PySem.W.Frag) (C : CT) : Sp := fun vs H Q E => ∃ (x_pairs : (List (Int × Int))) (x_size : Int) (v_pairs v_size : V), vs = [v_pairs, v_size] ∧ CallN K C R0 [(v_pairs, enc x_pairs), (v_size, enc x_size)] (m_law_touched x_pairs x_size) H Q
theorem ok_law_touched (T : Txt P w K mg)  : FnOk P w K mg base CX0 (1) T.a_law_touched T.d_law_touched ["pairs", "size"] (sp_law_touched K (ct T)) := by
  refine T.F_law_touched.ok sc_law_touched (fun vs H Q E h => by obtain ⟨_, _, _, _, rfl, _⟩ := h; rfl) (fun cdv A outer s H vs Q E hr h => ?_)
  have hu := hu_of hr
  have hu64 := hr.units
  refine ⟨_, (pss_one (ps_ret (pe_lc (own := [("pair", 2)]) (g := gName 2)  (by rfl) sc_law_touched.nd (pi_list (pv 0)) (blkOk_by (own := [("pair", 2)]) (N := ["pairs", "size", "pair"]) (sc := defScope s_law_touched) (by decide +kernel)) (fun _ _ _ _ _ => pg_name (i := 2) sc_law_touched.nd rfl (Or.inl rfl)) (fun _ _ _ _ _ => pts_one (pt_cmpR op_lt (pe_ix (ix_anyK (K := K) rfl hu) (pv 2) pe_int (fun _ _ => rfl)) (pe_ix (ix_anyK (K := K) rfl hu) (pv 2) pe_int (fun _ _ => rfl)) (nomark _))) (fun _ _ _ _ _ => (pe_tup (pa_cons (pe_op op_fdivW (pe_ix (ix_anyK (K := K) rfl hu) (pv 2) pe_int (fun _ _ => rfl)) (pv 1)) (pa_cons (pe_op op_plus (pe_op op_fdivW (pe_op op_sub (pe_ix (ix_anyK (K := K) rfl hu) (pv 2) pe_int (fun _ _ => rfl)) pe_int) (pv 1)) pe_int) pa_nil))))))), ?_⟩
  obtain ⟨x_pairs, x_size, v_pairs, v_size, rfl, G0, F0, post, px, hp, hm, hQ⟩ := h
  have hx := hx0 (K := K) (C := ct T) (R := R0) (G0 := G0) (F0 := F0) (px := px)
  walk_at "start"
  unfold m_law_touched at hm
  refine s_ret1 hp hx hm (EV.lc1 (EI.list (EV.var rfl (.head _))) (fun _ => rfl) (fun x_pair v_pair q_ => (ET.test (EV.ltIP (EV.projP (EV.var rfl (.head _)) ⟨_, .inl rfl, rfl⟩) (EV.projP (EV.var rfl (.head _)) ⟨_, .inl rfl, rfl⟩)))) (fun x_pair v_pair q_ => (EV.tup (γ := (Int × Int × Unit)) (EA.cons (EV.divIP (EV.projP (EV.var rfl (.head _)) ⟨_, .inl rfl, rfl⟩) (EV.var rfl (.tail _ (.tail _ (.head _))))) (EA.cons (EV.addI (EV.divIP (EV.subIP (EV.projP (EV.var rfl (.head _)) ⟨_, .inl rfl, rfl⟩) EV.int) (EV.var rfl (.tail _ (.tail _ (.head _))))) EV.int) EA.nil)) (f := fun g_ => (g_.1, g_.2.1)) (fun _ => rfl) (fun _ => by simp)))) (fun a v H hp hm => hQ a v H hp.fin hm)
noncomputable def m_law_left_over (x_pairs : (List (Int × Int))) (x_size : Int) (x_number : Int) : M Bool := mb (mr x_pairs) fun xs_ => mb (forR (ρ := Bool) xs_ () (fun x_pair c_ => (mite (mb (mb (mr x_pair.1) fun a => mb (mmodI (x_number - x_pair.1) x_size) fun b => mr (a + b)) fun a => mb (mr x_pair.2) fun b => mr (decide (a < b))) (mb (mr true) fun a => mr (Stp.ret a)) (mr (Stp.next ()))))) fun o_ => match o_ with | .inl c_ => ((mr false)) | .inr r_ => mr r_
def sp_law_left_over (K : PySem.W.Frag) (C : CT) : Sp := fun vs H Q E => ∃ (x_pairs : (List (Int × Int))) (x_size : Int) (x_number : Int) (v_pairs v_size v_number : V), vs = [v_pairs, v_size, v_number] ∧ CallN K C R0 [(v_pairs, enc x_pairs), (v_size, enc x_size), (v_number, enc x_number)] (m_law_left_over x_pairs x_size x_number) H Q
theorem ok_law_left_over (T : Txt P w K mg)  : FnOk P w K mg base CX0 (1) T.a_law_left_over T.d_law_left_over ["pairs", "size", "number"] (sp_law_left_over K (ct T)) := by
  refine T.F_law_left_over.ok sc_law_left_over (fun vs H Q E h => by obtain ⟨_, _, _, _, _, _, rfl, _⟩ := h; rfl) (fun cdv A outer s H vs Q E hr h => ?_)
  have hu := hu_of hr
  have hu64 := hr.units
  refine ⟨_, (pss_cons (ps_for PassesOwn.never rfl (pi_list (pv 0)) (pg_name (i := 3) sc_law_left_over.nd rfl (by first | exact Or.inl rfl | exact Or.inr rfl))
      (pss_one (ps_if (pt_cmpR op_lt (pe_op op_plus (pe_ix (ix_any hu) (pv 3) pe_int (fun _ _ => rfl)) (pe_op op_mod (pe_callTy call_intA (by rfl) T.z_int (by decide +kernel) (pa_cons (pe_op op_sub (pv 2) (pe_ix (ix_any hu) (pv 3) pe_int (fun _ _ => rfl))) pa_nil)) (pv 1))) (pe_ix (ix_any hu) (pv 3) pe_int (fun _ _ => rfl)) (nomark _)) (pss_one (ps_ret pe_bl)) pss_nil)))
      (pss_one (ps_ret pe_bl))), ?_⟩
  obtain ⟨x_pairs, x_size, x_number, v_pairs, v_size, v_number, rfl, G0, F0, post, px, hp, hm, hQ⟩ := h
  have hx := hx0 (K := K) (C := ct T) (R := R0) (G0 := G0) (F0 := F0) (px := px)
  walk_at "start"
  unfold m_law_left_over at hm
  refine s_seq ?_
  refine s_for (γ := Unit) (ι := (Option V)) (ρ' := Bool) hp hx hm (EI.list (EV.var rfl (.head _))) (fun r c => [some v_pairs, some v_size, some v_number, r]) (fun w4 r c => [w4, (v_size, enc x_size), (v_number, enc x_number)]) (fun r c => ([] : List (Addr × Mi.D))) (fun w H hp => ⟨(none), rfl, hp.less (pk (.head _) (pk (.tail _ (.tail _ (.head _))) (pk (.tail _ (.tail _ (.tail _ (.head _)))) pk0)))⟩) (fun _ _ _ => .head _) (fun nx_ hbk_ w4 o_pair c v_pair x_pair rest H hp hm => ?_) (fun w o_pair c H hp hm => ?_)
  · refine g_one' (fun v_pair => [some v_pairs, some v_size, some v_number, some v_pair]) (fun _ => rfl) hp (fun hp => ?_)
    refine s_if hp hx hm (ET.test (EV.ltI (EV.addI (EV.projP (EV.var rfl (.head _)) ⟨_, .inl rfl, rfl⟩) (EV.modIP (EV.intIP (EV.subIP (EV.var rfl (.tail _ (.tail _ (.tail _ (.head _))))) (EV.projP (EV.var rfl (.head _)) ⟨_, .inl rfl, rfl⟩))) (EV.var rfl (.tail _ (.tail _ (.head _)))))) (EV.projP (EV.var rfl (.head _)) ⟨_, .inl rfl, rfl⟩))) (fun H hp hm => ?_) (fun H hp hm => ?_)
    · refine s_ret hp hx hm EV.bl (fun a v H hp hm => hQ a v H hp.fin hm)
    · refine s_next ?_
      exact ⟨(some v_pair), (), rfl, (hp.less (pk (.tail _ (.head _)) (pk (.tail _ (.tail _ (.head _))) (pk (.tail _ (.tail _ (.tail _ (.head _)))) pk0)))), hm⟩
  · refine s_ret1 hp hx hm EV.bl (fun a v H hp hm => hQ a v H hp.fin hm)
noncomputable def m_law_remainders (x_pairs : (List (Int × Int))) (x_size : Int) : M (List (Int × Int)) := mb (mb (mb (mr ([(0 : Int), x_size] : (List Int))) fun a => mb (mb (mr x_pairs) (compM (fun _ => mr true) (fun x_pair => (mmodI x_pair.1 x_size)))) fun b => maddL a b) fun a => mb (mb (mr x_pairs) (compM (fun _ => mr true) (fun x_pair => (mmodI x_pair.2 x_size)))) fun b => maddL a b) fun x_found => mb (msortI (x_found.map fun x_x => x_x)) fun x_points => (mb (mb (mr x_points) fun a => mb (mb (mb (mrange 0 (((x_points).length : Int) - (1 : Int))) (compM (fun _ => mr true) (fun x_k => (mb (mb (mr x_pairs) fun a => mb (mb (mr x_size) fun a => mb (mb (mix x_points x_k) fun a => mb (mr ()) fun g => mr (a, g)) fun g => mr (a, g)) fun g => mr (a, g)) fun g_ => (m_law_left_over g_.1 g_.2.1 g_.2.2.1))))) fun a => mb (mr ()) fun g => mr (a, g)) fun g => mr (a, g)) fun g_ => (m_law_spans g_.1 g_.2.1))
def sp_law_remainders (K : PySem.W.Frag) (C : CT) : Sp := fun vs H Q E => ∃ (x_pairs : (List (Int × Int))) (x_size : Int) (v_pairs v_size : V), vs = [v_pairs, v_size] ∧ CallN K C R0 [(v_pairs, enc x_pairs), (v_size, enc x_size)] (m_law_remainders x_pairs x_size) H Q
theorem ok_law_remainders (T : Txt P w K mg)  : FnOk P w K mg base CX0 (2) T.a_law_remainders T.d_law_remainders ["pairs", "size"] (sp_law_remainders K (ct T)) := by
  refine T.F_law_remainders.ok sc_law_remainders (fun vs H Q E h => by obtain ⟨_, _, _, _, rfl, _⟩ := h; rfl) (fun cdv A outer s H vs Q E hr h => ?_)
  have hu := hu_of hr
  have hu64 := hr.units
  refine ⟨_, (pss_cons (ps_set (i := 2) sc_law_remainders.nd rfl (by first | exact Or.inl rfl | exact Or.inr rfl) (pe_op op_plus (pe_op op_plus (pe_lst (pa_cons pe_int (pa_cons (pv 1) pa_nil))) (pe_lc (own := [("pair", 3)]) (g := gName 3)  (by rfl) sc_law_remainders.nd (pi_list (pv 0)) (blkOk_by (own := [("pair", 3)]) (N := ["pairs", "size", "found", "pair", "points", "x", "k"]) (sc := defScope s_law_remainders) (by decide +kernel)) (fun _ _ _ _ _ => pg_name (i := 3) sc_law_remainders.nd rfl (Or.inl rfl)) (fun _ _ _ _ _ => pts_nil) (fun _ _ _ _ _ => (pe_op op_mod (pe_callTy call_intA (by rfl) T.z_int (by decide +kernel) (pa_cons (pe_ix (ix_anyK (K := K) rfl hu) (pv 3) pe_int (fun _ _ => rfl)) pa_nil)) (pv 1))))) (pe_lc (own := [("pair", 3)]) (g := gName 3)  (by rfl) sc_law_remainders.nd (pi_list (pv 0)) (blkOk_by (own := [("pair", 3)]) (N := ["pairs", "size", "found", "pair", "points", "x", "k"]) (sc := defScope s_law_remainders) (by decide +kernel)) (fun _ _ _ _ _ => pg_name (i := 3) sc_law_remainders.nd rfl (Or.inl rfl)) (fun _ _ _ _ _ => pts_nil) (fun _ _ _ _ _ => (pe_op op_mod (pe_callTy call_intA (by rfl) T.z_int (by decide +kernel) (pa_cons (pe_ix (ix_anyK (K := K) rfl hu) (pv 3) pe_int (fun _ _ => rfl)) pa_nil)) (pv 1))))))
      (pss_cons (ps_set (i := 4) sc_law_remainders.nd rfl (by first | exact Or.inl rfl | exact Or.inr rfl) (pe_callB cr_sortedI (by rfl) T.z_sorted (by decide +kernel) (pa_cons (pe_lc (own := [("x", 5)]) (g := gName 5)  (by rfl) sc_law_remainders.nd (pi_list (pv 2)) (blkOk_by (own := [("x", 5)]) (N := ["pairs", "size", "found", "pair", "points", "x", "k"]) (sc := defScope s_law_remainders) (by decide +kernel)) (fun _ _ _ _ _ => pg_name (i := 5) sc_law_remainders.nd rfl (Or.inl rfl)) (fun _ _ _ _ _ => pts_nil) (fun _ _ _ _ _ => (pe_callTy call_intA (by rfl) T.z_int (by decide +kernel) (pa_cons (pv 5) pa_nil)))) pa_nil)))
      (pss_one (ps_ret (pe_call (ok_law_spans T) (hr.mono (by first | decide | omega)) (by rfl) T.m_law_spans T.F_law_spans.kp T.b_law_spans .nil pass0 (pa_cons (pv 4) (pa_cons (pe_lc (own := [("k", 6)]) (g := gName 6)  (by rfl) sc_law_remainders.nd (pi_range1 (by rfl) T.z_range (pa_cons (pe_op op_sub (pe_callB call_lenA (by rfl) T.z_len (by decide +kernel) (pa_cons (pv 4) pa_nil)) pe_int) pa_nil)) (blkOk_by (own := [("k", 6)]) (N := ["pairs", "size", "found", "pair", "points", "x", "k"]) (sc := defScope s_law_remainders) (by decide +kernel)) (fun _ _ _ _ _ => pg_name (i := 6) sc_law_remainders.nd rfl (Or.inl rfl)) (fun _ _ _ _ _ => pts_nil) (fun _ _ _ _ _ => (pe_call (ok_law_left_over T) (hr.mono (by first | decide | omega)) (by rfl) T.m_law_left_over T.F_law_left_over.kp T.b_law_left_over .nil pass0 (pa_cons (pv 0) (pa_cons (pv 1) (pa_cons (pe_ix (ix_anyK (K := K) rfl hu) (pv 4) (pv 6) (fun _ _ => rfl)) pa_nil)))))) pa_nil))))))), ?_⟩
  obtain ⟨x_pairs, x_size, v_pairs, v_size, rfl, G0, F0, post, px, hp, hm, hQ⟩ := h
  have hx := hx0 (K := K) (C := ct T) (R := R0) (G0 := G0) (F0 := F0) (px := px)
  walk_at "start"
  unfold m_law_remainders at hm
  refine s_seq ?_
  refine s_set (fun v_found => [some v_pairs, some v_size, some v_found, none, none, none, none]) (fun _ => rfl) hp hx hm (EV.addL (EV.addL (EV.lstP (EA.consP EV.int (EA.consP (EV.var rfl (.tail _ (.head _))) EA.nil)) rfl (Nat.le_of_ble_eq_true rfl)) (EV.lc1 (EI.list (EV.var rfl (.head _))) (fun _ => rfl) (fun x_pair v_pair q_ => ET.yes) (fun x_pair v_pair q_ => (EV.modIP (EV.intIP (EV.projP (EV.var rfl (.head _)) ⟨_, .inl rfl, rfl⟩)) (EV.var rfl (.tail _ (.tail _ (.head _)))))))) (EV.lc1 (EI.list (EV.var rfl (.head _))) (fun _ => rfl) (fun x_pair v_pair q_ => ET.yes) (fun x_pair v_pair q_ => (EV.modIP (EV.intIP (EV.projP (EV.var rfl (.head _)) ⟨_, .inl rfl, rfl⟩)) (EV.var rfl (.tail _ (.tail _ (.head _)))))))) (fun x_found v_found H hp hm => ?_)
  refine s_seq ?_
  refine s_set (fun v_points => [some v_pairs, some v_size, some v_found, none, some v_points, none, none]) (fun _ => rfl) hp hx hm (EV.sortIP (EV.lc1m (EI.list (EV.var rfl (.head _))) (fun _ => rfl) (fun x_x v_x q_ => (EV.intIP (EV.var rfl (.head _)))))) (fun x_points v_points H hp hm => ?_)
  refine s_ret1 hp hx hm (EV.callN (γ := ((List Int) × (List Bool) × Unit)) (f := fun g_ => m_law_spans g_.1 g_.2.1) (EA.cons (EV.var rfl (.head _)) (EA.cons (EV.lc1 (EI.range1P (EV.subIP (EV.lenLP (EV.var rfl (.head _))) EV.int)) (fun _ => rfl) (fun x_k v_k q_ => ET.yes) (fun x_k v_k q_ => (EV.callN (γ := ((List (Int × Int)) × Int × Int × Unit)) (f := fun g_ => m_law_left_over g_.1 g_.2.1 g_.2.2.1) (EA.cons (EV.var rfl (.tail _ (.tail _ (.tail _ (.head _))))) (EA.cons (EV.var rfl (.tail _ (.tail _ (.tail _ (.tail _ (.head _)))))) (EA.cons (EV.ixLP (EV.var rfl (.tail _ (.head _))) (EV.var rfl (.head _))) EA.nil))) (fun g_ => hcN3 fun v0 v1 v2 H Q h => ⟨g_.1, g_.2.1, g_.2.2.1, v0, v1, v2, rfl, h⟩)))) EA.nil)) (fun g_ => hcN2 fun v0 v1 H Q h => ⟨g_.1, g_.2.1, v0, v1, rfl, h⟩)) (fun a v H hp hm => hQ a v H hp.fin hm)
noncomputable def m_law_sized (x_cover : Cover) (x_way : Int) (x_size : Int) : M Cover := mite (mr (decide (x_way = (0 : Int)))) ((mb (mr x_cover) fun a => mb (mr x_size) fun b => m_Coverdd__floordivdd_ a b)) (mite (mr (decide (x_way = (1 : Int)))) ((mb (mr x_cover) fun a => mb (mr x_size) fun b => m_Coverdd__moddd_ a b)) (mite (mr (decide (x_way = (2 : Int)))) ((mb (mr x_cover) fun a => mb (mr x_size) fun b => m_Coverdd__muldd_ a b)) ((mb (mr x_size) fun a => mb (mr x_cover) fun b => m_Coverdd__rmuldd_ b a))))
def sp_law_sized (K : PySem.W.Frag) (C : CT) : Sp := fun vs H Q E => ∃ (x_cover : Cover) (x_way : Int) (x_size : Int) (v_cover v_way v_size : V), vs = [v_cover, v_way, v_size] ∧ Call K C R0 [(v_cover, enc x_cover), (v_way, enc x_way), (v_size, enc x_size)] (m_law_sized x_cover x_way x_size) H Q E
theorem ok_law_sized (T : Txt P w K mg)  : FnOk P w K mg base (L2.CX P w) (5) T.a_law_sized T.d_law_sized ["cover", "way", "size"] (sp_law_sized K (ct T)) := by
  refine T.F_law_sized.okX sc_law_sized (fun vs H Q E h => by obtain ⟨_, _, _, _, _, _, rfl, _⟩ := h; rfl) (fun cdv A outer s H vs Q E hr h => ?_)
  have hu := hu_of hr
  have hu64 := hr.units
  refine ⟨_, (pss_cons (ps_if (pt_cmpR (op_eqq hu64) (pv 1) pe_int (nomark _)) (pss_one (ps_ret (pe_opS (op_ownI T.ot_Coverdd__floordivdd_ (ok_Coverdd__floordivdd_ T) (hr.mono (by first | decide | omega)) T.b_Coverdd__floordivdd_ (passAll (passes_call (takes_of rfl rfl rfl rfl) (fun _ _ _ _ h => h)))) (pv 0) (pv 2)))) pss_nil)
      (pss_cons (ps_if (pt_cmpR (op_eqq hu64) (pv 1) pe_int (nomark _)) (pss_one (ps_ret (pe_opS (op_ownI T.ot_Coverdd__moddd_ (ok_Coverdd__moddd_ T) (hr.mono (by first | decide | omega)) T.b_Coverdd__moddd_ (passAll (passes_call (takes_of rfl rfl rfl rfl) (fun _ _ _ _ h => h)))) (pv 0) (pv 2)))) pss_nil)
      (pss_cons (ps_if (pt_cmpR (op_eqq hu64) (pv 1) pe_int (nomark _)) (pss_one (ps_ret (pe_opS (op_ownI T.ot_Coverdd__muldd_ (ok_Coverdd__muldd_ T) (hr.mono (by first | decide | omega)) T.b_Coverdd__muldd_ (passAll (passes_call (takes_of rfl rfl rfl rfl) (fun _ _ _ _ h => h)))) (pv 0) (pv 2)))) pss_nil)
      (pss_one (ps_ret (pe_opS (op_ownR T.or_Coverdd__rmuldd_ (ok_Coverdd__rmuldd_ T) (hr.mono (by first | decide | omega)) T.b_Coverdd__rmuldd_ (passAll (passes_call (takes_of rfl rfl rfl rfl) (fun _ _ _ _ h => h)))) (pv 2) (pv 0))))))), ?_⟩
  obtain ⟨x_cover, x_way, x_size, v_cover, v_way, v_size, rfl, G0, F0, post, px, hp, hm, hx, hQ⟩ := h
  walk_at "start"
  unfold m_law_sized at hm
  refine s_seq ?_
  refine s_if hp hx hm (ET.test (EV.eqSP (EV.var rfl (.tail _ (.head _))) EV.int)) (fun H hp hm => ?_) (fun H hp hm => ?_)
  · refine s_ret1 hp hx hm (EV.ownIX (k := fun a b => m_Coverdd__floordivdd_ a b) rfl (EV.var rfl (.head _)) (EV.var rfl (.tail _ (.tail _ (.head _)))) (ct_Cover T) (fun _ => ⟨_, _, rfl⟩) (fun a b x y H Q h => ⟨a, b, x, y, rfl, h⟩)) (fun a v H hp hm => hQ a v H hp.fin hm)
  · refine s_next ?_
    refine s_seq ?_
    refine s_if hp hx hm (ET.test (EV.eqSP (EV.var rfl (.tail _ (.head _))) EV.int)) (fun H hp hm => ?_) (fun H hp hm => ?_)
    · refine s_ret1 hp hx hm (EV.ownIX (k := fun a b => m_Coverdd__moddd_ a b) rfl (EV.var rfl (.head _)) (EV.var rfl (.tail _ (.tail _ (.head _)))) (ct_Cover T) (fun _ => ⟨_, _, rfl⟩) (fun a b x y H Q h => ⟨a, b, x, y, rfl, h⟩)) (fun a v H hp hm => hQ a v H hp.fin hm)
    · refine s_next ?_
      refine s_seq ?_
      refine s_if hp hx hm (ET.test (EV.eqSP (EV.var rfl (.tail _ (.head _))) EV.int)) (fun H hp hm => ?_) (fun H hp hm => ?_)
      · refine s_ret1 hp hx hm (EV.ownIX (k := fun a b => m_Coverdd__muldd_ a b) rfl (EV.var rfl (.head _)) (EV.var rfl (.tail _ (.tail _ (.head _)))) (ct_Cover T) (fun _ => ⟨_, _, rfl⟩) (fun a b x y H Q h => ⟨a, b, x, y, rfl, h⟩)) (fun a v H hp hm => hQ a v H hp.fin hm)
      · refine s_next ?_
        refine s_ret1 hp hx hm (EV.ownRX (k := fun a b => m_Coverdd__rmuldd_ a b) rfl (EV.var rfl (.tail _ (.tail _ (.head _)))) (EV.var rfl (.head _)) (ct_Cover T) (fun _ => ⟨_, _, rfl⟩) (fun a b x y H Q h => ⟨a, b, x, y, rfl, h⟩)) (fun a v H hp hm => hQ a v H hp.fin hm)
noncomputable def m_law_refused (x_cover : Cover) (x_way : Int) (x_size : Int) : M Mi.D := mb (mtry0 (τ := ((Cover) ⊕ Mi.D)) ["BadSize"] (mb (m_law_sized x_cover x_way x_size) fun x_made => mr (Sum.inl (x_made))) (fun e_ => if e_.cls = "BadSize" then (mite (mr ((!true) || (false || false))) (mb (mr (enc () : Mi.D)) fun a => mr (Sum.inr a)) (mb (mb (mb (mb (mexf e_.ns e_.ds "size") fun a => mb (mr ()) fun g => mr (a, g)) fun g_ => mr (⟨[g_.1]⟩ : (Tp Mi.D))) fun a => mr (enc a : Mi.D)) fun a => mr (Sum.inr a))) else mstuck)) fun o_ => match o_ with | .inl c_ => ((fun x_made => (mr (enc (false, x_size) : Mi.D))) c_) | .inr o_ => mr o_
def sp_law_refused (K : PySem.W.Frag) (C : CT) : Sp := fun vs H Q E => ∃ (x_cover : Cover) (x_way : Int) (x_size : Int) (v_cover v_way v_size : V), vs = [v_cover, v_way, v_size] ∧ CallN K C R0 [(v_cover, enc x_cover), (v_way, enc x_way), (v_size, enc x_size)] (m_law_refused x_cover x_way x_size) H Q
theorem ok_law_refused (T : Txt P w K mg)  : FnOk P w K mg base CX0 (6) T.a_law_refused T.d_law_refused ["cover", "way", "size"] (sp_law_refused K (ct T)) := by
  refine T.F_law_refused.ok sc_law_refused (fun vs H Q E h => by obtain ⟨_, _, _, _, _, _, rfl, _⟩ := h; rfl) (fun cdv A outer s H vs Q E hr h => ?_)
  have hu := hu_of hr
  have hu64 := hr.units
  refine ⟨_, (pss_cons (ps_try_asM (i := 4) rfl rfl sc_law_refused.nd rfl rfl (by exact ⟨rfl, by decide, Or.inl T.mc_BadSize⟩) takes0
      (fun W => ⟨_, fun pn xe tk _ => (pss_one (ps_set (i := 3) sc_law_refused.nd rfl (by first | exact Or.inl rfl | exact Or.inr rfl) (pe_callS (ok_law_sized T) (hr.mono (by first | decide | omega)) (by rfl) T.m_law_sized T.F_law_sized.kp T.b_law_sized (fun σ => passAt tk σ) (pa_cons (pv 0) (pa_cons (pv 1) (pa_cons (pv 2) pa_nil))))))⟩)
      (fun a cls d => ⟨_, fun oe pn hz hf => (pss_cons (ps_if (PW.pt (pw_or (pt_not (pt_val (pe_callB (call_isD hz hf) (by rfl) T.z_isinstance (by decide +kernel) (pa_cons (pv 4) (pa_cons (pe_glob (v := .ref T.c_SlotError) (by rfl) T.mc_SlotError rfl) pa_nil))))) (pw_or (pt_val (pe_callB (call_isD hz hf) (by rfl) T.z_isinstance (by decide +kernel) (pa_cons (pv 4) (pa_cons (pe_glob (v := .ref T.c_BadPlace) (by rfl) T.mc_BadPlace rfl) pa_nil)))) (pw_or1 (pt_val (pe_callB (call_isD hz hf) (by rfl) T.z_isinstance (by decide +kernel) (pa_cons (pv 4) (pa_cons (pe_glob (v := .ref T.c_BadSpan) (by rfl) T.mc_BadSpan rfl) pa_nil)))))))) (pss_one (ps_ret pe_non)) pss_nil)
      (pss_one (ps_ret (pe_tup (pa_cons (pe_fldE hz hf (pv 4)) pa_nil)))))⟩) rfl)
      (pss_one (ps_ret (pe_tup (pa_cons (pe_cmpR op_isNA (pv 3) pe_non (nomark _)) (pa_cons (pv 2) pa_nil)))))), ?_⟩
  dsimp only
  obtain ⟨x_cover, x_way, x_size, v_cover, v_way, v_size, rfl, G0, F0, post, px, hp, hm, hQ⟩ := h
  have hx := hx0 (K := K) (C := ct T) (R := R0) (G0 := G0) (F0 := F0) (px := px)
  walk_at "start"
  unfold m_law_refused at hm
  refine s_seq ?_
  refine s_tryJ (ι := (V)) (γ := (Cover)) Sum.inl (fun r c => [some v_cover, some v_way, some v_size, some r, none]) (fun r c => [(r, enc c), (v_size, enc x_size)]) hp hm ?tc (fun nx_ G_ F_ px_ hj hbk_ hp hx hm => ?_) ?tsu (fun v_made x_made H hp hm => ?_)
  case tc =>
    intro c_ hk_ A_ hA_
    simp only [List.mem_cons, List.not_mem_nil, or_false] at hk_
    have ek_ := hk_
    · subst ek_
      obtain rfl := Option.some.inj (hA_.symm.trans (ct_BadSize T))
      exact T.sup_BadSize.te
  case tsu =>
    intro nx_ hj e_ a_ A_ dd_ H hk_ hA_ hf_ hp hm
    simp only [List.mem_cons, List.not_mem_nil, or_false] at hk_
    have ek_ := hk_
    · obtain rfl := Option.some.inj (((congrArg (ct T) ek_).symm.trans hA_).symm.trans (ct_BadSize T))
      have hm := if_here ek_ hm
      refine s_seq ?_
      refine s_if hp hx hm (ET.orP (ET.notP (ET.test (EV.isE (a := a_) (dd := dd_) rfl T.xc_BadSize (.head _) (fun _ h => h) T.kt_BadSize_SlotError))) (ET.orP (ET.test (EV.isE (a := a_) (dd := dd_) rfl T.xc_BadSize (.head _) (fun _ h => h) T.kt_BadSize_BadPlace)) (ET.test (EV.isE (a := a_) (dd := dd_) rfl T.xc_BadSize (.head _) (fun _ h => h) T.kt_BadSize_BadSpan)))) (fun H hp hm => ?_) (fun H hp hm => ?_)
      · refine s_ret hp hx hm (EV.toD EV.unit) (fun a v H hp hm => hQ a v H hp.fin hm)
      · refine s_next ?_
        refine s_ret hp hx hm (EV.toDM (EV.tup (γ := (Mi.D × Unit)) (EA.cons (EV.fldE (a := a_) (dd := dd_) rfl ⟨T.sup_BadSize.ga, T.sup_BadSize.gg, T.sup_BadSize.exC, T.sup_BadSize.hdC, T.sup_BadSize.noN⟩ (.head _)) EA.nil) (f := fun g_ => (⟨[g_.1]⟩ : (Tp Mi.D))) (fun _ => rfl) (fun _ => by simp))) (fun a v H hp hm => hQ a v H hp.fin hm)
  · have hQ := fun a v H hp hm => hQ a v H (hbk_ _ H hp) hm
    refine s_set (fun v_made => [some v_cover, some v_way, some v_size, some v_made, none]) (fun _ => rfl) hp hx hm (EV.callSP rfl (EA.consP (EV.var rfl (.head _)) (EA.consP (EV.var rfl (.tail _ (.head _))) (EA.consP (EV.var rfl (.tail _ (.tail _ (.head _)))) EA.nil))) (hcS3 fun v0 v1 v2 H Q h => ⟨x_cover, x_way, x_size, v0, v1, v2, rfl, h⟩)) (fun x_made v_made H hp hm => ?_)
    exact hj (v_made) (x_made) _ ((hp.less (pk (.head _) (pk (.tail _ (.tail _ (.tail _ (.head _)))) pk0))).lessO (List.nil_sublist _)) hm
  · refine s_ret1 hp hx hm (EV.toD (EV.tupP (EA.consP (EV.isNnP (EV.var rfl (.head _)) EV.unit) (EA.consP (EV.var rfl (.tail _ (.head _))) EA.nil)) rfl (Nat.le_of_ble_eq_true rfl))) (fun a v H hp hm => hQ a v H hp.fin hm)
noncomputable def m_law_least (x_cover : Cover) (x_pieces : Cover) (x_touched : (List (Int × Int))) (x_size : Int) : M Bool := mite (mr (decide (((x_touched).length : Int) = (0 : Int)))) ((mb (mb (mb (mb (mb (mb (mb (mr x_pieces) m_Coverdd__booldd_) fun a => mr (enc a : Mi.D)) fun a => mb (mb (mb (mb (mb (mr x_size) fun a => mb (mr x_pieces) fun b => mno (m_Coverdd__rmuldd_ b a)) fun a => mr a.spans) fun a => mr (enc a : Mi.D)) fun a => mb (mr ()) fun g => mr (a, g)) fun g => mr (a, g)) fun g_ => mr ([g_.1, g_.2.1] : (List Mi.D))) fun a => mr (enc a : Mi.D)) fun a => mb (mb (mr (enc ([(enc false : Mi.D), (enc ([] : (List Mi.D)) : Mi.D)] : (List Mi.D)) : Mi.D)) fun a => mb (mr ()) fun g => mr (a, g)) fun g => mr (a, g)) fun g_ => (m_law_same g_.1 g_.2.1))) (mb (mb (mr x_touched) fun a => mb (m_law_draw ((x_touched).length : Int)) fun b => mix a b) fun x_pair => mb (mb (mr x_pair.1) fun a => mb (m_law_draw (x_pair.2 - x_pair.1)) fun b => mr (a + b)) fun x_one => mb (mb (mr x_pieces) fun a => mb (m_Cover_init (⟨false, ([(x_one, (x_one + (1 : Int)))] : (List (Int × Int)))⟩ : (Sq (Int × Int)))) fun b => m_Coverdd__subdd_ a b) fun x_some => mb (mr x_pieces) fun x_more => mb (mb (m_law_draw (5 : Int)) fun n => mrange 0 n) fun xs_ => mb (forM xs_ (x_more) (fun x_k c_ => ((fun x_more => mb (mb (mr x_pair.1) fun a => mb (m_law_draw (12 : Int)) fun b => mr (a + b)) fun x_near => mb (mb (mr x_more) fun a => mb (m_Cover_init (⟨false, ([(x_near, (x_near + (1 : Int)))] : (List (Int × Int)))⟩ : (Sq (Int × Int)))) fun b => m_Coverdd__ordd_ a b) fun x_more => mr (x_more)) c_))) fun c_ => ((fun x_more => mb (mb (mr x_size) fun a => mb (mr x_more) fun b => mno (m_Coverdd__rmuldd_ b a)) fun x_union_of_more => (mb (mb (mb (mb (mb (mb (mr x_cover) fun a => mb (mb (mr x_size) fun a => mb (mr x_some) fun b => mno (m_Coverdd__rmuldd_ b a)) fun b => m_Coverdd__ledd_ a b) fun a => mb (mb (mb (mr x_cover) fun a => mb (mr x_union_of_more) fun b => m_Coverdd__ledd_ a b) fun a => mb (mb (mb (mb (mr x_size) fun a => mb (mr x_pieces) fun b => mno (m_Coverdd__rmuldd_ b a)) fun a => mb (mr x_union_of_more) fun b => m_Coverdd__ledd_ a b) fun a => mb (mr ()) fun g => mr (a, g)) fun g => mr (a, g)) fun g => mr (a, g)) fun g_ => mr ([g_.1, g_.2.1, g_.2.2.1] : (List Bool))) fun a => mr (enc a : Mi.D)) fun a => mb (mb (mr (enc ([false, true, true] : (List Bool)) : Mi.D)) fun a => mb (mr ()) fun g => mr (a, g)) fun g => mr (a, g)) fun g_ => (m_law_same g_.1 g_.2.1))) c_))
def sp_law_least (K : PySem.W.Frag) (C : CT) : Sp := fun vs H Q E => ∃ (p_st : Addr) (x_cover : Cover) (x_pieces : Cover) (x_touched : (List (Int × Int))) (x_size : Int) (v_cover v_pieces v_touched v_size : V), vs = [.ref p_st, v_cover, v_pieces, v_touched, v_size] ∧ CallN K C (RS p_st) [(v_cover, enc x_cover), (v_pieces, enc x_pieces), (v_touched, enc x_touched), (v_size, enc x_size)] (m_law_least x_cover x_pieces x_touched x_size) H Q
theorem ok_law_least (T : Txt P w K mg)  : FnOk P w K mg base CX0 (9) T.a_law_least T.d_law_least ["state", "cover", "pieces", "touched", "size"] (sp_law_least K (ct T)) := by
  refine T.F_law_least.ok sc_law_least (fun vs H Q E h => by obtain ⟨_, _, _, _, _, _, _, _, _, rfl, _⟩ := h; rfl) (fun cdv A outer s H vs Q E hr h => ?_)
  have hu := hu_of hr
  have hu64 := hr.units
  refine ⟨_, (pss_cons (ps_if (pt_cmpR (op_eqq hu64) (pe_callB call_lenA (by rfl) T.z_len (by decide +kernel) (pa_cons (pv 3) pa_nil)) pe_int (nomark _)) (pss_one (ps_ret (pe_call (same_ok (same_all T 8)) (hr.mono (by first | decide | omega)) (by rfl) T.m_law_same T.F_law_same.kp T.b_law_same .nil pass0 (pa_cons (pe_lst (pa_cons (pe_callTy (cr_ownBool T.om_Coverdd__booldd_ (ok_Coverdd__booldd_ T) (hr.mono (by first | decide | omega)) T.b_Coverdd__booldd_ (passAll pass0)) (by rfl) T.z_bool (by decide +kernel) (pa_cons (pv 2) pa_nil)) (pa_cons (pe_callTy (call_listIt (by rfl) T.it_Cover (ok_Coverdd__iterdd_ T) T.b_Coverdd__iterdd_ pass0 (hr.mono (by first | decide | omega))) (by rfl) T.z_list (by decide +kernel) (pa_cons (pe_opS (op_ownR T.or_Coverdd__rmuldd_ (ok_Coverdd__rmuldd_ T) (hr.mono (by first | decide | omega)) T.b_Coverdd__rmuldd_ (passAll passN)) (pv 4) (pv 2)) pa_nil)) pa_nil))) (pa_cons (pe_lst (pa_cons pe_bl (pa_cons (pe_lst pa_nil) pa_nil))) pa_nil))))) pss_nil)
      (pss_cons (ps_set (i := 5) sc_law_least.nd rfl (by first | exact Or.inl rfl | exact Or.inr rfl) (pe_ix (ix_any hu) (pv 3) (pe_call (draw_ok (C := ct T) (ok_law_draw T)) (hr.mono (by first | decide | omega)) (by rfl) T.m_law_draw T.F_law_draw.kp T.b_law_draw .nil pass0 (pa_cons (pv 0) (pa_cons (pe_callB call_lenA (by rfl) T.z_len (by decide +kernel) (pa_cons (pv 3) pa_nil)) pa_nil))) (fun _ _ => rfl)))
      (pss_cons (ps_set (i := 6) sc_law_least.nd rfl (by first | exact Or.inl rfl | exact Or.inr rfl) (pe_op op_plus (pe_ix (ix_any hu) (pv 5) pe_int (fun _ _ => rfl)) (pe_call (draw_ok (C := ct T) (ok_law_draw T)) (hr.mono (by first | decide | omega)) (by rfl) T.m_law_draw T.F_law_draw.kp T.b_law_draw .nil pass0 (pa_cons (pv 0) (pa_cons (pe_op op_sub (pe_ix (ix_any hu) (pv 5) pe_int (fun _ _ => rfl)) (pe_ix (ix_any hu) (pv 5) pe_int (fun _ _ => rfl))) pa_nil)))))
      (pss_cons (ps_set (i := 7) sc_law_least.nd rfl (by first | exact Or.inl rfl | exact Or.inr rfl) (pe_opS (op_ownC T.om_Coverdd__subdd_ T.sf_Cover (ok_Coverdd__subdd_ T) (hr.mono (by first | decide | omega)) T.b_Coverdd__subdd_ (passAll pass0)) (pv 2) (pe_make T.mk_Cover (ok_Cover_init T) (hr.mono (by first | decide | omega)) (by rfl) T.mc_Cover (Classical.choose_spec T.bd_Cover_init_1).2 (Classical.choose_spec T.bd_Cover_init_1).1 pass0 (pa_cons (pe_lst (pa_cons (pe_tup (pa_cons (pv 6) (pa_cons (pe_op op_plus (pv 6) pe_int) pa_nil))) pa_nil)) pa_nil))))
      (pss_cons (ps_set (i := 8) sc_law_least.nd rfl (by first | exact Or.inl rfl | exact Or.inr rfl) (pv 2))
      (pss_cons (ps_for PassesOwn.never rfl (pi_range1 (by rfl) T.z_range (pa_cons (pe_call (draw_ok (C := ct T) (ok_law_draw T)) (hr.mono (by first | decide | omega)) (by rfl) T.m_law_draw T.F_law_draw.kp T.b_law_draw .nil pass0 (pa_cons (pv 0) (pa_cons pe_int pa_nil))) pa_nil)) (pg_name (i := 9) sc_law_least.nd rfl (by first | exact Or.inl rfl | exact Or.inr rfl))
      (pss_cons (ps_set (i := 10) sc_law_least.nd rfl (by first | exact Or.inl rfl | exact Or.inr rfl) (pe_op op_plus (pe_ix (ix_any hu) (pv 5) pe_int (fun _ _ => rfl)) (pe_call (draw_ok (C := ct T) (ok_law_draw T)) (hr.mono (by first | decide | omega)) (by rfl) T.m_law_draw T.F_law_draw.kp T.b_law_draw .nil pass0 (pa_cons (pv 0) (pa_cons pe_int pa_nil)))))
      (pss_one (ps_set (i := 8) sc_law_least.nd rfl (by first | exact Or.inl rfl | exact Or.inr rfl) (pe_opS (op_ownC T.om_Coverdd__ordd_ T.sf_Cover (ok_Coverdd__ordd_ T) (hr.mono (by first | decide | omega)) T.b_Coverdd__ordd_ (passAll pass0)) (pv 8) (pe_make T.mk_Cover (ok_Cover_init T) (hr.mono (by first | decide | omega)) (by rfl) T.mc_Cover (Classical.choose_spec T.bd_Cover_init_1).2 (Classical.choose_spec T.bd_Cover_init_1).1 pass0 (pa_cons (pe_lst (pa_cons (pe_tup (pa_cons (pv 10) (pa_cons (pe_op op_plus (pv 10) pe_int) pa_nil))) pa_nil)) pa_nil)))))))
      (pss_cons (ps_set (i := 11) sc_law_least.nd rfl (by first | exact Or.inl rfl | exact Or.inr rfl) (pe_opS (op_ownR T.or_Coverdd__rmuldd_ (ok_Coverdd__rmuldd_ T) (hr.mono (by first | decide | omega)) T.b_Coverdd__rmuldd_ (passAll passN)) (pv 4) (pv 8)))
      (pss_one (ps_ret (pe_call (same_ok (same_all T 8)) (hr.mono (by first | decide | omega)) (by rfl) T.m_law_same T.F_law_same.kp T.b_law_same .nil pass0 (pa_cons (pe_lst (pa_cons (pe_cmpS (op_ownCmp rfl (Nat.lt_of_le_of_lt (Nat.le_add_right _ _) hu64) T.om_Coverdd__ledd_ T.nf_Cover (ok_Coverdd__ledd_ T) (hr.mono (by first | decide | omega)) T.b_Coverdd__ledd_ (passAll pass0)) (pv 1) (pe_opS (op_ownR T.or_Coverdd__rmuldd_ (ok_Coverdd__rmuldd_ T) (hr.mono (by first | decide | omega)) T.b_Coverdd__rmuldd_ (passAll passN)) (pv 4) (pv 7)) (nomark _)) (pa_cons (pe_cmpS (op_ownCmp rfl (Nat.lt_of_le_of_lt (Nat.le_add_right _ _) hu64) T.om_Coverdd__ledd_ T.nf_Cover (ok_Coverdd__ledd_ T) (hr.mono (by first | decide | omega)) T.b_Coverdd__ledd_ (passAll pass0)) (pv 1) (pv 11) (nomark _)) (pa_cons (pe_cmpS (op_ownCmp rfl (Nat.lt_of_le_of_lt (Nat.le_add_right _ _) hu64) T.om_Coverdd__ledd_ T.nf_Cover (ok_Coverdd__ledd_ T) (hr.mono (by first | decide | omega)) T.b_Coverdd__ledd_ (passAll pass0)) (pe_opS (op_ownR T.or_Coverdd__rmuldd_ (ok_Coverdd__rmuldd_ T) (hr.mono (by first | decide | omega)) T.b_Coverdd__rmuldd_ (passAll passN)) (pv 4) (pv 2)) (pv 11) (nomark _)) pa_nil)))) (pa_cons (pe_lst (pa_cons pe_bl (pa_cons pe_bl (pa_cons pe_bl pa_nil)))) pa_nil)))))))))))), ?_⟩
  obtain ⟨p_st, x_cover, x_pieces, x_touched, x_size, v_cover, v_pieces, v_touched, v_size, rfl, G0, F0, post, px, hp, hm, hQ⟩ := h
  have hx := hx0 (K := K) (C := ct T) (R := RS p_st) (G0 := G0) (F0 := F0) (px := px)
  walk_at "start"
  unfold m_law_least at hm
  refine s_seq ?_
  refine s_if hp hx hm (ET.test (EV.eqSP (EV.lenLP (EV.var rfl (.tail _ (.tail _ (.head _))))) EV.int)) (fun H hp hm => ?_) (fun H hp hm => ?_)
  · refine s_ret1 hp hx hm (EV.callN (γ := (Mi.D × Mi.D × Unit)) (f := fun g_ => m_law_same g_.1 g_.2.1) (EA.cons (EV.toDM (EV.lst (γ := (Mi.D × Mi.D × Unit)) (EA.cons (EV.toDM (EV.ownB (k := m_Coverdd__booldd_) (EV.var rfl (.tail _ (.head _))) (ct_Cover T) (fun _ => ⟨_, _, rfl⟩) (fun a x H Q h => ⟨a, x, rfl, h⟩))) (EA.cons (EV.toDM (EV.listIt (fun (a : Cover) => a.spans) (EV.ownRF (k := fun a b => m_Coverdd__rmuldd_ a b) (EV.var rfl (.tail _ (.tail _ (.tail _ (.head _))))) (EV.var rfl (.tail _ (.head _))) (ct_Cover T) (fun _ => ⟨_, _, rfl⟩) (fun a b x y H Q h => ⟨a, b, x, y, rfl, h⟩)) (ct_Cover T) fun _ => ⟨_, _, rfl, rfl⟩)) EA.nil)) (f := fun g_ => ([g_.1, g_.2.1] : (List Mi.D))) (fun _ => rfl) (fun _ => by simp))) (EA.cons (EV.toD (EV.lstP (EA.consP (EV.toD EV.bl) (EA.consP (EV.toD (EV.lstP EA.nil rfl (Nat.le_of_ble_eq_true rfl))) EA.nil)) rfl (Nat.le_of_ble_eq_true rfl))) EA.nil)) (fun g_ => hcN2 fun v0 v1 H Q h => ⟨g_.1, g_.2.1, v0, v1, rfl, h⟩)) (fun a v H hp hm => hQ a v H hp.fin hm)
  · refine s_next ?_
    refine s_seq ?_
    refine s_set (fun v_pair => [some (.ref p_st), some v_cover, some v_pieces, some v_touched, some v_size, some v_pair, none, none, none, none, none, none]) (fun _ => rfl) hp hx hm (EV.ixL (EV.var rfl (.tail _ (.tail _ (.head _)))) (EV.callWP rfl (EA.consP (EV.lenLP (EV.var rfl (.tail _ (.tail _ (.head _))))) EA.nil) (hcW1 fun v0 H Q h => ⟨_, ((x_touched).length : Int), v0, rfl, h⟩))) (fun x_pair v_pair H hp hm => ?_)
    refine s_seq ?_
    refine s_set (fun v_one => [some (.ref p_st), some v_cover, some v_pieces, some v_touched, some v_size, some v_pair, some v_one, none, none, none, none, none]) (fun _ => rfl) hp hx hm (EV.addI (EV.projP (EV.var rfl (.head _)) ⟨_, .inl rfl, rfl⟩) (EV.callWP rfl (EA.consP (EV.subIP (EV.projP (EV.var rfl (.head _)) ⟨_, .inl rfl, rfl⟩) (EV.projP (EV.var rfl (.head _)) ⟨_, .inl rfl, rfl⟩)) EA.nil) (hcW1 fun v0 H Q h => ⟨_, (x_pair.2 - x_pair.1), v0, rfl, h⟩))) (fun x_one v_one H hp hm => ?_)
    refine s_seq ?_
    refine s_set (fun v_some => [some (.ref p_st), some v_cover, some v_pieces, some v_touched, some v_size, some v_pair, some v_one, some v_some, none, none, none, none]) (fun _ => rfl) hp hx hm (EV.ownCN (k := fun a b => m_Coverdd__subdd_ a b) (EV.var rfl (.tail _ (.tail _ (.tail _ (.head _))))) (EV.makeNP (EA.consP (EV.asP (EV.lstP (EA.consP (EV.tupP (EA.consP (EV.var rfl (.head _)) (EA.consP (EV.addIP (EV.var rfl (.head _)) EV.int) EA.nil)) rfl (Nat.le_of_ble_eq_true rfl)) EA.nil) rfl (Nat.le_of_ble_eq_true rfl)) rfl) EA.nil) (ct_Cover T) (hcI1 fun x v0 H Q h => ⟨x, (⟨false, ([(x_one, (x_one + (1 : Int)))] : (List (Int × Int)))⟩ : (Sq (Int × Int))), v0, rfl, h⟩)) (ct_Cover T) (fun _ => ⟨_, _, rfl⟩) (fun _ => ⟨_, _, rfl⟩) (fun a b x y H Q h => ⟨a, b, x, y, rfl, h⟩)) (fun x_some v_some H hp hm => ?_)
    refine s_seq ?_
    refine s_set (fun v_more => [some (.ref p_st), some v_cover, some v_pieces, some v_touched, some v_size, some v_pair, some v_one, some v_some, some v_more, none, none, none]) (fun _ => rfl) hp hx hm (EV.var rfl (.tail _ (.tail _ (.tail _ (.tail _ (.head _)))))) (fun x_more v_more H hp hm => ?_)
    refine s_seq ?_
    refine s_forM (γ := (Cover)) (ι := (V × Option V × Option V)) hp hx hm (EI.range1 (EV.callWP rfl (EA.consP EV.int EA.nil) (hcW1 fun v0 H Q h => ⟨_, (5 : Int), v0, rfl, h⟩))) (fun r c => [some (.ref p_st), some v_cover, some v_pieces, some v_touched, some v_size, some v_pair, some v_one, some v_some, some r.1, r.2.1, r.2.2, none]) (fun w10 r c => [w10, (r.1, enc c), (v_cover, enc x_cover), (v_pieces, enc x_pieces), (v_size, enc x_size), (v_pair, enc x_pair), (v_some, enc x_some)]) (fun r c => ([] : List (Addr × Mi.D))) (fun w H hp => ⟨(v_more, none, none), rfl, hp.less (pk (.head _) (pk (.tail _ (.head _)) (pk (.tail _ (.tail _ (.tail _ (.tail _ (.tail _ (.head _)))))) (pk (.tail _ (.tail _ (.tail _ (.tail _ (.tail _ (.tail _ (.head _))))))) (pk (.tail _ (.tail _ (.tail _ (.tail _ (.tail _ (.tail _ (.tail _ (.tail _ (.head _))))))))) (pk (.tail _ (.tail _ (.tail _ (.tail _ (.head _))))) (pk (.tail _ (.tail _ (.head _))) pk0)))))))⟩) (fun _ _ _ => .head _) (fun w10 r x_more v_k x_k rest H hp hm => ?_) (fun w r x_more H hp hm => ?_)
    · obtain ⟨v_more, o_k, o_near⟩ := r
      refine g_one' (fun v_k => [some (.ref p_st), some v_cover, some v_pieces, some v_touched, some v_size, some v_pair, some v_one, some v_some, some v_more, some v_k, o_near, none]) (fun _ => rfl) hp (fun hp => ?_)
      refine s_seq ?_
      refine s_set (fun v_near => [some (.ref p_st), some v_cover, some v_pieces, some v_touched, some v_size, some v_pair, some v_one, some v_some, some v_more, some v_k, some v_near, none]) (fun _ => rfl) hp hx hm (EV.addI (EV.projP (EV.var rfl (.tail _ (.tail _ (.tail _ (.tail _ (.tail _ (.tail _ (.head _)))))))) ⟨_, .inl rfl, rfl⟩) (EV.callWP rfl (EA.consP EV.int EA.nil) (hcW1 fun v0 H Q h => ⟨_, (12 : Int), v0, rfl, h⟩))) (fun x_near v_near H hp hm => ?_)
      refine s_set (fun v_more => [some (.ref p_st), some v_cover, some v_pieces, some v_touched, some v_size, some v_pair, some v_one, some v_some, some v_more, some v_k, some v_near, none]) (fun _ => rfl) hp hx hm (EV.ownCN (k := fun a b => m_Coverdd__ordd_ a b) (EV.var rfl (.tail _ (.tail _ (.tail _ (.head _))))) (EV.makeNP (EA.consP (EV.asP (EV.lstP (EA.consP (EV.tupP (EA.consP (EV.var rfl (.head _)) (EA.consP (EV.addIP (EV.var rfl (.head _)) EV.int) EA.nil)) rfl (Nat.le_of_ble_eq_true rfl)) EA.nil) rfl (Nat.le_of_ble_eq_true rfl)) rfl) EA.nil) (ct_Cover T) (hcI1 fun x v0 H Q h => ⟨x, (⟨false, ([(x_near, (x_near + (1 : Int)))] : (List (Int × Int)))⟩ : (Sq (Int × Int))), v0, rfl, h⟩)) (ct_Cover T) (fun _ => ⟨_, _, rfl⟩) (fun _ => ⟨_, _, rfl⟩) (fun a b x y H Q h => ⟨a, b, x, y, rfl, h⟩)) (fun x_more v_more H hp hm => ?_)
      exact ⟨(v_more, some v_k, some v_near), (x_more), rfl, (hp.less (pk (.tail _ (.tail _ (.tail _ (.head _)))) (pk (.head _) (pk (.tail _ (.tail _ (.tail _ (.tail _ (.tail _ (.head _)))))) (pk (.tail _ (.tail _ (.tail _ (.tail _ (.tail _ (.tail _ (.head _))))))) (pk (.tail _ (.tail _ (.tail _ (.tail _ (.tail _ (.tail _ (.tail _ (.head _)))))))) (pk (.tail _ (.tail _ (.tail _ (.tail _ (.tail _ (.tail _ (.tail _ (.tail _ (.head _))))))))) (pk (.tail _ (.tail _ (.tail _ (.tail _ (.tail _ (.tail _ (.tail _ (.tail _ (.tail _ (.head _)))))))))) pk0)))))))), hm⟩
    · obtain ⟨v_more, o_k, o_near⟩ := r
      refine s_seq ?_
      refine s_set (fun v_union_of_more => [some (.ref p_st), some v_cover, some v_pieces, some v_touched, some v_size, some v_pair, some v_one, some v_some, some v_more, o_k, o_near, some v_union_of_more]) (fun _ => rfl) hp hx hm (EV.ownRF (k := fun a b => m_Coverdd__rmuldd_ a b) (EV.var rfl (.tail _ (.tail _ (.tail _ (.tail _ (.head _)))))) (EV.var rfl (.tail _ (.head _))) (ct_Cover T) (fun _ => ⟨_, _, rfl⟩) (fun a b x y H Q h => ⟨a, b, x, y, rfl, h⟩)) (fun x_union_of_more v_union_of_more H hp hm => ?_)
      refine s_ret1 hp hx hm (EV.callN (γ := (Mi.D × Mi.D × Unit)) (f := fun g_ => m_law_same g_.1 g_.2.1) (EA.cons (EV.toDM (EV.lst (γ := (Bool × Bool × Bool × Unit)) (EA.cons (EV.ownCN (k := fun a b => m_Coverdd__ledd_ a b) (EV.var rfl (.tail _ (.tail _ (.tail _ (.head _))))) (EV.ownRF (k := fun a b => m_Coverdd__rmuldd_ a b) (EV.var rfl (.tail _ (.tail _ (.tail _ (.tail _ (.tail _ (.head _))))))) (EV.var rfl (.tail _ (.tail _ (.tail _ (.tail _ (.tail _ (.tail _ (.tail _ (.head _))))))))) (ct_Cover T) (fun _ => ⟨_, _, rfl⟩) (fun a b x y H Q h => ⟨a, b, x, y, rfl, h⟩)) (ct_Cover T) (fun _ => ⟨_, _, rfl⟩) (fun _ => ⟨_, _, rfl⟩) (fun a b x y H Q h => ⟨a, b, x, y, rfl, h⟩)) (EA.cons (EV.ownCN (k := fun a b => m_Coverdd__ledd_ a b) (EV.var rfl (.tail _ (.tail _ (.tail _ (.head _))))) (EV.var rfl (.head _)) (ct_Cover T) (fun _ => ⟨_, _, rfl⟩) (fun _ => ⟨_, _, rfl⟩) (fun a b x y H Q h => ⟨a, b, x, y, rfl, h⟩)) (EA.cons (EV.ownCN (k := fun a b => m_Coverdd__ledd_ a b) (EV.ownRF (k := fun a b => m_Coverdd__rmuldd_ a b) (EV.var rfl (.tail _ (.tail _ (.tail _ (.tail _ (.tail _ (.head _))))))) (EV.var rfl (.tail _ (.tail _ (.tail _ (.tail _ (.head _)))))) (ct_Cover T) (fun _ => ⟨_, _, rfl⟩) (fun a b x y H Q h => ⟨a, b, x, y, rfl, h⟩)) (EV.var rfl (.head _)) (ct_Cover T) (fun _ => ⟨_, _, rfl⟩) (fun _ => ⟨_, _, rfl⟩) (fun a b x y H Q h => ⟨a, b, x, y, rfl, h⟩)) EA.nil))) (f := fun g_ => ([g_.1, g_.2.1, g_.2.2.1] : (List Bool))) (fun _ => rfl) (fun _ => by simp))) (EA.cons (EV.toD (EV.lstP (EA.consP EV.bl (EA.consP EV.bl (EA.consP EV.bl EA.nil))) rfl (Nat.le_of_ble_eq_true rfl))) EA.nil)) (fun g_ => hcN2 fun v0 v1 H Q h => ⟨g_.1, g_.2.1, v0, v1, rfl, h⟩)) (fun a v H hp hm => hQ a v H hp.fin hm)
noncomputable def m_law_pieces (x_cover : Cover) (x_pairs : (List (Int × Int))) (x_size : Int) : M Bool := mb (mb (mr x_cover) fun a => mr a.spans) fun x_spans => mb (m_law_touched x_pairs x_size) fun x_touched => mb (mb (mr x_cover) fun a => mb (mr x_size) fun b => mno (m_Coverdd__floordivdd_ a b)) fun x_pieces => mite (mb (mb (mb (mb (mr x_pieces) fun a => mr a.spans) fun a => mb (mb (mr x_touched) fun a => mb (mr ()) fun g => mr (a, g)) fun g => mr (a, g)) fun g_ => (m_law_exact g_.1 g_.2.1)) fun a => mr (!a)) ((mr false)) (mb (mb (mr x_size) fun a => mb (mr x_pieces) fun b => mno (m_Coverdd__rmuldd_ b a)) fun x_wide => mite (mb (mb (mb (mb (mr x_wide) fun a => mr a.spans) fun a => mb (mb (mb (mr x_touched) (compM (fun _ => mr true) (fun x_pair => (mb (mb (mmulI x_pair.1 x_size) fun a => mb (mb (mmulI x_pair.2 x_size) fun a => mb (mr ()) fun g => mr (a, g)) fun g => mr (a, g)) fun g_ => mr (g_.1, g_.2.1))))) fun a => mb (mr ()) fun g => mr (a, g)) fun g => mr (a, g)) fun g_ => (m_law_exact g_.1 g_.2.1)) fun a => mr (!a)) ((mr false)) (mite (mb (mb (mb (mb (mb (mb (mb (mb (mr x_pieces) fun a => mb (mr x_size) fun b => mno (m_Coverdd__muldd_ a b)) fun a => mr a.spans) fun a => mb (mb (mb (mb (mr x_wide) fun a => mb (mr x_size) fun b => mno (m_Coverdd__floordivdd_ a b)) fun a => mr a.spans) fun a => mb (mr ()) fun g => mr (a, g)) fun g => mr (a, g)) fun g_ => mr ([g_.1, g_.2.1] : (List (List (Int × Int))))) fun a => mr (enc a : Mi.D)) fun a => mb (mb (mb (mb (mb (mb (mr x_wide) fun a => mr a.spans) fun a => mb (mb (mb (mr x_pieces) fun a => mr a.spans) fun a => mb (mr ()) fun g => mr (a, g)) fun g => mr (a, g)) fun g_ => mr ([g_.1, g_.2.1] : (List (List (Int × Int))))) fun a => mr (enc a : Mi.D)) fun a => mb (mr ()) fun g => mr (a, g)) fun g => mr (a, g)) fun g_ => (m_law_same g_.1 g_.2.1)) fun a => mr (!a)) ((mr false)) (mite (mb (mb (mb (mb (mb (mb (mb (mr x_cover) fun a => mb (mr x_wide) fun b => m_Coverdd__ledd_ a b) fun a => mb (mb (mb (mr x_pieces) fun a => mb (mb (mr x_wide) fun a => mb (mr x_size) fun b => mno (m_Coverdd__floordivdd_ a b)) fun b => m_Coverdd__eqdd_ a b) fun a => mb (mr ()) fun g => mr (a, g)) fun g => mr (a, g)) fun g_ => mr ([g_.1, g_.2.1] : (List Bool))) fun a => mr (enc a : Mi.D)) fun a => mb (mb (mr (enc ([true, true] : (List Bool)) : Mi.D)) fun a => mb (mr ()) fun g => mr (a, g)) fun g => mr (a, g)) fun g_ => (m_law_same g_.1 g_.2.1)) fun a => mr (!a)) ((mr false)) (mite (mb (mb (mb (mb (mb (mb (mr x_cover) fun a => mb (mr x_size) fun b => mno (m_Coverdd__moddd_ a b)) fun a => mr a.spans) fun a => mr (enc a : Mi.D)) fun a => mb (mb (mb (m_law_remainders x_pairs x_size) fun a => mr (enc a : Mi.D)) fun a => mb (mr ()) fun g => mr (a, g)) fun g => mr (a, g)) fun g_ => (m_law_same g_.1 g_.2.1)) fun a => mr (!a)) ((mr false)) ((mand (m_law_least x_cover x_pieces x_touched x_size) (mb (mb (mb (mb (mr x_cover) fun a => mr a.spans) fun a => mr (enc a : Mi.D)) fun a => mb (mb (mr (enc x_spans : Mi.D)) fun a => mb (mr ()) fun g => mr (a, g)) fun g => mr (a, g)) fun g_ => (m_law_same g_.1 g_.2.1))))))))
def sp_law_pieces (K : PySem.W.Frag) (C : CT) : Sp := fun vs H Q E => ∃ (p_st : Addr) (x_cover : Cover) (x_pairs : (List (Int × Int))) (x_size : Int) (v_cover v_pairs v_size : V), vs = [.ref p_st, v_cover, v_pairs, v_size] ∧ CallN K C (RS p_st) [(v_cover, enc x_cover), (v_pairs, enc x_pairs), (v_size, enc x_size)] (m_law_pieces x_cover x_pairs x_size) H Q
theorem ok_law_pieces (T : Txt P w K mg)  : FnOk P w K mg base CX0 (10) T.a_law_pieces T.d_law_pieces ["state", "cover", "pairs", "size"] (sp_law_pieces K (ct T)) := by
  refine T.F_law_pieces.ok sc_law_pieces (fun vs H Q E h => by obtain ⟨_, _, _, _, _, _, _, rfl, _⟩ := h; rfl) (fun cdv A outer s H vs Q E hr h => ?_)
  have hu := hu_of hr
  have hu64 := hr.units
  refine ⟨_, (pss_cons (ps_set (i := 4) sc_law_pieces.nd rfl (by first | exact Or.inl rfl | exact Or.inr rfl) (pe_callTy (call_listIt (by rfl) T.it_Cover (ok_Coverdd__iterdd_ T) T.b_Coverdd__iterdd_ pass0 (hr.mono (by first | decide | omega))) (by rfl) T.z_list (by decide +kernel) (pa_cons (pv 1) pa_nil)))
      (pss_cons (ps_set (i := 5) sc_law_pieces.nd rfl (by first | exact Or.inl rfl | exact Or.inr rfl) (pe_call (ok_law_touched T) (hr.mono (by first | decide | omega)) (by rfl) T.m_law_touched T.F_law_touched.kp T.b_law_touched .nil pass0 (pa_cons (pv 2) (pa_cons (pv 3) pa_nil))))
      (pss_cons (ps_set (i := 6) sc_law_pieces.nd rfl (by first | exact Or.inl rfl | exact Or.inr rfl) (pe_opS (op_ownI T.ot_Coverdd__floordivdd_ (ok_Coverdd__floordivdd_ T) (hr.mono (by first | decide | omega)) T.b_Coverdd__floordivdd_ (passAll passN)) (pv 1) (pv 3)))
      (pss_cons (ps_if (pt_not (pt_val (pe_call (ok_law_exact T) (hr.mono (by first | decide | omega)) (by rfl) T.m_law_exact T.F_law_exact.kp T.b_law_exact .nil pass0 (pa_cons (pe_callTy (call_listIt (by rfl) T.it_Cover (ok_Coverdd__iterdd_ T) T.b_Coverdd__iterdd_ pass0 (hr.mono (by first | decide | omega))) (by rfl) T.z_list (by decide +kernel) (pa_cons (pv 6) pa_nil)) (pa_cons (pv 5) pa_nil))))) (pss_one (ps_ret pe_bl)) pss_nil)
      (pss_cons (ps_set (i := 7) sc_law_pieces.nd rfl (by first | exact Or.inl rfl | exact Or.inr rfl) (pe_opS (op_ownR T.or_Coverdd__rmuldd_ (ok_Coverdd__rmuldd_ T) (hr.mono (by first | decide | omega)) T.b_Coverdd__rmuldd_ (passAll passN)) (pv 3) (pv 6)))
      (pss_cons (ps_if (pt_not (pt_val (pe_call (ok_law_exact T) (hr.mono (by first | decide | omega)) (by rfl) T.m_law_exact T.F_law_exact.kp T.b_law_exact .nil pass0 (pa_cons (pe_callTy (call_listIt (by rfl) T.it_Cover (ok_Coverdd__iterdd_ T) T.b_Coverdd__iterdd_ pass0 (hr.mono (by first | decide | omega))) (by rfl) T.z_list (by decide +kernel) (pa_cons (pv 7) pa_nil)) (pa_cons (pe_lc (own := [("pair", 8)]) (g := gName 8)  (by rfl) sc_law_pieces.nd (pi_list (pv 5)) (blkOk_by (own := [("pair", 8)]) (N := ["state", "cover", "pairs", "size", "spans", "touched", "pieces", "wide", "pair"]) (sc := defScope s_law_pieces) (by decide +kernel)) (fun _ _ _ _ _ => pg_name (i := 8) sc_law_pieces.nd rfl (Or.inl rfl)) (fun _ _ _ _ _ => pts_nil) (fun _ _ _ _ _ => (pe_tup (pa_cons (pe_op op_times (pe_ix (ix_anyK (K := K) rfl hu) (pv 8) pe_int (fun _ _ => rfl)) (pv 3)) (pa_cons (pe_op op_times (pe_ix (ix_anyK (K := K) rfl hu) (pv 8) pe_int (fun _ _ => rfl)) (pv 3)) pa_nil))))) pa_nil))))) (pss_one (ps_ret pe_bl)) pss_nil)
      (pss_cons (ps_if (pt_not (pt_val (pe_call (same_ok (same_all T 8)) (hr.mono (by first | decide | omega)) (by rfl) T.m_law_same T.F_law_same.kp T.b_law_same .nil pass0 (pa_cons (pe_lst (pa_cons (pe_callTy (call_listIt (by rfl) T.it_Cover (ok_Coverdd__iterdd_ T) T.b_Coverdd__iterdd_ pass0 (hr.mono (by first | decide | omega))) (by rfl) T.z_list (by decide +kernel) (pa_cons (pe_opS (op_ownI T.ot_Coverdd__muldd_ (ok_Coverdd__muldd_ T) (hr.mono (by first | decide | omega)) T.b_Coverdd__muldd_ (passAll passN)) (pv 6) (pv 3)) pa_nil)) (pa_cons (pe_callTy (call_listIt (by rfl) T.it_Cover (ok_Coverdd__iterdd_ T) T.b_Coverdd__iterdd_ pass0 (hr.mono (by first | decide | omega))) (by rfl) T.z_list (by decide +kernel) (pa_cons (pe_opS (op_ownI T.ot_Coverdd__floordivdd_ (ok_Coverdd__floordivdd_ T) (hr.mono (by first | decide | omega)) T.b_Coverdd__floordivdd_ (passAll passN)) (pv 7) (pv 3)) pa_nil)) pa_nil))) (pa_cons (pe_lst (pa_cons (pe_callTy (call_listIt (by rfl) T.it_Cover (ok_Coverdd__iterdd_ T) T.b_Coverdd__iterdd_ pass0 (hr.mono (by first | decide | omega))) (by rfl) T.z_list (by decide +kernel) (pa_cons (pv 7) pa_nil)) (pa_cons (pe_callTy (call_listIt (by rfl) T.it_Cover (ok_Coverdd__iterdd_ T) T.b_Coverdd__iterdd_ pass0 (hr.mono (by first | decide | omega))) (by rfl) T.z_list (by decide +kernel) (pa_cons (pv 6) pa_nil)) pa_nil))) pa_nil))))) (pss_one (ps_ret pe_bl)) pss_nil)
      (pss_cons (ps_if (pt_not (pt_val (pe_call (same_ok (same_all T 8)) (hr.mono (by first | decide | omega)) (by rfl) T.m_law_same T.F_law_same.kp T.b_law_same .nil pass0 (pa_cons (pe_lst (pa_cons (pe_cmpS (op_ownCmp rfl (Nat.lt_of_le_of_lt (Nat.le_add_right _ _) hu64) T.om_Coverdd__ledd_ T.nf_Cover (ok_Coverdd__ledd_ T) (hr.mono (by first | decide | omega)) T.b_Coverdd__ledd_ (passAll pass0)) (pv 1) (pv 7) (nomark _)) (pa_cons (pe_cmpS (op_ownCmp rfl (Nat.lt_of_le_of_lt (Nat.le_add_right _ _) hu64) T.om_Coverdd__eqdd_ T.nf_Cover (ok_Coverdd__eqdd_ T) (hr.mono (by first | decide | omega)) T.b_Coverdd__eqdd_ (passAll pass0)) (pv 6) (pe_opS (op_ownI T.ot_Coverdd__floordivdd_ (ok_Coverdd__floordivdd_ T) (hr.mono (by first | decide | omega)) T.b_Coverdd__floordivdd_ (passAll passN)) (pv 7) (pv 3)) (nomark _)) pa_nil))) (pa_cons (pe_lst (pa_cons pe_bl (pa_cons pe_bl pa_nil))) pa_nil))))) (pss_one (ps_ret pe_bl)) pss_nil)
      (pss_cons (ps_if (pt_not (pt_val (pe_call (same_ok (same_all T 8)) (hr.mono (by first | decide | omega)) (by rfl) T.m_law_same T.F_law_same.kp T.b_law_same .nil pass0 (pa_cons (pe_callTy (call_listIt (by rfl) T.it_Cover (ok_Coverdd__iterdd_ T) T.b_Coverdd__iterdd_ pass0 (hr.mono (by first | decide | omega))) (by rfl) T.z_list (by decide +kernel) (pa_cons (pe_opS (op_ownI T.ot_Coverdd__moddd_ (ok_Coverdd__moddd_ T) (hr.mono (by first | decide | omega)) T.b_Coverdd__moddd_ (passAll passN)) (pv 1) (pv 3)) pa_nil)) (pa_cons (pe_call (ok_law_remainders T) (hr.mono (by first | decide | omega)) (by rfl) T.m_law_remainders T.F_law_remainders.kp T.b_law_remainders .nil pass0 (pa_cons (pv 2) (pa_cons (pv 3) pa_nil))) pa_nil))))) (pss_one (ps_ret pe_bl)) pss_nil)
      (pss_one (ps_ret (pe_and (pe_call (ok_law_least T) (hr.mono (by first | decide | omega)) (by rfl) T.m_law_least T.F_law_least.kp T.b_law_least .nil pass0 (pa_cons (pv 0) (pa_cons (pv 1) (pa_cons (pv 6) (pa_cons (pv 5) (pa_cons (pv 3) pa_nil)))))) (pe_one (pe_call (same_ok (same_all T 8)) (hr.mono (by first | decide | omega)) (by rfl) T.m_law_same T.F_law_same.kp T.b_law_same .nil pass0 (pa_cons (pe_callTy (call_listIt (by rfl) T.it_Cover (ok_Coverdd__iterdd_ T) T.b_Coverdd__iterdd_ pass0 (hr.mono (by first | decide | omega))) (by rfl) T.z_list (by decide +kernel) (pa_cons (pv 1) pa_nil)) (pa_cons (pv 4) pa_nil)))))))))))))))), ?_⟩
  obtain ⟨p_st, x_cover, x_pairs, x_size, v_cover, v_pairs, v_size, rfl, G0, F0, post, px, hp, hm, hQ⟩ := h
  have hx := hx0 (K := K) (C := ct T) (R := RS p_st) (G0 := G0) (F0 := F0) (px := px)
  walk_at "start"
  unfold m_law_pieces at hm
  refine s_seq ?_
  refine s_set (fun v_spans => [some (.ref p_st), some v_cover, some v_pairs, some v_size, some v_spans, none, none, none, none]) (fun _ => rfl) hp hx hm (EV.listIt (fun (a : Cover) => a.spans) (EV.var rfl (.head _)) (ct_Cover T) fun _ => ⟨_, _, rfl, rfl⟩) (fun x_spans v_spans H hp hm => ?_)
  refine s_seq ?_
  refine s_set (fun v_touched => [some (.ref p_st), some v_cover, some v_pairs, some v_size, some v_spans, some v_touched, none, none, none]) (fun _ => rfl) hp hx hm (EV.callNP (EA.consP (EV.var rfl (.tail _ (.tail _ (.head _)))) (EA.consP (EV.var rfl (.tail _ (.tail _ (.tail _ (.head _))))) EA.nil)) (hcN2 fun v0 v1 H Q h => ⟨x_pairs, x_size, v0, v1, rfl, h⟩)) (fun x_touched v_touched H hp hm => ?_)
  refine s_seq ?_
  refine s_set (fun v_pieces => [some (.ref p_st), some v_cover, some v_pairs, some v_size, some v_spans, some v_touched, some v_pieces, none, none]) (fun _ => rfl) hp hx hm (EV.ownIF (k := fun a b => m_Coverdd__floordivdd_ a b) (EV.var rfl (.tail _ (.tail _ (.head _)))) (EV.var rfl (.tail _ (.tail _ (.tail _ (.tail _ (.head _)))))) (ct_Cover T) (fun _ => ⟨_, _, rfl⟩) (fun a b x y H Q h => ⟨a, b, x, y, rfl, h⟩)) (fun x_pieces v_pieces H hp hm => ?_)
  refine s_seq ?_
  refine s_if hp hx hm (ET.not (ET.test (EV.callN (γ := ((List (Int × Int)) × (List (Int × Int)) × Unit)) (f := fun g_ => m_law_exact g_.1 g_.2.1) (EA.cons (EV.listIt (fun (a : Cover) => a.spans) (EV.var rfl (.head _)) (ct_Cover T) fun _ => ⟨_, _, rfl, rfl⟩) (EA.cons (EV.var rfl (.tail _ (.head _))) EA.nil)) (fun g_ => hcN2 fun v0 v1 H Q h => ⟨g_.1, g_.2.1, v0, v1, rfl, h⟩)))) (fun H hp hm => ?_) (fun H hp hm => ?_)
  · refine s_ret1 hp hx hm EV.bl (fun a v H hp hm => hQ a v H hp.fin hm)
  · refine s_next ?_
    refine s_seq ?_
    refine s_set (fun v_wide => [some (.ref p_st), some v_cover, some v_pairs, some v_size, some v_spans, some v_touched, some v_pieces, some v_wide, none]) (fun _ => rfl) hp hx hm (EV.ownRF (k := fun a b => m_Coverdd__rmuldd_ a b) (EV.var rfl (.tail _ (.tail _ (.tail _ (.tail _ (.tail _ (.head _))))))) (EV.var rfl (.head _)) (ct_Cover T) (fun _ => ⟨_, _, rfl⟩) (fun a b x y H Q h => ⟨a, b, x, y, rfl, h⟩)) (fun x_wide v_wide H hp hm => ?_)
    refine s_seq ?_
    refine s_if hp hx hm (ET.not (ET.test (EV.callN (γ := ((List (Int × Int)) × (List (Int × Int)) × Unit)) (f := fun g_ => m_law_exact g_.1 g_.2.1) (EA.cons (EV.listIt (fun (a : Cover) => a.spans) (EV.var rfl (.head _)) (ct_Cover T) fun _ => ⟨_, _, rfl, rfl⟩) (EA.cons (EV.lc1 (EI.list (EV.var rfl (.tail _ (.tail _ (.head _))))) (fun _ => rfl) (fun x_pair v_pair q_ => ET.yes) (fun x_pair v_pair q_ => (EV.tup (γ := (Int × Int × Unit)) (EA.cons (EV.mulIP (EV.projP (EV.var rfl (.head _)) ⟨_, .inl rfl, rfl⟩) (EV.var rfl (.tail _ (.tail _ (.tail _ (.tail _ (.tail _ (.tail _ (.tail _ (.head _)))))))))) (EA.cons (EV.mulIP (EV.projP (EV.var rfl (.head _)) ⟨_, .inl rfl, rfl⟩) (EV.var rfl (.tail _ (.tail _ (.tail _ (.tail _ (.tail _ (.tail _ (.tail _ (.head _)))))))))) EA.nil)) (f := fun g_ => (g_.1, g_.2.1)) (fun _ => rfl) (fun _ => by simp)))) EA.nil)) (fun g_ => hcN2 fun v0 v1 H Q h => ⟨g_.1, g_.2.1, v0, v1, rfl, h⟩)))) (fun H hp hm => ?_) (fun H hp hm => ?_)
    · refine s_ret1 hp hx hm EV.bl (fun a v H hp hm => hQ a v H hp.fin hm)
    · refine s_next ?_
      refine s_seq ?_
      refine s_if hp hx hm (ET.not (ET.test (EV.callN (γ := (Mi.D × Mi.D × Unit)) (f := fun g_ => m_law_same g_.1 g_.2.1) (EA.cons (EV.toDM (EV.lst (γ := ((List (Int × Int)) × (List (Int × Int)) × Unit)) (EA.cons (EV.listIt (fun (a : Cover) => a.spans) (EV.ownIF (k := fun a b => m_Coverdd__muldd_ a b) (EV.var rfl (.tail _ (.head _))) (EV.var rfl (.tail _ (.tail _ (.tail _ (.tail _ (.tail _ (.tail _ (.head _)))))))) (ct_Cover T) (fun _ => ⟨_, _, rfl⟩) (fun a b x y H Q h => ⟨a, b, x, y, rfl, h⟩)) (ct_Cover T) fun _ => ⟨_, _, rfl, rfl⟩) (EA.cons (EV.listIt (fun (a : Cover) => a.spans) (EV.ownIF (k := fun a b => m_Coverdd__floordivdd_ a b) (EV.var rfl (.head _)) (EV.var rfl (.tail _ (.tail _ (.tail _ (.tail _ (.tail _ (.tail _ (.head _)))))))) (ct_Cover T) (fun _ => ⟨_, _, rfl⟩) (fun a b x y H Q h => ⟨a, b, x, y, rfl, h⟩)) (ct_Cover T) fun _ => ⟨_, _, rfl, rfl⟩) EA.nil)) (f := fun g_ => ([g_.1, g_.2.1] : (List (List (Int × Int))))) (fun _ => rfl) (fun _ => by simp))) (EA.cons (EV.toDM (EV.lst (γ := ((List (Int × Int)) × (List (Int × Int)) × Unit)) (EA.cons (EV.listIt (fun (a : Cover) => a.spans) (EV.var rfl (.head _)) (ct_Cover T) fun _ => ⟨_, _, rfl, rfl⟩) (EA.cons (EV.listIt (fun (a : Cover) => a.spans) (EV.var rfl (.tail _ (.head _))) (ct_Cover T) fun _ => ⟨_, _, rfl, rfl⟩) EA.nil)) (f := fun g_ => ([g_.1, g_.2.1] : (List (List (Int × Int))))) (fun _ => rfl) (fun _ => by simp))) EA.nil)) (fun g_ => hcN2 fun v0 v1 H Q h => ⟨g_.1, g_.2.1, v0, v1, rfl, h⟩)))) (fun H hp hm => ?_) (fun H hp hm => ?_)
      · refine s_ret1 hp hx hm EV.bl (fun a v H hp hm => hQ a v H hp.fin hm)
      · refine s_next ?_
        refine s_seq ?_
        refine s_if hp hx hm (ET.not (ET.test (EV.callN (γ := (Mi.D × Mi.D × Unit)) (f := fun g_ => m_law_same g_.1 g_.2.1) (EA.cons (EV.toDM (EV.lst (γ := (Bool × Bool × Unit)) (EA.cons (EV.ownCN (k := fun a b => m_Coverdd__ledd_ a b) (EV.var rfl (.tail _ (.tail _ (.tail _ (.tail _ (.head _)))))) (EV.var rfl (.head _)) (ct_Cover T) (fun _ => ⟨_, _, rfl⟩) (fun _ => ⟨_, _, rfl⟩) (fun a b x y H Q h => ⟨a, b, x, y, rfl, h⟩)) (EA.cons (EV.ownCN (k := fun a b => m_Coverdd__eqdd_ a b) (EV.var rfl (.tail _ (.head _))) (EV.ownIF (k := fun a b => m_Coverdd__floordivdd_ a b) (EV.var rfl (.head _)) (EV.var rfl (.tail _ (.tail _ (.tail _ (.tail _ (.tail _ (.tail _ (.head _)))))))) (ct_Cover T) (fun _ => ⟨_, _, rfl⟩) (fun a b x y H Q h => ⟨a, b, x, y, rfl, h⟩)) (ct_Cover T) (fun _ => ⟨_, _, rfl⟩) (fun _ => ⟨_, _, rfl⟩) (fun a b x y H Q h => ⟨a, b, x, y, rfl, h⟩)) EA.nil)) (f := fun g_ => ([g_.1, g_.2.1] : (List Bool))) (fun _ => rfl) (fun _ => by simp))) (EA.cons (EV.toD (EV.lstP (EA.consP EV.bl (EA.consP EV.bl EA.nil)) rfl (Nat.le_of_ble_eq_true rfl))) EA.nil)) (fun g_ => hcN2 fun v0 v1 H Q h => ⟨g_.1, g_.2.1, v0, v1, rfl, h⟩)))) (fun H hp hm => ?_) (fun H hp hm => ?_)
        · refine s_ret1 hp hx hm EV.bl (fun a v H hp hm => hQ a v H hp.fin hm)
        · refine s_next ?_
          refine s_seq ?_
          refine s_if hp hx hm (ET.not (ET.test (EV.callN (γ := (Mi.D × Mi.D × Unit)) (f := fun g_ => m_law_same g_.1 g_.2.1) (EA.cons (EV.toDM (EV.listIt (fun (a : Cover) => a.spans) (EV.ownIF (k := fun a b => m_Coverdd__moddd_ a b) (EV.var rfl (.tail _ (.tail _ (.tail _ (.tail _ (.head _)))))) (EV.var rfl (.tail _ (.tail _ (.tail _ (.tail _ (.tail _ (.tail _ (.head _)))))))) (ct_Cover T) (fun _ => ⟨_, _, rfl⟩) (fun a b x y H Q h => ⟨a, b, x, y, rfl, h⟩)) (ct_Cover T) fun _ => ⟨_, _, rfl, rfl⟩)) (EA.cons (EV.toDM (EV.callNP (EA.consP (EV.var rfl (.tail _ (.tail _ (.tail _ (.tail _ (.tail _ (.head _))))))) (EA.consP (EV.var rfl (.tail _ (.tail _ (.tail _ (.tail _ (.tail _ (.tail _ (.head _)))))))) EA.nil)) (hcN2 fun v0 v1 H Q h => ⟨x_pairs, x_size, v0, v1, rfl, h⟩))) EA.nil)) (fun g_ => hcN2 fun v0 v1 H Q h => ⟨g_.1, g_.2.1, v0, v1, rfl, h⟩)))) (fun H hp hm => ?_) (fun H hp hm => ?_)
          · refine s_ret1 hp hx hm EV.bl (fun a v H hp hm => hQ a v H hp.fin hm)
          · refine s_next ?_
            refine s_ret1 hp hx hm (EV.andV (EV.callWP rfl (EA.consP (EV.var rfl (.tail _ (.tail _ (.tail _ (.tail _ (.head _)))))) (EA.consP (EV.var rfl (.tail _ (.head _))) (EA.consP (EV.var rfl (.tail _ (.tail _ (.head _)))) (EA.consP (EV.var rfl (.tail _ (.tail _ (.tail _ (.tail _ (.tail _ (.tail _ (.head _)))))))) EA.nil)))) (hcW4 fun v0 v1 v2 v3 H Q h => ⟨_, x_cover, x_pieces, x_touched, x_size, v0, v1, v2, v3, rfl, h⟩)) (EV.callN (γ := (Mi.D × Mi.D × Unit)) (f := fun g_ => m_law_same g_.1 g_.2.1) (EA.cons (EV.toDM (EV.listIt (fun (a : Cover) => a.spans) (EV.var rfl (.tail _ (.tail _ (.tail _ (.tail _ (.head _)))))) (ct_Cover T) fun _ => ⟨_, _, rfl, rfl⟩)) (EA.cons (EV.toD (EV.var rfl (.tail _ (.tail _ (.tail _ (.head _)))))) EA.nil)) (fun g_ => hcN2 fun v0 v1 H Q h => ⟨g_.1, g_.2.1, v0, v1, rfl, h⟩))) (fun a v H hp hm => hQ a v H hp.fin hm)
noncomputable def m_law : M Bool := mb (m_law_pairs (10 : Int)) fun x_pairs => mb (m_Cover_init (⟨false, x_pairs⟩ : (Sq (Int × Int)))) fun x_cover => mite (mb (mb (mb (mb (mr x_cover) fun a => mr a.spans) fun a => mb (mb (mr x_pairs) fun a => mb (mr ()) fun g => mr (a, g)) fun g => mr (a, g)) fun g_ => (m_law_exact g_.1 g_.2.1)) fun a => mr (!a)) ((mr false)) (mb (mb (mb (mr (1 : Int)) fun a => mb (mb (mb (mr (1 : Int)) fun a => mb (m_law_draw (12 : Int)) fun b => mr (a + b)) fun a => mb (mb (mb (mr (1 : Int)) fun a => mb (m_law_draw (1000000000 : Int)) fun b => mr (a + b)) fun a => mb (mb (mb (mr (1000000000000000000000000000000 : Int)) fun a => mb (m_law_draw (51 : Int)) fun b => mr (a + b)) fun a => mb (mr ()) fun g => mr (a, g)) fun g => mr (a, g)) fun g => mr (a, g)) fun g => mr (a, g)) fun g_ => mr ([g_.1, g_.2.1, g_.2.2.1, g_.2.2.2.1] : (List Int))) fun x_sizes => mb (mite (mr (decide ((0 : Int) < ((x_pairs).length : Int)))) (mb (mb (mr x_pairs) fun a => mb (m_law_draw ((x_pairs).length : Int)) fun b => mix a b) fun x_pair => mb (mr ([(x_pair.2 - x_pair.1), x_pair.1] : (List Int))) fun xs_ => mb (forM xs_ (x_sizes) (fun x_size c_ => ((fun x_sizes => mb (mite (mr (decide ((0 : Int) < x_size))) (mb (mr x_size) fun a_ => mb (mpush x_sizes a_) fun x_sizes => mr (x_sizes)) (mr (x_sizes)) : M ((List Int))) fun c_ => ((fun x_sizes => mb (mr (x_size + (1 : Int))) fun a_ => mb (mpush x_sizes a_) fun x_sizes => mr (x_sizes)) c_)) c_))) fun c_ => ((fun x_sizes => mr (x_sizes)) c_)) (mr (x_sizes)) : M ((List Int))) fun c_ => ((fun x_sizes => mb (mr x_sizes) fun xs_ => mb (forR (ρ := Bool) xs_ () (fun x_size c_ => (mite (mb (m_law_pieces x_cover x_pairs x_size) fun a => mr (!a)) (mb (mr false) fun a => mr (Stp.ret a)) (mr (Stp.next ()))))) fun o_ => match o_ with | .inl c_ => (mb (mb (mb (mr (0 : Int)) fun a => mb (mb (mb (mr ((0 : Int) - (1 : Int))) fun a => mb (m_law_draw (1000000000 : Int)) fun b => mr (a - b)) fun a => mb (mr ()) fun g => mr (a, g)) fun g => mr (a, g)) fun g_ => mr ([g_.1, g_.2.1] : (List Int))) fun xs_ => mb (forR (ρ := Bool) xs_ () (fun x_low c_ => (mb (mrange 0 (4 : Int)) fun xs_ => mb (forR (ρ := Bool) xs_ () (fun x_way c_ => (mite (mb (mb (mb (mb (mb (mb (m_law_refused x_cover x_way x_low) fun a => mb (mb (mb (mb (m_Cover_init (⟨true, []⟩ : (Sq (Int × Int)))) fun a => mb (mb (mr x_way) fun a => mb (mb (mr x_low) fun a => mb (mr ()) fun g => mr (a, g)) fun g => mr (a, g)) fun g => mr (a, g)) fun g_ => (m_law_refused g_.1 g_.2.1 g_.2.2.1)) fun a => mb (mr ()) fun g => mr (a, g)) fun g => mr (a, g)) fun g_ => mr ([g_.1, g_.2.1] : (List Mi.D))) fun a => mr (enc a : Mi.D)) fun a => mb (mb (mr (enc ([(⟨[x_low]⟩ : (Tp Int)), (⟨[x_low]⟩ : (Tp Int))] : (List (Tp Int))) : Mi.D)) fun a => mb (mr ()) fun g => mr (a, g)) fun g => mr (a, g)) fun g_ => (m_law_same g_.1 g_.2.1)) fun a => mr (!a)) (mb (mr false) fun a => mr (Stp.ret a)) (mr (Stp.next ()))))) fun o_ => match o_ with | .inl c_ => (mr (Stp.next ())) | .inr r_ => mr (Stp.ret r_)))) fun o_ => match o_ with | .inl c_ => ((mb (mb (mr x_cover) fun a => mb (mb (mr x_pairs) fun a => mb (mb (mix x_sizes (1 : Int)) fun a => mb (mr ()) fun g => mr (a, g)) fun g => mr (a, g)) fun g => mr (a, g)) fun g_ => (m_law_pieces g_.1 g_.2.1 g_.2.2.1))) | .inr r_ => mr r_) | .inr r_ => mr r_) c_))
/-! covers: lists of spans as sets of places -/
def Has (l : List (Int × Int)) (p : Int) : Prop := ∃ s ∈ l, s.1 ≤ p ∧ p < s.2
def Gd : Int → List (Int × Int) → Prop
  | _, [] => True
  | b, s :: t => b < s.1 ∧ s.1 < s.2 ∧ Gd s.2 t
def addS : List (Int × Int) → Int → Int → List (Int × Int)
  | [], a, b => [(a, b)]
  | s :: t, a, b => if s.2 < a then s :: addS t a b else if b < s.1 then (a, b) :: s :: t else addS t (if s.1 < a then s.1 else a) (if b < s.2 then s.2 else b)
def wsp (l : List (Int × Int)) (a b : Int) : List (Int × Int) := if a = b then l else addS l a b
def covF (ps : List (Int × Int)) : List (Int × Int) := ps.foldl (fun f p => wsp f p.1 p.2) []
def Prs (ps : List (Int × Int)) : Prop := ∀ p ∈ ps, 0 ≤ p.1 ∧ p.1 ≤ p.2
theorem has_nil {p : Int} : Has [] p ↔ False := ⟨fun ⟨_, h, _⟩ => (by cases h), False.elim⟩
theorem has_cons {s : Int × Int} {t : List (Int × Int)} {p : Int} : Has (s :: t) p ↔ (s.1 ≤ p ∧ p < s.2) ∨ Has t p := by
  constructor
  · rintro ⟨u, h, q⟩
    rcases List.mem_cons.mp h with rfl | h
    · exact .inl q
    · exact .inr ⟨u, h, q⟩
  · rintro (q | ⟨u, h, q⟩)
    · exact ⟨s, List.mem_cons_self, q⟩
    · exact ⟨u, List.mem_cons_of_mem _ h, q⟩
theorem gd_mono {k m : Int} {l : List (Int × Int)} (h : Gd k l) (q : m ≤ k) : Gd m l := by
  cases l with
  | nil => trivial
  | cons s t => exact ⟨by have := h.1; omega, h.2⟩
theorem gd_has {k : Int} {l : List (Int × Int)} {p : Int} (h : Gd k l) (q : Has l p) : k < p := by
  induction l generalizing k with
  | nil => exact (has_nil.mp q).elim
  | cons s t ih =>
    obtain ⟨h1, h2, h3⟩ := h
    rcases has_cons.mp q with q | q
    · omega
    · have := ih h3 q; omega
theorem gd_add {k : Int} {l : List (Int × Int)} {a b : Int} (h : Gd k l) (ka : k < a) (ab : a < b) : Gd k (addS l a b) := by
  induction l generalizing k a b with
  | nil => exact ⟨ka, ab, trivial⟩
  | cons s t ih =>
    obtain ⟨h1, h2, h3⟩ := h
    unfold addS
    split
    · exact ⟨h1, h2, ih h3 (by assumption) ab⟩
    · split
      · exact ⟨ka, ab, by assumption, h2, h3⟩
      · refine ih (gd_mono h3 (by omega)) ?_ ?_ <;> repeat' split
        all_goals omega
theorem has_add {k : Int} {l : List (Int × Int)} {a b p : Int} (h : Gd k l) (ab : a < b) : Has (addS l a b) p ↔ Has l p ∨ (a ≤ p ∧ p < b) := by
  induction l generalizing k a b with
  | nil => unfold addS; rw [has_cons, has_nil]; simp
  | cons s t ih =>
    obtain ⟨h1, h2, h3⟩ := h
    unfold addS
    split
    · rw [has_cons, has_cons, ih h3 ab, or_assoc]
    · split
      · rw [has_cons, has_cons]
        constructor
        · rintro (q | q | q)
          · exact .inr q
          · exact .inl (.inl q)
          · exact .inl (.inr q)
        · rintro ((q | q) | q)
          · exact .inr (.inl q)
          · exact .inr (.inr q)
          · exact .inl q
      · rename_i n1 n2
        have e : ∀ c d : Int, c = (if s.1 < a then s.1 else a) → d = (if b < s.2 then s.2 else b) → (Has (addS t c d) p ↔ Has (s :: t) p ∨ (a ≤ p ∧ p < b)) := fun c d hc hd => by
          have hc1 : c ≤ s.1 ∧ c ≤ a ∧ (c = s.1 ∨ c = a) := by rw [hc]; split <;> omega
          have hd1 : s.2 ≤ d ∧ b ≤ d ∧ (d = s.2 ∨ d = b) := by rw [hd]; split <;> omega
          rw [ih h3 (by omega), has_cons]
          constructor
          · rintro (q | q)
            · exact .inl (.inr q)
            · by_cases z : s.1 ≤ p ∧ p < s.2
              · exact .inl (.inl z)
              · exact .inr (by omega)
          · rintro ((q | q) | q)
            · exact .inr (by omega)
            · exact .inl q
            · exact .inr (by omega)
        exact e _ _ rfl rfl
theorem len_add (l : List (Int × Int)) (a b : Int) : (addS l a b).length ≤ l.length + 1 := by
  induction l generalizing a b with
  | nil => exact Nat.le_refl _
  | cons s t ih =>
    unfold addS
    split
    · have := ih a b; simp only [List.length_cons]; omega
    · split
      · simp only [List.length_cons]; omega
      · have := ih (if s.1 < a then s.1 else a) (if b < s.2 then s.2 else b); simp only [List.length_cons]; omega
theorem gd_uniq {k : Int} {l m : List (Int × Int)} (h : Gd k l) (g : Gd k m) (e : ∀ p, Has l p ↔ Has m p) : l = m := by
  induction l generalizing k m with
  | nil =>
    cases m with
    | nil => rfl
    | cons u v => exact (has_nil.mp ((e u.1).mpr (has_cons.mpr (.inl ⟨Int.le_refl _, g.2.1⟩)))).elim
  | cons s t ih =>
    cases m with
    | nil => exact (has_nil.mp ((e s.1).mp (has_cons.mpr (.inl ⟨Int.le_refl _, h.2.1⟩)))).elim
    | cons u v =>
      obtain ⟨h1, h2, h3⟩ := h
      obtain ⟨g1, g2, g3⟩ := g
      have a1 := (e s.1).mp (has_cons.mpr (.inl ⟨Int.le_refl _, h2⟩))
      have a2 := (e u.1).mpr (has_cons.mpr (.inl ⟨Int.le_refl _, g2⟩))
      have b1 : u.1 ≤ s.1 := by
        rcases has_cons.mp a1 with q | q
        · exact q.1
        · have := gd_has g3 q; omega
      have b2 : s.1 ≤ u.1 := by
        rcases has_cons.mp a2 with q | q
        · exact q.1
        · have := gd_has h3 q; omega
      have c1 : u.2 ≤ s.2 := Int.not_lt.mp fun z => by
        have := (e s.2).mpr (has_cons.mpr (.inl ⟨by omega, z⟩))
        rcases has_cons.mp this with q | q
        · omega
        · have := gd_has h3 q; omega
      have c2 : s.2 ≤ u.2 := Int.not_lt.mp fun z => by
        have := (e u.2).mp (has_cons.mpr (.inl ⟨by omega, z⟩))
        rcases has_cons.mp this with q | q
        · omega
        · have := gd_has g3 q; omega
      have es : s = u := Prod.ext (by omega) (by omega)
      subst es
      congr 1
      refine ih h3 g3 fun p => ?_
      constructor
      · intro q
        have lt := gd_has h3 q
        rcases has_cons.mp ((e p).mp (has_cons.mpr (.inr q))) with z | z
        · omega
        · exact z
      · intro q
        have lt := gd_has g3 q
        rcases has_cons.mp ((e p).mpr (has_cons.mpr (.inr q))) with z | z
        · omega
        · exact z
theorem gd_wsp {k : Int} {l : List (Int × Int)} {a b : Int} (h : Gd k l) (ka : k < a) (ab : a ≤ b) : Gd k (wsp l a b) := by
  unfold wsp
  split
  · exact h
  · exact gd_add h ka (by omega)
theorem has_wsp {k : Int} {l : List (Int × Int)} {a b p : Int} (h : Gd k l) (ab : a ≤ b) : Has (wsp l a b) p ↔ Has l p ∨ (a ≤ p ∧ p < b) := by
  unfold wsp
  split
  · constructor
    · exact .inl
    · rintro (q | q)
      · exact q
      · omega
  · exact has_add h (by omega)
theorem len_wsp (l : List (Int × Int)) (a b : Int) : (wsp l a b).length ≤ l.length + 1 := by
  unfold wsp
  split
  · omega
  · exact len_add l a b
theorem cov_from {k : Int} {ps f : List (Int × Int)} (h : Gd k f) (hp : ∀ p ∈ ps, k < p.1 ∧ p.1 ≤ p.2) : Gd k (ps.foldl (fun f p => wsp f p.1 p.2) f) ∧ (∀ x, Has (ps.foldl (fun f p => wsp f p.1 p.2) f) x ↔ Has f x ∨ Has ps x) ∧ (ps.foldl (fun f p => wsp f p.1 p.2) f).length ≤ f.length + ps.length := by
  induction ps generalizing f with
  | nil => exact ⟨h, fun x => by rw [has_nil, or_false]; exact Iff.rfl, Nat.le_refl _⟩
  | cons p ps ih =>
    have hq := hp p List.mem_cons_self
    have h1 := gd_wsp h hq.1 hq.2
    obtain ⟨i1, i2, i3⟩ := ih h1 fun q hq => hp q (List.mem_cons_of_mem _ hq)
    refine ⟨i1, fun x => ?_, ?_⟩
    · rw [List.foldl_cons, i2 x, has_wsp h hq.2, has_cons, or_assoc]
    · rw [List.foldl_cons, List.length_cons]
      have := len_wsp f p.1 p.2
      omega
theorem cov_gd {ps : List (Int × Int)} (h : Prs ps) : Gd (-1) (covF ps) := (cov_from (k := -1) (f := []) (ps := ps) trivial fun p hp => by have := h p hp; omega).1
theorem cov_has {ps : List (Int × Int)} (h : Prs ps) (x : Int) : Has (covF ps) x ↔ Has ps x := by
  have := (cov_from (k := -1) (f := []) (ps := ps) trivial fun p hp => by have := h p hp; omega).2.1 x
  rw [has_nil, false_or] at this
  exact this
theorem cov_len {ps : List (Int × Int)} (h : Prs ps) : (covF ps).length ≤ ps.length := by
  have := (cov_from (k := -1) (f := []) (ps := ps) trivial fun p hp => by have := h p hp; omega).2.2
  show (ps.foldl (fun f p => wsp f p.1 p.2) []).length ≤ _
  simpa using this
theorem gd_mem {k : Int} {l : List (Int × Int)} (h : Gd k l) : ∀ p ∈ l, k < p.1 ∧ p.1 < p.2 := by
  induction l generalizing k with
  | nil => exact fun p hp => by cases hp
  | cons s t ih =>
    intro p hp
    obtain ⟨h1, h2, h3⟩ := h
    rcases List.mem_cons.mp hp with rfl | hp
    · exact ⟨h1, h2⟩
    · have := ih h3 p hp; omega
theorem gd_prs {l : List (Int × Int)} (h : Gd (-1) l) : Prs l := fun p hp => by have := gd_mem h p hp; omega
/-- what is made of pairs with the places of a good list is that list -/
theorem cov_is {l ps : List (Int × Int)} (h : Gd (-1) l) (hp : Prs ps) (e : ∀ x, Has ps x ↔ Has l x) : covF ps = l := gd_uniq (cov_gd hp) h fun x => (cov_has hp x).trans (e x)
/-! with_span's loop -/
def wsG (s : Int × Int) (c : Int × Int × List (Int × Int) × Bool) : Int × Int × List (Int × Int) × Bool :=
  if s.2 < c.1 then (c.1, c.2.1, c.2.2.1 ++ [s], c.2.2.2)
  else if c.2.1 < s.1 then (c.1, c.2.1, (if c.2.2.2 = true then c.2.2.1 else c.2.2.1 ++ [(c.1, c.2.1)]) ++ [s], true)
  else (if s.1 < c.1 then s.1 else c.1, if c.2.1 < s.2 then s.2 else c.2.1, c.2.2.1, c.2.2.2)
theorem ws_true {l : List (Int × Int)} {a b : Int} {f : List (Int × Int)} (h : ∀ s ∈ l, ¬ s.2 < a ∧ b < s.1) : l.foldl (fun c s => wsG s c) (a, b, f, true) = (a, b, f ++ l, true) := by
  induction l generalizing f with
  | nil => simp
  | cons s t ih =>
    have hs := h s List.mem_cons_self
    rw [List.foldl_cons]
    have e : wsG s (a, b, f, true) = (a, b, f ++ [s], true) := by
      unfold wsG
      rw [if_neg hs.1, if_pos hs.2]; rfl
    rw [e, ih fun u hu => h u (List.mem_cons_of_mem _ hu)]
    simp
def wsEnd (c : Int × Int × List (Int × Int) × Bool) : List (Int × Int) := if c.2.2.2 = true then c.2.2.1 else c.2.2.1 ++ [(c.1, c.2.1)]
theorem ws_false {k : Int} {l : List (Int × Int)} {a b : Int} {f : List (Int × Int)} (h : Gd k l) (ab : a < b) : wsEnd (l.foldl (fun c s => wsG s c) (a, b, f, false)) = f ++ addS l a b := by
  induction l generalizing k a b f with
  | nil => rfl
  | cons s t ih =>
    obtain ⟨h1, h2, h3⟩ := h
    simp only [List.foldl_cons]
    unfold addS
    by_cases c1 : s.2 < a
    · have e : wsG s (a, b, f, false) = (a, b, f ++ [s], false) := by unfold wsG; rw [if_pos c1]
      rw [e, if_pos c1, ih h3 ab]
      simp
    · rw [if_neg c1]
      by_cases c2 : b < s.1
      · have e : wsG s (a, b, f, false) = (a, b, f ++ [(a, b)] ++ [s], true) := by unfold wsG; rw [if_neg c1, if_pos c2]; rfl
        rw [e, if_pos c2, ws_true fun u hu => by have := gd_mem h3 u hu; omega]
        simp [wsEnd]
      · have e : wsG s (a, b, f, false) = (if s.1 < a then s.1 else a, if b < s.2 then s.2 else b, f, false) := by unfold wsG; rw [if_neg c1, if_neg c2]
        rw [e, if_neg c2]
        exact ih (gd_mono h3 (Int.le_refl _)) (by repeat' split
                                                  all_goals omega)
def pts (l : List (Int × Int)) : List Int := l.flatMap fun s => (List.range (s.2 - s.1).toNat).map fun (i : Nat) => s.1 + (i : Int)
theorem mem_pts {l : List (Int × Int)} {x : Int} : x ∈ pts l ↔ Has l x := by
  unfold pts
  rw [List.mem_flatMap]
  constructor
  · rintro ⟨s, hs, q⟩
    obtain ⟨i, hi, rfl⟩ := List.mem_map.mp q
    have := List.mem_range.mp hi
    exact ⟨s, hs, by omega, by omega⟩
  · rintro ⟨s, hs, q⟩
    exact ⟨s, hs, List.mem_map.mpr ⟨(x - s.1).toNat, List.mem_range.mpr (by omega), by omega⟩⟩
theorem nodup_pts {k : Int} {l : List (Int × Int)} (h : Gd k l) : (pts l).Nodup := by
  induction l generalizing k with
  | nil => exact List.nodup_nil
  | cons s t ih =>
    obtain ⟨h1, h2, h3⟩ := h
    show ((List.range (s.2 - s.1).toNat).map (fun (i : Nat) => s.1 + (i : Int)) ++ pts t).Nodup
    rw [List.nodup_append]
    refine ⟨?_, ih h3, ?_⟩
    · rw [List.nodup_iff_pairwise_ne, List.pairwise_map]
      refine List.Pairwise.imp ?_ (List.nodup_iff_pairwise_ne.mp List.nodup_range)
      intro a b n z
      exact n (by omega)
    · intro a ha b hb z
      subst z
      obtain ⟨i, hi, rfl⟩ := List.mem_map.mp ha
      have := List.mem_range.mp hi
      have := gd_has h3 (mem_pts.mp hb)
      omega
theorem len_pts {k : Int} {l : List (Int × Int)} (h : Gd k l) : (l.map fun s => s.2 - s.1).sum = ((pts l).length : Int) := by
  induction l generalizing k with
  | nil => rfl
  | cons s t ih =>
    obtain ⟨h1, h2, h3⟩ := h
    show (s.2 - s.1) + (t.map fun s => s.2 - s.1).sum = (((List.range (s.2 - s.1).toNat).map (fun (i : Nat) => s.1 + (i : Int)) ++ pts t).length : Int)
    rw [ih h3, List.length_append, List.length_map, List.length_range]
    omega
/-! union, common, without as lists -/
def Ps (l : List (Int × Int)) : Prop := ∀ p ∈ l, 0 ≤ p.1 ∧ p.1 < p.2
theorem ps_prs {l : List (Int × Int)} (h : Ps l) : Prs l := fun p hp => by have := h p hp; omega
theorem gd_ps {l : List (Int × Int)} (h : Gd (-1) l) : Ps l := fun p hp => by have := gd_mem h p hp; omega
theorem ps_nil : Ps [] := fun p hp => by cases hp
theorem ps_snoc {l : List (Int × Int)} {a b : Int} (h : Ps l) (q : 0 ≤ a ∧ a < b) : Ps (l ++ [(a, b)]) := fun p hp => by
  rcases List.mem_append.mp hp with hp | hp
  · exact h p hp
  · rw [List.mem_singleton.mp hp]; exact q
theorem has_snoc {l : List (Int × Int)} {a b x : Int} : Has (l ++ [(a, b)]) x ↔ Has l x ∨ (a ≤ x ∧ x < b) := by
  constructor
  · rintro ⟨s, hs, q⟩
    rcases List.mem_append.mp hs with hs | hs
    · exact .inl ⟨s, hs, q⟩
    · rw [List.mem_singleton.mp hs] at q; exact .inr q
  · rintro (⟨s, hs, q⟩ | q)
    · exact ⟨s, List.mem_append_left _ hs, q⟩
    · exact ⟨(a, b), by simp, q⟩
def cg (s t : Int × Int) (f : List (Int × Int)) : List (Int × Int) :=
  if (if s.1 < t.1 then t.1 else s.1) < (if t.2 < s.2 then t.2 else s.2) then f ++ [((if s.1 < t.1 then t.1 else s.1), (if t.2 < s.2 then t.2 else s.2))] else f
theorem cg_has {s t : Int × Int} {f : List (Int × Int)} {x : Int} : Has (cg s t f) x ↔ Has f x ∨ ((s.1 ≤ x ∧ x < s.2) ∧ (t.1 ≤ x ∧ x < t.2)) := by
  unfold cg
  have e : ∀ a b : Int, a = (if s.1 < t.1 then t.1 else s.1) → b = (if t.2 < s.2 then t.2 else s.2) → (Has (if a < b then f ++ [(a, b)] else f) x ↔ Has f x ∨ ((s.1 ≤ x ∧ x < s.2) ∧ (t.1 ≤ x ∧ x < t.2))) := fun a b ha hb => by
    have h1 : s.1 ≤ a ∧ t.1 ≤ a ∧ (a = s.1 ∨ a = t.1) := by rw [ha]; split <;> omega
    have h2 : b ≤ s.2 ∧ b ≤ t.2 ∧ (b = s.2 ∨ b = t.2) := by rw [hb]; split <;> omega
    split
    · rw [has_snoc]
      refine or_congr Iff.rfl ?_
      omega
    · constructor
      · exact .inl
      · rintro (q | q)
        · exact q
        · omega
  exact e _ _ rfl rfl
theorem cg_ps {s t : Int × Int} {f : List (Int × Int)} (h : Ps f) (hs : 0 ≤ s.1) : Ps (cg s t f) := by
  have e : ∀ a b : Int, 0 ≤ a → Ps (if a < b then f ++ [(a, b)] else f) := fun a b ha => by
    split
    · exact ps_snoc h ⟨ha, by assumption⟩
    · exact h
  exact e _ _ (by split <;> omega)
theorem cg_len {s t : Int × Int} {f : List (Int × Int)} : (cg s t f).length ≤ f.length + 1 := by
  have e : ∀ a b : Int, (if a < b then f ++ [(a, b)] else f).length ≤ f.length + 1 := fun a b => by
    split
    · rw [List.length_append]; exact Nat.le_refl _
    · omega
  exact e _ _
def cin (s : Int × Int) (m f : List (Int × Int)) : List (Int × Int) := m.foldl (fun f t => cg s t f) f
theorem cin_all {s : Int × Int} {m f : List (Int × Int)} (h : Ps f) (hs : 0 ≤ s.1) : Ps (cin s m f) ∧ (∀ x, Has (cin s m f) x ↔ Has f x ∨ ((s.1 ≤ x ∧ x < s.2) ∧ Has m x)) ∧ (cin s m f).length ≤ f.length + m.length := by
  induction m generalizing f with
  | nil => exact ⟨h, fun x => by rw [has_nil, and_false, or_false]; exact Iff.rfl, Nat.le_refl _⟩
  | cons t m ih =>
    obtain ⟨i1, i2, i3⟩ := ih (cg_ps (t := t) h hs)
    refine ⟨i1, fun x => ?_, ?_⟩
    · have e : Has (cin s (t :: m) f) x ↔ Has (cg s t f) x ∨ ((s.1 ≤ x ∧ x < s.2) ∧ Has m x) := i2 x
      rw [e, cg_has, has_cons, or_assoc, ← and_or_left]
    · have := cg_len (s := s) (t := t) (f := f)
      have i3 : (cin s (t :: m) f).length ≤ (cg s t f).length + m.length := i3
      rw [List.length_cons]; omega
def comF (l m : List (Int × Int)) : List (Int × Int) := l.foldl (fun f s => cin s m f) []
theorem com_from {l m f : List (Int × Int)} (h : Ps f) (hl : Ps l) : Ps (l.foldl (fun f s => cin s m f) f) ∧ (∀ x, Has (l.foldl (fun f s => cin s m f) f) x ↔ Has f x ∨ (Has l x ∧ Has m x)) ∧ (l.foldl (fun f s => cin s m f) f).length ≤ f.length + l.length * m.length := by
  induction l generalizing f with
  | nil => exact ⟨h, fun x => by rw [has_nil, false_and, or_false]; exact Iff.rfl, by simp⟩
  | cons s l ih =>
    obtain ⟨c1, c2, c3⟩ := cin_all (m := m) h (hl s List.mem_cons_self).1
    obtain ⟨i1, i2, i3⟩ := ih c1 fun p hp => hl p (List.mem_cons_of_mem _ hp)
    refine ⟨i1, fun x => ?_, ?_⟩
    · rw [List.foldl_cons, i2 x, c2 x, has_cons, or_assoc, ← or_and_right]
    · rw [List.foldl_cons, List.length_cons, Nat.add_mul, Nat.one_mul]; omega
theorem com_all {l m : List (Int × Int)} (hl : Ps l) : Ps (comF l m) ∧ (∀ x, Has (comF l m) x ↔ (Has l x ∧ Has m x)) ∧ (comF l m).length ≤ l.length * m.length := by
  obtain ⟨h1, h2, h3⟩ := com_from (m := m) ps_nil hl
  exact ⟨h1, fun x => by rw [show Has (comF l m) x ↔ _ from h2 x, has_nil, false_or], by rw [List.length_nil, Nat.zero_add] at h3; exact h3⟩
def wg (s t : Int × Int) (c : List (Int × Int) × Int) : List (Int × Int) × Int :=
  if c.2 < t.2 ∧ t.1 < s.2 then (if c.2 < t.1 then c.1 ++ [(c.2, t.1)] else c.1, t.2) else c
def win (s : Int × Int) (m : List (Int × Int)) (c : List (Int × Int) × Int) : List (Int × Int) × Int := m.foldl (fun c t => wg s t c) c
theorem win_all {k : Int} {s : Int × Int} {m : List (Int × Int)} {c : List (Int × Int) × Int} (hm : Gd k m) (hk : -1 ≤ k) (h : Ps c.1) (h0 : 0 ≤ c.2) :
    Ps (win s m c).1 ∧ 0 ≤ (win s m c).2 ∧ (∀ x, (Has (win s m c).1 x ∨ ((win s m c).2 ≤ x ∧ x < s.2)) ↔ (Has c.1 x ∨ ((c.2 ≤ x ∧ x < s.2) ∧ ¬ Has m x))) ∧ (win s m c).1.length ≤ c.1.length + m.length := by
  induction m generalizing c k with
  | nil => exact ⟨h, h0, fun x => by rw [has_nil, not_false_iff, and_true]; exact Iff.rfl, Nat.le_refl _⟩
  | cons t m ih =>
    obtain ⟨g1, g2, g3⟩ := hm
    have hw : Ps (wg s t c).1 ∧ 0 ≤ (wg s t c).2 ∧ (wg s t c).1.length ≤ c.1.length + 1 := by
      unfold wg
      split
      · refine ⟨?_, by show 0 ≤ t.2; omega, ?_⟩
        · show Ps (if c.2 < t.1 then c.1 ++ [(c.2, t.1)] else c.1)
          split
          · exact ps_snoc h ⟨h0, by assumption⟩
          · exact h
        · show (if c.2 < t.1 then c.1 ++ [(c.2, t.1)] else c.1).length ≤ _
          split
          · rw [List.length_append]; exact Nat.le_refl _
          · omega
      · exact ⟨h, h0, by omega⟩
    obtain ⟨i1, i2, i3, i4⟩ := ih g3 (by omega) hw.1 hw.2.1
    refine ⟨i1, i2, fun x => ?_, ?_⟩
    · refine (i3 x).trans ?_
      rw [has_cons]
      have hgt : Has m x → t.2 < x := fun q => gd_has g3 q
      unfold wg
      split
      · rename_i z
        show (Has (if c.2 < t.1 then c.1 ++ [(c.2, t.1)] else c.1) x ∨ ((t.2 ≤ x ∧ x < s.2) ∧ ¬ Has m x)) ↔ _
        by_cases w : c.2 < t.1
        · rw [if_pos w, has_snoc]
          by_cases q : Has m x
          · have := hgt q
            simp only [q, not_true, and_false, or_false, or_true]
            constructor
            · rintro (y | y)
              · exact y
              · omega
            · exact .inl
          · simp only [q, not_false_iff, and_true, or_false]
            constructor
            · rintro ((y | y) | y)
              · exact .inl y
              · exact .inr (by omega)
              · exact .inr (by omega)
            · rintro (y | y)
              · exact .inl (.inl y)
              · by_cases u : x < t.1
                · exact .inl (.inr (by omega))
                · exact .inr (by omega)
        · rw [if_neg w]
          by_cases q : Has m x
          · simp only [q, not_true, and_false, or_false, or_true]
          · simp only [q, not_false_iff, and_true, or_false]
            refine or_congr Iff.rfl ?_
            omega
      · rename_i z
        by_cases q : Has m x
        · simp only [q, not_true, and_false, or_false, or_true]
        · simp only [q, not_false_iff, and_true, or_false]
          refine or_congr Iff.rfl ?_
          omega
    · have i4 : (win s (t :: m) c).1.length ≤ (wg s t c).1.length + m.length := i4
      rw [List.length_cons]; omega
def wen (s : Int × Int) (c : List (Int × Int) × Int) : List (Int × Int) := if c.2 < s.2 then c.1 ++ [(c.2, s.2)] else c.1
def wout (m : List (Int × Int)) (s : Int × Int) (f : List (Int × Int)) : List (Int × Int) := wen s (win s m (f, s.1))
theorem wout_all {s : Int × Int} {m f : List (Int × Int)} (hm : Gd (-1) m) (h : Ps f) (h0 : 0 ≤ s.1) : Ps (wout m s f) ∧ (∀ x, Has (wout m s f) x ↔ Has f x ∨ ((s.1 ≤ x ∧ x < s.2) ∧ ¬ Has m x)) ∧ (wout m s f).length ≤ f.length + (m.length + 1) := by
  obtain ⟨i1, i2, i3, i4⟩ := win_all (s := s) (c := (f, s.1)) hm (Int.le_refl _) h h0
  have i4 : (win s m (f, s.1)).1.length ≤ f.length + m.length := i4
  unfold wout wen
  split
  · refine ⟨ps_snoc i1 ⟨i2, by assumption⟩, fun x => ?_, by rw [List.length_append]; simp; omega⟩
    rw [has_snoc]
    exact i3 x
  · refine ⟨i1, fun x => ?_, by omega⟩
    refine Iff.trans ?_ (i3 x)
    constructor
    · exact .inl
    · rintro (y | y)
      · exact y
      · omega
def woF (l m : List (Int × Int)) : List (Int × Int) := l.foldl (fun f s => wout m s f) []
theorem wo_from {l m f : List (Int × Int)} (hm : Gd (-1) m) (h : Ps f) (hl : Ps l) : Ps (l.foldl (fun f s => wout m s f) f) ∧ (∀ x, Has (l.foldl (fun f s => wout m s f) f) x ↔ Has f x ∨ (Has l x ∧ ¬ Has m x)) ∧ (l.foldl (fun f s => wout m s f) f).length ≤ f.length + l.length * (m.length + 1) := by
  induction l generalizing f with
  | nil => exact ⟨h, fun x => by rw [has_nil, false_and, or_false]; exact Iff.rfl, by simp⟩
  | cons s l ih =>
    obtain ⟨c1, c2, c3⟩ := wout_all hm h (hl s List.mem_cons_self).1
    obtain ⟨i1, i2, i3⟩ := ih c1 fun p hp => hl p (List.mem_cons_of_mem _ hp)
    refine ⟨i1, fun x => ?_, ?_⟩
    · rw [List.foldl_cons, i2 x, c2 x, has_cons, or_assoc, ← or_and_right]
    · rw [List.foldl_cons, List.length_cons, Nat.add_mul (l.length), Nat.one_mul]; omega
theorem wo_all {l m : List (Int × Int)} (hm : Gd (-1) m) (hl : Ps l) : Ps (woF l m) ∧ (∀ x, Has (woF l m) x ↔ (Has l x ∧ ¬ Has m x)) ∧ (woF l m).length ≤ l.length * (m.length + 1) := by
  obtain ⟨h1, h2, h3⟩ := wo_from hm ps_nil hl
  exact ⟨h1, fun x => by rw [show Has (woF l m) x ↔ _ from h2 x, has_nil, false_or], by rw [List.length_nil, Nat.zero_add] at h3; exact h3⟩
theorem ps_empty {l : List (Int × Int)} (h : Ps l) : l = [] ↔ ∀ x, ¬ Has l x := by
  constructor
  · rintro rfl x z; exact has_nil.mp z
  · intro z
    cases l with
    | nil => rfl
    | cons s t => exact (z s.1 ⟨s, List.mem_cons_self, Int.le_refl _, (h s List.mem_cons_self).2⟩).elim
section
end
theorem with_ok {k : Int} {l : List (Int × Int)} {a b : Int} (h : Gd k l) (ab : a ≤ b) (hl : l.length ≤ 100000) : Ret (m_with_span l a b) (wsp l a b) := by
  unfold m_with_span wsp
  by_cases e : a = b
  · rw [if_pos e]
    exact .iteT (.of .r (decide_eq_true e)) .r
  rw [if_neg e]
  refine .iteF (.of .r (decide_eq_false e)) (.b (.b .r .r) (.b .r (.b .r (.b (.forMg wsG (fun i c => c.2.2.1.length ≤ 2 * i) (Nat.zero_le _) ?_ ?_) ?_))))
  · rintro i ⟨l1, r1⟩ ⟨a1, b1, f1, p1⟩ hx hc
    have hi : i < l.length := (List.getElem?_eq_some_iff.mp hx).1
    have hc : f1.length ≤ 2 * i := hc
    unfold wsG
    simp only []
    refine .ite .r (fun c => ?_) (fun c => .ite .r (fun d => ?_) (fun d => ?_))
    · rw [if_pos (of_decide_eq_true c)]
      exact .b .r (.b (.push (by omega)) .r)
    · rw [if_neg (of_decide_eq_false c), if_pos (of_decide_eq_true d)]
      cases p1 with
      | true => exact .b (b := (f1, true)) (.iteF .r .r) (.b .r (.b (.push (by show f1.length < 1000000; omega)) .r))
      | false => exact .b (b := (f1 ++ [(a1, b1)], true)) (.iteT .r (.b .r (.b (.push (by omega)) (.b .r .r)))) (.b .r (.b (.push (by show (f1 ++ [(a1, b1)]).length < 1000000; rw [List.length_append]; simp; omega)) .r))
    · rw [if_neg (of_decide_eq_false c), if_neg (of_decide_eq_false d)]
      refine .of (.b .r (.b .r .r)) ?_
      congr 1
      · by_cases z : l1 < a1
        · rw [if_pos z, if_pos (decide_eq_true z)]
        · rw [if_neg z, if_neg (by rw [decide_eq_false z]; decide)]
      · congr 1
        by_cases z : b1 < r1
        · rw [if_pos z, if_pos (decide_eq_true z)]
        · rw [if_neg z, if_neg (by rw [decide_eq_false z]; decide)]
  · rintro i ⟨l1, r1⟩ ⟨a1, b1, f1, p1⟩ hx hc
    have hc : f1.length ≤ 2 * i := hc
    unfold wsG
    simp only []
    repeat' split
    all_goals simp only [List.length_append, List.length_cons, List.length_nil]
    all_goals omega
  · have hw := ws_false (f := []) h (show a < b by omega)
    rw [List.nil_append] at hw
    have hlen : ∀ (l : List (Int × Int)) (c : Int × Int × List (Int × Int) × Bool), (l.foldl (fun c s => wsG s c) c).2.2.1.length ≤ c.2.2.1.length + 2 * l.length := fun l => by
      induction l with
      | nil => intro c; exact Nat.le_refl _
      | cons s t ih =>
        intro c
        rw [List.foldl_cons]
        have q := ih (wsG s c)
        have : (wsG s c).2.2.1.length ≤ c.2.2.1.length + 2 := by
          unfold wsG
          repeat' split
          all_goals simp only [List.length_append, List.length_cons, List.length_nil]
          all_goals omega
        rw [List.length_cons]
        omega
    have hlen := hlen l (a, b, [], false)
    generalize l.foldl (fun c s => wsG s c) (a, b, [], false) = c at hw hlen
    obtain ⟨a1, b1, f1, p1⟩ := c
    rw [← hw]
    have hlen : f1.length ≤ 0 + 2 * l.length := hlen
    unfold wsEnd
    cases p1 with
    | true => exact .b (b := f1) (.iteF .r .r) .r
    | false => exact .b (b := f1 ++ [(a1, b1)]) (.iteT .r (.b .r (.b (.push (by omega)) .r))) .r
theorem init_ok {t : Bool} {ps : List (Int × Int)} (h : Prs ps) (hl : ps.length ≤ 100000) : Ret (m_Cover_init ⟨t, ps⟩) ⟨covF ps⟩ := by
  unfold m_Cover_init
  refine .b .r (.b .r (.b (.forMg (fun p f => wsp f p.1 p.2) (fun i c => Gd (-1) c ∧ c.length ≤ i) ⟨trivial, Nat.le_refl _⟩ ?_ ?_) (.b .r .r)))
  · rintro i ⟨a, b⟩ c hx ⟨g, l⟩
    have hi : i < ps.length := (List.getElem?_eq_some_iff.mp hx).1
    have hp := h (a, b) (List.mem_of_getElem? hx)
    have h0 : 0 ≤ a := hp.1
    have h1 : a ≤ b := hp.2
    refine .iteF (.of .r ?_) (.b (with_ok g h1 (by omega)) .r)
    rw [decide_eq_false (show ¬ a < 0 by omega), decide_eq_false (show ¬ b < a by omega)]; rfl
  · rintro i ⟨a, b⟩ c hx ⟨g, l⟩
    have hp := h (a, b) (List.mem_of_getElem? hx)
    have h0 : 0 ≤ a := hp.1
    have h1 : a ≤ b := hp.2
    exact ⟨gd_wsp g (show -1 < a by omega) h1, Nat.le_trans (len_wsp _ _ _) (by omega)⟩
def hasB (ps : List (Int × Int)) (x : Int) : Bool := ps.any fun p => decide (p.1 ≤ x) && decide (x < p.2)
theorem hasB_iff {ps : List (Int × Int)} {x : Int} : hasB ps x = true ↔ Has ps x := by
  unfold hasB
  rw [List.any_eq_true]
  exact ⟨fun ⟨p, h, q⟩ => ⟨p, h, by simpa using q⟩, fun ⟨p, h, q⟩ => ⟨p, h, by simpa using q⟩⟩
theorem has_ok (ps : List (Int × Int)) (x : Int) : Ret (m_law_has ps x) (hasB ps x) := by
  unfold m_law_has
  refine .b .r (.b (.forAll (fun p => !(decide (p.1 ≤ x) && decide (x < p.2))) true ?_) ?_)
  · intro p hp
    refine .of (.ite' .r (fun _ => .b .r .r) (fun _ => .r)) ?_
    cases (decide (p.1 ≤ x) && decide (x < p.2)) <;> rfl
  · unfold hasB
    cases e : ps.any fun p => decide (p.1 ≤ x) && decide (x < p.2) with
    | true =>
      rw [if_neg]
      · exact .r
      · intro z
        obtain ⟨p, hp, q⟩ := List.any_eq_true.mp e
        have := List.all_eq_true.mp z p hp
        rw [q] at this
        cases this
    | false =>
      rw [if_pos]
      · exact .r
      · refine List.all_eq_true.mpr fun p hp => ?_
        have := List.any_eq_false.mp e p hp
        rw [Bool.not_eq_true] at this
        rw [this]; rfl
theorem whole_int (i : Int) : Ret (m_law_whole (.int i)) true := by
  unfold m_law_whole
  exact .of (.and (.isD trivial) fun _ => .b (.isD trivial) .r) rfl
theorem inside_one {k : Int} {l : List (Int × Int)} (h : Gd k l) {a b : Int} (ab : a < b) (e : ∀ x, a ≤ x → x < b → Has l x) : (l.filter fun s => decide (s.1 ≤ a) && decide (b ≤ s.2)).length = 1 := by
  induction l generalizing k with
  | nil => exact (has_nil.mp (e a (Int.le_refl _) ab)).elim
  | cons s t ih =>
    obtain ⟨h1, h2, h3⟩ := h
    rcases has_cons.mp (e a (Int.le_refl _) ab) with q | q
    · have hb : b ≤ s.2 := Int.not_lt.mp fun z => by
        rcases has_cons.mp (e s.2 (by omega) z) with y | y
        · omega
        · have := gd_has h3 y; omega
      rw [List.filter_cons_of_pos (by simp; omega)]
      have : t.filter (fun s => decide (s.1 ≤ a) && decide (b ≤ s.2)) = [] := by
        refine List.filter_eq_nil_iff.mpr fun u hu => ?_
        have := gd_mem h3 u hu
        simp; omega
      rw [this]; rfl
    · have := gd_has h3 q
      rw [List.filter_cons_of_neg (by simp; omega)]
      refine ih h3 fun x x0 x1 => ?_
      rcases has_cons.mp (e x x0 x1) with y | y
      · omega
      · exact y
theorem gd_at {k : Int} {l : List (Int × Int)} (h : Gd k l) {i : Nat} {s : Int × Int} (e : l[i]? = some s) : (if i = 0 then k else (l[i - 1]?.map (·.2)).getD 0) < s.1 ∧ s.1 < s.2 := by
  induction l generalizing k i with
  | nil => simp at e
  | cons u t ih =>
    obtain ⟨h1, h2, h3⟩ := h
    cases i with
    | zero => cases e; exact ⟨h1, h2⟩
    | succ i =>
      have := ih h3 (i := i) (by simpa using e)
      rw [if_neg (by omega), Nat.add_sub_cancel]
      cases i with
      | zero => simpa using this
      | succ i =>
        rw [if_neg (by omega)] at this
        simpa using this
theorem exact_ok {l ps : List (Int × Int)} (h : Gd (-1) l) (e : ∀ x, Has l x ↔ Has ps x) : Ret (m_law_exact l ps) true := by
  unfold m_law_exact
  have hmem : ∀ s ∈ l, s.1 < s.2 := fun s hs => (gd_mem h s hs).2
  have key : ∀ (k : Int) (m : List (Int × Int)) (post : Int ⊕ Bool → Prop) (px : Exn → Prop) (f : Int × Int → Int → M (Stp Int Bool)), Gd k m → (∀ s ∈ m, ∀ b, b < s.1 → Ret (f s b) (.next s.2)) → (∀ b, post (.inl b)) → forR m k f post px := by
    intro k m post px f g hf hp
    induction m generalizing k with
    | nil => exact hp k
    | cons s t ih =>
      obtain ⟨h1, h2, h3⟩ := g
      show mb (f s k) _ post px
      rw [mb_ap]
      refine hf s List.mem_cons_self k h1 _ _ ?_
      exact ih s.2 h3 fun u hu => hf u (List.mem_cons_of_mem _ hu)
  intro post px q
  simp only [mb_ap, mr_ap]
  refine key (-1) l _ _ _ h ?_ ?_
  · intro s hs b hb
    have hs2 := hmem s hs
    have hs1 : hasB ps s.1 = true := hasB_iff.mpr ((e s.1).mp ⟨s, hs, Int.le_refl _, hs2⟩)
    refine .iteF (.of (.or (b := false) .r fun _ => .or (b := false) (a := false) (.b (b := (2 : Int)) (.of .lenT rfl) (.b .r .r)) fun _ => .or (a := false) (b := false) (.b (whole_int _) .r) fun _ => .b (whole_int _) .r) rfl) ?_
    refine .iteF (.of (.or (a := false) (b := false) (.of .r (decide_eq_false (by omega))) fun _ => .or (a := false) (b := false) (.of .r (decide_eq_false (by omega))) fun _ => .b (.of (has_ok ps s.1) hs1) .r) rfl) ?_
    refine .b .r (.b .r (.b (.forRn fun p hp => ?_) .r))
    refine .iteF ?_ .r
    by_cases c : s.1 < p.2 ∧ p.2 < s.2
    · have hp2 : hasB ps p.2 = true := hasB_iff.mpr ((e p.2).mp ⟨s, hs, by omega, c.2⟩)
      refine .of (.and .r fun _ => .b (.of (has_ok ps p.2) hp2) .r) ?_
      rw [Bool.not_true, Bool.and_false]
    · refine .of (.and (a := false) (b := true) (.of .r ?_) fun z => by cases z) rfl
      rw [Bool.and_eq_false_iff, decide_eq_false_iff_not, decide_eq_false_iff_not]
      omega
  · intro b
    refine Ret.forRn (fun p hp => ?_) _ _ q
    refine .b .r (.iteF (.of .r ?_) .r)
    by_cases c : p.1 < p.2
    · rw [List.map_id', inside_one h c fun x x0 x1 => (e x).mpr ⟨p, hp, x0, x1⟩]
      simp
    · rw [decide_eq_false c]; rfl
theorem Ret_use {α : Type} {m : M α} {a : α} {post : α → Prop} {px : Exn → Prop} (h : Ret m a) (q : post a) : m post px := h _ _ q
theorem union_ok {l m : List (Int × Int)} (hl : Gd (-1) l) (hm : Gd (-1) m) (n : l.length + m.length ≤ 10000) : ∃ r, Ret (m_union l m) r ∧ Gd (-1) r ∧ (∀ x, Has r x ↔ Has l x ∨ Has m x) ∧ r.length ≤ l.length + m.length := by
  have hp : ∀ p ∈ m, -1 < p.1 ∧ p.1 ≤ p.2 := fun p h => by have := gd_mem hm p h; omega
  obtain ⟨c1, c2, c3⟩ := cov_from hl hp
  refine ⟨_, ?_, c1, c2, c3⟩
  unfold m_union
  refine .b .r (.b .r (.b (.forMg (fun p f => wsp f p.1 p.2) (fun i c => Gd (-1) c ∧ c.length ≤ l.length + i) ⟨hl, Nat.le_refl _⟩ ?_ ?_) .r))
  · rintro i ⟨a, b⟩ c hx ⟨g, le⟩
    have hi : i < m.length := (List.getElem?_eq_some_iff.mp hx).1
    have h1 : a ≤ b := (hp (a, b) (List.mem_of_getElem? hx)).2
    exact .b (with_ok g h1 (by omega)) .r
  · rintro i ⟨a, b⟩ c hx ⟨g, le⟩
    have h1 := hp (a, b) (List.mem_of_getElem? hx)
    exact ⟨gd_wsp g h1.1 h1.2, Nat.le_trans (len_wsp _ _ _) (by omega)⟩
theorem without_ok {l m : List (Int × Int)} (n : l.length ≤ 200) (n2 : m.length ≤ 200) : Ret (m_without l m) (woF l m) := by
  unfold m_without
  have hw : ∀ (s : Int × Int) (t : Int × Int) (c : List (Int × Int) × Int), (wg s t c).1.length ≤ c.1.length + 1 := fun s t c => by
    unfold wg
    split
    · show (if c.2 < t.1 then c.1 ++ [(c.2, t.1)] else c.1).length ≤ _
      split
      · rw [List.length_append]; exact Nat.le_refl _
      · omega
    · omega
  have hc : ∀ (s : Int × Int) (m : List (Int × Int)) (c : List (Int × Int) × Int), (win s m c).1.length ≤ c.1.length + m.length := fun s m => by
    induction m with
    | nil => intro f; exact Nat.le_refl _
    | cons t m ih =>
      intro f
      have h1 : (win s (t :: m) f).1.length ≤ (wg s t f).1.length + m.length := ih (wg s t f)
      have h2 := hw s t f
      rw [List.length_cons]; omega
  refine .b (.b .r .r) (.b .r (.b (.forMg (fun s f => wout m s f) (fun i c => c.length ≤ i * 201) (Nat.zero_le _) ?_ ?_) .r))
  · rintro i ⟨a, b⟩ c hx hcl
    have hi : i < l.length := (List.getElem?_eq_some_iff.mp hx).1
    refine .b .r (.b .r (.b (b := win (a, b) m (c, a)) (.forMg (fun t f => wg (a, b) t f) (fun j d => d.1.length ≤ i * 201 + j) (by show c.length ≤ _; omega) ?_ ?_) ?_))
    · rintro j ⟨p, q⟩ ⟨f, at_⟩ hy hd
      have hj : j < m.length := (List.getElem?_eq_some_iff.mp hy).1
      have hd : f.length ≤ i * 201 + j := hd
      show Ret _ (if at_ < q ∧ p < b then (if at_ < p then f ++ [(at_, p)] else f, q) else (f, at_))
      by_cases z : at_ < q ∧ p < b
      · rw [if_pos z]
        refine .iteT (.of .r (by rw [decide_eq_true z.1, decide_eq_true z.2]; rfl)) (.b (b := if at_ < p then f ++ [(at_, p)] else f) ?_ (.b .r .r))
        by_cases w : at_ < p
        · rw [if_pos w]
          exact .iteT (.of .r (decide_eq_true w)) (.b .r (.b (.push (by omega)) .r))
        · rw [if_neg w]
          exact .iteF (.of .r (decide_eq_false w)) .r
      · rw [if_neg z]
        refine .iteF (.of .r ?_) .r
        rw [Bool.and_eq_false_iff, decide_eq_false_iff_not, decide_eq_false_iff_not]
        omega
    · rintro j t d hy hd
      have := hw (a, b) t d
      omega
    · have h1 := hc (a, b) m (c, a)
      have h1 : (win (a, b) m (c, a)).1.length ≤ c.length + m.length := h1
      show Ret _ (wen (a, b) (win (a, b) m (c, a)))
      generalize win (a, b) m (c, a) = d at h1
      obtain ⟨f, at_⟩ := d
      have h1 : f.length ≤ c.length + m.length := h1
      show Ret _ (if at_ < b then f ++ [(at_, b)] else f)
      by_cases w : at_ < b
      · rw [if_pos w]
        exact .iteT (.of .r (decide_eq_true w)) (.b .r (.b (.push (by omega)) .r))
      · rw [if_neg w]
        exact .iteF (.of .r (decide_eq_false w)) .r
  · rintro i s c hx hcl
    have h1 : (win s m (c, s.1)).1.length ≤ c.length + m.length := hc s m (c, s.1)
    show (wen s (win s m (c, s.1))).length ≤ (i + 1) * 201
    unfold wen
    split
    · rw [List.length_append, List.length_singleton]; omega
    · omega
theorem gd_snoc {k : Int} {f : List (Int × Int)} {a b : Int} (h : Gd k f) (q : ∀ p ∈ f, p.2 < a) (ka : k < a) (ab : a < b) : Gd k (f ++ [(a, b)]) := by
  induction f generalizing k with
  | nil => exact ⟨ka, ab, trivial⟩
  | cons s t ih =>
    obtain ⟨h1, h2, h3⟩ := h
    exact ⟨h1, h2, ih h3 (fun p hp => q p (List.mem_cons_of_mem _ hp)) (q s List.mem_cons_self)⟩
theorem dat_pairs (l : List (Int × Int)) : datDs (l.map enc) = true := by
  induction l with
  | nil => rfl
  | cons s t ih => show (_ && datDs (t.map enc)) = true; rw [ih]; rfl
theorem lay_pairs (l : List (Int × Int)) : (PyData.canLayAll0 (toPys (l.map enc))) = true := by
  induction l with
  | nil => rfl
  | cons s t ih =>
    show PyData.canLayAll0 (PyData.tuple [.int s.1, .int s.2] :: toPys (t.map enc)) = true
    simp only [PyData.canLayAll0, PyData.canLay0, ih, Bool.and_true, Bool.and_self]
theorem eqv_pairs (l m : List (Int × Int)) : PyData.eqvAll (toPys (l.map enc)) (toPys (m.map enc)) = decide (l = m) := by
  induction l generalizing m with
  | nil =>
    cases m with
    | nil => rfl
    | cons u v => rfl
  | cons s t ih =>
    cases m with
    | nil => rfl
    | cons u v =>
      show (PyData.eqv (.tuple [.int s.1, .int s.2]) (.tuple [.int u.1, .int u.2]) && PyData.eqvAll (toPys (t.map enc)) (toPys (v.map enc))) = _
      rw [ih v]
      obtain ⟨s1, s2⟩ := s
      obtain ⟨u1, u2⟩ := u
      simp only [PyData.eqv, PyData.eqvAll, Bool.and_true]
      rw [Bool.eq_iff_iff]
      simp only [Bool.and_eq_true, beq_iff_eq, decide_eq_true_eq, List.cons.injEq, Prod.mk.injEq]
theorem plain_pairs (l : List (Int × Int)) : plainDs (l.map enc) = true ∧ D.depths (l.map enc) ≤ 1 := by
  induction l with
  | nil => exact ⟨rfl, Nat.zero_le _⟩
  | cons s t ih =>
    refine ⟨?_, ?_⟩
    · show ((true && (true && true)) && plainDs (t.map enc)) = true
      rw [ih.1]; rfl
    · show max (max 0 (max 0 0) + 1) (D.depths (t.map enc)) ≤ 1
      have := ih.2
      omega
theorem same_self {d : Mi.D} (p : plainD d = true) (n : d.depth < 8) : Ret (m_law_same d d) true := (Ret.same p p n).of (dsame_self _)
theorem shaped_pairs (l : List (Int × Int)) : SeqAt.shaped (toPy (enc l)) = true := by
  show (PyData.canLay0 (.list (toPys (l.map enc))) && decide (PyData.depth (.list (toPys (l.map enc))) ≤ 64)) = true
  have d : PyData.depthAll (toPys (l.map enc)) ≤ 1 := by
    induction l with
    | nil => exact Nat.zero_le _
    | cons s t ih =>
      show max (max 0 (max 0 0) + 1) (PyData.depthAll (toPys (t.map enc))) ≤ 1
      omega
  rw [Bool.and_eq_true, decide_eq_true_eq]
  refine ⟨?_, ?_⟩
  · simp only [PyData.canLay0]; exact lay_pairs l
  · show PyData.depthAll (toPys (l.map enc)) + 1 ≤ 64
    omega
theorem eq_ok (l m : List (Int × Int)) : Ret (meqD (enc l) (enc m)) (decide (l = m)) := fun post px q => ⟨⟨dat_pairs l, dat_pairs m, shaped_pairs l, shaped_pairs m⟩, by
  show post (PyData.eqvAll (toPys (l.map enc)) (toPys (m.map enc)))
  rw [eqv_pairs]; exact q⟩
theorem ne_ok (l m : List (Int × Int)) : Ret (mneD (enc l) (enc m)) (!decide (l = m)) := fun post px q => ⟨⟨dat_pairs l, dat_pairs m, shaped_pairs l, shaped_pairs m⟩, by
  show post (!PyData.eqvAll (toPys (l.map enc)) (toPys (m.map enc)))
  rw [eqv_pairs]; exact q⟩
structure PB (B : Int) (n : Nat) (c : List (Int × Int)) : Prop where
  p : ∀ p ∈ c, 0 ≤ p.1 ∧ p.1 ≤ p.2 ∧ p.2 ≤ B
  l : c.length = n
theorem PB.push {B C : Int} {n : Nat} {c : List (Int × Int)} {a b : Int} (h : PB B n c) (hB : B ≤ C) (q : 0 ≤ a ∧ a ≤ b ∧ b ≤ C) : PB C (n + 1) (c ++ [(a, b)]) := ⟨fun p hp => by
  rcases List.mem_append.mp hp with hp | hp
  · have := h.p p hp; omega
  · rw [List.mem_singleton.mp hp]; exact q, by rw [List.length_append, h.l]; rfl⟩
theorem pairs_ok {m : Int} (hm : 0 ≤ m ∧ m ≤ 20) {post : List (Int × Int) → Prop} {px : Exn → Prop} (k : ∀ (c : List (Int × Int)), (∀ p ∈ c, 0 ≤ p.1 ∧ p.1 ≤ p.2 ∧ p.2 ≤ 10000000000000000000000000000000) → (c.length : Int) ≤ 3 * m + 4 → post c) : m_law_pairs m post px := by
  unfold m_law_pairs
  simp only [mb_ap, mr_ap]
  refine mdraw_g (by omega) fun kind k0 k1 => ?_
  have bs : ∀ (Q : Int → Prop), (∀ b, 0 ≤ b → b ≤ 1000000000000000000000000000000 → Q b) → mite (mr (decide (kind = 3))) (mb (mr (1000000000000000000000000000000 : Int)) fun x_base => mr (x_base)) (mr 0) Q px := fun Q q =>
    mite_i (fun _ => q _ (by decide) (by decide)) (fun _ => q _ (by decide) (by decide))
  refine bs _ fun base b0 b1 => ?_
  have bs : ∀ (Q : Int → Prop), (∀ b, 0 ≤ b → b ≤ 1000000000000000000000000000000 → Q b) → mite (mr (decide (kind = 4))) (mb (m_law_draw (1000000000000000000000000000000 : Int)) fun x_base => mr (x_base)) (mr base) Q px := fun Q q =>
    mite_i (fun _ => mdraw_g (px := px) (by omega) fun d d0 d1 => q d d0 (by omega)) (fun _ => q _ b0 b1)
  refine bs _ fun base b0 b1 => ?_
  refine mite_i (fun _ => ?_) (fun _ => ?_)
  · simp only [mb_ap, mr_ap]
    refine mdraw_g (by omega) fun s s0 s1 => ?_
    refine mdraw_g (by omega) fun w w0 w1 => ?_
    refine mulS (by omega) ?_
    refine mdraw_g (by omega) fun many m0 m1 => ?_
    refine mdraw_g (by omega) fun t t0 t1 => ?_
    refine Ret.range (lo := 0) (hi := many) (by omega) _ _ ?_
    refine forM_n (fun i c => PB 1000000 i c) ⟨fun p hp => (by cases hp), rfl⟩ ?_ (fun c h => k c (fun p hp => by have := h.p p hp; omega) (by rw [h.l]; simp; omega))
    intro i x c hx hc Q q
    have hi := (List.getElem?_eq_some_iff.mp hx).1
    simp only [List.length_map, List.length_range] at hi
    have hx : x = (i : Int) := by
      rw [List.getElem?_map, List.getElem?_range (by simpa using hi)] at hx
      simpa using hx.symm
    simp only [mb_ap, mr_ap]
    refine mulT (by omega) ?_
    have hmx : 0 < (if many > 1 then many else 1) ∧ (if many > 1 then many else 1) ≤ 100 := by split <;> omega
    generalize (if many > 1 then many else 1) = mx at hmx
    refine ⟨hmx.1, ?_⟩
    have h0 := Int.emod_nonneg (x * (1 + t)) (show mx ≠ 0 by omega)
    have h1 := Int.emod_lt_of_pos (x * (1 + t)) hmx.1
    generalize x * (1 + t) % mx = r at h0 h1
    refine mulS (by omega) ?_
    have hr : 0 ≤ (1 + s) * r ∧ (1 + s) * r ≤ 400 := ⟨Int.mul_nonneg (by omega) h0, by
      have : (1 + s) * r ≤ 4 * 100 := Int.mul_le_mul (by omega) (by omega) h0 (by decide)
      omega⟩
    generalize (1 + s) * r = z at hr
    refine Ret.push (by have := hc.l; omega) _ _ ?_
    exact q _ (hc.push (Int.le_refl _) (by omega))
  · simp only [mb_ap, mr_ap]
    refine mdraw_g (by omega) fun n n0 n1 => ?_
    refine Ret.range (lo := 0) (hi := n) (by omega) _ _ ?_
    refine forM_n (fun i c => PB (1000000000000000000000000000000 + 100 + ((i : Int) + 1) * 1000000000000) i c) ⟨fun p hp => (by cases hp), rfl⟩ ?_ (fun c h => k c (fun p hp => by have := h.p p hp; simp only [List.length_map, List.length_range] at this; omega) (by rw [h.l]; simp; omega))
    intro i x c hx hc Q q
    have hi := (List.getElem?_eq_some_iff.mp hx).1
    simp only [List.length_map, List.length_range] at hi
    have hx : x = (i : Int) := by
      rw [List.getElem?_map, List.getElem?_range (by simpa using hi)] at hx
      simpa using hx.symm
    have hl := hc.l
    simp only [mb_ap, mr_ap]
    refine mdraw_g (by omega) fun st0 a0 a1 => ?_
    refine mdraw_g (by omega) fun le0 a2 a3 => ?_
    refine mdraw_g (by omega) fun near a4 a5 => ?_
    have st : ∀ (R : Int × Int → Prop), (∀ a l : Int, 0 ≤ a ∧ a ≤ 1000000000000000000000000000000 + 100 ∧ 0 ≤ l ∧ l ≤ 1000000000000 → R (a, l)) → mite (mr (decide (kind = 5))) (mb (m_law_draw (1000000000000 : Int)) fun x_start => mb (m_law_draw (1000000000000 : Int)) fun x_length => mr (x_start, x_length)) (mr (base + st0, le0)) R px := fun R r =>
      mite_i (fun _ => mdraw_g (px := px) (by omega) fun d d0 d1 => mdraw_g (px := px) (by omega) fun e e0 e1 => r d e (by omega)) (fun _ => r _ _ (by omega))
    refine st _ fun a l hal => ?_
    simp only [mb_ap, mr_ap]
    have st : ∀ (R : Int → Prop), (∀ a : Int, 0 ≤ a ∧ a ≤ 1000000000000000000000000000000 + 100 + ((i : Int) + 1) * 1000000000000 → R a) → mite (mr ((decide ((0 : Int) < x)) && (decide (near = (1 : Int))))) (mb (mb (mix c (x - (1 : Int))) fun a => mr a.2) fun x_start => mr (x_start)) (mr a) R px := fun R r =>
      mite_i (fun e => by
        simp only [Bool.and_eq_true, decide_eq_true_eq] at e
        simp only [mb_ap, mr_ap]
        refine mix_b' (by omega) (by omega) fun p hp => r _ ?_
        have := hc.p p hp
        omega) (fun _ => r _ (by omega))
    refine st _ fun a ha => ?_
    have st : ∀ (R : Int → Prop), (∀ a : Int, 0 ≤ a ∧ a ≤ 1000000000000000000000000000000 + 100 + ((i : Int) + 1) * 1000000000000 → R a) → mite (mand (mr (decide ((0 : Int) < x))) (mand (mr (decide (near = (2 : Int)))) (mb (mb (mix c (x - (1 : Int))) fun a => mr a.1) fun a => mb (mr l) fun b => mr (decide (b ≤ a))))) (mb (mb (mb (mix c (x - (1 : Int))) fun a => mr a.1) fun a => mb (mr l) fun b => mr (a - b)) fun x_start => mr (x_start)) (mr a) R px := fun R r => by
      by_cases z : 0 < x
      · have hj : (x - 1).toNat < c.length := by omega
        have ex : Ret (mix c (x - 1)) c[(x - 1).toNat] := .ix (by
          have e := L2.atI_nat (List.getElem?_eq_getElem hj)
          rwa [show (((x - 1).toNat : Nat) : Int) = x - 1 by omega] at e)
        have hp := hc.p _ (List.getElem_mem hj)
        generalize c[(x - 1).toNat] = p at ex hp
        refine mite_r (b := decide (0 < x) && (decide (near = 2) && decide (l ≤ p.1))) (.and .r fun _ => .and .r fun _ => .b (.b ex .r) (.b .r .r)) (fun e => ?_) (fun _ => r _ ha)
        simp only [Bool.and_eq_true, decide_eq_true_eq] at e
        exact (show Ret _ (p.1 - l) from .b (.b (.b ex .r) (.b .r .r)) .r) _ _ (r _ (by omega))
      · refine mite_r (b := false) (.of (.and (a := false) (b := true) (.of .r (decide_eq_false z)) fun y => by cases y) rfl) (fun e => by cases e) (fun _ => r _ ha)
    refine st _ fun a ha => ?_
    refine Ret.push (by omega) _ _ ?_
    exact q _ (hc.push (by push_cast; omega) (by push_cast; omega))
theorem use_any {α : Type} {m : M α} {P : α → Prop} {Q : α → Prop} {px : Exn → Prop} (h : ∀ Q : α → Prop, (∀ a, P a → Q a) → m Q px) (k : ∀ a, P a → Q a) : m Q px := h Q k
theorem prs_snoc {l : List (Int × Int)} {a b : Int} (h : Prs l) (q : 0 ≤ a ∧ a ≤ b) : Prs (l ++ [(a, b)]) := fun p hp => by
  rcases List.mem_append.mp hp with hp | hp
  · exact h p hp
  · rw [List.mem_singleton.mp hp]; exact q
/-! covers with a bound of their number of spans -/
structure Cg (n : Nat) (S : Int → Prop) (c : Cover) : Prop where
  g : Gd (-1) c.spans
  h : ∀ x, Has c.spans x ↔ S x
  l : c.spans.length ≤ n
section
variable {n m : Nat} {S T : Int → Prop} {a b : Cover} {s : Int}
theorem Cg.mono (h : Cg n S a) (e : ∀ x, S x ↔ T x) (l : n ≤ m) : Cg m T a := ⟨h.g, fun x => (h.h x).trans (e x), Nat.le_trans h.l l⟩
theorem init_cg {t : Bool} {ps : List (Int × Int)} (hp : Prs ps) (hl : ps.length ≤ n) (hn : n ≤ 100000) (hU : ∀ x, Has ps x ↔ S x) : Ret (m_Cover_init ⟨t, ps⟩) ⟨covF ps⟩ ∧ Cg n S ⟨covF ps⟩ :=
  ⟨init_ok hp (by omega), cov_gd hp, fun x => (cov_has hp x).trans (hU x), Nat.le_trans (cov_len hp) hl⟩
theorem or_cg (ha : Cg n S a) (hb : Cg m T b) (q : n + m ≤ 10000) : ∃ c, Ret (m_Coverdd__ordd_ a b) c ∧ Cg (n + m) (fun x => S x ∨ T x) c := by
  have la := ha.l
  have lb := hb.l
  obtain ⟨r, h1, h2, h3, h4⟩ := union_ok ha.g hb.g (by omega)
  obtain ⟨k1, k2⟩ := init_cg (t := false) (n := n + m) (gd_prs h2) (by omega) (by omega) (fun x => (h3 x).trans (or_congr (ha.h x) (hb.h x)))
  exact ⟨_, by unfold m_Coverdd__ordd_; walk_at "ret", k2⟩
theorem wo_cg (ha : Cg n S a) (hb : Cg m T b) (q : n ≤ 200) (q2 : m ≤ 200) : Ret (m_without a.spans b.spans) (woF a.spans b.spans) ∧ Ps (woF a.spans b.spans) ∧ (∀ x, Has (woF a.spans b.spans) x ↔ (S x ∧ ¬ T x)) ∧ (woF a.spans b.spans).length ≤ n * (m + 1) := by
  have la := ha.l
  have lb := hb.l
  obtain ⟨h1, h2, h3⟩ := wo_all (l := a.spans) hb.g (gd_ps ha.g)
  refine ⟨without_ok (by omega) (by omega), h1, fun x => (h2 x).trans (and_congr (ha.h x) (not_congr (hb.h x))), Nat.le_trans h3 (Nat.mul_le_mul la (by omega))⟩
theorem sub_cg (ha : Cg n S a) (hb : Cg m T b) (q : n ≤ 200) (q2 : m ≤ 200) : ∃ c, Ret (m_Coverdd__subdd_ a b) c ∧ Cg (n * (m + 1)) (fun x => S x ∧ ¬ T x) c := by
  obtain ⟨h1, h2, h3, h4⟩ := wo_cg ha hb q q2
  have h5 : n * (m + 1) ≤ 200 * 201 := Nat.mul_le_mul q (by omega)
  obtain ⟨k1, k2⟩ := init_cg (t := false) (n := n * (m + 1)) (ps_prs h2) h4 (by omega) h3
  exact ⟨_, by unfold m_Coverdd__subdd_; walk_at "ret", k2⟩
theorem le_cg (ha : Cg n S a) (hb : Cg m T b) (q : n ≤ 200) (q2 : m ≤ 200) : ∃ v, Ret (m_Coverdd__ledd_ a b) v ∧ (v = true ↔ ∀ x, S x → T x) := by
  obtain ⟨h1, h2, h3, h4⟩ := wo_cg ha hb q q2
  refine ⟨decide (woF a.spans b.spans = []), ?_, ?_⟩
  · unfold m_Coverdd__ledd_
    exact .b h1 (.b .r (eq_ok _ _))
  · have h := ps_empty h2
    rw [decide_eq_true_eq, show (woF a.spans b.spans = []) ↔ _ from h]
    constructor
    · intro z x hx
      exact Classical.byContradiction fun n => z x ((h3 x).mpr ⟨hx, n⟩)
    · intro z x hx
      have := (h3 x).mp hx
      exact this.2 (z x this.1)
theorem le_yes (ha : Cg n S a) (hb : Cg m T b) (q : n ≤ 200) (q2 : m ≤ 200) (h : ∀ x, S x → T x) : Ret (m_Coverdd__ledd_ a b) true := by
  obtain ⟨v, h1, h2⟩ := le_cg ha hb q q2
  rw [h2.mpr h] at h1
  exact h1
theorem le_no (ha : Cg n S a) (hb : Cg m T b) (q : n ≤ 200) (q2 : m ≤ 200) {x : Int} (h : S x) (h' : ¬ T x) : Ret (m_Coverdd__ledd_ a b) false := by
  obtain ⟨v, h1, h2⟩ := le_cg ha hb q q2
  cases v with
  | true => exact absurd (h2.mp rfl x h) h'
  | false => exact h1
theorem Cg.eq (ha : Cg n S a) (hb : Cg m T b) (e : ∀ x, S x ↔ T x) : a = b := by
  cases a; cases b
  exact congrArg Cover.mk (gd_uniq ha.g hb.g fun x => (ha.h x).trans ((e x).trans (hb.h x).symm))
theorem eqc_ok : Ret (m_Coverdd__eqdd_ a b) (decide (a.spans = b.spans)) := by
  unfold m_Coverdd__eqdd_
  exact .iteF (.of .r rfl) (eq_ok _ _)
/-! pieces -/
def qL (l : List (Int × Int)) (s : Int) : List (Int × Int) := l.map fun p => (p.1 / s, (p.2 - 1) / s + 1)
def mL (l : List (Int × Int)) (s : Int) : List (Int × Int) := l.map fun p => (p.1 * s, p.2 * s)
theorem q_prs {l : List (Int × Int)} (h : Ps l) (hs : 0 < s) : Prs (qL l s) := fun p hp => by
  obtain ⟨q, hq, rfl⟩ := List.mem_map.mp hp
  have := h q hq
  have h1 : q.1 / s ≤ (q.2 - 1) / s := Int.ediv_le_ediv hs (by omega)
  have h2 : 0 ≤ q.1 / s := Int.ediv_nonneg (by omega) (by omega)
  show 0 ≤ q.1 / s ∧ q.1 / s ≤ (q.2 - 1) / s + 1
  omega
theorem q_lt {l : List (Int × Int)} (h : Ps l) (hs : 0 < s) : ∀ p ∈ qL l s, p.1 < p.2 := fun p hp => by
  obtain ⟨q, hq, rfl⟩ := List.mem_map.mp hp
  have := h q hq
  have h1 : q.1 / s ≤ (q.2 - 1) / s := Int.ediv_le_ediv hs (by omega)
  show q.1 / s < (q.2 - 1) / s + 1
  omega
theorem q_has {l : List (Int × Int)} (h : Ps l) (hs : 0 < s) (k : Int) : Has (qL l s) k ↔ ∃ x, Has l x ∧ x / s = k := by
  constructor
  · rintro ⟨p, hp, h1, h2⟩
    obtain ⟨q, hq, rfl⟩ := List.mem_map.mp hp
    have hq' := h q hq
    have h1 : q.1 / s ≤ k := h1
    have h2 : k < (q.2 - 1) / s + 1 := h2
    have h3 : k * s ≤ q.2 - 1 := (Int.le_ediv_iff_mul_le hs).mp (by omega)
    by_cases z : k * s ≤ q.1
    · refine ⟨q.1, ⟨q, hq, by omega, by omega⟩, ?_⟩
      have : k ≤ q.1 / s := (Int.le_ediv_iff_mul_le hs).mpr z
      omega
    · exact ⟨k * s, ⟨q, hq, by omega, by omega⟩, Int.mul_ediv_cancel _ (by omega)⟩
  · rintro ⟨x, ⟨q, hq, h1, h2⟩, rfl⟩
    refine ⟨_, List.mem_map.mpr ⟨q, hq, rfl⟩, Int.ediv_le_ediv hs h1, ?_⟩
    have : x / s ≤ (q.2 - 1) / s := Int.ediv_le_ediv hs (by omega)
    show x / s < (q.2 - 1) / s + 1
    omega
theorem m_prs {l : List (Int × Int)} (h : Prs l) (hs : 0 < s) : Prs (mL l s) := fun p hp => by
  obtain ⟨q, hq, rfl⟩ := List.mem_map.mp hp
  have := h q hq
  exact ⟨Int.mul_nonneg this.1 (by omega), Int.mul_le_mul_of_nonneg_right this.2 (by omega)⟩
theorem m_has {l : List (Int × Int)} (hs : 0 < s) (x : Int) : Has (mL l s) x ↔ Has l (x / s) := by
  constructor
  · rintro ⟨p, hp, h1, h2⟩
    obtain ⟨q, hq, rfl⟩ := List.mem_map.mp hp
    exact ⟨q, hq, (Int.le_ediv_iff_mul_le hs).mpr h1, (Int.ediv_lt_iff_lt_mul hs).mpr h2⟩
  · rintro ⟨q, hq, h1, h2⟩
    exact ⟨_, List.mem_map.mpr ⟨q, hq, rfl⟩, (Int.le_ediv_iff_mul_le hs).mp h1, (Int.ediv_lt_iff_lt_mul hs).mp h2⟩
def Sz (s : Int) : Prop := 0 < s ∧ s < 100000000000000000000000000000000
theorem Sz.div {i : Int} (h : Sz s) : CDivW i s := ⟨h.1, Nat.lt_of_lt_of_le (PySem.Flt.log2_lt_of (k := 200) (by decide) (by have := h.2; have := h.1; omega)) (by decide)⟩
theorem divI_ok {i : Int} (h : Sz s) : Ret (mdivI i s) (i / s) := .req h.div .r
theorem modI_ok {i : Int} (h : 0 < s) : Ret (mmodI i s) (i % s) := .req h .r
theorem check_good (h : 0 < s) : Ret (m_check_size s) () := by
  unfold m_check_size
  exact .iteF (.of .r (decide_eq_false (by omega))) .r
theorem fdiv_ok (hs : Sz s) (ha : Cg n S a) (hn : n ≤ 1000) : Ret (m_Coverdd__floordivdd_ a s) ⟨covF (qL a.spans s)⟩ ∧ Cg n (fun k => ∃ x, S x ∧ x / s = k) ⟨covF (qL a.spans s)⟩ := by
  have la := ha.l
  have hp := gd_ps ha.g
  obtain ⟨k1, k2⟩ := init_cg (t := false) (n := n) (S := fun k => ∃ x, S x ∧ x / s = k) (q_prs hp hs.1) (by unfold qL; rw [List.length_map]; omega) (by omega) (fun k => (q_has hp hs.1 k).trans (exists_congr fun x => and_congr_left' (ha.h x)))
  refine ⟨?_, k2⟩
  unfold m_Coverdd__floordivdd_
  simp only [mb_mr, mb_mb]
  exact .b (check_good hs.1) (.b (.comp (g := fun p : Int × Int => (p.1 / s, (p.2 - 1) / s + 1)) fun p hp => .b (divI_ok hs) (.b (divI_ok hs) .r)) k1)
def Sm (s : Int) (l : List (Int × Int)) : Prop := s < 1000000000000000000 ∨ ∀ p ∈ l, p.1 < 1000000000000000000 ∧ p.2 < 1000000000000000000
theorem mulP {i : Int} (h : 0 < s) (h0 : 0 ≤ i) (hm : s < 1000000000000000000 ∨ i < 1000000000000000000) : CMul i s := by
  rcases hm with hm | hm
  · exact .inr ⟨by omega, by omega⟩
  · exact .inl ⟨by omega, by omega⟩
theorem mul_pairs {l : List (Int × Int)} (hs : 0 < s) (hp : Prs l) (hm : Sm s l) : ∀ p ∈ l, CMul p.1 s ∧ CMul p.2 s := fun p h => by
  have h1 := hp p h
  refine ⟨mulP hs h1.1 ?_, mulP hs (by omega) ?_⟩
  · exact hm.imp id fun z => (z p h).1
  · exact hm.imp id fun z => (z p h).2
theorem mul_cg (hs : 0 < s) (ha : Cg n S a) (hn : n ≤ 1000) : Cg n (fun x => S (x / s)) ⟨covF (mL a.spans s)⟩ := by
  have la := ha.l
  have hp := gd_prs ha.g
  exact (init_cg (t := false) (n := n) (S := fun x => S (x / s)) (m_prs hp hs) (by unfold mL; rw [List.length_map]; omega) (by omega) (fun k => (m_has hs k).trans (ha.h _))).2
theorem mul_comp {l : List (Int × Int)} (hs : 0 < s) (hp : Prs l) (hm : Sm s l) : Ret (compM (fun _ => mr true) (fun x : Int × Int => mb (mmulI x.1 s) fun a => mb (mmulI x.2 s) fun b => mr (a, b)) l) (mL l s) :=
  .comp fun p h => .b (.mulI (mul_pairs hs hp hm p h).1) (.b (.mulI (mul_pairs hs hp hm p h).2) .r)
theorem mul_ok (hs : 0 < s) (ha : Cg n S a) (hn : n ≤ 1000) (hm : Sm s a.spans) : Ret (m_Coverdd__muldd_ a s) ⟨covF (mL a.spans s)⟩ := by
  have la := ha.l
  have hp := gd_prs ha.g
  have k1 := init_ok (t := false) (m_prs hp hs) (by unfold mL; rw [List.length_map]; omega)
  unfold m_Coverdd__muldd_
  simp only [mb_mr, mb_mb]
  exact .b (check_good hs) (.b (mul_comp hs hp hm) k1)
theorem rmul_ok (hs : 0 < s) (ha : Cg n S a) (hn : n ≤ 1000) (hm : Sm s a.spans) : Ret (m_Coverdd__rmuldd_ a s) ⟨covF (mL a.spans s)⟩ := by
  have la := ha.l
  have hp := gd_prs ha.g
  have k1 := init_ok (t := false) (m_prs hp hs) (by unfold mL; rw [List.length_map]; omega)
  unfold m_Coverdd__rmuldd_
  simp only [mb_mr, mb_mb]
  exact .b (check_good hs) (.b (mul_comp hs hp hm) k1)
theorem touched_ok {ps : List (Int × Int)} (hs : Sz s) : Ret (m_law_touched ps s) (qL (ps.filter fun p => decide (p.1 < p.2)) s) := by
  unfold m_law_touched
  simp only [mb_mr, mb_mb]
  exact Ret.compF (p := fun p : Int × Int => decide (p.1 < p.2)) (g := fun p => (p.1 / s, (p.2 - 1) / s + 1)) (fun x hx => .r) fun p hp _ => .b (divI_ok hs) (.b (divI_ok hs) .r)
end
/-! remainders -/
def lef (ps : List (Int × Int)) (s x : Int) : Bool := ps.any fun p => decide (p.1 + (x - p.1) % s < p.2)
def rmS (f : List (Int × Int)) (p : Int × Int) (s : Int) : List (Int × Int) :=
  if s ≤ p.2 - p.1 then wsp f 0 s
  else if p.1 % s + p.2 - p.1 ≤ s then wsp f (p.1 % s) (p.1 % s + p.2 - p.1)
  else wsp (wsp f (p.1 % s) s) 0 (p.1 % s + p.2 - p.1 - s)
theorem mod_of {a s q : Int} (h0 : 0 ≤ a - q * s) (h1 : a - q * s < s) : a % s = a - q * s := by
  have e : ((a - q * s) + q * s) % s = (a - q * s) % s := Int.add_mul_emod_self_right _ _ _
  rw [Int.emod_eq_of_lt h0 h1, show a - q * s + q * s = a by omega] at e
  exact e
theorem rm_one {a b s x : Int} (hs : 0 < s) (x0 : 0 ≤ x) (x1 : x < s) : (x - a) % s = if a % s ≤ x then x - a % s else x - a % s + s := by
  have h0 := Int.emod_nonneg a (show s ≠ 0 by omega)
  have h1 := Int.emod_lt_of_pos a hs
  have h2 := Int.emod_def a s
  generalize a % s = r at *
  have e : a = r + s * (a / s) := by omega
  generalize a / s = q at e
  subst e
  split
  · have := mod_of (a := x - (r + s * q)) (s := s) (q := -q) (by rw [Int.neg_mul, Int.mul_comm q s]; omega) (by rw [Int.neg_mul, Int.mul_comm q s]; omega)
    rw [this, Int.neg_mul, Int.mul_comm q s]; omega
  · have := mod_of (a := x - (r + s * q)) (s := s) (q := -q - 1) (by rw [Int.sub_mul, Int.neg_mul, Int.mul_comm q s]; omega) (by rw [Int.sub_mul, Int.neg_mul, Int.mul_comm q s]; omega)
    rw [this, Int.sub_mul, Int.neg_mul, Int.mul_comm q s]; omega
theorem rm_step {f : List (Int × Int)} {p : Int × Int} {s : Int} (hs : 0 < s) (hf : Gd (-1) f) (hp : 0 ≤ p.1 ∧ p.1 ≤ p.2) : Gd (-1) (rmS f p s) ∧ (∀ x, Has (rmS f p s) x ↔ Has f x ∨ (0 ≤ x ∧ x < s ∧ p.1 + (x - p.1) % s < p.2)) ∧ (rmS f p s).length ≤ f.length + 2 := by
  have h0 := Int.emod_nonneg p.1 (show s ≠ 0 by omega)
  have h1 := Int.emod_lt_of_pos p.1 hs
  unfold rmS
  by_cases c1 : s ≤ p.2 - p.1
  · rw [if_pos c1]
    refine ⟨gd_wsp hf (by omega) (by omega), fun x => (has_wsp hf (by omega)).trans (or_congr Iff.rfl ?_), Nat.le_trans (len_wsp _ _ _) (by omega)⟩
    constructor
    · intro ⟨x0, x1⟩
      have := Int.emod_lt_of_pos (x - p.1) hs
      exact ⟨x0, x1, by omega⟩
    · intro ⟨x0, x1, _⟩; exact ⟨x0, x1⟩
  · rw [if_neg c1]
    by_cases c2 : p.1 % s + p.2 - p.1 ≤ s
    · rw [if_pos c2]
      refine ⟨gd_wsp hf (by omega) (by omega), fun x => (has_wsp hf (by omega)).trans (or_congr Iff.rfl ?_), Nat.le_trans (len_wsp _ _ _) (by omega)⟩
      constructor
      · intro ⟨x0, x1⟩
        refine ⟨by omega, by omega, ?_⟩
        rw [rm_one hs (by omega) (by omega) (b := 0), if_pos x0]; omega
      · intro ⟨x0, x1, x2⟩
        rw [rm_one hs x0 x1 (b := 0)] at x2
        split at x2 <;> omega
    · rw [if_neg c2]
      have g1 : Gd (-1) (wsp f (p.1 % s) s) := gd_wsp hf (by omega) (by omega)
      refine ⟨gd_wsp g1 (by omega) (by omega), fun x => (has_wsp g1 (by omega)).trans ((or_congr (has_wsp hf (by omega)) Iff.rfl).trans (or_assoc.trans (or_congr Iff.rfl ?_))), ?_⟩
      · constructor
        · intro z
          have x0 : 0 ≤ x := by omega
          have x1 : x < s := by omega
          refine ⟨x0, x1, ?_⟩
          rw [rm_one hs x0 x1 (b := 0)]
          split <;> omega
        · intro ⟨x0, x1, x2⟩
          rw [rm_one hs x0 x1 (b := 0)] at x2
          split at x2 <;> omega
      · have := len_wsp (wsp f (p.1 % s) s) 0 (p.1 % s + p.2 - p.1 - s)
        have := len_wsp f (p.1 % s) s
        omega
def rmF (l : List (Int × Int)) (s : Int) : List (Int × Int) := l.foldl (fun f p => rmS f p s) []
def RM (l : List (Int × Int)) (s x : Int) : Prop := 0 ≤ x ∧ x < s ∧ lef l s x = true
theorem lef_iff {l : List (Int × Int)} {s x : Int} : lef l s x = true ↔ ∃ p ∈ l, p.1 + (x - p.1) % s < p.2 := by
  unfold lef
  rw [List.any_eq_true]
  exact exists_congr fun p => and_congr_right' decide_eq_true_iff
theorem rm_from {l f : List (Int × Int)} {s : Int} (hs : 0 < s) (hf : Gd (-1) f) (hl : Prs l) : Gd (-1) (l.foldl (fun f p => rmS f p s) f) ∧ (∀ x, Has (l.foldl (fun f p => rmS f p s) f) x ↔ Has f x ∨ RM l s x) ∧ (l.foldl (fun f p => rmS f p s) f).length ≤ f.length + 2 * l.length := by
  induction l generalizing f with
  | nil => exact ⟨hf, fun x => ⟨.inl, fun h => h.elim id fun h => by cases h.2.2⟩, Nat.le_refl _⟩
  | cons p l ih =>
    obtain ⟨a1, a2, a3⟩ := rm_step (f := f) (p := p) hs hf (hl p List.mem_cons_self)
    obtain ⟨b1, b2, b3⟩ := ih a1 fun q h => hl q (List.mem_cons_of_mem _ h)
    refine ⟨b1, fun x => (b2 x).trans ((or_congr (a2 x) Iff.rfl).trans (or_assoc.trans (or_congr Iff.rfl ?_))), by
      rw [List.length_cons]
      have b3 : (l.foldl (fun f p => rmS f p s) (rmS f p s)).length ≤ _ := b3
      show (l.foldl (fun f p => rmS f p s) (rmS f p s)).length ≤ _
      omega⟩
    unfold RM
    rw [lef_iff, lef_iff]
    constructor
    · rintro (⟨h0, h1, h2⟩ | ⟨h0, h1, q, hq, h2⟩)
      · exact ⟨h0, h1, p, List.mem_cons_self, h2⟩
      · exact ⟨h0, h1, q, List.mem_cons_of_mem _ hq, h2⟩
    · rintro ⟨h0, h1, q, hq, h2⟩
      rcases List.mem_cons.mp hq with rfl | hq
      · exact .inl ⟨h0, h1, h2⟩
      · exact .inr ⟨h0, h1, q, hq, h2⟩
theorem rm_ok {l : List (Int × Int)} {s : Int} (hs : 0 < s) (hl : Ps l) (n : l.length ≤ 1000) : Ret (m_remainders l s) (rmF l s) := by
  unfold m_remainders
  simp only [mb_mr, mb_mb, mite_mr]
  refine .b (.forMg (fun p f => rmS f p s) (fun i c => Gd (-1) c ∧ c.length ≤ 2 * i) ⟨trivial, Nat.zero_le _⟩ ?_ ?_) .r
  · rintro i ⟨a, b⟩ c hx ⟨g, le⟩
    have hi : i < l.length := (List.getElem?_eq_some_iff.mp hx).1
    have hab := hl _ (List.mem_of_getElem? hx)
    have hab : 0 ≤ a ∧ a < b := hab
    have h0 := Int.emod_nonneg a (show s ≠ 0 by omega)
    have h1 := Int.emod_lt_of_pos a hs
    refine .b (modI_ok hs) ?_
    show Ret _ (if s ≤ b - a then wsp c 0 s else if a % s + b - a ≤ s then wsp c (a % s) (a % s + b - a) else wsp (wsp c (a % s) s) 0 (a % s + b - a - s))
    simp only [decide_eq_true_eq]
    refine .if' (fun z => ?_) fun z => .if' (fun w => ?_) fun w => ?_
    · exact .b (with_ok g (by omega) (by omega)) .r
    · exact .b (with_ok g (by omega) (by omega)) .r
    · have := len_wsp c (a % s) s
      exact .b (with_ok g (by omega) (by omega)) (.b (with_ok (gd_wsp g (by omega) (by omega)) (by omega) (by omega)) .r)
  · rintro i p c hx ⟨g, le⟩
    have hp := hl _ (List.mem_of_getElem? hx)
    obtain ⟨h1, h2, h3⟩ := rm_step hs g (p := p) ⟨hp.1, by omega⟩
    exact ⟨h1, by omega⟩
theorem rm_has {l : List (Int × Int)} {s : Int} (hs : 0 < s) (hl : Prs l) : Gd (-1) (rmF l s) ∧ (∀ x, Has (rmF l s) x ↔ RM l s x) ∧ (rmF l s).length ≤ 2 * l.length := by
  obtain ⟨h1, h2, h3⟩ := rm_from (f := []) hs trivial hl
  exact ⟨h1, fun x => (h2 x).trans ⟨fun h => h.elim (fun h => (has_nil.mp h).elim) id, .inr⟩, by rw [List.length_nil, Nat.zero_add] at h3; exact h3⟩
theorem mod_cg {n : Nat} {S : Int → Prop} {a : Cover} {s : Int} (hs : 0 < s) (ha : Cg n S a) (hn : n ≤ 1000) : Ret (m_Coverdd__moddd_ a s) ⟨covF (rmF a.spans s)⟩ ∧ covF (rmF a.spans s) = rmF a.spans s := by
  have la := ha.l
  obtain ⟨h1, h2, h3⟩ := rm_has hs (gd_prs ha.g)
  have k1 := init_ok (t := false) (gd_prs h1) (by omega)
  refine ⟨?_, cov_is h1 (gd_prs h1) fun x => Iff.rfl⟩
  unfold m_Coverdd__moddd_
  simp only [mb_mr, mb_mb]
  exact .b (check_good hs) (.b (rm_ok hs (gd_ps ha.g) (by omega)) k1)
theorem left_ok {ps : List (Int × Int)} {s x : Int} (hs : 0 < s) : Ret (m_law_left_over ps s x) (lef ps s x) := by
  unfold m_law_left_over
  simp only [mb_mr, mb_mb]
  refine .b (.forR (fun p _ => if p.1 + (x - p.1) % s < p.2 then .ret true else .next ()) fun p hp c => ?_) ?_
  · refine .of (.ite' (c := decide (p.1 + (x - p.1) % s < p.2)) (.b (modI_ok hs) .r) (fun _ => .r) (fun _ => .r)) ?_
    simp only [decide_eq_true_eq]
  · have e : go (fun (p : Int × Int) (_ : Unit) => if p.1 + (x - p.1) % s < p.2 then Stp.ret true else .next ()) ps () = if lef ps s x = true then Sum.inr true else .inl () := by
      unfold lef
      induction ps with
      | nil => rfl
      | cons p ps ih =>
        unfold go
        rw [List.any_cons]
        by_cases z : p.1 + (x - p.1) % s < p.2
        · simp [z]
        · simp only [if_neg z, decide_eq_false z, Bool.false_or]
          exact ih
    rw [e]
    cases lef ps s x with
    | true => exact .r
    | false => exact .r
/-! the law's own remainders -/
structure SI (F : Int → Bool) (P : Nat → Int) (e : Int) (i : Nat) (c : List (Int × Int) × Int) : Prop where
  g : Gd (-1) c.1
  b : ∀ p ∈ c.1, F p.2 = false ∧ p.2 ≤ (if 0 ≤ c.2 then c.2 else P i)
  s : c.2 = -1 ∨ (0 ≤ c.2 ∧ c.2 ≤ P i ∧ c.2 < e ∧ F c.2 = true ∧ (∀ x, c.2 ≤ x → x < P i → F x = true))
  d : ∀ x, (Has c.1 x ∨ (0 ≤ c.2 ∧ c.2 ≤ x ∧ x < P i)) ↔ (P 0 ≤ x ∧ x < P i ∧ F x = true)
  l : c.1.length ≤ i
theorem gd_push {f : List (Int × Int)} {a b : Int} (h : Gd (-1) f) (q : ∀ p ∈ f, p.2 < a) (ka : 0 ≤ a) (ab : a < b) : Gd (-1) (f ++ [(a, b)]) := gd_snoc h q (by omega) ab
theorem has_snoc' {l : List (Int × Int)} {a b x : Int} : Has (l ++ [(a, b)]) x ↔ Has l x ∨ (a ≤ x ∧ x < b) := has_snoc
theorem spans_ok {q : List Int} {e : Int} {F : Int → Bool} (P : Nat → Int) (n : q.length ≤ 1000) (hP : ∀ i, i ≤ q.length → (q ++ [e])[i]? = some (P i)) (mono : ∀ i, i < q.length → P i ≤ P (i + 1)) (pos : ∀ i, i ≤ q.length → 0 ≤ P i) (lt : ∀ i, i < q.length → P i < e) (reg : ∀ i, i < q.length → ∀ x, P i ≤ x → x < P (i + 1) → F x = F (P i)) : ∃ r, Ret (m_law_spans (q ++ [e]) (q.map F)) r ∧ Gd (-1) r ∧ (∀ x, Has r x ↔ (P 0 ≤ x ∧ x < e ∧ F x = true)) := by
  have he : P q.length = e := by
    have := hP q.length (Nat.le_refl _)
    rw [List.getElem?_append_right (Nat.le_refl _), Nat.sub_self] at this
    exact (Option.some.inj this).symm
  have hF : ∀ i, i < q.length → (q.map F)[i]? = some (F (P i)) := fun i hi => by
    have := hP i (by omega)
    rw [List.getElem?_append_left hi] at this
    rw [List.getElem?_map, this]; rfl
  unfold m_law_spans
  simp only [mb_mr, mb_mb]
  have hl : (q.map F).length = q.length := List.length_map ..
  obtain ⟨⟨f, st⟩, h1, h2⟩ := Ret.forMe (xs := (List.range (((q.map F).length : Int) - 0).toNat).map fun (k : Nat) => (0 : Int) + (k : Int)) (c0 := (([] : List (Int × Int)), (0 : Int) - 1)) (f := (fun x_k c_ => (match c_ with | (x_found, x_start) => mb (mite (mand (mix (q.map F) x_k) (mr (decide (x_start < (0 : Int))))) (mix (q ++ [e]) x_k) (mr (x_start)) : M (Int)) fun x_start => mite (mand (mb (mix (q.map F) x_k) fun a => mr (!a)) (mr (decide ((0 : Int) ≤ x_start)))) (mb (mix (q ++ [e]) x_k) fun a => mb (mpush x_found (x_start, a)) fun x_found => mr (x_found, (0 : Int) - 1)) (mr (x_found, x_start)))))
    (SI F P e) ⟨trivial, fun p hp => (by cases hp), .inl rfl, fun x => ⟨fun h => h.elim (fun h => (has_nil.mp h).elim) fun h => absurd h.1 (by decide), fun h => absurd h.1 (by omega)⟩, Nat.le_refl _⟩ (by
      rintro i x ⟨f, st⟩ hx ⟨g, b, s, d, l⟩
      obtain ⟨rfl, hi⟩ := range0 hx
      rw [hl] at hi
      have l : f.length ≤ i := l
      have b : ∀ p ∈ f, F p.2 = false ∧ p.2 ≤ (if 0 ≤ st then st else P i) := b
      have s : st = -1 ∨ (0 ≤ st ∧ st ≤ P i ∧ st < e ∧ F st = true ∧ (∀ x, st ≤ x → x < P i → F x = true)) := s
      have d : ∀ x, (Has f x ∨ (0 ≤ st ∧ st ≤ x ∧ x < P i)) ↔ (P 0 ≤ x ∧ x < P i ∧ F x = true) := d
      have k1 := Ret.ixN (hP i (by omega))
      have k2 := Ret.ixN (hF i hi)
      have m := mono i hi
      have ps := pos i (by omega)
      have rg := reg i hi
      have lt := lt i hi
      have mP0 : P 0 ≤ P i := by
        clear k1 k2 rg m ps lt d s b
        have : ∀ j, j ≤ i → P 0 ≤ P j := fun j => by
          induction j with
          | zero => intro _; exact Int.le_refl _
          | succ j ih => intro hj; have := ih (by omega); have := mono j (by omega); omega
        exact this i (Nat.le_refl _)
      cases hv : F (P i) with
      | true =>
        rw [hv] at k2
        by_cases z : st < 0
        · refine ⟨(f, P i), .b (b := P i) (.iteT (.and (a := true) (b := true) k2 fun _ => .of .r (decide_eq_true z)) k1) (.iteF (.and (a := false) (b := false) (.b k2 .r) fun y => by cases y) .r), g, fun p hp => ?_, .inr ⟨ps, m, lt, hv, fun x h1 h2 => (rg x h1 h2).trans hv⟩, fun x => ?_, by show f.length ≤ i + 1; omega⟩
          · have := b p hp
            rw [if_neg (by omega)] at this
            show F p.2 = false ∧ p.2 ≤ (if 0 ≤ P i then P i else P (i + 1))
            rw [if_pos ps]; exact this
          · show (Has f x ∨ (0 ≤ P i ∧ P i ≤ x ∧ x < P (i + 1))) ↔ (P 0 ≤ x ∧ x < P (i + 1) ∧ F x = true)
            constructor
            · rintro (h | ⟨_, h1, h2⟩)
              · obtain ⟨a1, a2, a3⟩ := (d x).mp (.inl h); exact ⟨a1, by omega, a3⟩
              · exact ⟨by omega, h2, (rg x h1 h2).trans hv⟩
            · rintro ⟨h1, h2, h3⟩
              by_cases w : x < P i
              · rcases (d x).mpr ⟨h1, w, h3⟩ with h | h
                · exact .inl h
                · omega
              · exact .inr ⟨ps, by omega, h2⟩
        · rcases s with s | ⟨s1, s2, s3, s4, s5⟩
          · omega
          refine ⟨(f, st), .b (b := st) (.iteF (.and (a := true) (b := false) k2 fun _ => .of .r (decide_eq_false z)) .r) (.iteF (.and (a := false) (b := false) (.b k2 .r) fun y => by cases y) .r), g, fun p hp => ?_, .inr ⟨s1, by show st ≤ P (i + 1); omega, s3, s4, fun x h1 h2 => ?_⟩, fun x => ?_, by show f.length ≤ i + 1; omega⟩
          · have := b p hp
            rw [if_pos s1] at this
            show F p.2 = false ∧ p.2 ≤ (if 0 ≤ st then st else P (i + 1))
            rw [if_pos s1]; exact this
          · by_cases w : x < P i
            · exact s5 x h1 w
            · exact (rg x (by omega) h2).trans hv
          · show (Has f x ∨ (0 ≤ st ∧ st ≤ x ∧ x < P (i + 1))) ↔ (P 0 ≤ x ∧ x < P (i + 1) ∧ F x = true)
            constructor
            · rintro (h | ⟨_, h1, h2⟩)
              · obtain ⟨a1, a2, a3⟩ := (d x).mp (.inl h); exact ⟨a1, by omega, a3⟩
              · by_cases w : x < P i
                · obtain ⟨a1, a2, a3⟩ := (d x).mp (.inr ⟨s1, h1, w⟩); exact ⟨a1, by omega, a3⟩
                · exact ⟨by omega, h2, (rg x (by omega) h2).trans hv⟩
            · rintro ⟨h1, h2, h3⟩
              by_cases w : x < P i
              · rcases (d x).mpr ⟨h1, w, h3⟩ with h | h
                · exact .inl h
                · exact .inr ⟨s1, h.2.1, h2⟩
              · exact .inr ⟨s1, by omega, h2⟩
      | false =>
        rw [hv] at k2
        by_cases z : 0 ≤ st
        · rcases s with s | ⟨s1, s2, s3, s4, s5⟩
          · omega
          have sl : st < P i := by
            rcases Int.lt_or_eq_of_le s2 with h | h
            · exact h
            · rw [h, hv] at s4; cases s4
          refine ⟨(f ++ [(st, P i)], -1), .b (b := st) (.iteF (.and (a := false) (b := false) k2 fun y => by cases y) .r) (.iteT (.and (a := true) (b := true) (.b k2 .r) fun _ => .of .r (decide_eq_true z)) (.b k1 (.b (.push (by omega)) .r))), gd_push g (fun p hp => ?_) s1 sl, fun p hp => ?_, .inl rfl, fun x => ?_, by show (f ++ [(st, P i)]).length ≤ i + 1; rw [List.length_append]; show f.length + 1 ≤ i + 1; omega⟩
          · have := b p hp
            rw [if_pos s1] at this
            rcases Int.lt_or_eq_of_le this.2 with h | h
            · exact h
            · rw [h, s4] at this; cases this.1
          · show F p.2 = false ∧ p.2 ≤ P (i + 1)
            rcases List.mem_append.mp hp with hp | hp
            · have := b p hp
              rw [if_pos s1] at this
              exact ⟨this.1, by omega⟩
            · rw [List.mem_singleton.mp hp]; exact ⟨hv, m⟩
          · show (Has (f ++ [(st, P i)]) x ∨ (0 ≤ (-1 : Int) ∧ -1 ≤ x ∧ x < P (i + 1))) ↔ (P 0 ≤ x ∧ x < P (i + 1) ∧ F x = true)
            rw [has_snoc']
            constructor
            · rintro ((h | ⟨h1, h2⟩) | ⟨h, _⟩)
              · obtain ⟨a1, a2, a3⟩ := (d x).mp (.inl h); exact ⟨a1, by omega, a3⟩
              · obtain ⟨a1, a2, a3⟩ := (d x).mp (.inr ⟨s1, h1, h2⟩); exact ⟨a1, by omega, a3⟩
              · exact absurd h (by decide)
            · rintro ⟨h1, h2, h3⟩
              by_cases w : x < P i
              · rcases (d x).mpr ⟨h1, w, h3⟩ with h | h
                · exact .inl (.inl h)
                · exact .inl (.inr ⟨h.2.1, h.2.2⟩)
              · rw [rg x (by omega) h2, hv] at h3; cases h3
        · have hst : st = -1 := by omega
          subst hst
          refine ⟨(f, -1), .b (b := -1) (.iteF (.and (a := false) (b := false) k2 fun y => by cases y) .r) (.iteF (.and (a := true) (b := false) (.b k2 .r) fun _ => .r) .r), g, fun p hp => ?_, .inl rfl, fun x => ?_, by show f.length ≤ i + 1; omega⟩
          · have := b p hp
            rw [if_neg (by decide)] at this
            show F p.2 = false ∧ p.2 ≤ P (i + 1)
            exact ⟨this.1, by omega⟩
          · show (Has f x ∨ (0 ≤ (-1 : Int) ∧ -1 ≤ x ∧ x < P (i + 1))) ↔ (P 0 ≤ x ∧ x < P (i + 1) ∧ F x = true)
            constructor
            · rintro (h | ⟨h, _⟩)
              · obtain ⟨a1, a2, a3⟩ := (d x).mp (.inl h); exact ⟨a1, by omega, a3⟩
              · exact absurd h (by decide)
            · rintro ⟨h1, h2, h3⟩
              by_cases w : x < P i
              · rcases (d x).mpr ⟨h1, w, h3⟩ with h | h
                · exact .inl h
                · exact absurd h.1 (by decide)
              · rw [rg x (by omega) h2, hv] at h3; cases h3)
  have hn : ((List.range (((q.map F).length : Int) - 0).toNat).map fun (k : Nat) => (0 : Int) + (k : Int)).length = q.length := by
    rw [List.length_map, List.length_range, hl]; omega
  rw [hn] at h2
  obtain ⟨g, b, s, d, l⟩ := h2
  have l : f.length ≤ q.length := l
  have b : ∀ p ∈ f, F p.2 = false ∧ p.2 ≤ (if 0 ≤ st then st else P q.length) := b
  have s : st = -1 ∨ (0 ≤ st ∧ st ≤ P q.length ∧ st < e ∧ F st = true ∧ (∀ x, st ≤ x → x < P q.length → F x = true)) := s
  have d : ∀ x, (Has f x ∨ (0 ≤ st ∧ st ≤ x ∧ x < P q.length)) ↔ (P 0 ≤ x ∧ x < P q.length ∧ F x = true) := d
  rw [he] at d
  have kr : Ret (mrange 0 ((q.map F).length : Int)) ((List.range (((q.map F).length : Int) - 0).toNat).map fun (k : Nat) => (0 : Int) + (k : Int)) := .range (by omega)
  have kl : Ret (mix (q ++ [e]) ((q.map F).length : Int)) e := by
    rw [hl]; rw [← he]; exact .ixN (by rw [he]; have := hP q.length (Nat.le_refl _); rw [he] at this; exact this)
  by_cases z : 0 ≤ st
  · rcases s with s | ⟨s1, s2, s3, s4, s5⟩
    · omega
    refine ⟨f ++ [(st, e)], .b kr (.b h1 ?_), gd_push g (fun p hp => ?_) s1 s3, fun x => has_snoc'.trans ⟨fun h => (d x).mp (h.imp id fun h => ⟨s1, h.1, h.2⟩), fun h => ((d x).mpr h).imp id fun h => h.2⟩⟩
    · exact .iteT (.of .r (decide_eq_true z)) (.b kl (.push (by omega)))
    · have := b p hp
      rw [if_pos s1] at this
      rcases Int.lt_or_eq_of_le this.2 with h | h
      · exact h
      · rw [h, s4] at this; cases this.1
  · refine ⟨f, .b kr (.b h1 ?_), g, fun x => ⟨fun h => (d x).mp (.inl h), fun h => ((d x).mpr h).elim id fun h => absurd h.1 z⟩⟩
    exact .iteF (.of .r (decide_eq_false z)) .r
theorem lef_has {l : List (Int × Int)} {s x : Int} (hs : 0 < s) : lef l s x = true ↔ ∃ y, Has l y ∧ (y - x) % s = 0 := by
  rw [lef_iff]
  constructor
  · rintro ⟨p, hp, h⟩
    have h0 := Int.emod_nonneg (x - p.1) (show s ≠ 0 by omega)
    refine ⟨p.1 + (x - p.1) % s, ⟨p, hp, by omega, h⟩, ?_⟩
    have h2 := Int.emod_def (x - p.1) s
    have e : p.1 + (x - p.1) % s - x = s * (-((x - p.1) / s)) := by rw [Int.mul_neg]; omega
    rw [e, Int.mul_emod_right]
  · rintro ⟨y, ⟨p, hp, h1, h2⟩, h3⟩
    refine ⟨p, hp, ?_⟩
    have e : (x - p.1) % s = (y - p.1) % s := by
      have : y - p.1 = (x - p.1) + (y - x) := by omega
      rw [this, Int.add_emod, h3, Int.add_zero, Int.emod_emod]
    have h4 := Int.emod_def (y - p.1) s
    have h5 : 0 ≤ s * ((y - p.1) / s) := Int.mul_nonneg (by omega) (Int.ediv_nonneg (by omega) (by omega))
    omega
theorem lef_same {l m : List (Int × Int)} {s x : Int} (hs : 0 < s) (e : ∀ x, Has l x ↔ Has m x) : lef l s x = lef m s x := by
  rw [Bool.eq_iff_iff, lef_has hs, lef_has hs]
  exact exists_congr fun y => and_congr_left' (e y)
theorem lef_shift {ps : List (Int × Int)} {s x : Int} (hs : 0 < s) (x0 : 0 < x) (x1 : x < s) (h : ∀ p ∈ ps, x ≠ p.1 % s ∧ x ≠ p.2 % s) : lef ps s x = lef ps s (x - 1) := by
  rw [Bool.eq_iff_iff, lef_iff, lef_iff]
  refine exists_congr fun p => and_congr_right fun hp => ?_
  have hp := h p hp
  have r1 := rm_one (a := p.1) (b := 0) hs (by omega) x1
  have r2 := rm_one (a := p.1) (b := 0) (x := x - 1) hs (by omega) (by omega)
  have e : (x - p.1) % s = (x - 1 - p.1) % s + 1 := by
    rw [r1, r2]
    split <;> split <;> omega
  constructor
  · intro h; omega
  · intro h
    rcases Int.lt_or_eq_of_le (show p.1 + (x - p.1) % s ≤ p.2 by omega) with z | z
    · exact z
    · exfalso
      have h2 := Int.emod_def (x - p.1) s
      have := mod_of (a := p.2) (s := s) (q := -((x - p.1) / s)) (by rw [Int.neg_mul, Int.mul_comm]; omega) (by rw [Int.neg_mul, Int.mul_comm]; omega)
      rw [Int.neg_mul, Int.mul_comm] at this
      omega
theorem sorted_at {q : List Int} (h : q.Pairwise (· ≤ ·)) {i j : Nat} {a b : Int} (ij : i ≤ j) (ha : q[i]? = some a) (hb : q[j]? = some b) : a ≤ b := by
  rcases Nat.lt_or_eq_of_le ij with ij | rfl
  · rw [List.pairwise_iff_getElem] at h
    obtain ⟨hi, rfl⟩ := List.getElem?_eq_some_iff.mp ha
    obtain ⟨hj, rfl⟩ := List.getElem?_eq_some_iff.mp hb
    exact h i j hi hj ij
  · rw [ha] at hb; cases hb; exact Int.le_refl _
theorem rem_ok {ps l : List (Int × Int)} {s : Int} (hs : 0 < s) (hp : Prs ps) (n : ps.length ≤ 100) (hg : Gd (-1) l) (e : ∀ x, Has l x ↔ Has ps x) : Ret (m_law_remainders ps s) (rmF l s) := fun post px k => by
  unfold m_law_remainders
  simp only [mb_mr, mb_mb]
  refine (show Ret _ (ps.map fun p => p.1 % s) from .comp fun p _ => modI_ok hs) _ _ ?_
  refine Ret.addL (by simp only [List.length_map, List.length_cons, List.length_nil]; omega) _ _ ?_
  refine (show Ret _ (ps.map fun p => p.2 % s) from .comp fun p _ => modI_ok hs) _ _ ?_
  refine Ret.addL (by simp only [List.length_append, List.length_map, List.length_cons, List.length_nil]; omega) _ _ ?_
  show (∀ ys : List Int, _ → _ → _)
  intro ys pm so
  simp only [List.map_id'] at pm
  have hlen := pm.length_eq
  simp only [List.length_append, List.length_map, List.length_cons, List.length_nil] at hlen
  have hmem : ∀ x, x ∈ ys ↔ x = 0 ∨ x = s ∨ (∃ p ∈ ps, p.1 % s = x) ∨ ∃ p ∈ ps, p.2 % s = x := fun x => by
    rw [pm.mem_iff]
    simp only [List.mem_append, List.mem_cons, List.not_mem_nil, or_false, List.mem_map]
    rw [or_assoc, or_assoc]
  obtain ⟨q, la, rfl⟩ : ∃ q la, ys = q ++ [la] := by
    rcases List.eq_nil_or_concat ys with h | ⟨q, la, h⟩
    · rw [h] at hlen; simp at hlen; omega
    · exact ⟨q, la, by rw [h, List.concat_eq_append]⟩
  have nn : ∀ x ∈ q ++ [la], 0 ≤ x ∧ x ≤ s := fun x hx => by
    rcases (hmem x).mp hx with h | h | ⟨p, _, h⟩ | ⟨p, _, h⟩
    · omega
    · omega
    · have := Int.emod_nonneg p.1 (show s ≠ 0 by omega); have := Int.emod_lt_of_pos p.1 hs; omega
    · have := Int.emod_nonneg p.2 (show s ≠ 0 by omega); have := Int.emod_lt_of_pos p.2 hs; omega
  have hla : la = s := by
    have h1 := (nn la (List.mem_append_right _ (List.mem_singleton.mpr rfl))).2
    have h2 : s ∈ q ++ [la] := (hmem s).mpr (.inr (.inl rfl))
    rcases List.mem_append.mp h2 with h2 | h2
    · have := (List.pairwise_append.mp so).2.2 s h2 la (List.mem_singleton.mpr rfl); omega
    · exact (List.mem_singleton.mp h2).symm
  subst hla
  have hq : ∀ x ∈ q, x < la := by
    have p1 : (la :: q).Perm (la :: ([0] ++ ps.map (fun p => p.1 % la) ++ ps.map fun p => p.2 % la)) := by
      refine (List.perm_append_comm (l₁ := [la]) (l₂ := q)).trans (pm.trans ?_)
      exact List.Perm.swap _ _ _
    have p2 := p1.cons_inv
    intro x hx
    have := p2.mem_iff.mp hx
    simp only [List.mem_append, List.mem_cons, List.not_mem_nil, or_false, List.mem_map] at this
    rcases this with (rfl | ⟨p, _, rfl⟩) | ⟨p, _, rfl⟩
    · exact hs
    · exact Int.emod_lt_of_pos _ hs
    · exact Int.emod_lt_of_pos _ hs
  have hql : q.length ≤ 300 := by rw [List.length_append, List.length_singleton] at hlen; omega
  have at_ : ∀ i, i ≤ q.length → (q ++ [la])[i]? = some ((q ++ [la]).getD i 0) := fun i hi => by
    rw [List.getD_eq_getElem?_getD]
    have : i < (q ++ [la]).length := by rw [List.length_append, List.length_singleton]; omega
    rw [List.getElem?_eq_getElem this]; rfl
  obtain ⟨r, r1, r2, r3⟩ := spans_ok (q := q) (e := la) (F := lef ps la) (fun i => (q ++ [la]).getD i 0) (by omega) at_
    (fun i hi => sorted_at so (Nat.le_succ i) (at_ i (by omega)) (at_ (i + 1) (by omega)))
    (fun i hi => (nn _ (List.mem_of_getElem? (at_ i hi))).1)
    (fun i hi => by
      have h1 := at_ i (by omega)
      rw [List.getElem?_append_left hi] at h1
      exact hq _ (List.mem_of_getElem? h1))
    (fun i hi x h1 h2 => by
      have a1 := at_ i (by omega)
      have a2 := at_ (i + 1) (by omega)
      generalize (q ++ [la]).getD i 0 = A at *
      generalize (q ++ [la]).getD (i + 1) 0 = B at *
      have hA := nn A (List.mem_of_getElem? a1)
      have hB := nn B (List.mem_of_getElem? a2)
      obtain ⟨m, rfl⟩ : ∃ m : Nat, x = A + m := ⟨(x - A).toNat, by omega⟩
      clear h1
      induction m with
      | zero => simp
      | succ m ih =>
        have ih := ih (by omega)
        rw [← ih]
        have := lef_shift (ps := ps) (s := la) (x := A + (m + 1 : Nat)) hs (by omega) (by omega) (fun p hp => by
          have no : A + ((m + 1 : Nat) : Int) ∉ q ++ [la] := fun hx => by
            obtain ⟨j, hj⟩ := List.getElem?_of_mem hx
            rcases Nat.lt_or_ge i j with w | w
            · have := sorted_at so (show i + 1 ≤ j from w) a2 hj; omega
            · have := sorted_at so w hj a1; omega
          exact ⟨fun z => no ((hmem _).mpr (.inr (.inr (.inl ⟨p, hp, z.symm⟩)))), fun z => no ((hmem _).mpr (.inr (.inr (.inr ⟨p, hp, z.symm⟩))))⟩)
        rw [this]
        congr 1; omega)
  have P0 : (q ++ [la]).getD 0 0 = 0 := by
    have h1 := at_ 0 (Nat.zero_le _)
    obtain ⟨j, hj⟩ := List.getElem?_of_mem ((hmem 0).mpr (.inl rfl))
    have := sorted_at so (Nat.zero_le j) h1 hj
    have := (nn _ (List.mem_of_getElem? h1)).1
    omega
  obtain ⟨m1, m2, m3⟩ := rm_has (l := l) hs (gd_prs hg)
  have er : r = rmF l la := gd_uniq r2 m1 fun x => (r3 x).trans (by
    rw [P0, m2 x, ← lef_same hs e]
    exact Iff.rfl)
  have e1 : (((q ++ [la]).length : Int) - 1) = (q.length : Int) := by rw [List.length_append, List.length_singleton]; omega
  rw [e1]
  refine Ret.range (lo := 0) (hi := (q.length : Int)) (by omega) _ _ ?_
  refine (show Ret _ (q.map (lef ps la)) from .of (.comp (g := fun k : Int => lef ps la ((q ++ [la]).getD k.toNat 0)) fun k hk => ?_) ?_) _ _ ?_
  · obtain ⟨j, hj, rfl⟩ := List.mem_map.mp hk
    have hj := List.mem_range.mp hj
    have e2 : ((0 : Int) + (j : Int)) = ((j : Nat) : Int) := by omega
    rw [e2]
    exact .b (.ixN (at_ j (by omega))) (.of (left_ok hs) (by rw [Int.toNat_natCast]))
  · apply List.ext_getElem?
    intro i
    rw [List.map_map]
    by_cases hi : i < q.length
    · rw [List.getElem?_map, List.getElem?_map, List.getElem?_range (by omega)]
      have h1 := at_ i (by omega)
      rw [List.getElem?_append_left hi] at h1
      rw [h1]
      simp
    · rw [List.getElem?_eq_none (by rw [List.length_map, List.length_range]; omega), List.getElem?_eq_none (by rw [List.length_map]; omega)]
  · exact r1 _ _ (er ▸ k)
/-! the law -/
def TP (l : List (Int × Int)) (s : Int) : Prop := ∀ k, (∃ x, Has l x ∧ x / s = k) → k < 10000000000000 ∨ s < 1000000000000000000
theorem sm_of {n : Nat} {S : Int → Prop} {c : Cover} {s : Int} (h : Cg n S c) (q : s < 1000000000000000000 ∨ ∀ x, S x → x < 100000000000000000) : Sm s c.spans := by
  rcases q with q | q
  · exact .inl q
  · refine .inr fun p hp => ?_
    have := gd_mem h.g p hp
    have h1 := q _ ((h.h p.1).mp ⟨p, hp, by omega, by omega⟩)
    have h2 := q _ ((h.h (p.2 - 1)).mp ⟨p, hp, by omega, by omega⟩)
    omega
theorem same_bools {l : List Bool} (h : l.length ≤ 5) : Ret (m_law_same (enc l) (enc l)) true := by
  refine same_self ?_ ?_
  · show plainDs (l.map enc) = true
    clear h
    induction l with
    | nil => rfl
    | cons a l ih => show (true && plainDs (l.map enc)) = true; rw [ih]; rfl
  · show D.depths (l.map enc) + 1 < 8
    have : D.depths (l.map enc) = 0 := by
      clear h
      induction l with
      | nil => rfl
      | cons a l ih => show max 0 (D.depths (l.map enc)) = 0; rw [ih]; rfl
    rw [this]; decide
theorem prs_one {a : Int} (h : 0 ≤ a) : Prs [(a, a + 1)] := fun p hp => by
  rw [List.mem_singleton.mp hp]; show 0 ≤ a ∧ a ≤ a + 1; omega
theorem has_one {a x : Int} : Has [(a, a + 1)] x ↔ x = a := by
  rw [has_cons]
  constructor
  · rintro (⟨h1, h2⟩ | h)
    · have h1 : a ≤ x := h1
      have h2 : x < a + 1 := h2
      omega
    · exact (has_nil.mp h).elim
  · rintro rfl; exact .inl ⟨Int.le_refl _, by show x < x + 1; omega⟩
section
variable {n : Nat} {s : Int} {S : Int → Prop} {c p : Cover} {T : List (Int × Int)}
theorem least_ok (hs : Sz s) (hc : Cg n S c) (hp : Cg n (fun k => ∃ x, S x ∧ x / s = k) p) (hn : n ≤ 40) (hb : s < 1000000000000000000 ∨ ∀ x, S x → x / s < 10000000000000000) (hT : ∀ t ∈ T, 0 ≤ t.1 ∧ t.1 < t.2 ∧ t.2 < 100000000000000000000000000000000 ∧ (∀ k, t.1 ≤ k → k < t.2 → ∃ x, S x ∧ x / s = k)) (h0 : T = [] → p.spans = []) (lT : T.length ≤ 100) : Ret (m_law_least c p T s) true := by
  have hp0 := sm_of hp (hb.imp id fun z k ⟨x, h, e⟩ => by have := z x h; omega)
  have rp := rmul_ok hs.1 hp (by omega) hp0
  have cp := mul_cg hs.1 hp (by omega)
  unfold m_law_least
  simp only [mb_mr, mb_mb, mite_mr, decide_eq_true_eq]
  refine .of (.if' (a := true) (b := true) (fun z => ?_) fun z => ?_) (by split <;> rfl)
  · have hT0 : T = [] := List.length_eq_zero_iff.mp (by omega)
    have e0 := h0 hT0
    refine .b (b := false) ?_ (.b rp.no ?_)
    · unfold m_Coverdd__booldd_; rw [e0]; exact .r
    · rw [e0]
      exact same_self (d := .lst [.bl false, .lst []]) rfl (by decide)
  · refine .bd (by omega) fun j j0 j1 => .bix j0 (by omega) fun t ht => ?_
    obtain ⟨t0, t1, t2, t3⟩ := hT t ht
    refine .bd (by omega) fun d d0 d1 => ?_
    have tk := t3 (t.1 + d) (by omega) (by omega)
    have t4 : s < 1000000000000000000 ∨ t.1 < 10000000000000000 := hb.imp id fun z => by
      obtain ⟨x, h1, h2⟩ := t3 t.1 (Int.le_refl _) t1
      have := z x h1; omega
    have ho0 : 0 ≤ t.1 + d := by omega
    generalize t.1 + d = one at tk ho0
    obtain ⟨i1, i2⟩ := init_cg (t := false) (n := 1) (prs_one ho0) (Nat.le_refl _) (by decide) (fun x => has_one)
    obtain ⟨so, r1, r2⟩ := sub_cg hp i2 (by omega) (by decide)
    refine .b i1 (.b r1 (.bd (by omega) fun m m0 m1 => .b (.range (lo := 0) (hi := m) (by omega)) ?_))
    refine .bA (P := fun mo => ∃ U : Int → Prop, Cg (n + 4) U mo ∧ (∀ k, (∃ x, S x ∧ x / s = k) → U k) ∧ (s < 1000000000000000000 ∨ ∀ x, U x → x < 100000000000000000)) ?_ ?_
    · refine (Any.forM (fun i mo => ∃ U : Int → Prop, Cg (n + i) U mo ∧ (∀ k, (∃ x, S x ∧ x / s = k) → U k) ∧ (s < 1000000000000000000 ∨ ∀ x, U x → x < 100000000000000000)) ⟨_, hp, fun k h => h, hb.imp id fun z k ⟨x, h, e⟩ => by have := z x h; omega⟩ ?_).mono ?_
      · rintro i x mo hx ⟨U, u1, u2, u3⟩
        obtain ⟨rfl, hi⟩ := range0 (n := m.toNat) (i := i) (by rw [show ((m.toNat : Nat) : Int) = m by omega]; exact hx)
        refine .bd (by omega) fun d d0 d1 => ?_
        obtain ⟨v1, v2⟩ := init_cg (t := false) (n := 1) (prs_one (a := t.1 + d) (by omega)) (Nat.le_refl _) (by decide) (fun x => has_one)
        obtain ⟨w, w1, w2⟩ := or_cg u1 v2 (by omega)
        exact .bR v1 (w1.any ⟨_, w2, fun k h => .inl (u2 k h), by
          rcases u3 with u3 | u3
          · exact .inl u3
          · rcases t4 with t4 | t4
            · exact .inl t4
            · exact .inr fun x h => h.elim (u3 x) fun e => by rw [e]; omega⟩)
      · rintro mo ⟨U, u1, u2, u3⟩
        rw [List.length_map, List.length_range] at u1
        exact ⟨U, u1.mono (fun x => Iff.rfl) (by omega), u2, u3⟩
    · rintro mo ⟨U, u1, u2, u3⟩
      have ro := rmul_ok hs.1 u1 (by omega) (sm_of u1 u3)
      have co := mul_cg hs.1 u1 (by omega)
      have rs := rmul_ok hs.1 r2 (by omega) (sm_of r2 (hb.imp id fun z k ⟨⟨x, h, e⟩, _⟩ => by have := z x h; omega))
      have cs := mul_cg hs.1 r2 (by omega)
      obtain ⟨y, y1, y2⟩ := tk
      have l1 := le_no hc cs (by omega) (by omega) (x := y) y1 (fun z => z.2 (by rw [y2]))
      have l2 := le_yes hc co (by omega) (by omega) (fun x h => u2 _ ⟨x, h, rfl⟩)
      have l3 := le_yes cp co (by omega) (by omega) (fun x h => u2 _ h)
      exact .b ro.no (.b rs.no (.b l1 (.b l2 (.b rp.no (.b l3 (same_bools (by simp)))))))
end
theorem has_filter {ps : List (Int × Int)} {x : Int} : Has (ps.filter fun p => decide (p.1 < p.2)) x ↔ Has ps x := by
  constructor
  · rintro ⟨p, hp, h⟩; exact ⟨p, (List.mem_filter.mp hp).1, h⟩
  · rintro ⟨p, hp, h1, h2⟩; exact ⟨p, List.mem_filter.mpr ⟨hp, decide_eq_true (by omega)⟩, h1, h2⟩
section
variable {n : Nat} {s : Int} {S : Int → Prop} {c : Cover} {ps : List (Int × Int)}
theorem pieces_ok (hs : Sz s) (hp : ∀ p ∈ ps, 0 ≤ p.1 ∧ p.1 ≤ p.2 ∧ p.2 ≤ 10000000000000000000000000000000) (lp : ps.length ≤ 40) (hc : Cg 40 (Has ps) c) : Ret (m_law_pieces c ps s) true := by
  have pp : Prs ps := fun p h => by have := hp p h; omega
  have hx : ∀ x, Has ps x → 0 ≤ x ∧ x < 10000000000000000000000000000000 := fun x ⟨p, h, h1, h2⟩ => by have := hp p h; omega
  have hb : s < 1000000000000000000 ∨ ∀ x, Has ps x → x / s < 10000000000000000 := by
    by_cases z : s < 1000000000000000000
    · exact .inl z
    · refine .inr fun x h => (Int.ediv_lt_iff_lt_mul hs.1).mpr ?_
      have := hx x h
      have h1 : 10000000000000000 * 1000000000000000000 ≤ 10000000000000000 * s := Int.mul_le_mul_of_nonneg_left (by omega) (by decide)
      omega
  have tok := touched_ok (ps := ps) hs
  have fps : Ps (ps.filter fun p => decide (p.1 < p.2)) := fun p h => by
    obtain ⟨h1, h2⟩ := List.mem_filter.mp h
    have := hp p h1
    have := of_decide_eq_true h2
    omega
  have tin := q_has fps hs.1
  have tlt := q_lt fps hs.1
  have tpr := q_prs fps hs.1
  have tlen : (qL (ps.filter fun p => decide (p.1 < p.2)) s).length ≤ 40 := by
    unfold qL; rw [List.length_map]; exact Nat.le_trans (List.length_filter_le _ _) lp
  have tin : ∀ k, Has (qL (ps.filter fun p => decide (p.1 < p.2)) s) k ↔ ∃ x, Has ps x ∧ x / s = k := fun k => (tin k).trans (exists_congr fun x => and_congr_left' has_filter)
  generalize qL (ps.filter fun p => decide (p.1 < p.2)) s = T at *
  obtain ⟨f1, f2⟩ := fdiv_ok hs hc (by decide)
  generalize covF (qL c.spans s) = P at f1 f2
  have sm := sm_of f2 (hb.imp id fun z k ⟨x, h, e⟩ => by have := z x h; omega)
  have rp := rmul_ok hs.1 f2 (by decide) sm
  have mp := mul_ok hs.1 f2 (by decide) sm
  have cw := mul_cg hs.1 f2 (by decide)
  generalize covF (mL P s) = W at rp mp cw
  obtain ⟨g1, g2⟩ := fdiv_ok hs cw (by decide)
  have eP : (⟨covF (qL W s)⟩ : Cover) = ⟨P⟩ := g2.eq f2 fun k => by
    constructor
    · rintro ⟨x, ⟨y, h, e⟩, e2⟩; exact ⟨y, h, by omega⟩
    · rintro ⟨y, h, e⟩; exact ⟨y, ⟨y, h, rfl⟩, e⟩
  have g1 : Ret (m_Coverdd__floordivdd_ ⟨W⟩ s) ⟨P⟩ := eP ▸ g1
  have x1 : Ret (m_law_exact P T) true := exact_ok f2.g fun x => (f2.h x).trans (tin x).symm
  have tm : ∀ p ∈ T, CMul p.1 s ∧ CMul p.2 s := by
    refine mul_pairs hs.1 tpr (hb.imp id fun z p h => ?_)
    have h0 := tlt p h
    obtain ⟨x, h1, h2⟩ := (tin p.1).mp ⟨p, h, by omega, by omega⟩
    obtain ⟨y, h3, h4⟩ := (tin (p.2 - 1)).mp ⟨p, h, by omega, by omega⟩
    have := z x h1; have := z y h3; omega
  have x2 : Ret (m_law_exact W (mL T s)) true := exact_ok cw.g fun x => (cw.h x).trans ((tin _).symm.trans (m_has hs.1 x).symm)
  have x3 : Ret (compM (fun _ => mr true) (fun x : Int × Int => mb (mmulI x.1 s) fun a => mb (mmulI x.2 s) fun b => mr (a, b)) T) (mL T s) :=
    .comp fun p h => .b (.mulI (tm p h).1) (.b (.mulI (tm p h).2) .r)
  obtain ⟨d1, d2⟩ := mod_cg hs.1 hc (by decide)
  rw [d2] at d1
  have d3 := rem_ok (s := s) (l := c.spans) hs.1 pp (by omega) hc.g hc.h
  have l1 := le_yes hc cw (by decide) (by decide) (fun x h => ⟨x, h, rfl⟩)
  have e1 : Ret (m_Coverdd__eqdd_ ⟨P⟩ ⟨P⟩) true := .of eqc_ok (decide_eq_true rfl)
  have w1 := least_ok (T := T) hs hc f2 (by decide) hb (fun t ht => by
    have h0 := tlt t ht
    refine ⟨(tpr t ht).1, h0, ?_, fun k h1 h2 => (tin k).mp ⟨t, ht, h1, h2⟩⟩
    obtain ⟨y, h3, h4⟩ := (tin (t.2 - 1)).mp ⟨t, ht, by omega, by omega⟩
    have := hx y h3
    have h5 : y / s ≤ y := Int.ediv_le_self _ (by omega)
    omega) (fun e => by
    refine (ps_empty (gd_ps f2.g)).mpr fun x h => ?_
    have := (tin x).mpr ((f2.h x).mp h)
    rw [e] at this
    exact has_nil.mp this) (by omega)
  have s1 : ∀ l : List (Int × Int), Ret (m_law_same (enc l) (enc l)) true := fun l => same_self (plain_pairs l).1 (by
    show D.depths (l.map enc) + 1 < 8
    have := (plain_pairs l).2; omega)
  have s2 : Ret (m_law_same (enc [W, P]) (enc [W, P])) true := by
    refine same_self ?_ ?_
    · show (plainDs (W.map enc) && (plainDs (P.map enc) && true)) = true
      rw [(plain_pairs W).1, (plain_pairs P).1]; rfl
    · show max (D.depths (W.map enc) + 1) (max (D.depths (P.map enc) + 1) 0) + 1 < 8
      have := (plain_pairs W).2
      have := (plain_pairs P).2
      omega
  unfold m_law_pieces
  simp only [mb_mr, mb_mb]
  refine .b tok (.b f1.no ?_)
  refine .iteF (.b x1 .r) (.b rp.no ?_)
  refine .iteF (.b x3 (.b x2 .r)) ?_
  refine .iteF (.b mp.no (.b g1.no (.b s2 .r))) ?_
  refine .iteF (.b l1 (.b g1.no (.b e1 (.b (same_bools (by simp)) .r)))) ?_
  refine .iteF (.b d1.no (.b d3 (.b (s1 _) .r))) ?_
  exact .of (.and w1 fun _ => s1 _) rfl
theorem refused_ok {way low : Int} (h : low < 1) : Ret (m_law_refused c way low) (.tup [.int low]) := by
  have hc : Rai (m_check_size low) ⟨"BadSize", ["size"], [.int low]⟩ := by
    unfold m_check_size
    simp only [mb_mr, mb_mb]
    exact .iteT (.of .r (decide_eq_true h)) .x
  have h1 : Rai (m_law_sized c way low) ⟨"BadSize", ["size"], [.int low]⟩ := by
    unfold m_law_sized m_Coverdd__floordivdd_ m_Coverdd__moddd_ m_Coverdd__muldd_ m_Coverdd__rmuldd_
    simp only [mb_mr, mb_mb]
    exact .ite .r (fun _ => .b1 hc) fun _ => .ite .r (fun _ => .b1 hc) fun _ => .ite .r (fun _ => .b1 hc) fun _ => .b1 hc
  unfold m_law_refused
  simp only [mb_mr, mb_mb]
  refine .b (b := Sum.inr (.tup [.int low])) (.tryX (.b1 h1) (by simp) ?_) (show Ret (mr (Mi.D.tup [Mi.D.int low])) _ from .r)
  rw [if_pos rfl]
  refine .iteF (.of .r rfl) ?_
  exact .b (b := .int low) (.exf rfl) .r
end
theorem m_law_ok : m_law (fun b => b = true) (fun _ => False) := by
  suffices h : Ret m_law true from h _ _ rfl
  unfold m_law
  simp only [mb_mr, mb_mb, mite_mr]
  refine .bA (P := fun c : List (Int × Int) => (∀ p ∈ c, 0 ≤ p.1 ∧ p.1 ≤ p.2 ∧ p.2 ≤ 10000000000000000000000000000000) ∧ (c.length : Int) ≤ 34) (fun post px q => pairs_ok (m := 10) (by decide) fun c h1 h2 => q c ⟨h1, by omega⟩) ?_
  rintro ps ⟨hp, lp⟩
  have pp : Prs ps := fun p h => by have := hp p h; omega
  obtain ⟨i1, i2⟩ := init_cg (t := false) (n := 40) pp (by omega) (by decide) (fun x => Iff.rfl)
  have x1 : Ret (m_law_exact (covF ps) ps) true := exact_ok (cov_gd pp) (cov_has pp)
  refine .b i1 ?_
  generalize covF ps = c at i2 x1
  refine .iteF (.b x1 .r) ?_
  refine .bd (by omega) fun d1 a1 b1 => .bd (by omega) fun d2 a2 b2 => .bd (by omega) fun d3 a3 b3 => ?_
  refine .bA (P := fun l : List Int => 2 ≤ l.length ∧ ∀ s ∈ l, Sz s) ?_ ?_
  · have base : ∀ s ∈ [(1 : Int), 1 + d1, 1 + d2, 1000000000000000000000000000000 + d3], Sz s := fun s hs => by
      simp only [List.mem_cons, List.not_mem_nil, or_false] at hs
      refine ⟨by omega, by omega⟩
    refine .if' (fun z => ?_) fun z => .r ⟨by simp, base⟩
    have z := of_decide_eq_true z
    refine .bd (by omega) fun j j0 j1 => .b (.mix j0 (by omega)) fun p hpm => ?_
    have hpp := hp p hpm
    refine (Any.forM (fun i (l : List Int) => 2 ≤ l.length ∧ l.length ≤ 4 + 2 * i ∧ ∀ s ∈ l, Sz s) ⟨by simp, by simp, base⟩ ?_).mono fun l h => ⟨h.1, h.2.2⟩
    rintro i s l hx ⟨h0, h1, h2⟩
    have hi := (List.getElem?_eq_some_iff.mp hx).1
    simp only [List.length_cons, List.length_nil] at hi
    have hs := List.mem_of_getElem? hx
    simp only [List.mem_cons, List.not_mem_nil, or_false] at hs
    refine .b (P := fun l : List Int => 2 ≤ l.length ∧ l.length ≤ 5 + 2 * i ∧ ∀ s ∈ l, Sz s) (.if' (fun w => ?_) fun w => .r ⟨h0, by omega, h2⟩) ?_
    · have w := of_decide_eq_true w
      refine Ret.any (.push (by omega)) ⟨by rw [List.length_append]; omega, by rw [List.length_append, List.length_singleton]; omega, fun q hq => ?_⟩
      rcases List.mem_append.mp hq with hq | hq
      · exact h2 q hq
      · rw [List.mem_singleton.mp hq]; exact ⟨w, by omega⟩
    · rintro l ⟨h0, h1, h2⟩
      refine Ret.any (.push (by omega)) ⟨by rw [List.length_append]; omega, by rw [List.length_append, List.length_singleton]; omega, fun q hq => ?_⟩
      rcases List.mem_append.mp hq with hq | hq
      · exact h2 q hq
      · rw [List.mem_singleton.mp hq]; exact ⟨by omega, by omega⟩
  · rintro l ⟨l2, hl⟩
    have hpc : ∀ s ∈ l, Ret (m_law_pieces ⟨c⟩ ps s) true := fun s hs => pieces_ok (hl s hs) hp (by omega) i2
    refine .bA (Any.forR (fun _ => True) trivial fun s hs u _ => Ret.any (.iteF (.b (hpc s hs) .r) .r) ⟨(), rfl, trivial⟩) ?_
    rintro o ⟨u, rfl, _⟩
    refine .bd (by omega) fun d4 a4 b4 => ?_
    refine .bA (Any.forR (fun _ => True) trivial fun low hlow u _ => ?_) ?_
    · have hlow : low < 1 := by
        simp only [List.mem_cons, List.not_mem_nil, or_false] at hlow; omega
      refine .bR (.range (lo := 0) (hi := 4) (by omega)) (.b (Any.forR (fun _ => True) trivial fun way _ u _ => ?_) ?_)
      · have k0 : Ret (m_Cover_init ⟨true, []⟩) ⟨covF []⟩ := init_ok (fun p h => by cases h) (by decide)
        refine Ret.any (.iteF (.b (refused_ok hlow) (.b k0 (.b (refused_ok hlow) (.b (b := true) ?_ .r)))) .r) ⟨(), rfl, trivial⟩
        exact same_self (d := .lst [.tup [.int low], .tup [.int low]]) rfl (by show (2 : Nat) < 8; decide)
      · rintro o ⟨u, rfl, _⟩
        exact .r ⟨(), rfl, trivial⟩
    · rintro o ⟨u, rfl, _⟩
      refine .bix (by decide) (by omega) fun s hs => hpc s hs

def spLaw (K : PySem.W.Frag) : Sp := fun vs H Q _ => ∃ (a : Addr) (ns : List Int), vs = [.ref a] ∧ SqL K H a (ns.map V.int) ∧ ns.length ≤ 63 ∧ ∀ H', Q (.bl true) H'
theorem ok_law (T : Txt P w K mg)  : FnOk P w K mg base CX0 (11) T.a_law T.d_law ["script"] (spLaw K) := by
  refine T.F_law.ok sc_law (fun vs H Q E h => by obtain ⟨_, _, rfl, _⟩ := h; rfl) (fun cdv A outer s H vs Q E hr h => ?_)
  have hu := hu_of hr
  have hu64 := hr.units
  refine ⟨_, (pss_cons (ps_set (i := 1) sc_law.nd rfl (by first | exact Or.inl rfl | exact Or.inr rfl) (pe_call (ok_law_start T) (hr.mono (by first | decide | omega)) (by rfl) T.m_law_start T.F_law_start.kp T.b_law_start .nil pass0 (pa_cons (pv 0) pa_nil)))
      (pss_cons (ps_set (i := 2) sc_law.nd rfl (by first | exact Or.inl rfl | exact Or.inr rfl) (pe_call (ok_law_pairs T) (hr.mono (by first | decide | omega)) (by rfl) T.m_law_pairs T.F_law_pairs.kp T.b_law_pairs .nil pass0 (pa_cons (pv 1) (pa_cons pe_int pa_nil))))
      (pss_cons (ps_set (i := 3) sc_law.nd rfl (by first | exact Or.inl rfl | exact Or.inr rfl) (pe_make T.mk_Cover (ok_Cover_init T) (hr.mono (by first | decide | omega)) (by rfl) T.mc_Cover (Classical.choose_spec T.bd_Cover_init_1).2 (Classical.choose_spec T.bd_Cover_init_1).1 pass0 (pa_cons (pv 2) pa_nil)))
      (pss_cons (ps_if (pt_not (pt_val (pe_call (ok_law_exact T) (hr.mono (by first | decide | omega)) (by rfl) T.m_law_exact T.F_law_exact.kp T.b_law_exact .nil pass0 (pa_cons (pe_callTy (call_listIt (by rfl) T.it_Cover (ok_Coverdd__iterdd_ T) T.b_Coverdd__iterdd_ pass0 (hr.mono (by first | decide | omega))) (by rfl) T.z_list (by decide +kernel) (pa_cons (pv 3) pa_nil)) (pa_cons (pv 2) pa_nil))))) (pss_one (ps_ret pe_bl)) pss_nil)
      (pss_cons (ps_set (i := 4) sc_law.nd rfl (by first | exact Or.inl rfl | exact Or.inr rfl) (pe_lst (pa_cons pe_int (pa_cons (pe_op op_plus pe_int (pe_call (draw_ok (C := ct T) (ok_law_draw T)) (hr.mono (by first | decide | omega)) (by rfl) T.m_law_draw T.F_law_draw.kp T.b_law_draw .nil pass0 (pa_cons (pv 1) (pa_cons pe_int pa_nil)))) (pa_cons (pe_op op_plus pe_int (pe_call (draw_ok (C := ct T) (ok_law_draw T)) (hr.mono (by first | decide | omega)) (by rfl) T.m_law_draw T.F_law_draw.kp T.b_law_draw .nil pass0 (pa_cons (pv 1) (pa_cons (pe_op op_pow pe_int pe_int) pa_nil)))) (pa_cons (pe_op op_plus (pe_op op_pow pe_int pe_int) (pe_call (draw_ok (C := ct T) (ok_law_draw T)) (hr.mono (by first | decide | omega)) (by rfl) T.m_law_draw T.F_law_draw.kp T.b_law_draw .nil pass0 (pa_cons (pv 1) (pa_cons pe_int pa_nil)))) pa_nil))))))
      (pss_cons (ps_if (pt_cmpR op_gt (pe_callB call_lenA (by rfl) T.z_len (by decide +kernel) (pa_cons (pv 2) pa_nil)) pe_int (nomark _)) (pss_cons (ps_set (i := 5) sc_law.nd rfl (by first | exact Or.inl rfl | exact Or.inr rfl) (pe_ix (ix_any hu) (pv 2) (pe_call (draw_ok (C := ct T) (ok_law_draw T)) (hr.mono (by first | decide | omega)) (by rfl) T.m_law_draw T.F_law_draw.kp T.b_law_draw .nil pass0 (pa_cons (pv 1) (pa_cons (pe_callB call_lenA (by rfl) T.z_len (by decide +kernel) (pa_cons (pv 2) pa_nil)) pa_nil))) (fun _ _ => rfl)))
      (pss_one (ps_for PassesOwn.never rfl (pi_list (pe_lst (pa_cons (pe_op op_sub (pe_ix (ix_any hu) (pv 5) pe_int (fun _ _ => rfl)) (pe_ix (ix_any hu) (pv 5) pe_int (fun _ _ => rfl))) (pa_cons (pe_ix (ix_any hu) (pv 5) pe_int (fun _ _ => rfl)) pa_nil)))) (pg_name (i := 6) sc_law.nd rfl (by first | exact Or.inl rfl | exact Or.inr rfl))
      (pss_cons (ps_if (pt_cmpR op_gt (pv 6) pe_int (nomark _)) (pss_one (ps_expr (pe_bm PySem.F.plainAttrs_list PySem.F.slot_list_append PySem.F.type_list_append mt_append (pv 4) (pa_cons (pv 6) pa_nil)))) pss_nil)
      (pss_one (ps_expr (pe_bm PySem.F.plainAttrs_list PySem.F.slot_list_append PySem.F.type_list_append mt_append (pv 4) (pa_cons (pe_op op_plus (pv 6) pe_int) pa_nil)))))))) pss_nil)
      (pss_cons (ps_for PassesOwn.never rfl (pi_list (pv 4)) (pg_name (i := 6) sc_law.nd rfl (by first | exact Or.inl rfl | exact Or.inr rfl))
      (pss_one (ps_if (pt_not (pt_val (pe_call (ok_law_pieces T) (hr.mono (by first | decide | omega)) (by rfl) T.m_law_pieces T.F_law_pieces.kp T.b_law_pieces .nil pass0 (pa_cons (pv 1) (pa_cons (pv 3) (pa_cons (pv 2) (pa_cons (pv 6) pa_nil))))))) (pss_one (ps_ret pe_bl)) pss_nil)))
      (pss_cons (ps_for PassesOwn.never rfl (pi_list (pe_lst (pa_cons pe_int (pa_cons (pe_op op_sub (pe_op op_sub pe_int pe_int) (pe_call (draw_ok (C := ct T) (ok_law_draw T)) (hr.mono (by first | decide | omega)) (by rfl) T.m_law_draw T.F_law_draw.kp T.b_law_draw .nil pass0 (pa_cons (pv 1) (pa_cons (pe_op op_pow pe_int pe_int) pa_nil)))) pa_nil)))) (pg_name (i := 7) sc_law.nd rfl (by first | exact Or.inl rfl | exact Or.inr rfl))
      (pss_one (ps_for PassesOwn.never rfl (pi_range1 (by rfl) T.z_range (pa_cons pe_int pa_nil)) (pg_name (i := 8) sc_law.nd rfl (by first | exact Or.inl rfl | exact Or.inr rfl))
      (pss_one (ps_if (pt_not (pt_val (pe_call (same_ok (same_all T 8)) (hr.mono (by first | decide | omega)) (by rfl) T.m_law_same T.F_law_same.kp T.b_law_same .nil pass0 (pa_cons (pe_lst (pa_cons (pe_call (ok_law_refused T) (hr.mono (by first | decide | omega)) (by rfl) T.m_law_refused T.F_law_refused.kp T.b_law_refused .nil pass0 (pa_cons (pv 3) (pa_cons (pv 8) (pa_cons (pv 7) pa_nil)))) (pa_cons (pe_call (ok_law_refused T) (hr.mono (by first | decide | omega)) (by rfl) T.m_law_refused T.F_law_refused.kp T.b_law_refused .nil pass0 (pa_cons (pe_make0 T.mk_Cover (ok_Cover_init T) (hr.mono (by first | decide | omega)) (by rfl) T.mc_Cover (Classical.choose_spec T.bd_Cover_init_0).2 (Classical.choose_spec T.bd_Cover_init_0).1 pass0) (pa_cons (pv 8) (pa_cons (pv 7) pa_nil)))) pa_nil))) (pa_cons (pe_lst (pa_cons (pe_tup (pa_cons (pv 7) pa_nil)) (pa_cons (pe_tup (pa_cons (pv 7) pa_nil)) pa_nil))) pa_nil))))) (pss_one (ps_ret pe_bl)) pss_nil)))))
      (pss_one (ps_ret (pe_call (ok_law_pieces T) (hr.mono (by first | decide | omega)) (by rfl) T.m_law_pieces T.F_law_pieces.kp T.b_law_pieces .nil pass0 (pa_cons (pv 1) (pa_cons (pv 3) (pa_cons (pv 2) (pa_cons (pe_ix (ix_any hu) (pv 4) pe_int (fun _ _ => rfl)) pa_nil))))))))))))))), ?_⟩
  obtain ⟨p_sc, ns_, rfl, hs_, _, hQ⟩ := h
  walk_at "start"
  refine s_seq ?_
  refine s_start (fun p_st => [some (.ref p_sc), some (.ref p_st), none, none, none, none, none, none, none]) (fun _ => rfl) rfl hs_ (fun p_st q_st H S_ => ?_)
  have hp := pt_start (K := K) (C := ct T) S_
  have hx := hx0 (K := K) (C := ct T) (R := RS p_st) (G0 := fun _ => none) (F0 := fun _ => none) (px := fun _ => False)
  have hm := m_law_ok
  have hQ := law_end (Z := ⟨K, ct T, RS p_st, fun _ => none, fun _ => none, ET0⟩) hQ
  unfold m_law at hm
  refine s_seq ?_
  refine s_set (fun v_pairs => [some (.ref p_sc), some (.ref p_st), some v_pairs, none, none, none, none, none, none]) (fun _ => rfl) hp hx hm (EV.callWP rfl (EA.consP EV.int EA.nil) (hcW1 fun v0 H Q h => ⟨_, (10 : Int), v0, rfl, h⟩)) (fun x_pairs v_pairs H hp hm => ?_)
  refine s_seq ?_
  refine s_set (fun v_cover => [some (.ref p_sc), some (.ref p_st), some v_pairs, some v_cover, none, none, none, none, none]) (fun _ => rfl) hp hx hm (EV.makeNP (EA.consP (EV.asP (EV.var rfl (.head _)) rfl) EA.nil) (ct_Cover T) (hcI1 fun x v0 H Q h => ⟨x, (⟨false, x_pairs⟩ : (Sq (Int × Int))), v0, rfl, h⟩)) (fun x_cover v_cover H hp hm => ?_)
  refine s_seq ?_
  refine s_if hp hx hm (ET.not (ET.test (EV.callN (γ := ((List (Int × Int)) × (List (Int × Int)) × Unit)) (f := fun g_ => m_law_exact g_.1 g_.2.1) (EA.cons (EV.listIt (fun (a : Cover) => a.spans) (EV.var rfl (.head _)) (ct_Cover T) fun _ => ⟨_, _, rfl, rfl⟩) (EA.cons (EV.var rfl (.tail _ (.head _))) EA.nil)) (fun g_ => hcN2 fun v0 v1 H Q h => ⟨g_.1, g_.2.1, v0, v1, rfl, h⟩)))) (fun H hp hm => ?_) (fun H hp hm => ?_)
  · refine s_ret1 hp hx hm EV.bl (fun a v H hp hm => hQ a v H hp.fin hm)
  · refine s_next ?_
    refine s_seq ?_
    refine s_setL (ε := (Int × Int × Int × Int × Unit)) (fun g_ => ([g_.1, g_.2.1, g_.2.2.1, g_.2.2.2.1] : (List Int))) (fun p_sizes => [some (.ref p_sc), some (.ref p_st), some v_pairs, some v_cover, some (.ref p_sizes), none, none, none, none]) (fun _ => rfl) hp hx hm (EA.cons EV.int (EA.cons (EV.addI EV.int (EV.callWP rfl (EA.consP EV.int EA.nil) (hcW1 fun v0 H Q h => ⟨_, (12 : Int), v0, rfl, h⟩))) (EA.cons (EV.addI EV.int (EV.callWP rfl (EA.consP (EV.powC ⟨by decide, by decide, by decide⟩ (by decide)) EA.nil) (hcW1 fun v0 H Q h => ⟨_, (1000000000 : Int), v0, rfl, h⟩))) (EA.cons (EV.addI (EV.powC ⟨by decide, by decide, by decide⟩ (by decide)) (EV.callWP rfl (EA.consP EV.int EA.nil) (hcW1 fun v0 H Q h => ⟨_, (51 : Int), v0, rfl, h⟩))) EA.nil)))) (fun _ => rfl) (fun _ => by simp) (fun x_sizes p_sizes H hp hm => ?_)
    refine s_join (τ := Unit) (γ := ((List Int))) (ι := (Addr × Option V × Option V)) hp hm (fun r c => [some (.ref p_sc), some (.ref p_st), some v_pairs, some v_cover, some (.ref r.1), r.2.1, r.2.2, none, none]) (fun r c => [(v_pairs, enc x_pairs), (v_cover, enc x_cover)]) (fun r c => ([(r.1, enc c)] : List (Addr × Mi.D))) (fun nx_ hj hm => ?_) (fun r x_sizes H hp hm => ?_)
    · refine s_if hp hx hm (ET.test (EV.gtIP (EV.lenLP (EV.var rfl (.tail _ (.head _)))) EV.int)) (fun H hp hm => ?_) (fun H hp hm => ?_)
      · refine s_seq ?_
        refine s_set (fun v_pair => [some (.ref p_sc), some (.ref p_st), some v_pairs, some v_cover, some (.ref p_sizes), some v_pair, none, none, none]) (fun _ => rfl) hp hx hm (EV.ixL (EV.var rfl (.tail _ (.head _))) (EV.callWP rfl (EA.consP (EV.lenLP (EV.var rfl (.tail _ (.head _)))) EA.nil) (hcW1 fun v0 H Q h => ⟨_, ((x_pairs).length : Int), v0, rfl, h⟩))) (fun x_pair v_pair H hp hm => ?_)
        refine s_forM (γ := ((List Int))) (ι := (Addr × Option V)) hp hx hm (EI.list (EV.lstP (EA.consP (EV.subIP (EV.projP (EV.var rfl (.head _)) ⟨_, .inl rfl, rfl⟩) (EV.projP (EV.var rfl (.head _)) ⟨_, .inl rfl, rfl⟩)) (EA.consP (EV.projP (EV.var rfl (.head _)) ⟨_, .inl rfl, rfl⟩) EA.nil)) rfl (Nat.le_of_ble_eq_true rfl))) (fun r c => [some (.ref p_sc), some (.ref p_st), some v_pairs, some v_cover, some (.ref r.1), some v_pair, r.2, none, none]) (fun w8 r c => [w8, (v_pairs, enc x_pairs), (v_cover, enc x_cover)]) (fun r c => ([(r.1, enc c)] : List (Addr × Mi.D))) (fun w H hp => ⟨(p_sizes, none), rfl, hp.less (pk (.head _) (pk (.tail _ (.tail _ (.tail _ (.head _)))) (pk (.tail _ (.tail _ (.head _))) pk0)))⟩) (fun _ _ _ => .head _) (fun w8 r x_sizes v_size x_size rest H hp hm => ?_) (fun w r x_sizes H hp hm => ?_)
        · obtain ⟨p_sizes, o_size⟩ := r
          refine g_one' (fun v_size => [some (.ref p_sc), some (.ref p_st), some v_pairs, some v_cover, some (.ref p_sizes), some v_pair, some v_size, none, none]) (fun _ => rfl) hp (fun hp => ?_)
          refine s_join (τ := Unit) (γ := ((List Int))) (ι := (Addr)) hp hm (fun r c => [some (.ref p_sc), some (.ref p_st), some v_pairs, some v_cover, some (.ref r), some v_pair, some v_size, none, none]) (fun r c => [(v_pairs, enc x_pairs), (v_cover, enc x_cover), (v_size, enc x_size), w8]) (fun r c => ([(r, enc c)] : List (Addr × Mi.D))) (fun nx_ hj hm => ?_) (fun p_sizes x_sizes H hp hm => ?_)
          · refine s_if hp hx hm (ET.test (EV.gtIP (EV.var rfl (.head _)) EV.int)) (fun H hp hm => ?_) (fun H hp hm => ?_)
            · refine s_append rfl (.head _) hp hx hm (EV.var rfl (.head _)) (fun _ => .hd) (fun a_ H hp hm => ?_)
              generalize x_sizes ++ [a_] = x_sizes at hp hm
              exact hj (p_sizes) (x_sizes) _ (hp.less (pk (.tail _ (.tail _ (.head _))) (pk (.tail _ (.tail _ (.tail _ (.head _)))) (pk (.head _) (pk (.tail _ (.head _)) pk0))))) hm
            · refine s_next ?_
              exact hj (p_sizes) (x_sizes) _ (hp.less (pk (.tail _ (.tail _ (.head _))) (pk (.tail _ (.tail _ (.tail _ (.head _)))) (pk (.head _) (pk (.tail _ (.head _)) pk0))))) hm
          · refine s_append rfl (.head _) hp hx hm (EV.addIP (EV.var rfl (.tail _ (.tail _ (.head _)))) EV.int) (fun _ => .hd) (fun a_ H hp hm => ?_)
            generalize x_sizes ++ [a_] = x_sizes at hp hm
            exact ⟨(p_sizes, some v_size), (x_sizes), rfl, (hp.less (pk (.tail _ (.tail _ (.tail _ (.head _)))) (pk (.head _) (pk (.tail _ (.head _)) pk0)))), hm⟩
        · obtain ⟨p_sizes, o_size⟩ := r
          exact hj (p_sizes, some v_pair, o_size) (x_sizes) _ (hp.less (pk (.tail _ (.head _)) (pk (.tail _ (.tail _ (.head _))) pk0))) hm
      · refine s_next ?_
        exact hj (p_sizes, none, none) (x_sizes) _ (hp.less (pk (.tail _ (.head _)) (pk (.head _) pk0))) hm
    · obtain ⟨p_sizes, o_pair, o_size⟩ := r
      have hp := hp.freeze .hd
      refine s_seq ?_
      refine s_for (γ := Unit) (ι := (Option V)) (ρ' := Bool) hp hx hm (EI.list (EV.var rfl (.head _))) (fun r c => [some (.ref p_sc), some (.ref p_st), some v_pairs, some v_cover, some (.ref p_sizes), o_pair, r, none, none]) (fun w14 r c => [w14, (v_pairs, enc x_pairs), (v_cover, enc x_cover), ((.ref p_sizes), enc x_sizes)]) (fun r c => ([] : List (Addr × Mi.D))) (fun w H hp => ⟨(o_size), rfl, hp.less (pk (.head _) (pk (.tail _ (.tail _ (.head _))) (pk (.tail _ (.tail _ (.tail _ (.head _)))) (pk (.tail _ (.head _)) pk0))))⟩) (fun _ _ _ => .head _) (fun nx_ hbk_ w14 o_size c v_size x_size rest H hp hm => ?_) (fun w o_size c H hp hm => ?_)
      · refine g_one' (fun v_size => [some (.ref p_sc), some (.ref p_st), some v_pairs, some v_cover, some (.ref p_sizes), o_pair, some v_size, none, none]) (fun _ => rfl) hp (fun hp => ?_)
        refine s_if hp hx hm (ET.not (ET.test (EV.callWP rfl (EA.consP (EV.var rfl (.tail _ (.tail _ (.tail _ (.head _))))) (EA.consP (EV.var rfl (.tail _ (.tail _ (.head _)))) (EA.consP (EV.var rfl (.head _)) EA.nil))) (hcW3 fun v0 v1 v2 H Q h => ⟨_, x_cover, x_pairs, x_size, v0, v1, v2, rfl, h⟩)))) (fun H hp hm => ?_) (fun H hp hm => ?_)
        · refine s_ret hp hx hm EV.bl (fun a v H hp hm => hQ a v H hp.fin hm)
        · refine s_next ?_
          exact ⟨(some v_size), (), rfl, (hp.less (pk (.tail _ (.head _)) (pk (.tail _ (.tail _ (.head _))) (pk (.tail _ (.tail _ (.tail _ (.head _)))) (pk (.tail _ (.tail _ (.tail _ (.tail _ (.head _))))) pk0))))), hm⟩
      · refine s_seq ?_
        refine s_for (γ := Unit) (ι := (Option V × Option V)) (ρ' := Bool) hp hx hm (EI.list (EV.lst (γ := (Int × Int × Unit)) (EA.cons EV.int (EA.cons (EV.subI (EV.subIP EV.int EV.int) (EV.callWP rfl (EA.consP (EV.powC ⟨by decide, by decide, by decide⟩ (by decide)) EA.nil) (hcW1 fun v0 H Q h => ⟨_, (1000000000 : Int), v0, rfl, h⟩))) EA.nil)) (f := fun g_ => ([g_.1, g_.2.1] : (List Int))) (fun _ => rfl) (fun _ => by simp))) (fun r c => [some (.ref p_sc), some (.ref p_st), some v_pairs, some v_cover, some (.ref p_sizes), o_pair, o_size, r.1, r.2]) (fun w18 r c => [w18, (v_pairs, enc x_pairs), (v_cover, enc x_cover), ((.ref p_sizes), enc x_sizes)]) (fun r c => ([] : List (Addr × Mi.D))) (fun w H hp => ⟨(none, none), rfl, hp.less (pk (.head _) (pk (.tail _ (.tail _ (.head _))) (pk (.tail _ (.tail _ (.tail _ (.head _)))) (pk (.tail _ (.tail _ (.tail _ (.tail _ (.head _))))) pk0))))⟩) (fun _ _ _ => .head _) (fun nx_ hbk_ w18 r c v_low x_low rest H hp hm => ?_) (fun w r c H hp hm => ?_)
        · obtain ⟨o_low, o_way⟩ := r
          refine g_one' (fun v_low => [some (.ref p_sc), some (.ref p_st), some v_pairs, some v_cover, some (.ref p_sizes), o_pair, o_size, some v_low, o_way]) (fun _ => rfl) hp (fun hp => ?_)
          refine s_for (γ := Unit) (ι := (Option V)) (ρ' := Bool) hp hx hm (EI.range1P EV.int) (fun r c => [some (.ref p_sc), some (.ref p_st), some v_pairs, some v_cover, some (.ref p_sizes), o_pair, o_size, some v_low, r]) (fun w21 r c => [w21, (v_pairs, enc x_pairs), (v_cover, enc x_cover), ((.ref p_sizes), enc x_sizes), (v_low, enc x_low), w18]) (fun r c => ([] : List (Addr × Mi.D))) (fun w H hp => ⟨(o_way), rfl, hp.less (pk (.head _) (pk (.tail _ (.tail _ (.tail _ (.head _)))) (pk (.tail _ (.tail _ (.tail _ (.tail _ (.head _))))) (pk (.tail _ (.tail _ (.tail _ (.tail _ (.tail _ (.head _)))))) (pk (.tail _ (.head _)) (pk (.tail _ (.tail _ (.head _))) pk0))))))⟩) (fun _ _ _ => .head _) (fun nx_ hbk_ w21 o_way c v_way x_way rest H hp hm => ?_) (fun w o_way c H hp hm => ?_)
          · refine g_one' (fun v_way => [some (.ref p_sc), some (.ref p_st), some v_pairs, some v_cover, some (.ref p_sizes), o_pair, o_size, some v_low, some v_way]) (fun _ => rfl) hp (fun hp => ?_)
            refine s_if hp hx hm (ET.not (ET.test (EV.callN (γ := (Mi.D × Mi.D × Unit)) (f := fun g_ => m_law_same g_.1 g_.2.1) (EA.cons (EV.toDM (EV.lst (γ := (Mi.D × Mi.D × Unit)) (EA.cons (EV.callNP (EA.consP (EV.var rfl (.tail _ (.tail _ (.tail _ (.head _))))) (EA.consP (EV.var rfl (.head _)) (EA.consP (EV.var rfl (.tail _ (.tail _ (.tail _ (.tail _ (.tail _ (.head _))))))) EA.nil))) (hcN3 fun v0 v1 v2 H Q h => ⟨x_cover, x_way, x_low, v0, v1, v2, rfl, h⟩)) (EA.cons (EV.callN (γ := (Cover × Int × Int × Unit)) (f := fun g_ => m_law_refused g_.1 g_.2.1 g_.2.2.1) (EA.cons (EV.makeNP EA.nil (ct_Cover T) (hcI0 fun x  H Q h => ⟨x, (⟨true, []⟩ : (Sq (Int × Int))), (.ref T.e_Cover_init_0), rfl, (CallIN.add (is_emp T.te_Cover_init_0) h)⟩)) (EA.cons (EV.var rfl (.head _)) (EA.cons (EV.var rfl (.tail _ (.tail _ (.tail _ (.tail _ (.tail _ (.head _))))))) EA.nil))) (fun g_ => hcN3 fun v0 v1 v2 H Q h => ⟨g_.1, g_.2.1, g_.2.2.1, v0, v1, v2, rfl, h⟩)) EA.nil)) (f := fun g_ => ([g_.1, g_.2.1] : (List Mi.D))) (fun _ => rfl) (fun _ => by simp))) (EA.cons (EV.toD (EV.lstP (EA.consP (EV.tupP (EA.consP (EV.var rfl (.tail _ (.tail _ (.tail _ (.tail _ (.tail _ (.head _))))))) EA.nil) rfl (Nat.le_of_ble_eq_true rfl)) (EA.consP (EV.tupP (EA.consP (EV.var rfl (.tail _ (.tail _ (.tail _ (.tail _ (.tail _ (.head _))))))) EA.nil) rfl (Nat.le_of_ble_eq_true rfl)) EA.nil)) rfl (Nat.le_of_ble_eq_true rfl))) EA.nil)) (fun g_ => hcN2 fun v0 v1 H Q h => ⟨g_.1, g_.2.1, v0, v1, rfl, h⟩)))) (fun H hp hm => ?_) (fun H hp hm => ?_)
            · refine s_ret hp hx hm EV.bl (fun a v H hp hm => hQ a v H hp.fin hm)
            · refine s_next ?_
              exact ⟨(some v_way), (), rfl, (hp.less (pk (.tail _ (.head _)) (pk (.tail _ (.tail _ (.head _))) (pk (.tail _ (.tail _ (.tail _ (.head _)))) (pk (.tail _ (.tail _ (.tail _ (.tail _ (.head _))))) (pk (.tail _ (.tail _ (.tail _ (.tail _ (.tail _ (.head _)))))) (pk (.tail _ (.tail _ (.tail _ (.tail _ (.tail _ (.tail _ (.head _))))))) pk0))))))), hm⟩
          · exact ⟨(some v_low, o_way), (), rfl, (hp.less (pk (.tail _ (.tail _ (.tail _ (.tail _ (.tail _ (.head _)))))) (pk (.tail _ (.head _)) (pk (.tail _ (.tail _ (.head _))) (pk (.tail _ (.tail _ (.tail _ (.head _)))) pk0))))), hm⟩
        · obtain ⟨o_low, o_way⟩ := r
          refine s_ret1 hp hx hm (EV.callW (γ := (Cover × (List (Int × Int)) × Int × Unit)) (f := fun g_ => m_law_pieces g_.1 g_.2.1 g_.2.2.1) rfl (EA.cons (EV.var rfl (.tail _ (.tail _ (.head _)))) (EA.cons (EV.var rfl (.tail _ (.head _))) (EA.cons (EV.ixLP (EV.var rfl (.tail _ (.tail _ (.tail _ (.head _))))) EV.int) EA.nil))) (fun g_ => hcW3 fun v0 v1 v2 H Q h => ⟨_, g_.1, g_.2.1, g_.2.2.1, v0, v1, v2, rfl, h⟩)) (fun a v H hp hm => hQ a v H hp.fin hm)
end
theorem all_mk {l : PySem.W.OpenLaw} {w : World} {K : PySem.W.Frag} {h : Heap} {mg : Str → Option Value} {fa c_Cover a_law_mixed a_law_draw a_law_start a_law_same a_with_span a_union a_without a_remainders a_check_size a_Cover_init dT_Cover_init e_Cover_init_0 a_Coverdd__booldd_ a_Coverdd__eqdd_ a_Coverdd__ledd_ a_Coverdd__ordd_ a_Coverdd__subdd_ a_Coverdd__floordivdd_ a_Coverdd__moddd_ a_Coverdd__muldd_ rc_Coverdd__muldd_ a_Coverdd__rmuldd_ rm_Coverdd__rmuldd_ a_law_whole a_law_pairs a_law_has a_law_exact a_law_spans a_law_touched a_law_left_over a_law_remainders a_law_sized a_law_refused a_law_least a_law_pieces a_Coverdd__iterdd_ a_law c_BadSize c_SlotError c_BadPlace c_BadSpan i_BadSize cda_BadSize cc_BadSize cb0_BadSize : Addr} (X : K.In h) (G : h.Ns mainGlobals mg) (hfa : mg "law" = some (.ref fa))
    {od_law_mixed an_law_mixed od_law_draw an_law_draw od_law_start an_law_start od_law_same an_law_same od_with_span an_with_span od_union an_union od_without an_without od_remainders an_remainders od_check_size an_check_size od_Cover_init an_Cover_init od_Coverdd__booldd_ an_Coverdd__booldd_ od_Coverdd__eqdd_ an_Coverdd__eqdd_ od_Coverdd__ledd_ an_Coverdd__ledd_ od_Coverdd__ordd_ an_Coverdd__ordd_ od_Coverdd__subdd_ an_Coverdd__subdd_ od_Coverdd__floordivdd_ an_Coverdd__floordivdd_ od_Coverdd__moddd_ an_Coverdd__moddd_ od_Coverdd__muldd_ an_Coverdd__muldd_ od_Coverdd__rmuldd_ an_Coverdd__rmuldd_ od_law_whole an_law_whole od_law_pairs an_law_pairs od_law_has an_law_has od_law_exact an_law_exact od_law_spans an_law_spans od_law_touched an_law_touched od_law_left_over an_law_left_over od_law_remainders an_law_remainders od_law_sized an_law_sized od_law_refused an_law_refused od_law_least an_law_least od_law_pieces an_law_pieces od_Coverdd__iterdd_ an_Coverdd__iterdd_ od_law an_law : Option Addr} {sl_law_mixed sl_law_draw sl_law_start sl_law_same sl_with_span sl_union sl_without sl_remainders sl_check_size sl_Cover_init sl_Coverdd__booldd_ sl_Coverdd__eqdd_ sl_Coverdd__ledd_ sl_Coverdd__ordd_ sl_Coverdd__subdd_ sl_Coverdd__floordivdd_ sl_Coverdd__moddd_ sl_Coverdd__muldd_ sl_Coverdd__rmuldd_ sl_law_whole sl_law_pairs sl_law_has sl_law_exact sl_law_spans sl_law_touched sl_law_left_over sl_law_remainders sl_law_sized sl_law_refused sl_law_least sl_law_pieces sl_Coverdd__iterdd_ sl_law : Array (Option Value)} {oc_law_mixed kV_law_mixed dc_law_mixed pm_law_mixed cd_law_mixed ct_law_mixed oc_law_draw kV_law_draw dc_law_draw pm_law_draw cd_law_draw ct_law_draw oc_law_start kV_law_start dc_law_start pm_law_start cd_law_start ct_law_start oc_law_same kV_law_same dc_law_same pm_law_same cd_law_same ct_law_same oc_with_span kV_with_span dc_with_span pm_with_span cd_with_span ct_with_span oc_union kV_union dc_union pm_union cd_union ct_union oc_without kV_without dc_without pm_without cd_without ct_without oc_remainders kV_remainders dc_remainders pm_remainders cd_remainders ct_remainders oc_check_size kV_check_size dc_check_size pm_check_size cd_check_size ct_check_size oc_Cover_init kV_Cover_init dc_Cover_init pm_Cover_init cd_Cover_init ct_Cover_init oc_Coverdd__booldd_ kV_Coverdd__booldd_ dc_Coverdd__booldd_ pm_Coverdd__booldd_ cd_Coverdd__booldd_ ct_Coverdd__booldd_ oc_Coverdd__eqdd_ kV_Coverdd__eqdd_ dc_Coverdd__eqdd_ pm_Coverdd__eqdd_ cd_Coverdd__eqdd_ ct_Coverdd__eqdd_ oc_Coverdd__ledd_ kV_Coverdd__ledd_ dc_Coverdd__ledd_ pm_Coverdd__ledd_ cd_Coverdd__ledd_ ct_Coverdd__ledd_ oc_Coverdd__ordd_ kV_Coverdd__ordd_ dc_Coverdd__ordd_ pm_Coverdd__ordd_ cd_Coverdd__ordd_ ct_Coverdd__ordd_ oc_Coverdd__subdd_ kV_Coverdd__subdd_ dc_Coverdd__subdd_ pm_Coverdd__subdd_ cd_Coverdd__subdd_ ct_Coverdd__subdd_ oc_Coverdd__floordivdd_ kV_Coverdd__floordivdd_ dc_Coverdd__floordivdd_ pm_Coverdd__floordivdd_ cd_Coverdd__floordivdd_ ct_Coverdd__floordivdd_ oc_Coverdd__moddd_ kV_Coverdd__moddd_ dc_Coverdd__moddd_ pm_Coverdd__moddd_ cd_Coverdd__moddd_ ct_Coverdd__moddd_ oc_Coverdd__muldd_ kV_Coverdd__muldd_ dc_Coverdd__muldd_ pm_Coverdd__muldd_ cd_Coverdd__muldd_ ct_Coverdd__muldd_ oc_Coverdd__rmuldd_ kV_Coverdd__rmuldd_ dc_Coverdd__rmuldd_ pm_Coverdd__rmuldd_ cd_Coverdd__rmuldd_ ct_Coverdd__rmuldd_ oc_law_whole kV_law_whole dc_law_whole pm_law_whole cd_law_whole ct_law_whole oc_law_pairs kV_law_pairs dc_law_pairs pm_law_pairs cd_law_pairs ct_law_pairs oc_law_has kV_law_has dc_law_has pm_law_has cd_law_has ct_law_has oc_law_exact kV_law_exact dc_law_exact pm_law_exact cd_law_exact ct_law_exact oc_law_spans kV_law_spans dc_law_spans pm_law_spans cd_law_spans ct_law_spans oc_law_touched kV_law_touched dc_law_touched pm_law_touched cd_law_touched ct_law_touched oc_law_left_over kV_law_left_over dc_law_left_over pm_law_left_over cd_law_left_over ct_law_left_over oc_law_remainders kV_law_remainders dc_law_remainders pm_law_remainders cd_law_remainders ct_law_remainders oc_law_sized kV_law_sized dc_law_sized pm_law_sized cd_law_sized ct_law_sized oc_law_refused kV_law_refused dc_law_refused pm_law_refused cd_law_refused ct_law_refused oc_law_least kV_law_least dc_law_least pm_law_least cd_law_least ct_law_least oc_law_pieces kV_law_pieces dc_law_pieces pm_law_pieces cd_law_pieces ct_law_pieces oc_Coverdd__iterdd_ kV_Coverdd__iterdd_ dc_Coverdd__iterdd_ pm_Coverdd__iterdd_ cd_Coverdd__iterdd_ ct_Coverdd__iterdd_ oc_law kV_law dc_law pm_law cd_law ct_law oc_BadSize kV_BadSize dc_BadSize pm_BadSize ct_BadSize ccl_BadSize cl_BadSize : Value} {n_eCover_init_0 : Nat} {sl_eCover_init_0 : Array (Option Value)} {dd_eCover_init_0 : Option Addr} {dc_TCover_init : Value} {dd_TCover_init : Option Addr} {dn_TCover_init : Nat} {ds_TCover_init : Array (Option Value)} {fo_Coverdd__floordivdd_ ro_Coverdd__floordivdd_ : Option Value} {fo_Coverdd__moddd_ ro_Coverdd__moddd_ : Option Value} {fo_Coverdd__muldd_ ro_Coverdd__muldd_ : Option Value} {fq_Coverdd__rmuldd_ rq_Coverdd__rmuldd_ : Option Value} {nm_BadSize q_BadSize file_BadSize : Str} {tf_BadSize : Tok} {N_BadSize : Addr} {bs_BadSize sub_BadSize : List Value} {sn_BadSize : List Str} {ab_BadSize : Bool} {col_BadSize : Option Bool} {dd_BadSize : Option Addr} {m0_BadSize m1_BadSize m2_BadSize m3_BadSize m5_BadSize : Option Value} {od_BadSize an_BadSize cdd_BadSize cld_BadSize : Option Addr} {sl_BadSize ccs_BadSize csl_BadSize : Array (Option Value)} {vs_BadSize : Array Value}
    (z_bool : PySem.W.nsIn K mainGlobals "bool" = some none)
    (z_dict : PySem.W.nsIn K mainGlobals "dict" = some none)
    (z_int : PySem.W.nsIn K mainGlobals "int" = some none)
    (z_isinstance : PySem.W.nsIn K mainGlobals "isinstance" = some none)
    (z_iter : PySem.W.nsIn K mainGlobals "iter" = some none)
    (z_len : PySem.W.nsIn K mainGlobals "len" = some none)
    (z_list : PySem.W.nsIn K mainGlobals "list" = some none)
    (z_max : PySem.W.nsIn K mainGlobals "max" = some none)
    (z_range : PySem.W.nsIn K mainGlobals "range" = some none)
    (z_sorted : PySem.W.nsIn K mainGlobals "sorted" = some none)
    (z_str : PySem.W.nsIn K mainGlobals "str" = some none)
    (z_tuple : PySem.W.nsIn K mainGlobals "tuple" = some none)
    (aC_Cover : PySem.W.nsIn K mainGlobals "Cover" = some (some (.ref c_Cover)))
    (pg_Cover : PySem.W.plainGet K c_Cover Str.empty = true)
    (hd_Cover : PySem.W.hasDictIn K c_Cover = true)
    (po_Cover : PySem.W.plainOver K c_Cover = true)
    (sa_Cover : PySem.W.findIn K (.ref c_Cover) "__setattr__" = some (some (.builtin "object.__setattr__")))
    (mi_Cover : PySem.W.makesIn K c_Cover = true)
    (kc_Cover : PySem.W.keepIn K (.ref c_Cover) = true)
    (sf_Cover : PySem.W.selfFirst K c_Cover = true)
    (iia_Cover : PySem.W.findIn K (.ref c_Cover) "__class__" = some (some (.builtin "object.__class__")))
    (iib_Cover : PySem.W.specialIn K (.builtin "object.__class__") "__get__" = some (some (.builtin "getset_descriptor.__get__")))
    (iic_Cover : PySem.W.takesIn K (.builtin "object.__class__") = some true)
    (iid_Cover : PySem.W.mroIn K c_Cover (.type "object") = some true)
    (iit_Cover : PySem.W.typeIn K (.ref c_Cover) = some (.type "type"))
    (iis_Cover : PySem.W.subIn K (.ref c_Cover) (.ref c_Cover) = some true)
    (nf_Cover : PySem.W.notFirst K c_Cover (.ref c_Cover) = true)
    (n_Cover_spans : PySem.W.findIn K (.ref c_Cover) "_spans" = some none)
    (n1_law_mixed : PySem.W.nsIn K mainGlobals "_law_mixed" = some (some (.ref a_law_mixed)))
    (l_law_mixed : K.lookup a_law_mixed = some ⟨oc_law_mixed, od_law_mixed, .func (PySem.W.fnOf "_law_mixed" "_law_mixed" (defArgs s_law_mixed) (defBody s_law_mixed) (defScope s_law_mixed) .none kV_law_mixed dc_law_mixed pm_law_mixed an_law_mixed cd_law_mixed ct_law_mixed), sl_law_mixed⟩)
    (cc_law_mixed : PySem.W.codeIn K cd_law_mixed "_law_mixed" = true)
    (k_law_mixed : PySem.W.keepIn K (.ref a_law_mixed) = true)
    (n1_law_draw : PySem.W.nsIn K mainGlobals "_law_draw" = some (some (.ref a_law_draw)))
    (l_law_draw : K.lookup a_law_draw = some ⟨oc_law_draw, od_law_draw, .func (PySem.W.fnOf "_law_draw" "_law_draw" (defArgs s_law_draw) (defBody s_law_draw) (defScope s_law_draw) .none kV_law_draw dc_law_draw pm_law_draw an_law_draw cd_law_draw ct_law_draw), sl_law_draw⟩)
    (cc_law_draw : PySem.W.codeIn K cd_law_draw "_law_draw" = true)
    (k_law_draw : PySem.W.keepIn K (.ref a_law_draw) = true)
    (n1_law_start : PySem.W.nsIn K mainGlobals "_law_start" = some (some (.ref a_law_start)))
    (l_law_start : K.lookup a_law_start = some ⟨oc_law_start, od_law_start, .func (PySem.W.fnOf "_law_start" "_law_start" (defArgs s_law_start) (defBody s_law_start) (defScope s_law_start) .none kV_law_start dc_law_start pm_law_start an_law_start cd_law_start ct_law_start), sl_law_start⟩)
    (cc_law_start : PySem.W.codeIn K cd_law_start "_law_start" = true)
    (k_law_start : PySem.W.keepIn K (.ref a_law_start) = true)
    (n1_law_same : PySem.W.nsIn K mainGlobals "_law_same" = some (some (.ref a_law_same)))
    (l_law_same : K.lookup a_law_same = some ⟨oc_law_same, od_law_same, .func (PySem.W.fnOf "_law_same" "_law_same" (defArgs s_law_same) (defBody s_law_same) (defScope s_law_same) .none kV_law_same dc_law_same pm_law_same an_law_same cd_law_same ct_law_same), sl_law_same⟩)
    (cc_law_same : PySem.W.codeIn K cd_law_same "_law_same" = true)
    (k_law_same : PySem.W.keepIn K (.ref a_law_same) = true)
    (n1_with_span : PySem.W.nsIn K mainGlobals "with_span" = some (some (.ref a_with_span)))
    (l_with_span : K.lookup a_with_span = some ⟨oc_with_span, od_with_span, .func (PySem.W.fnOf "with_span" "with_span" (defArgs s_with_span) (defBody s_with_span) (defScope s_with_span) .none kV_with_span dc_with_span pm_with_span an_with_span cd_with_span ct_with_span), sl_with_span⟩)
    (cc_with_span : PySem.W.codeIn K cd_with_span "with_span" = true)
    (k_with_span : PySem.W.keepIn K (.ref a_with_span) = true)
    (n1_union : PySem.W.nsIn K mainGlobals "union" = some (some (.ref a_union)))
    (l_union : K.lookup a_union = some ⟨oc_union, od_union, .func (PySem.W.fnOf "union" "union" (defArgs s_union) (defBody s_union) (defScope s_union) .none kV_union dc_union pm_union an_union cd_union ct_union), sl_union⟩)
    (cc_union : PySem.W.codeIn K cd_union "union" = true)
    (k_union : PySem.W.keepIn K (.ref a_union) = true)
    (n1_without : PySem.W.nsIn K mainGlobals "without" = some (some (.ref a_without)))
    (l_without : K.lookup a_without = some ⟨oc_without, od_without, .func (PySem.W.fnOf "without" "without" (defArgs s_without) (defBody s_without) (defScope s_without) .none kV_without dc_without pm_without an_without cd_without ct_without), sl_without⟩)
    (cc_without : PySem.W.codeIn K cd_without "without" = true)
    (k_without : PySem.W.keepIn K (.ref a_without) = true)
    (n1_remainders : PySem.W.nsIn K mainGlobals "remainders" = some (some (.ref a_remainders)))
    (l_remainders : K.lookup a_remainders = some ⟨oc_remainders, od_remainders, .func (PySem.W.fnOf "remainders" "remainders" (defArgs s_remainders) (defBody s_remainders) (defScope s_remainders) .none kV_remainders dc_remainders pm_remainders an_remainders cd_remainders ct_remainders), sl_remainders⟩)
    (cc_remainders : PySem.W.codeIn K cd_remainders "remainders" = true)
    (k_remainders : PySem.W.keepIn K (.ref a_remainders) = true)
    (n1_check_size : PySem.W.nsIn K mainGlobals "check_size" = some (some (.ref a_check_size)))
    (l_check_size : K.lookup a_check_size = some ⟨oc_check_size, od_check_size, .func (PySem.W.fnOf "check_size" "check_size" (defArgs s_check_size) (defBody s_check_size) (defScope s_check_size) .none kV_check_size dc_check_size pm_check_size an_check_size cd_check_size ct_check_size), sl_check_size⟩)
    (cc_check_size : PySem.W.codeIn K cd_check_size "check_size" = true)
    (k_check_size : PySem.W.keepIn K (.ref a_check_size) = true)
    (n1_Cover_init : PySem.W.findIn K (.ref c_Cover) "__init__" = some (some (.ref a_Cover_init)))
    (i_Cover_init : PySem.W.isFn K (.ref a_Cover_init) = true)
    (l_Cover_init : K.lookup a_Cover_init = some ⟨oc_Cover_init, od_Cover_init, .func (PySem.W.fnOf "__init__" "Cover.__init__" (defArgs s_Cover_init) (defBody s_Cover_init) (defScope s_Cover_init) (.ref dT_Cover_init) kV_Cover_init dc_Cover_init pm_Cover_init an_Cover_init cd_Cover_init ct_Cover_init), sl_Cover_init⟩)
    (cc_Cover_init : PySem.W.codeIn K cd_Cover_init "Cover.__init__" = true)
    (k_Cover_init : PySem.W.keepIn K (.ref a_Cover_init) = true)
    (lT_Cover_init : K.lookup dT_Cover_init = some ⟨dc_TCover_init, dd_TCover_init, .seq ([.ref e_Cover_init_0] : List Value).toArray dn_TCover_init, ds_TCover_init⟩)
    (lE_Cover_init_0 : K.lookup e_Cover_init_0 = some ⟨.type "tuple", dd_eCover_init_0, .seq ([] : List Value).toArray n_eCover_init_0, sl_eCover_init_0⟩)
    (n1_Coverdd__booldd_ : PySem.W.findIn K (.ref c_Cover) "__bool__" = some (some (.ref a_Coverdd__booldd_)))
    (i_Coverdd__booldd_ : PySem.W.isFn K (.ref a_Coverdd__booldd_) = true)
    (l_Coverdd__booldd_ : K.lookup a_Coverdd__booldd_ = some ⟨oc_Coverdd__booldd_, od_Coverdd__booldd_, .func (PySem.W.fnOf "__bool__" "Cover.__bool__" (defArgs s_Coverdd__booldd_) (defBody s_Coverdd__booldd_) (defScope s_Coverdd__booldd_) .none kV_Coverdd__booldd_ dc_Coverdd__booldd_ pm_Coverdd__booldd_ an_Coverdd__booldd_ cd_Coverdd__booldd_ ct_Coverdd__booldd_), sl_Coverdd__booldd_⟩)
    (cc_Coverdd__booldd_ : PySem.W.codeIn K cd_Coverdd__booldd_ "Cover.__bool__" = true)
    (k_Coverdd__booldd_ : PySem.W.keepIn K (.ref a_Coverdd__booldd_) = true)
    (n1_Coverdd__eqdd_ : PySem.W.findIn K (.ref c_Cover) "__eq__" = some (some (.ref a_Coverdd__eqdd_)))
    (i_Coverdd__eqdd_ : PySem.W.isFn K (.ref a_Coverdd__eqdd_) = true)
    (l_Coverdd__eqdd_ : K.lookup a_Coverdd__eqdd_ = some ⟨oc_Coverdd__eqdd_, od_Coverdd__eqdd_, .func (PySem.W.fnOf "__eq__" "Cover.__eq__" (defArgs s_Coverdd__eqdd_) (defBody s_Coverdd__eqdd_) (defScope s_Coverdd__eqdd_) .none kV_Coverdd__eqdd_ dc_Coverdd__eqdd_ pm_Coverdd__eqdd_ an_Coverdd__eqdd_ cd_Coverdd__eqdd_ ct_Coverdd__eqdd_), sl_Coverdd__eqdd_⟩)
    (cc_Coverdd__eqdd_ : PySem.W.codeIn K cd_Coverdd__eqdd_ "Cover.__eq__" = true)
    (k_Coverdd__eqdd_ : PySem.W.keepIn K (.ref a_Coverdd__eqdd_) = true)
    (n1_Coverdd__ledd_ : PySem.W.findIn K (.ref c_Cover) "__le__" = some (some (.ref a_Coverdd__ledd_)))
    (i_Coverdd__ledd_ : PySem.W.isFn K (.ref a_Coverdd__ledd_) = true)
    (l_Coverdd__ledd_ : K.lookup a_Coverdd__ledd_ = some ⟨oc_Coverdd__ledd_, od_Coverdd__ledd_, .func (PySem.W.fnOf "__le__" "Cover.__le__" (defArgs s_Coverdd__ledd_) (defBody s_Coverdd__ledd_) (defScope s_Coverdd__ledd_) .none kV_Coverdd__ledd_ dc_Coverdd__ledd_ pm_Coverdd__ledd_ an_Coverdd__ledd_ cd_Coverdd__ledd_ ct_Coverdd__ledd_), sl_Coverdd__ledd_⟩)
    (cc_Coverdd__ledd_ : PySem.W.codeIn K cd_Coverdd__ledd_ "Cover.__le__" = true)
    (k_Coverdd__ledd_ : PySem.W.keepIn K (.ref a_Coverdd__ledd_) = true)
    (n1_Coverdd__ordd_ : PySem.W.findIn K (.ref c_Cover) "__or__" = some (some (.ref a_Coverdd__ordd_)))
    (i_Coverdd__ordd_ : PySem.W.isFn K (.ref a_Coverdd__ordd_) = true)
    (l_Coverdd__ordd_ : K.lookup a_Coverdd__ordd_ = some ⟨oc_Coverdd__ordd_, od_Coverdd__ordd_, .func (PySem.W.fnOf "__or__" "Cover.__or__" (defArgs s_Coverdd__ordd_) (defBody s_Coverdd__ordd_) (defScope s_Coverdd__ordd_) .none kV_Coverdd__ordd_ dc_Coverdd__ordd_ pm_Coverdd__ordd_ an_Coverdd__ordd_ cd_Coverdd__ordd_ ct_Coverdd__ordd_), sl_Coverdd__ordd_⟩)
    (cc_Coverdd__ordd_ : PySem.W.codeIn K cd_Coverdd__ordd_ "Cover.__or__" = true)
    (k_Coverdd__ordd_ : PySem.W.keepIn K (.ref a_Coverdd__ordd_) = true)
    (n1_Coverdd__subdd_ : PySem.W.findIn K (.ref c_Cover) "__sub__" = some (some (.ref a_Coverdd__subdd_)))
    (i_Coverdd__subdd_ : PySem.W.isFn K (.ref a_Coverdd__subdd_) = true)
    (l_Coverdd__subdd_ : K.lookup a_Coverdd__subdd_ = some ⟨oc_Coverdd__subdd_, od_Coverdd__subdd_, .func (PySem.W.fnOf "__sub__" "Cover.__sub__" (defArgs s_Coverdd__subdd_) (defBody s_Coverdd__subdd_) (defScope s_Coverdd__subdd_) .none kV_Coverdd__subdd_ dc_Coverdd__subdd_ pm_Coverdd__subdd_ an_Coverdd__subdd_ cd_Coverdd__subdd_ ct_Coverdd__subdd_), sl_Coverdd__subdd_⟩)
    (cc_Coverdd__subdd_ : PySem.W.codeIn K cd_Coverdd__subdd_ "Cover.__sub__" = true)
    (k_Coverdd__subdd_ : PySem.W.keepIn K (.ref a_Coverdd__subdd_) = true)
    (n1_Coverdd__floordivdd_ : PySem.W.findIn K (.ref c_Cover) "__floordiv__" = some (some (.ref a_Coverdd__floordivdd_)))
    (i_Coverdd__floordivdd_ : PySem.W.isFn K (.ref a_Coverdd__floordivdd_) = true)
    (orc_Coverdd__floordivdd_ : PySem.W.findIn K (.ref c_Cover) "__rfloordiv__" = some none)
    (ot1_Coverdd__floordivdd_ : PySem.W.findIn K (.type "int") "__floordiv__" = some fo_Coverdd__floordivdd_)
    (ot2_Coverdd__floordivdd_ : PySem.W.findIn K (.type "int") "__rfloordiv__" = some ro_Coverdd__floordivdd_)
    (osb_Coverdd__floordivdd_ : PySem.W.subIn K (.type "int") (.ref c_Cover) = some false)
    (l_Coverdd__floordivdd_ : K.lookup a_Coverdd__floordivdd_ = some ⟨oc_Coverdd__floordivdd_, od_Coverdd__floordivdd_, .func (PySem.W.fnOf "__floordiv__" "Cover.__floordiv__" (defArgs s_Coverdd__floordivdd_) (defBody s_Coverdd__floordivdd_) (defScope s_Coverdd__floordivdd_) .none kV_Coverdd__floordivdd_ dc_Coverdd__floordivdd_ pm_Coverdd__floordivdd_ an_Coverdd__floordivdd_ cd_Coverdd__floordivdd_ ct_Coverdd__floordivdd_), sl_Coverdd__floordivdd_⟩)
    (cc_Coverdd__floordivdd_ : PySem.W.codeIn K cd_Coverdd__floordivdd_ "Cover.__floordiv__" = true)
    (k_Coverdd__floordivdd_ : PySem.W.keepIn K (.ref a_Coverdd__floordivdd_) = true)
    (n1_Coverdd__moddd_ : PySem.W.findIn K (.ref c_Cover) "__mod__" = some (some (.ref a_Coverdd__moddd_)))
    (i_Coverdd__moddd_ : PySem.W.isFn K (.ref a_Coverdd__moddd_) = true)
    (orc_Coverdd__moddd_ : PySem.W.findIn K (.ref c_Cover) "__rmod__" = some none)
    (ot1_Coverdd__moddd_ : PySem.W.findIn K (.type "int") "__mod__" = some fo_Coverdd__moddd_)
    (ot2_Coverdd__moddd_ : PySem.W.findIn K (.type "int") "__rmod__" = some ro_Coverdd__moddd_)
    (osb_Coverdd__moddd_ : PySem.W.subIn K (.type "int") (.ref c_Cover) = some false)
    (l_Coverdd__moddd_ : K.lookup a_Coverdd__moddd_ = some ⟨oc_Coverdd__moddd_, od_Coverdd__moddd_, .func (PySem.W.fnOf "__mod__" "Cover.__mod__" (defArgs s_Coverdd__moddd_) (defBody s_Coverdd__moddd_) (defScope s_Coverdd__moddd_) .none kV_Coverdd__moddd_ dc_Coverdd__moddd_ pm_Coverdd__moddd_ an_Coverdd__moddd_ cd_Coverdd__moddd_ ct_Coverdd__moddd_), sl_Coverdd__moddd_⟩)
    (cc_Coverdd__moddd_ : PySem.W.codeIn K cd_Coverdd__moddd_ "Cover.__mod__" = true)
    (k_Coverdd__moddd_ : PySem.W.keepIn K (.ref a_Coverdd__moddd_) = true)
    (n1_Coverdd__muldd_ : PySem.W.findIn K (.ref c_Cover) "__mul__" = some (some (.ref a_Coverdd__muldd_)))
    (i_Coverdd__muldd_ : PySem.W.isFn K (.ref a_Coverdd__muldd_) = true)
    (orc_Coverdd__muldd_ : PySem.W.findIn K (.ref c_Cover) "__rmul__" = some (some (.ref rc_Coverdd__muldd_)))
    (ot1_Coverdd__muldd_ : PySem.W.findIn K (.type "int") "__mul__" = some fo_Coverdd__muldd_)
    (ot2_Coverdd__muldd_ : PySem.W.findIn K (.type "int") "__rmul__" = some ro_Coverdd__muldd_)
    (osb_Coverdd__muldd_ : PySem.W.subIn K (.type "int") (.ref c_Cover) = some false)
    (l_Coverdd__muldd_ : K.lookup a_Coverdd__muldd_ = some ⟨oc_Coverdd__muldd_, od_Coverdd__muldd_, .func (PySem.W.fnOf "__mul__" "Cover.__mul__" (defArgs s_Coverdd__muldd_) (defBody s_Coverdd__muldd_) (defScope s_Coverdd__muldd_) .none kV_Coverdd__muldd_ dc_Coverdd__muldd_ pm_Coverdd__muldd_ an_Coverdd__muldd_ cd_Coverdd__muldd_ ct_Coverdd__muldd_), sl_Coverdd__muldd_⟩)
    (cc_Coverdd__muldd_ : PySem.W.codeIn K cd_Coverdd__muldd_ "Cover.__mul__" = true)
    (k_Coverdd__muldd_ : PySem.W.keepIn K (.ref a_Coverdd__muldd_) = true)
    (n1_Coverdd__rmuldd_ : PySem.W.findIn K (.ref c_Cover) "__rmul__" = some (some (.ref a_Coverdd__rmuldd_)))
    (i_Coverdd__rmuldd_ : PySem.W.isFn K (.ref a_Coverdd__rmuldd_) = true)
    (orm_Coverdd__rmuldd_ : PySem.W.findIn K (.ref c_Cover) "__mul__" = some (some (.ref rm_Coverdd__rmuldd_)))
    (ort1_Coverdd__rmuldd_ : PySem.W.findIn K (.type "int") "__mul__" = some fq_Coverdd__rmuldd_)
    (ort2_Coverdd__rmuldd_ : PySem.W.findIn K (.type "int") "__rmul__" = some rq_Coverdd__rmuldd_)
    (orsb_Coverdd__rmuldd_ : PySem.W.subIn K (.ref c_Cover) (.type "int") = some false)
    (l_Coverdd__rmuldd_ : K.lookup a_Coverdd__rmuldd_ = some ⟨oc_Coverdd__rmuldd_, od_Coverdd__rmuldd_, .func (PySem.W.fnOf "__rmul__" "Cover.__rmul__" (defArgs s_Coverdd__rmuldd_) (defBody s_Coverdd__rmuldd_) (defScope s_Coverdd__rmuldd_) .none kV_Coverdd__rmuldd_ dc_Coverdd__rmuldd_ pm_Coverdd__rmuldd_ an_Coverdd__rmuldd_ cd_Coverdd__rmuldd_ ct_Coverdd__rmuldd_), sl_Coverdd__rmuldd_⟩)
    (cc_Coverdd__rmuldd_ : PySem.W.codeIn K cd_Coverdd__rmuldd_ "Cover.__rmul__" = true)
    (k_Coverdd__rmuldd_ : PySem.W.keepIn K (.ref a_Coverdd__rmuldd_) = true)
    (n1_law_whole : PySem.W.nsIn K mainGlobals "_law_whole" = some (some (.ref a_law_whole)))
    (l_law_whole : K.lookup a_law_whole = some ⟨oc_law_whole, od_law_whole, .func (PySem.W.fnOf "_law_whole" "_law_whole" (defArgs s_law_whole) (defBody s_law_whole) (defScope s_law_whole) .none kV_law_whole dc_law_whole pm_law_whole an_law_whole cd_law_whole ct_law_whole), sl_law_whole⟩)
    (cc_law_whole : PySem.W.codeIn K cd_law_whole "_law_whole" = true)
    (k_law_whole : PySem.W.keepIn K (.ref a_law_whole) = true)
    (n1_law_pairs : PySem.W.nsIn K mainGlobals "_law_pairs" = some (some (.ref a_law_pairs)))
    (l_law_pairs : K.lookup a_law_pairs = some ⟨oc_law_pairs, od_law_pairs, .func (PySem.W.fnOf "_law_pairs" "_law_pairs" (defArgs s_law_pairs) (defBody s_law_pairs) (defScope s_law_pairs) .none kV_law_pairs dc_law_pairs pm_law_pairs an_law_pairs cd_law_pairs ct_law_pairs), sl_law_pairs⟩)
    (cc_law_pairs : PySem.W.codeIn K cd_law_pairs "_law_pairs" = true)
    (k_law_pairs : PySem.W.keepIn K (.ref a_law_pairs) = true)
    (n1_law_has : PySem.W.nsIn K mainGlobals "_law_has" = some (some (.ref a_law_has)))
    (l_law_has : K.lookup a_law_has = some ⟨oc_law_has, od_law_has, .func (PySem.W.fnOf "_law_has" "_law_has" (defArgs s_law_has) (defBody s_law_has) (defScope s_law_has) .none kV_law_has dc_law_has pm_law_has an_law_has cd_law_has ct_law_has), sl_law_has⟩)
    (cc_law_has : PySem.W.codeIn K cd_law_has "_law_has" = true)
    (k_law_has : PySem.W.keepIn K (.ref a_law_has) = true)
    (n1_law_exact : PySem.W.nsIn K mainGlobals "_law_exact" = some (some (.ref a_law_exact)))
    (l_law_exact : K.lookup a_law_exact = some ⟨oc_law_exact, od_law_exact, .func (PySem.W.fnOf "_law_exact" "_law_exact" (defArgs s_law_exact) (defBody s_law_exact) (defScope s_law_exact) .none kV_law_exact dc_law_exact pm_law_exact an_law_exact cd_law_exact ct_law_exact), sl_law_exact⟩)
    (cc_law_exact : PySem.W.codeIn K cd_law_exact "_law_exact" = true)
    (k_law_exact : PySem.W.keepIn K (.ref a_law_exact) = true)
    (n1_law_spans : PySem.W.nsIn K mainGlobals "_law_spans" = some (some (.ref a_law_spans)))
    (l_law_spans : K.lookup a_law_spans = some ⟨oc_law_spans, od_law_spans, .func (PySem.W.fnOf "_law_spans" "_law_spans" (defArgs s_law_spans) (defBody s_law_spans) (defScope s_law_spans) .none kV_law_spans dc_law_spans pm_law_spans an_law_spans cd_law_spans ct_law_spans), sl_law_spans⟩)
    (cc_law_spans : PySem.W.codeIn K cd_law_spans "_law_spans" = true)
    (k_law_spans : PySem.W.keepIn K (.ref a_law_spans) = true)
    (n1_law_touched : PySem.W.nsIn K mainGlobals "_law_touched" = some (some (.ref a_law_touched)))
    (l_law_touched : K.lookup a_law_touched = some ⟨oc_law_touched, od_law_touched, .func (PySem.W.fnOf "_law_touched" "_law_touched" (defArgs s_law_touched) (defBody s_law_touched) (defScope s_law_touched) .none kV_law_touched dc_law_touched pm_law_touched an_law_touched cd_law_touched ct_law_touched), sl_law_touched⟩)
    (cc_law_touched : PySem.W.codeIn K cd_law_touched "_law_touched" = true)
    (k_law_touched : PySem.W.keepIn K (.ref a_law_touched) = true)
    (n1_law_left_over : PySem.W.nsIn K mainGlobals "_law_left_over" = some (some (.ref a_law_left_over)))
    (l_law_left_over : K.lookup a_law_left_over = some ⟨oc_law_left_over, od_law_left_over, .func (PySem.W.fnOf "_law_left_over" "_law_left_over" (defArgs s_law_left_over) (defBody s_law_left_over) (defScope s_law_left_over) .none kV_law_left_over dc_law_left_over pm_law_left_over an_law_left_over cd_law_left_over ct_law_left_over), sl_law_left_over⟩)
    (cc_law_left_over : PySem.W.codeIn K cd_law_left_over "_law_left_over" = true)
    (k_law_left_over : PySem.W.keepIn K (.ref a_law_left_over) = true)
    (n1_law_remainders : PySem.W.nsIn K mainGlobals "_law_remainders" = some (some (.ref a_law_remainders)))
    (l_law_remainders : K.lookup a_law_remainders = some ⟨oc_law_remainders, od_law_remainders, .func (PySem.W.fnOf "_law_remainders" "_law_remainders" (defArgs s_law_remainders) (defBody s_law_remainders) (defScope s_law_remainders) .none kV_law_remainders dc_law_remainders pm_law_remainders an_law_remainders cd_law_remainders ct_law_remainders), sl_law_remainders⟩)
    (cc_law_remainders : PySem.W.codeIn K cd_law_remainders "_law_remainders" = true)
    (k_law_remainders : PySem.W.keepIn K (.ref a_law_remainders) = true)
    (n1_law_sized : PySem.W.nsIn K mainGlobals "_law_sized" = some (some (.ref a_law_sized)))
    (l_law_sized : K.lookup a_law_sized = some ⟨oc_law_sized, od_law_sized, .func (PySem.W.fnOf "_law_sized" "_law_sized" (defArgs s_law_sized) (defBody s_law_sized) (defScope s_law_sized) .none kV_law_sized dc_law_sized pm_law_sized an_law_sized cd_law_sized ct_law_sized), sl_law_sized⟩)
    (cc_law_sized : PySem.W.codeIn K cd_law_sized "_law_sized" = true)
    (k_law_sized : PySem.W.keepIn K (.ref a_law_sized) = true)
    (n1_law_refused : PySem.W.nsIn K mainGlobals "_law_refused" = some (some (.ref a_law_refused)))
    (l_law_refused : K.lookup a_law_refused = some ⟨oc_law_refused, od_law_refused, .func (PySem.W.fnOf "_law_refused" "_law_refused" (defArgs s_law_refused) (defBody s_law_refused) (defScope s_law_refused) .none kV_law_refused dc_law_refused pm_law_refused an_law_refused cd_law_refused ct_law_refused), sl_law_refused⟩)
    (cc_law_refused : PySem.W.codeIn K cd_law_refused "_law_refused" = true)
    (k_law_refused : PySem.W.keepIn K (.ref a_law_refused) = true)
    (n1_law_least : PySem.W.nsIn K mainGlobals "_law_least" = some (some (.ref a_law_least)))
    (l_law_least : K.lookup a_law_least = some ⟨oc_law_least, od_law_least, .func (PySem.W.fnOf "_law_least" "_law_least" (defArgs s_law_least) (defBody s_law_least) (defScope s_law_least) .none kV_law_least dc_law_least pm_law_least an_law_least cd_law_least ct_law_least), sl_law_least⟩)
    (cc_law_least : PySem.W.codeIn K cd_law_least "_law_least" = true)
    (k_law_least : PySem.W.keepIn K (.ref a_law_least) = true)
    (n1_law_pieces : PySem.W.nsIn K mainGlobals "_law_pieces" = some (some (.ref a_law_pieces)))
    (l_law_pieces : K.lookup a_law_pieces = some ⟨oc_law_pieces, od_law_pieces, .func (PySem.W.fnOf "_law_pieces" "_law_pieces" (defArgs s_law_pieces) (defBody s_law_pieces) (defScope s_law_pieces) .none kV_law_pieces dc_law_pieces pm_law_pieces an_law_pieces cd_law_pieces ct_law_pieces), sl_law_pieces⟩)
    (cc_law_pieces : PySem.W.codeIn K cd_law_pieces "_law_pieces" = true)
    (k_law_pieces : PySem.W.keepIn K (.ref a_law_pieces) = true)
    (n1_Coverdd__iterdd_ : PySem.W.findIn K (.ref c_Cover) "__iter__" = some (some (.ref a_Coverdd__iterdd_)))
    (i_Coverdd__iterdd_ : PySem.W.isFn K (.ref a_Coverdd__iterdd_) = true)
    (nl_Cover : PySem.W.findIn K (.ref c_Cover) "__len__" = some none)
    (nh_Cover : PySem.W.findIn K (.ref c_Cover) "__length_hint__" = some none)
    (l_Coverdd__iterdd_ : K.lookup a_Coverdd__iterdd_ = some ⟨oc_Coverdd__iterdd_, od_Coverdd__iterdd_, .func (PySem.W.fnOf "__iter__" "Cover.__iter__" (defArgs s_Coverdd__iterdd_) (defBody s_Coverdd__iterdd_) (defScope s_Coverdd__iterdd_) .none kV_Coverdd__iterdd_ dc_Coverdd__iterdd_ pm_Coverdd__iterdd_ an_Coverdd__iterdd_ cd_Coverdd__iterdd_ ct_Coverdd__iterdd_), sl_Coverdd__iterdd_⟩)
    (cc_Coverdd__iterdd_ : PySem.W.codeIn K cd_Coverdd__iterdd_ "Cover.__iter__" = true)
    (k_Coverdd__iterdd_ : PySem.W.keepIn K (.ref a_Coverdd__iterdd_) = true)
    (n1_law : PySem.W.nsIn K mainGlobals "law" = some (some (.ref a_law)))
    (l_law : K.lookup a_law = some ⟨oc_law, od_law, .func (PySem.W.fnOf "law" "law" (defArgs s_law) (defBody s_law) (defScope s_law) .none kV_law dc_law pm_law an_law cd_law ct_law), sl_law⟩)
    (cc_law : PySem.W.codeIn K cd_law "law" = true)
    (k_law : PySem.W.keepIn K (.ref a_law) = true)
    (aC_BadSize : PySem.W.nsIn K mainGlobals "BadSize" = some (some (.ref c_BadSize)))
    (aC_SlotError : PySem.W.nsIn K mainGlobals "SlotError" = some (some (.ref c_SlotError)))
    (aC_BadPlace : PySem.W.nsIn K mainGlobals "BadPlace" = some (some (.ref c_BadPlace)))
    (aC_BadSpan : PySem.W.nsIn K mainGlobals "BadSpan" = some (some (.ref c_BadSpan)))
    (z_super : PySem.W.nsIn K mainGlobals "super" = some none)
    (opq : PySem.W.nsIn K PySem.cStatics "thirdparty.any" = some none)
    (topS : (l.prog.main.scope.names.lookup ("super" : Str)).isSome = false)
    (eHn : PySem.W.specialIn K (.builtin "object.__class__") "__get__" = some (some (.builtin "getset_descriptor.__get__")))
    (eHt : PySem.W.takesIn K (.builtin "object.__class__") = some true)
    (xL_BadSize : K.lookup c_BadSize = some (PySem.excClassObj nm_BadSize q_BadSize c_BadSize N_BadSize bs_BadSize [.ref cb0_BadSize, .type "ValueError", .type "Exception", .type "BaseException", .type "object"] true sn_BadSize sub_BadSize ab_BadSize col_BadSize dd_BadSize m0_BadSize m1_BadSize m2_BadSize m3_BadSize m5_BadSize "ValueError.__new__"))
    (sa_BadSize : PySem.W.findIn K (.ref c_BadSize) "__setattr__" = some (some (.builtin "object.__setattr__")))
    (ga_BadSize : PySem.W.findIn K (.ref c_BadSize) "__getattribute__" = some (some (.builtin "BaseException.__getattribute__")))
    (gg_BadSize : PySem.W.findIn K (.ref c_BadSize) "__getattr__" = some none)
    (nb_BadSize : PySem.W.findIn K (.ref c_BadSize) "size" = some none)
    (a1_BadSize : PySem.W.findIn K (.ref c_BadSize) "__init__" = some (some (.ref i_BadSize)))
    (t1_BadSize : PySem.W.typeIn K (.ref i_BadSize) = some (.type "function"))
    (l_BadSize : K.lookup i_BadSize = some ⟨oc_BadSize, od_BadSize, .func (PySem.W.ksFn "__init__" "BadSize.__init__" (defArgs s_BadSize_init) (defBody s_BadSize_init) (defScope s_BadSize_init) .none kV_BadSize dc_BadSize pm_BadSize an_BadSize (.ref cda_BadSize) ct_BadSize cc_BadSize), sl_BadSize⟩)
    (cd_BadSize : PySem.W.codeIn K (.ref cda_BadSize) "BadSize.__init__" = true)
    (lc_BadSize : K.lookup cda_BadSize = some ⟨ccl_BadSize, cdd_BadSize, .fields vs_BadSize, ccs_BadSize⟩)
    (vf_BadSize : vs_BadSize[2]? = some (.str file_BadSize tf_BadSize))
    (ff_BadSize : ((l.prog.main.file : Str) == file_BadSize) = true)
    (ce_BadSize : K.lookup cc_BadSize = some ⟨cl_BadSize, cld_BadSize, .cell (some (.ref c_BadSize)), csl_BadSize⟩)
    (kC_BadSize : PySem.W.keepIn K (.ref c_BadSize) = true)
    (eC_BadSize : PySem.W.subIn K (.ref c_BadSize) (.type "BaseException") = some true)
    (tC_BadSize : PySem.W.typeIn K (.ref c_BadSize) = some (.type "type"))
    (hC_BadSize : PySem.W.hasDictIn K c_BadSize = true)
    (sC_BadSize : PySem.W.subIn K (.ref c_BadSize) (.ref c_BadSize) = some true)
    (su_BadSize : PySem.W.ks_superIn K c_BadSize c_BadSize "__init__" = some (some (.builtin "ValueError.__init__")))
    (vE_BadSize : PySem.W.subIn K (.ref c_BadSize) (.type "ValueError") = some true)
    (mD_BadSize : PySem.W.mroIn K c_BadSize (.ref c_BadSize) = some true)
    (eA_BadSize : PySem.W.findIn K (.ref c_BadSize) "__class__" = some (some (.builtin "object.__class__")))
    (eM_BadSize : PySem.W.mroIn K c_BadSize (.type "object") = some true)
    (eC_SlotError : PySem.W.subIn K (.ref c_SlotError) (.type "BaseException") = some true)
    (tC_SlotError : PySem.W.typeIn K (.ref c_SlotError) = some (.type "type"))
    (hC_SlotError : PySem.W.hasDictIn K c_SlotError = true)
    (eC_BadPlace : PySem.W.subIn K (.ref c_BadPlace) (.type "BaseException") = some true)
    (tC_BadPlace : PySem.W.typeIn K (.ref c_BadPlace) = some (.type "type"))
    (hC_BadPlace : PySem.W.hasDictIn K c_BadPlace = true)
    (eC_BadSpan : PySem.W.subIn K (.ref c_BadSpan) (.type "BaseException") = some true)
    (tC_BadSpan : PySem.W.typeIn K (.ref c_BadSpan) = some (.type "type"))
    (hC_BadSpan : PySem.W.hasDictIn K c_BadSpan = true)
    (sb_BadSize_SlotError : PySem.W.subIn K (.ref c_BadSize) (.ref c_SlotError) = some true)
    (sb_BadSize_BadPlace : PySem.W.subIn K (.ref c_BadSize) (.ref c_BadPlace) = some false)
    (sb_BadSize_BadSpan : PySem.W.subIn K (.ref c_BadSize) (.ref c_BadSpan) = some false)
    : ∃ fd : FuncData, (∀ (s : Shared) (v : Value), BindsTo s fd ⟨[v], []⟩ [("script", v)]) ∧ ∀ base : Heap, K.In base → base.Ns mainGlobals mg → FnOk l.prog w K mg base CX0 11 fa fd ["script"] (spLaw K) := by
  have e := hfa.symm.trans (PySem.W.mg_of X G n1_law)
  cases e
  have F_law_mixed := fun_mk (st := s_law_mixed) l_law_mixed cc_law_mixed k_law_mixed
  have b_law_mixed := F_law_mixed.binds (ps := ["cell", "turn", "limit"]) fun _ _ _ _ _ _ us hl => match us, hl with | [_, _, _], _ => rfl
  have F_law_draw := fun_mk (st := s_law_draw) l_law_draw cc_law_draw k_law_draw
  have b_law_draw := F_law_draw.binds (ps := ["state", "limit"]) fun _ _ _ _ _ _ us hl => match us, hl with | [_, _], _ => rfl
  have F_law_start := fun_mk (st := s_law_start) l_law_start cc_law_start k_law_start
  have b_law_start := F_law_start.binds (ps := ["script"]) fun _ _ _ _ _ _ us hl => match us, hl with | [_], _ => rfl
  have F_law_same := fun_mk (st := s_law_same) l_law_same cc_law_same k_law_same
  have b_law_same := F_law_same.binds (ps := ["here", "there"]) fun _ _ _ _ _ _ us hl => match us, hl with | [_, _], _ => rfl
  have F_with_span := fun_mk (st := s_with_span) l_with_span cc_with_span k_with_span
  have b_with_span := F_with_span.binds (ps := ["spans", "start", "stop"]) fun _ _ _ _ _ _ us hl => match us, hl with | [_, _, _], _ => rfl
  have F_union := fun_mk (st := s_union) l_union cc_union k_union
  have b_union := F_union.binds (ps := ["first", "second"]) fun _ _ _ _ _ _ us hl => match us, hl with | [_, _], _ => rfl
  have F_without := fun_mk (st := s_without) l_without cc_without k_without
  have b_without := F_without.binds (ps := ["first", "second"]) fun _ _ _ _ _ _ us hl => match us, hl with | [_, _], _ => rfl
  have F_remainders := fun_mk (st := s_remainders) l_remainders cc_remainders k_remainders
  have b_remainders := F_remainders.binds (ps := ["spans", "size"]) fun _ _ _ _ _ _ us hl => match us, hl with | [_, _], _ => rfl
  have F_check_size := fun_mk (st := s_check_size) l_check_size cc_check_size k_check_size
  have b_check_size := F_check_size.binds (ps := ["size"]) fun _ _ _ _ _ _ us hl => match us, hl with | [_], _ => rfl
  have F_Cover_init : FunD K "__init__" "Cover.__init__" (defArgs s_Cover_init) (defBody s_Cover_init) (defScope s_Cover_init) [.ref e_Cover_init_0] [] a_Cover_init _ := ⟨⟨_, _, _, _, _, _, _, _, _, _, rfl, l_Cover_init, cc_Cover_init, .inr ⟨by simp, _, _, [.ref e_Cover_init_0], _, rfl, lT_Cover_init, rfl, (.cons rfl .nil)⟩, .inl rfl⟩, k_Cover_init⟩
  have bd_Cover_init_0 := F_Cover_init.binds1 (ps := ["self", "spans"]) 1 0 (by simp) rfl fun _ _ _ _ _ _ _ us its hu hi => match us, hu, its, hi with | [_], _, [_], _ => ⟨_, rfl, rfl⟩
  have bd_Cover_init_1 := F_Cover_init.binds1 (ps := ["self", "spans"]) 2 1 (by simp) rfl fun _ _ _ _ _ _ _ us its hu hi => match us, hu, its, hi with | [_, _], _, [_], _ => ⟨_, rfl, rfl⟩
  have F_Coverdd__booldd_ := fun_mk (st := s_Coverdd__booldd_) l_Coverdd__booldd_ cc_Coverdd__booldd_ k_Coverdd__booldd_
  have b_Coverdd__booldd_ := F_Coverdd__booldd_.binds (ps := ["self"]) fun _ _ _ _ _ _ us hl => match us, hl with | [_], _ => rfl
  have F_Coverdd__eqdd_ := fun_mk (st := s_Coverdd__eqdd_) l_Coverdd__eqdd_ cc_Coverdd__eqdd_ k_Coverdd__eqdd_
  have b_Coverdd__eqdd_ := F_Coverdd__eqdd_.binds (ps := ["self", "other"]) fun _ _ _ _ _ _ us hl => match us, hl with | [_, _], _ => rfl
  have F_Coverdd__ledd_ := fun_mk (st := s_Coverdd__ledd_) l_Coverdd__ledd_ cc_Coverdd__ledd_ k_Coverdd__ledd_
  have b_Coverdd__ledd_ := F_Coverdd__ledd_.binds (ps := ["self", "other"]) fun _ _ _ _ _ _ us hl => match us, hl with | [_, _], _ => rfl
  have F_Coverdd__ordd_ := fun_mk (st := s_Coverdd__ordd_) l_Coverdd__ordd_ cc_Coverdd__ordd_ k_Coverdd__ordd_
  have b_Coverdd__ordd_ := F_Coverdd__ordd_.binds (ps := ["self", "other"]) fun _ _ _ _ _ _ us hl => match us, hl with | [_, _], _ => rfl
  have F_Coverdd__subdd_ := fun_mk (st := s_Coverdd__subdd_) l_Coverdd__subdd_ cc_Coverdd__subdd_ k_Coverdd__subdd_
  have b_Coverdd__subdd_ := F_Coverdd__subdd_.binds (ps := ["self", "other"]) fun _ _ _ _ _ _ us hl => match us, hl with | [_, _], _ => rfl
  have F_Coverdd__floordivdd_ := fun_mk (st := s_Coverdd__floordivdd_) l_Coverdd__floordivdd_ cc_Coverdd__floordivdd_ k_Coverdd__floordivdd_
  have b_Coverdd__floordivdd_ := F_Coverdd__floordivdd_.binds (ps := ["self", "other"]) fun _ _ _ _ _ _ us hl => match us, hl with | [_, _], _ => rfl
  have F_Coverdd__moddd_ := fun_mk (st := s_Coverdd__moddd_) l_Coverdd__moddd_ cc_Coverdd__moddd_ k_Coverdd__moddd_
  have b_Coverdd__moddd_ := F_Coverdd__moddd_.binds (ps := ["self", "other"]) fun _ _ _ _ _ _ us hl => match us, hl with | [_, _], _ => rfl
  have F_Coverdd__muldd_ := fun_mk (st := s_Coverdd__muldd_) l_Coverdd__muldd_ cc_Coverdd__muldd_ k_Coverdd__muldd_
  have b_Coverdd__muldd_ := F_Coverdd__muldd_.binds (ps := ["self", "other"]) fun _ _ _ _ _ _ us hl => match us, hl with | [_, _], _ => rfl
  have F_Coverdd__rmuldd_ := fun_mk (st := s_Coverdd__rmuldd_) l_Coverdd__rmuldd_ cc_Coverdd__rmuldd_ k_Coverdd__rmuldd_
  have b_Coverdd__rmuldd_ := F_Coverdd__rmuldd_.binds (ps := ["self", "other"]) fun _ _ _ _ _ _ us hl => match us, hl with | [_, _], _ => rfl
  have F_law_whole := fun_mk (st := s_law_whole) l_law_whole cc_law_whole k_law_whole
  have b_law_whole := F_law_whole.binds (ps := ["x"]) fun _ _ _ _ _ _ us hl => match us, hl with | [_], _ => rfl
  have F_law_pairs := fun_mk (st := s_law_pairs) l_law_pairs cc_law_pairs k_law_pairs
  have b_law_pairs := F_law_pairs.binds (ps := ["state", "most"]) fun _ _ _ _ _ _ us hl => match us, hl with | [_, _], _ => rfl
  have F_law_has := fun_mk (st := s_law_has) l_law_has cc_law_has k_law_has
  have b_law_has := F_law_has.binds (ps := ["pairs", "place"]) fun _ _ _ _ _ _ us hl => match us, hl with | [_, _], _ => rfl
  have F_law_exact := fun_mk (st := s_law_exact) l_law_exact cc_law_exact k_law_exact
  have b_law_exact := F_law_exact.binds (ps := ["spans", "pairs"]) fun _ _ _ _ _ _ us hl => match us, hl with | [_, _], _ => rfl
  have F_law_spans := fun_mk (st := s_law_spans) l_law_spans cc_law_spans k_law_spans
  have b_law_spans := F_law_spans.binds (ps := ["points", "flags"]) fun _ _ _ _ _ _ us hl => match us, hl with | [_, _], _ => rfl
  have F_law_touched := fun_mk (st := s_law_touched) l_law_touched cc_law_touched k_law_touched
  have b_law_touched := F_law_touched.binds (ps := ["pairs", "size"]) fun _ _ _ _ _ _ us hl => match us, hl with | [_, _], _ => rfl
  have F_law_left_over := fun_mk (st := s_law_left_over) l_law_left_over cc_law_left_over k_law_left_over
  have b_law_left_over := F_law_left_over.binds (ps := ["pairs", "size", "number"]) fun _ _ _ _ _ _ us hl => match us, hl with | [_, _, _], _ => rfl
  have F_law_remainders := fun_mk (st := s_law_remainders) l_law_remainders cc_law_remainders k_law_remainders
  have b_law_remainders := F_law_remainders.binds (ps := ["pairs", "size"]) fun _ _ _ _ _ _ us hl => match us, hl with | [_, _], _ => rfl
  have F_law_sized := fun_mk (st := s_law_sized) l_law_sized cc_law_sized k_law_sized
  have b_law_sized := F_law_sized.binds (ps := ["cover", "way", "size"]) fun _ _ _ _ _ _ us hl => match us, hl with | [_, _, _], _ => rfl
  have F_law_refused := fun_mk (st := s_law_refused) l_law_refused cc_law_refused k_law_refused
  have b_law_refused := F_law_refused.binds (ps := ["cover", "way", "size"]) fun _ _ _ _ _ _ us hl => match us, hl with | [_, _, _], _ => rfl
  have F_law_least := fun_mk (st := s_law_least) l_law_least cc_law_least k_law_least
  have b_law_least := F_law_least.binds (ps := ["state", "cover", "pieces", "touched", "size"]) fun _ _ _ _ _ _ us hl => match us, hl with | [_, _, _, _, _], _ => rfl
  have F_law_pieces := fun_mk (st := s_law_pieces) l_law_pieces cc_law_pieces k_law_pieces
  have b_law_pieces := F_law_pieces.binds (ps := ["state", "cover", "pairs", "size"]) fun _ _ _ _ _ _ us hl => match us, hl with | [_, _, _, _], _ => rfl
  have F_Coverdd__iterdd_ := fun_mk (st := s_Coverdd__iterdd_) l_Coverdd__iterdd_ cc_Coverdd__iterdd_ k_Coverdd__iterdd_
  have b_Coverdd__iterdd_ := F_Coverdd__iterdd_.binds (ps := ["self"]) fun _ _ _ _ _ _ us hl => match us, hl with | [_], _ => rfl
  have F_law := fun_mk (st := s_law) l_law cc_law k_law
  have b_law := F_law.binds (ps := ["script"]) fun _ _ _ _ _ _ us hl => match us, hl with | [_], _ => rfl
  let T : Txt l.prog w K mg := { z_bool := PySem.W.mg_none_of X G z_bool, z_dict := PySem.W.mg_none_of X G z_dict, z_int := PySem.W.mg_none_of X G z_int, z_isinstance := PySem.W.mg_none_of X G z_isinstance, z_iter := PySem.W.mg_none_of X G z_iter, z_len := PySem.W.mg_none_of X G z_len, z_list := PySem.W.mg_none_of X G z_list, z_max := PySem.W.mg_none_of X G z_max, z_range := PySem.W.mg_none_of X G z_range, z_sorted := PySem.W.mg_none_of X G z_sorted, z_str := PySem.W.mg_none_of X G z_str, z_tuple := PySem.W.mg_none_of X G z_tuple, c_Cover := c_Cover, cl_Cover := ⟨pg_Cover, hd_Cover, po_Cover, sa_Cover⟩, mc_Cover := PySem.W.mg_of X G aC_Cover, sf_Cover := sf_Cover, ii_Cover := ⟨⟨pg_Cover, hd_Cover, po_Cover, sa_Cover⟩, iia_Cover, iib_Cover, iic_Cover, iid_Cover, kit_ref hd_Cover iit_Cover iis_Cover iis_Cover⟩, nf_Cover := nf_Cover, n_Cover_spans := n_Cover_spans, a_law_mixed := a_law_mixed, d_law_mixed := _, F_law_mixed := F_law_mixed, b_law_mixed := b_law_mixed, m_law_mixed := PySem.W.mg_of X G n1_law_mixed, a_law_draw := a_law_draw, d_law_draw := _, F_law_draw := F_law_draw, b_law_draw := b_law_draw, m_law_draw := PySem.W.mg_of X G n1_law_draw, a_law_start := a_law_start, d_law_start := _, F_law_start := F_law_start, b_law_start := b_law_start, m_law_start := PySem.W.mg_of X G n1_law_start, a_law_same := a_law_same, d_law_same := _, F_law_same := F_law_same, b_law_same := b_law_same, m_law_same := PySem.W.mg_of X G n1_law_same, a_with_span := a_with_span, d_with_span := _, F_with_span := F_with_span, b_with_span := b_with_span, m_with_span := PySem.W.mg_of X G n1_with_span, a_union := a_union, d_union := _, F_union := F_union, b_union := b_union, m_union := PySem.W.mg_of X G n1_union, a_without := a_without, d_without := _, F_without := F_without, b_without := b_without, m_without := PySem.W.mg_of X G n1_without, a_remainders := a_remainders, d_remainders := _, F_remainders := F_remainders, b_remainders := b_remainders, m_remainders := PySem.W.mg_of X G n1_remainders, a_check_size := a_check_size, d_check_size := _, F_check_size := F_check_size, b_check_size := b_check_size, m_check_size := PySem.W.mg_of X G n1_check_size, a_Cover_init := a_Cover_init, d_Cover_init := _, e_Cover_init_0 := e_Cover_init_0, te_Cover_init_0 := fun H => .inr ⟨_, _, _, lE_Cover_init_0, rfl, rfl, Nat.zero_le _, .nil⟩, F_Cover_init := F_Cover_init, bd_Cover_init_0 := bd_Cover_init_0, bd_Cover_init_1 := bd_Cover_init_1, mk_Cover := ⟨mi_Cover, n1_Cover_init, i_Cover_init, kc_Cover⟩, a_Coverdd__booldd_ := a_Coverdd__booldd_, d_Coverdd__booldd_ := _, F_Coverdd__booldd_ := F_Coverdd__booldd_, b_Coverdd__booldd_ := b_Coverdd__booldd_, om_Coverdd__booldd_ := ⟨n1_Coverdd__booldd_, i_Coverdd__booldd_⟩, a_Coverdd__eqdd_ := a_Coverdd__eqdd_, d_Coverdd__eqdd_ := _, F_Coverdd__eqdd_ := F_Coverdd__eqdd_, b_Coverdd__eqdd_ := b_Coverdd__eqdd_, om_Coverdd__eqdd_ := ⟨n1_Coverdd__eqdd_, i_Coverdd__eqdd_⟩, a_Coverdd__ledd_ := a_Coverdd__ledd_, d_Coverdd__ledd_ := _, F_Coverdd__ledd_ := F_Coverdd__ledd_, b_Coverdd__ledd_ := b_Coverdd__ledd_, om_Coverdd__ledd_ := ⟨n1_Coverdd__ledd_, i_Coverdd__ledd_⟩, a_Coverdd__ordd_ := a_Coverdd__ordd_, d_Coverdd__ordd_ := _, F_Coverdd__ordd_ := F_Coverdd__ordd_, b_Coverdd__ordd_ := b_Coverdd__ordd_, om_Coverdd__ordd_ := ⟨n1_Coverdd__ordd_, i_Coverdd__ordd_⟩, a_Coverdd__subdd_ := a_Coverdd__subdd_, d_Coverdd__subdd_ := _, F_Coverdd__subdd_ := F_Coverdd__subdd_, b_Coverdd__subdd_ := b_Coverdd__subdd_, om_Coverdd__subdd_ := ⟨n1_Coverdd__subdd_, i_Coverdd__subdd_⟩, a_Coverdd__floordivdd_ := a_Coverdd__floordivdd_, d_Coverdd__floordivdd_ := _, F_Coverdd__floordivdd_ := F_Coverdd__floordivdd_, b_Coverdd__floordivdd_ := b_Coverdd__floordivdd_, om_Coverdd__floordivdd_ := ⟨n1_Coverdd__floordivdd_, i_Coverdd__floordivdd_⟩, ot_Coverdd__floordivdd_ := ⟨⟨n1_Coverdd__floordivdd_, i_Coverdd__floordivdd_⟩, sf_Cover, ⟨_, orc_Coverdd__floordivdd_, .inl rfl⟩, ⟨_, ot1_Coverdd__floordivdd_⟩, ⟨_, ot2_Coverdd__floordivdd_⟩, osb_Coverdd__floordivdd_⟩, a_Coverdd__moddd_ := a_Coverdd__moddd_, d_Coverdd__moddd_ := _, F_Coverdd__moddd_ := F_Coverdd__moddd_, b_Coverdd__moddd_ := b_Coverdd__moddd_, om_Coverdd__moddd_ := ⟨n1_Coverdd__moddd_, i_Coverdd__moddd_⟩, ot_Coverdd__moddd_ := ⟨⟨n1_Coverdd__moddd_, i_Coverdd__moddd_⟩, sf_Cover, ⟨_, orc_Coverdd__moddd_, .inl rfl⟩, ⟨_, ot1_Coverdd__moddd_⟩, ⟨_, ot2_Coverdd__moddd_⟩, osb_Coverdd__moddd_⟩, a_Coverdd__muldd_ := a_Coverdd__muldd_, d_Coverdd__muldd_ := _, F_Coverdd__muldd_ := F_Coverdd__muldd_, b_Coverdd__muldd_ := b_Coverdd__muldd_, om_Coverdd__muldd_ := ⟨n1_Coverdd__muldd_, i_Coverdd__muldd_⟩, ot_Coverdd__muldd_ := ⟨⟨n1_Coverdd__muldd_, i_Coverdd__muldd_⟩, sf_Cover, ⟨_, orc_Coverdd__muldd_, .inr ⟨_, rfl⟩⟩, ⟨_, ot1_Coverdd__muldd_⟩, ⟨_, ot2_Coverdd__muldd_⟩, osb_Coverdd__muldd_⟩, a_Coverdd__rmuldd_ := a_Coverdd__rmuldd_, d_Coverdd__rmuldd_ := _, F_Coverdd__rmuldd_ := F_Coverdd__rmuldd_, b_Coverdd__rmuldd_ := b_Coverdd__rmuldd_, om_Coverdd__rmuldd_ := ⟨n1_Coverdd__rmuldd_, i_Coverdd__rmuldd_⟩, or_Coverdd__rmuldd_ := ⟨⟨n1_Coverdd__rmuldd_, i_Coverdd__rmuldd_⟩, sf_Cover, ⟨_, orm_Coverdd__rmuldd_⟩, ⟨_, ort1_Coverdd__rmuldd_⟩, ⟨_, ort2_Coverdd__rmuldd_⟩, orsb_Coverdd__rmuldd_⟩, a_law_whole := a_law_whole, d_law_whole := _, F_law_whole := F_law_whole, b_law_whole := b_law_whole, m_law_whole := PySem.W.mg_of X G n1_law_whole, a_law_pairs := a_law_pairs, d_law_pairs := _, F_law_pairs := F_law_pairs, b_law_pairs := b_law_pairs, m_law_pairs := PySem.W.mg_of X G n1_law_pairs, a_law_has := a_law_has, d_law_has := _, F_law_has := F_law_has, b_law_has := b_law_has, m_law_has := PySem.W.mg_of X G n1_law_has, a_law_exact := a_law_exact, d_law_exact := _, F_law_exact := F_law_exact, b_law_exact := b_law_exact, m_law_exact := PySem.W.mg_of X G n1_law_exact, a_law_spans := a_law_spans, d_law_spans := _, F_law_spans := F_law_spans, b_law_spans := b_law_spans, m_law_spans := PySem.W.mg_of X G n1_law_spans, a_law_touched := a_law_touched, d_law_touched := _, F_law_touched := F_law_touched, b_law_touched := b_law_touched, m_law_touched := PySem.W.mg_of X G n1_law_touched, a_law_left_over := a_law_left_over, d_law_left_over := _, F_law_left_over := F_law_left_over, b_law_left_over := b_law_left_over, m_law_left_over := PySem.W.mg_of X G n1_law_left_over, a_law_remainders := a_law_remainders, d_law_remainders := _, F_law_remainders := F_law_remainders, b_law_remainders := b_law_remainders, m_law_remainders := PySem.W.mg_of X G n1_law_remainders, a_law_sized := a_law_sized, d_law_sized := _, F_law_sized := F_law_sized, b_law_sized := b_law_sized, m_law_sized := PySem.W.mg_of X G n1_law_sized, a_law_refused := a_law_refused, d_law_refused := _, F_law_refused := F_law_refused, b_law_refused := b_law_refused, m_law_refused := PySem.W.mg_of X G n1_law_refused, a_law_least := a_law_least, d_law_least := _, F_law_least := F_law_least, b_law_least := b_law_least, m_law_least := PySem.W.mg_of X G n1_law_least, a_law_pieces := a_law_pieces, d_law_pieces := _, F_law_pieces := F_law_pieces, b_law_pieces := b_law_pieces, m_law_pieces := PySem.W.mg_of X G n1_law_pieces, a_Coverdd__iterdd_ := a_Coverdd__iterdd_, d_Coverdd__iterdd_ := _, F_Coverdd__iterdd_ := F_Coverdd__iterdd_, b_Coverdd__iterdd_ := b_Coverdd__iterdd_, it_Cover := ⟨n1_Coverdd__iterdd_, i_Coverdd__iterdd_, nl_Cover, nh_Cover⟩, a_law := fa, d_law := _, F_law := F_law, b_law := b_law, m_law := PySem.W.mg_of X G n1_law, c_BadSize := c_BadSize, mc_BadSize := PySem.W.mg_of X G aC_BadSize, c_SlotError := c_SlotError, mc_SlotError := PySem.W.mg_of X G aC_SlotError, c_BadPlace := c_BadPlace, mc_BadPlace := PySem.W.mg_of X G aC_BadPlace, c_BadSpan := c_BadSpan, mc_BadSpan := PySem.W.mg_of X G aC_BadSpan, i_BadSize := i_BadSize, sup_BadSize := { gC := PySem.W.mg_of X G aC_BadSize, gS := PySem.W.mg_none_of X G z_super, cls := ⟨_, _, _, _, _, _, _, _, _, _, _, _, _, _, _, xL_BadSize, by rfl⟩, sa := sa_BadSize, ga := ga_BadSize, gg := gg_BadSize, noN := nb_BadSize, iC := a1_BadSize, tC := t1_BadSize, kC := kC_BadSize, exC := eC_BadSize, tyC := tC_BadSize, hdC := hC_BadSize, te := PySem.W.exm_ref eC_BadSize hC_BadSize tC_BadSize sC_BadSize, sup := su_BadSize, opq := opq, vE := vE_BadSize, mroD := mD_BadSize, clD := cls_of hC_BadSize, fo := { ks := rfl, kc := rfl, ka := rfl, kf := rfl, db := by decide, nes := by decide }, top := topS, fn := ⟨"BadSize.__init__", _, defArgs s_BadSize_init, _, kV_BadSize, _, _, _, _, _, _, _, _, _, _, _, _, cda_BadSize, cc_BadSize, vs_BadSize, _, _, _, _, _, _, _, _, _, _, _, _, _, _, l_BadSize, cd_BadSize, lc_BadSize, vf_BadSize, ff_BadSize, ce_BadSize, rfl, rfl, rfl, fun s x v => .of_eq rfl⟩ }, xc_BadSize := ⟨ga_BadSize, gg_BadSize, eC_BadSize, hC_BadSize, eA_BadSize, eHn, eHt, eM_BadSize⟩, kt_BadSize_SlotError := kit_ref hC_SlotError tC_SlotError sC_BadSize sb_BadSize_SlotError, em_BadSize_SlotError := PySem.W.exm_ref eC_SlotError hC_SlotError tC_SlotError sb_BadSize_SlotError, kt_BadSize_BadPlace := kit_ref hC_BadPlace tC_BadPlace sC_BadSize sb_BadSize_BadPlace, em_BadSize_BadPlace := PySem.W.exm_ref eC_BadPlace hC_BadPlace tC_BadPlace sb_BadSize_BadPlace, kt_BadSize_BadSpan := kit_ref hC_BadSpan tC_BadSpan sC_BadSize sb_BadSize_BadSpan, em_BadSize_BadSpan := PySem.W.exm_ref eC_BadSpan hC_BadSpan tC_BadSpan sb_BadSize_BadSpan }
  exact ⟨PySem.W.fnOf "law" "law" (defArgs s_law) (defBody s_law) (defScope s_law) .none kV_law dc_law pm_law an_law cd_law ct_law, fun s v => .of_eq rfl, fun base _ _ => ok_law T⟩
theorem walk {l : PySem.W.OpenLaw} {q : Program} {loose : List Str} {XP : (Str → Option Value) → Heap → Prop} {YP : World → Heap → Prop} {d : DefRec} {K : Params → PySem.W.Frag} (hn : l.most = some 63) (hdf : d.params.defaults = [])
    (hY : ∀ (w : World) (h : Heap), YP w h → (K w.params).In h)
    (F : ∀ (w : World) (mg : Str → Option Value) (fa : Addr) (h : Heap), (K w.params).In h → h.Ns mainGlobals mg → mg d.name = some (.ref fa) →
      ∃ fd : FuncData, (∀ (s : Shared) (u : Value), BindsTo s fd ⟨[u], []⟩ [("script", u)]) ∧ ∀ base : Heap, (K w.params).In base → base.Ns mainGlobals mg → FnOk l.prog w (K w.params) mg base CX0 11 fa fd ["script"] (spLaw (K w.params))) :
    PySem.W.WalkO q loose XP YP l.row.toRowW d [] (fun f vs => PySem.call f vs) :=
  L2.walk_of (n := 63) (k := 11) (x := "script") (CX := fun _ => CX0) (sp := fun w => spLaw (K w.params)) hn (by decide) hdf ⟨rfl, by decide, by decide⟩ hY F (fun _ _ a ns hl _ hS => ⟨a, ns, rfl, hS, hl, fun _ => rfl⟩) fun _ _ _ _ _ z => z
end K
open PySem PySem.W PyProof.Rows
set_option maxRecDepth 100000 in
set_option maxHeartbeats 0 in
theorem PySem.Challenge.cw_copiesfollow_k06_whole_cover_pieces_holds : PySem.Challenge.rw_copiesfollow_k06_whole_cover_pieces.Holds := by
  w_on; o_law; k_head; (case hw => w_witness2)
  k_fill
  refine K.walk (l := PySem.Challenge.rw_copiesfollow_k06_whole_cover_pieces) rfl rfl (fun w h Y => PySem.W.kIn_of Y) ?F
  case F =>
    intro w mg fa h KX G hmg
    refine' K.all_mk KX G hmg ?z_bool ?z_dict ?z_int ?z_isinstance ?z_iter ?z_len ?z_list ?z_max ?z_range ?z_sorted ?z_str ?z_tuple ?aC_Cover ?pg_Cover ?hd_Cover ?po_Cover ?sa_Cover ?mi_Cover ?kc_Cover ?sf_Cover ?iia_Cover ?iib_Cover ?iic_Cover ?iid_Cover ?iit_Cover ?iis_Cover ?nf_Cover ?n_Cover_spans ?n1_law_mixed ?l_law_mixed ?cc_law_mixed ?k_law_mixed ?n1_law_draw ?l_law_draw ?cc_law_draw ?k_law_draw ?n1_law_start ?l_law_start ?cc_law_start ?k_law_start ?n1_law_same ?l_law_same ?cc_law_same ?k_law_same ?n1_with_span ?l_with_span ?cc_with_span ?k_with_span ?n1_union ?l_union ?cc_union ?k_union ?n1_without ?l_without ?cc_without ?k_without ?n1_remainders ?l_remainders ?cc_remainders ?k_remainders ?n1_check_size ?l_check_size ?cc_check_size ?k_check_size ?n1_Cover_init ?i_Cover_init ?l_Cover_init ?cc_Cover_init ?k_Cover_init ?lT_Cover_init ?lE_Cover_init_0 ?n1_Coverdd__booldd_ ?i_Coverdd__booldd_ ?l_Coverdd__booldd_ ?cc_Coverdd__booldd_ ?k_Coverdd__booldd_ ?n1_Coverdd__eqdd_ ?i_Coverdd__eqdd_ ?l_Coverdd__eqdd_ ?cc_Coverdd__eqdd_ ?k_Coverdd__eqdd_ ?n1_Coverdd__ledd_ ?i_Coverdd__ledd_ ?l_Coverdd__ledd_ ?cc_Coverdd__ledd_ ?k_Coverdd__ledd_ ?n1_Coverdd__ordd_ ?i_Coverdd__ordd_ ?l_Coverdd__ordd_ ?cc_Coverdd__ordd_ ?k_Coverdd__ordd_ ?n1_Coverdd__subdd_ ?i_Coverdd__subdd_ ?l_Coverdd__subdd_ ?cc_Coverdd__subdd_ ?k_Coverdd__subdd_ ?n1_Coverdd__floordivdd_ ?i_Coverdd__floordivdd_ ?orc_Coverdd__floordivdd_ ?ot1_Coverdd__floordivdd_ ?ot2_Coverdd__floordivdd_ ?osb_Coverdd__floordivdd_ ?l_Coverdd__floordivdd_ ?cc_Coverdd__floordivdd_ ?k_Coverdd__floordivdd_ ?n1_Coverdd__moddd_ ?i_Coverdd__moddd_ ?orc_Coverdd__moddd_ ?ot1_Coverdd__moddd_ ?ot2_Coverdd__moddd_ ?osb_Coverdd__moddd_ ?l_Coverdd__moddd_ ?cc_Coverdd__moddd_ ?k_Coverdd__moddd_ ?n1_Coverdd__muldd_ ?i_Coverdd__muldd_ ?orc_Coverdd__muldd_ ?ot1_Coverdd__muldd_ ?ot2_Coverdd__muldd_ ?osb_Coverdd__muldd_ ?l_Coverdd__muldd_ ?cc_Coverdd__muldd_ ?k_Coverdd__muldd_ ?n1_Coverdd__rmuldd_ ?i_Coverdd__rmuldd_ ?orm_Coverdd__rmuldd_ ?ort1_Coverdd__rmuldd_ ?ort2_Coverdd__rmuldd_ ?orsb_Coverdd__rmuldd_ ?l_Coverdd__rmuldd_ ?cc_Coverdd__rmuldd_ ?k_Coverdd__rmuldd_ ?n1_law_whole ?l_law_whole ?cc_law_whole ?k_law_whole ?n1_law_pairs ?l_law_pairs ?cc_law_pairs ?k_law_pairs ?n1_law_has ?l_law_has ?cc_law_has ?k_law_has ?n1_law_exact ?l_law_exact ?cc_law_exact ?k_law_exact ?n1_law_spans ?l_law_spans ?cc_law_spans ?k_law_spans ?n1_law_touched ?l_law_touched ?cc_law_touched ?k_law_touched ?n1_law_left_over ?l_law_left_over ?cc_law_left_over ?k_law_left_over ?n1_law_remainders ?l_law_remainders ?cc_law_remainders ?k_law_remainders ?n1_law_sized ?l_law_sized ?cc_law_sized ?k_law_sized ?n1_law_refused ?l_law_refused ?cc_law_refused ?k_law_refused ?n1_law_least ?l_law_least ?cc_law_least ?k_law_least ?n1_law_pieces ?l_law_pieces ?cc_law_pieces ?k_law_pieces ?n1_Coverdd__iterdd_ ?i_Coverdd__iterdd_ ?nl_Cover ?nh_Cover ?l_Coverdd__iterdd_ ?cc_Coverdd__iterdd_ ?k_Coverdd__iterdd_ ?n1_law ?l_law ?cc_law ?k_law ?aC_BadSize ?aC_SlotError ?aC_BadPlace ?aC_BadSpan ?z_super ?opq ?topS ?eHn ?eHt ?xL_BadSize ?sa_BadSize ?ga_BadSize ?gg_BadSize ?nb_BadSize ?a1_BadSize ?t1_BadSize ?l_BadSize ?cd_BadSize ?lc_BadSize ?vf_BadSize ?ff_BadSize ?ce_BadSize ?kC_BadSize ?eC_BadSize ?tC_BadSize ?hC_BadSize ?sC_BadSize ?su_BadSize ?vE_BadSize ?mD_BadSize ?eA_BadSize ?eM_BadSize ?eC_SlotError ?tC_SlotError ?hC_SlotError ?eC_BadPlace ?tC_BadPlace ?hC_BadPlace ?eC_BadSpan ?tC_BadSpan ?hC_BadSpan ?sb_BadSize_SlotError ?sb_BadSize_BadPlace ?sb_BadSize_BadSpan
    (case z_bool => k_is)
    (case z_dict => k_is)
    (case z_int => k_is)
    (case z_isinstance => k_is)
    (case z_iter => k_is)
    (case z_len => k_is)
    (case z_list => k_is)
    (case z_max => k_is)
    (case z_range => k_is)
    (case z_sorted => k_is)
    (case z_str => k_is)
    (case z_tuple => k_is)
    (case aC_Cover => k_is)
    (case pg_Cover => k_is)
    (case hd_Cover => k_is)
    (case po_Cover => k_is)
    (case sa_Cover => k_is)
    (case mi_Cover => k_is)
    (case kc_Cover => k_is)
    (case sf_Cover => k_is)
    (case iia_Cover => k_is)
    (case iib_Cover => k_is)
    (case iic_Cover => k_is)
    (case iid_Cover => k_is)
    (case iit_Cover => k_is)
    (case iis_Cover => k_is)
    (case nf_Cover => k_is)
    (case n_Cover_spans => k_is)
    (case n1_law_mixed => k_is)
    (case l_law_mixed => k_is)
    (case cc_law_mixed => k_is)
    (case k_law_mixed => k_is)
    (case n1_law_draw => k_is)
    (case l_law_draw => k_is)
    (case cc_law_draw => k_is)
    (case k_law_draw => k_is)
    (case n1_law_start => k_is)
    (case l_law_start => k_is)
    (case cc_law_start => k_is)
    (case k_law_start => k_is)
    (case n1_law_same => k_is)
    (case l_law_same => k_is)
    (case cc_law_same => k_is)
    (case k_law_same => k_is)
    (case n1_with_span => k_is)
    (case l_with_span => k_is)
    (case cc_with_span => k_is)
    (case k_with_span => k_is)
    (case n1_union => k_is)
    (case l_union => k_is)
    (case cc_union => k_is)
    (case k_union => k_is)
    (case n1_without => k_is)
    (case l_without => k_is)
    (case cc_without => k_is)
    (case k_without => k_is)
    (case n1_remainders => k_is)
    (case l_remainders => k_is)
    (case cc_remainders => k_is)
    (case k_remainders => k_is)
    (case n1_check_size => k_is)
    (case l_check_size => k_is)
    (case cc_check_size => k_is)
    (case k_check_size => k_is)
    (case n1_Cover_init => k_is)
    (case i_Cover_init => k_is)
    (case l_Cover_init => k_is)
    (case cc_Cover_init => k_is)
    (case k_Cover_init => k_is)
    (case lT_Cover_init => k_is)
    (case lE_Cover_init_0 => k_is)
    (case n1_Coverdd__booldd_ => k_is)
    (case i_Coverdd__booldd_ => k_is)
    (case l_Coverdd__booldd_ => k_is)
    (case cc_Coverdd__booldd_ => k_is)
    (case k_Coverdd__booldd_ => k_is)
    (case n1_Coverdd__eqdd_ => k_is)
    (case i_Coverdd__eqdd_ => k_is)
    (case l_Coverdd__eqdd_ => k_is)
    (case cc_Coverdd__eqdd_ => k_is)
    (case k_Coverdd__eqdd_ => k_is)
    (case n1_Coverdd__ledd_ => k_is)
    (case i_Coverdd__ledd_ => k_is)
    (case l_Coverdd__ledd_ => k_is)
    (case cc_Coverdd__ledd_ => k_is)
    (case k_Coverdd__ledd_ => k_is)
    (case n1_Coverdd__ordd_ => k_is)
    (case i_Coverdd__ordd_ => k_is)
    (case l_Coverdd__ordd_ => k_is)
    (case cc_Coverdd__ordd_ => k_is)
    (case k_Coverdd__ordd_ => k_is)
    (case n1_Coverdd__subdd_ => k_is)
    (case i_Coverdd__subdd_ => k_is)
    (case l_Coverdd__subdd_ => k_is)
    (case cc_Coverdd__subdd_ => k_is)
    (case k_Coverdd__subdd_ => k_is)
    (case n1_Coverdd__floordivdd_ => k_is)
    (case i_Coverdd__floordivdd_ => k_is)
    (case orc_Coverdd__floordivdd_ => k_is)
    (case ot1_Coverdd__floordivdd_ => k_is)
    (case ot2_Coverdd__floordivdd_ => k_is)
    (case osb_Coverdd__floordivdd_ => k_is)
    (case l_Coverdd__floordivdd_ => k_is)
    (case cc_Coverdd__floordivdd_ => k_is)
    (case k_Coverdd__floordivdd_ => k_is)
    (case n1_Coverdd__moddd_ => k_is)
    (case i_Coverdd__moddd_ => k_is)
    (case orc_Coverdd__moddd_ => k_is)
    (case ot1_Coverdd__moddd_ => k_is)
    (case ot2_Coverdd__moddd_ => k_is)
    (case osb_Coverdd__moddd_ => k_is)
    (case l_Coverdd__moddd_ => k_is)
    (case cc_Coverdd__moddd_ => k_is)
    (case k_Coverdd__moddd_ => k_is)
    (case n1_Coverdd__muldd_ => k_is)
    (case i_Coverdd__muldd_ => k_is)
    (case orc_Coverdd__muldd_ => k_is)
    (case ot1_Coverdd__muldd_ => k_is)
    (case ot2_Coverdd__muldd_ => k_is)
    (case osb_Coverdd__muldd_ => k_is)
    (case l_Coverdd__muldd_ => k_is)
    (case cc_Coverdd__muldd_ => k_is)
    (case k_Coverdd__muldd_ => k_is)
    (case n1_Coverdd__rmuldd_ => k_is)
    (case i_Coverdd__rmuldd_ => k_is)
    (case orm_Coverdd__rmuldd_ => k_is)
    (case ort1_Coverdd__rmuldd_ => k_is)
    (case ort2_Coverdd__rmuldd_ => k_is)
    (case orsb_Coverdd__rmuldd_ => k_is)
    (case l_Coverdd__rmuldd_ => k_is)
    (case cc_Coverdd__rmuldd_ => k_is)
    (case k_Coverdd__rmuldd_ => k_is)
    (case n1_law_whole => k_is)
    (case l_law_whole => k_is)
    (case cc_law_whole => k_is)
    (case k_law_whole => k_is)
    (case n1_law_pairs => k_is)
    (case l_law_pairs => k_is)
    (case cc_law_pairs => k_is)
    (case k_law_pairs => k_is)
    (case n1_law_has => k_is)
    (case l_law_has => k_is)
    (case cc_law_has => k_is)
    (case k_law_has => k_is)
    (case n1_law_exact => k_is)
    (case l_law_exact => k_is)
    (case cc_law_exact => k_is)
    (case k_law_exact => k_is)
    (case n1_law_spans => k_is)
    (case l_law_spans => k_is)
    (case cc_law_spans => k_is)
    (case k_law_spans => k_is)
    (case n1_law_touched => k_is)
    (case l_law_touched => k_is)
    (case cc_law_touched => k_is)
    (case k_law_touched => k_is)
    (case n1_law_left_over => k_is)
    (case l_law_left_over => k_is)
    (case cc_law_left_over => k_is)
    (case k_law_left_over => k_is)
    (case n1_law_remainders => k_is)
    (case l_law_remainders => k_is)
    (case cc_law_remainders => k_is)
    (case k_law_remainders => k_is)
    (case n1_law_sized => k_is)
    (case l_law_sized => k_is)
    (case cc_law_sized => k_is)
    (case k_law_sized => k_is)
    (case n1_law_refused => k_is)
    (case l_law_refused => k_is)
    (case cc_law_refused => k_is)
    (case k_law_refused => k_is)
    (case n1_law_least => k_is)
    (case l_law_least => k_is)
    (case cc_law_least => k_is)
    (case k_law_least => k_is)
    (case n1_law_pieces => k_is)
    (case l_law_pieces => k_is)
    (case cc_law_pieces => k_is)
    (case k_law_pieces => k_is)
    (case n1_Coverdd__iterdd_ => k_is)
    (case i_Coverdd__iterdd_ => k_is)
    (case nl_Cover => k_is)
    (case nh_Cover => k_is)
    (case l_Coverdd__iterdd_ => k_is)
    (case cc_Coverdd__iterdd_ => k_is)
    (case k_Coverdd__iterdd_ => k_is)
    (case n1_law => k_is)
    (case l_law => k_is)
    (case cc_law => k_is)
    (case k_law => k_is)
    (case aC_BadSize => k_is)
    (case aC_SlotError => k_is)
    (case aC_BadPlace => k_is)
    (case aC_BadSpan => k_is)
    (case z_super => k_is)
    (case opq => k_is)
    (case topS => first | rfl | decide +kernel)
    (case eHn => k_is)
    (case eHt => k_is)
    (case xL_BadSize => k_is)
    (case sa_BadSize => k_is)
    (case ga_BadSize => k_is)
    (case gg_BadSize => k_is)
    (case nb_BadSize => k_is)
    (case a1_BadSize => k_is)
    (case t1_BadSize => k_is)
    (case l_BadSize => k_is)
    (case cd_BadSize => k_is)
    (case lc_BadSize => k_is)
    (case vf_BadSize => first | rfl | decide +kernel)
    (case ff_BadSize => first | rfl | decide +kernel)
    (case ce_BadSize => k_is)
    (case kC_BadSize => k_is)
    (case eC_BadSize => k_is)
    (case tC_BadSize => k_is)
    (case hC_BadSize => k_is)
    (case sC_BadSize => k_is)
    (case su_BadSize => ks_is)
    (case vE_BadSize => k_is)
    (case mD_BadSize => k_is)
    (case eA_BadSize => k_is)
    (case eM_BadSize => k_is)
    (case eC_SlotError => k_is)
    (case tC_SlotError => k_is)
    (case hC_SlotError => k_is)
    (case eC_BadPlace => k_is)
    (case tC_BadPlace => k_is)
    (case hC_BadPlace => k_is)
    (case eC_BadSpan => k_is)
    (case tC_BadSpan => k_is)
    (case hC_BadSpan => k_is)
    (case sb_BadSize_SlotError => k_is)
    (case sb_BadSize_BadPlace => k_is)
    (case sb_BadSize_BadSpan => k_is)
#print axioms PySem.Challenge.cw_copiesfollow_k06_whole_cover_pieces_holds
