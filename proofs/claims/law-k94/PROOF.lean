import PyProof.Rows.All
import Wide.All
import OpenK.AllK
import Wide.FinOn
import HandS.ForMost
import HandS.ForExc
import HandS.Wide
import HandS.WideBits
import HandS.FStr
import HandS.Star
import HandS.IsInst
import HandS.DictComp
import HandS.RaiseMore
import HandS.Small
import HandS.Deep
import HandS.Lambda
import PyProof.StrOps2
import KE.KExcSuper
import KE.KSuper
import HandS.ExcInit
import HandS.ExcSuper
import KE.KExcIs
import HandS.ExcIs
import HandS.ExcField
import HandS.ExcValue
import HandS.EndTab
import KE.GoesRaise
import PyProof.StrBlock2
import KE.IntTextText
import KE.KStateDown
import HandS.Head0
import HandS.Head1
import HandS.Head2
import HandS.HeadHook1
import HandS.HeadHook2
import HandS.HeadHook3
import HandS.HeadHook4
import HandS.HeadWalk
import PyProof.Rows.StrJoinRep
import PySem.Challenge.RW_fullshelves_k94_spoilt_texts_of_papers
set_option Elab.async false
set_option linter.all false
set_option maxRecDepth 100000
set_option maxHeartbeats 0
namespace Fs
open PySem PySem.Spec PyProof.Rows L2
section
variable {X : Cx}
theorem opr_or {f : Value → Value → Sem Value} {r r' : R2} (h : OpR X f r) (h' : OpR X f r') : OpR X f (fun x y H Q => r x y H Q ∨ r' x y H Q) :=
  fun pins s σ H x y v u Q I rx ry q => q.elim (fun q => h pins s σ H x y v u Q I rx ry q) fun q => h' pins s σ H x y v u Q I rx ry q
theorem callr_or {f : Value} {r r' : List V → Hp → VK → Prop} (h : CallR X f r) (h' : CallR X f r') : CallR X f (fun xs H Q => r xs H Q ∨ r' xs H Q) :=
  fun pins s σ H xs us Q I rx q => q.elim (fun q => h pins s σ H xs us Q I rx q) fun q => h' pins s σ H xs us Q I rx q

def rInDct : R2 := fun x y H Q => ∃ a o, y = .ref a ∧ DGet H a x o ∧ Q (.bl o.isSome) H
def rNiDct : R2 := fun x y H Q => ∃ a o, y = .ref a ∧ DGet H a x o ∧ Q (.bl (!o.isSome)) H
theorem op_inDct (hu : X.A.units + 1 < cLine) : OpR X (compareOp .In) rInDct := by
  intro pins s σ H x y v u Q I rx ry q
  obtain ⟨a, o, rfl, g, q⟩ := q
  obtain rfl : u = Value.ref a := ry
  exact d_in hu I g rx fun s3 I3 => ⟨.bl o.isSome, H, I3, rfl, q⟩
theorem op_niDct (hu : X.A.units + 1 < cLine) : OpR X (compareOp .NotIn) rNiDct := by
  intro pins s σ H x y v u Q I rx ry q
  obtain ⟨a, o, rfl, g, q⟩ := q
  obtain rfl : u = Value.ref a := ry
  exact d_notIn hu I g rx fun s3 I3 => ⟨.bl (!o.isSome), H, I3, rfl, q⟩
def rInSt : R2 := fun x y H Q => ∃ i j, x = .str i ∧ y = .str j ∧ Q (.bl (!(Builtin.Str.occurrences j i 0 j.length 1).isEmpty)) H
def rNiSt : R2 := fun x y H Q => ∃ i j, x = .str i ∧ y = .str j ∧ Q (.bl (!(!(Builtin.Str.occurrences j i 0 j.length 1).isEmpty))) H
def rInSg : R2 := fun x y H Q => ∃ (c : Nat) (z : Str), x = .str ⟨#[c]⟩ ∧ y = .str z ∧ Q (.bl (decide (c ∈ z.cps.toList))) H
def rNiSg : R2 := fun x y H Q => ∃ (c : Nat) (z : Str), x = .str ⟨#[c]⟩ ∧ y = .str z ∧ Q (.bl (!decide (c ∈ z.cps.toList))) H
/-- in: a sign or a text in a text, a flat value in a list or tuple, data in a list of data, a key in a dict -/
def rInG (K : PySem.W.Frag) : R2 := fun x y H Q => rInSg x y H Q ∨ rInSt x y H Q ∨ rIn K false x y H Q ∨ rInDct x y H Q ∨ rInD K x y H Q
def rNiG (K : PySem.W.Frag) : R2 := fun x y H Q => rNiSg x y H Q ∨ rNiSt x y H Q ∨ rIn K true x y H Q ∨ rNiDct x y H Q ∨ rNotInD K x y H Q
theorem op_inG (hu : X.A.units + 65 < cLine) : OpR X (compareOp .In) (rInG X.K) :=
  opr_or op_in_sign (opr_or op_in_str (opr_or op_in_seq (opr_or (op_inDct (by omega)) (op_inD hu))))
theorem op_niG (hu : X.A.units + 65 < cLine) : OpR X (compareOp .NotIn) (rNiG X.K) :=
  opr_or op_notIn_sign (opr_or op_notIn_str (opr_or op_notIn_seq (opr_or (op_niDct (by omega)) (op_notInD hu))))
def rEqG (K : PySem.W.Frag) : R2 := fun x y H Q => rEq x y H Q ∨ rEqD K x y H Q
def rNeG (K : PySem.W.Frag) : R2 := fun x y H Q => rNe x y H Q ∨ rNeD K x y H Q
theorem op_eqA (hu : X.A.units + 64 < cLine) : OpR X (compareOp .Eq) (rEqG X.K) := opr_or op_eq (op_eqD hu)
theorem op_neA (hu : X.A.units + 64 < cLine) : OpR X (compareOp .NotEq) (rNeG X.K) := opr_or op_ne (op_neD hu)
def rLtG : R2 := fun x y H Q => rI0 (fun i j => .bl (decide (i < j))) x y H Q ∨ ∃ i j, x = .str i ∧ y = .str j ∧ Q (.bl (decide (i.cps.toList < j.cps.toList))) H
def rLeG : R2 := fun x y H Q => rI0 (fun i j => .bl (decide (i ≤ j))) x y H Q ∨ ∃ i j, x = .str i ∧ y = .str j ∧ Q (.bl (!decide (j.cps.toList < i.cps.toList))) H
def rGtG : R2 := fun x y H Q => rI0 (fun i j => .bl (decide (j < i))) x y H Q ∨ ∃ i j, x = .str i ∧ y = .str j ∧ Q (.bl (decide (j.cps.toList < i.cps.toList))) H
def rGeG : R2 := fun x y H Q => rI0 (fun i j => .bl (decide (j ≤ i))) x y H Q ∨ ∃ i j, x = .str i ∧ y = .str j ∧ Q (.bl (!decide (i.cps.toList < j.cps.toList))) H
theorem op_ltA : OpR X (compareOp .Lt) rLtG := opr_or op_lt op_lt_str
theorem op_leA : OpR X (compareOp .LtE) rLeG := opr_or op_le op_le_str
theorem op_gtA : OpR X (compareOp .Gt) rGtG := opr_or op_gt op_gt_str
theorem op_geA : OpR X (compareOp .GtE) rGeG := opr_or op_ge op_ge_str
def rIsNG : R2 := fun x y H Q => y = .non ∧ Q (.bl (decide (x = .non))) H
def rNoNG : R2 := fun x y H Q => y = .non ∧ Q (.bl (!decide (x = .non))) H
theorem op_isNA : OpR X (compareOp .Is) rIsNG := op_isN
theorem op_noNA : OpR X (compareOp .IsNot) rNoNG := op_notN

def rAddG (K : PySem.W.Frag) : R2 := fun x y H Q => rI0 (fun i j => .int (i + j)) x y H Q ∨ (∃ i j, x = .str i ∧ y = .str j ∧ i.length + j.length ≤ sizeLine ∧ Q (.str (i ++ j)) H) ∨ rCat x y H Q ∨ rCatT K x y H Q
theorem op_addA : OpR X (binaryOp .Add) (rAddG X.K) := opr_or op_add (opr_or op_add_str (opr_or op_cat op_catT))
def rSubG : R2 := rI0 fun i j => .int (i - j)
theorem op_subA : OpR X (binaryOp .Sub) rSubG := op_sub
def rMulG : R2 := fun x y H Q => rI CMulX (fun i j => .int (i * j)) x y H Q ∨ rRep x y H Q
theorem op_mulA : OpR X (binaryOp .Mult) rMulG := opr_or op_mulX op_rep
def rModG : R2 := rI (fun _ j => 0 < j) fun i j => .int (i % j)
theorem op_modA : OpR X (binaryOp .Mod) rModG := op_mod
def rFdvG : R2 := rI CDiv fun i j => .int (i / j)
theorem op_fdvA : OpR X (binaryOp .FloorDiv) rFdvG := op_fdiv
def rPowG : R2 := rI CPow fun i j => .int (i ^ j.toNat)
theorem op_powA : OpR X (binaryOp .Pow) rPowG := op_pow
def rNegG : V → Hp → VK → Prop := rU fun i => .int (-i)
theorem un_negA : UnR X (unaryOp .USub) rNegG := un_neg

def rIxDct : R2 := fun x y H Q => ∃ a v, x = .ref a ∧ DGet H a y (some v) ∧ Q v H
theorem ix_dct (hu : X.A.units + 1 < cLine) : IxR X rIxDct := by
  intro value slice pins s σ H x y v u Q I rx ry q hs
  obtain ⟨a, w', rfl, g, q⟩ := q
  obtain rfl : v = Value.ref a := rx
  have hT := dict_typeIs I g
  exact tail_any hT PySem.F.slot_dict_getitem.lookup (d_getItem hu I g ry fun w2 s3 I3 rw' => ⟨w', H, I3, rw', q⟩) hs
def rIxG (K : PySem.W.Frag) : R2 := fun x y H Q => rIxL K x y H Q ∨ rIxT K x y H Q ∨ rIxS x y H Q ∨ rIxDct x y H Q
theorem ix_any (hu : X.A.units + 1 < cLine) : IxR X (rIxG X.K) := ix_list.or (ix_tup.or (ix_str.or (ix_dct hu)))
def rSlG (K : PySem.W.Frag) : V → Option Int → Option Int → Hp → VK → Prop := fun x lo hi H Q => rSlL K x lo hi H Q ∨ rSlT K x lo hi H Q ∨ rSlS x lo hi H Q
theorem sl_any : SlR X (rSlG X.K) := sl_list.or (sl_tup.or sl_str)

def PIV (X : Cx) (tg : Expr) (r : V → Hp → (It → Hp → Prop) → Prop) : Prop :=
  ∀ (pins : List (Addr × Obj)) (s : Shared) (σ : L2.St) (H : Hp) (x : V) (v : Value) (R : It → Hp → Prop), Inv X pins σ H s → RelV x v → r x H R → wpAny (model X.prog X.w) X.A (pyIter v) (PIE X pins σ tg R) X.xe s
def iOf (te : TE) (r : V → Hp → (It → Hp → Prop) → Prop) : TI := fun σ H R => te σ H fun x H1 => r x H1 R
theorem pi_of {tg e : Expr} {te : TE} {r : V → Hp → (It → Hp → Prop) → Prop} (hr : PIV X tg r) (he : PE X e te) : PI X tg e (iOf te r) :=
  ⟨fun pins s σ H R I h => thn (he.run pins s σ H _ I h) fun v s1 ⟨x, H1, I1, r1, q1⟩ => hr pins s1 σ H1 x v R I1 r1 q1⟩
theorem piv_or {tg : Expr} {r r' : V → Hp → (It → Hp → Prop) → Prop} (h : PIV X tg r) (h' : PIV X tg r') : PIV X tg (fun x H R => r x H R ∨ r' x H R) :=
  fun pins s σ H x v R I rx q => q.elim (fun q => h pins s σ H x v R I rx q) fun q => h' pins s σ H x v R I rx q
def rWL (K : PySem.W.Frag) : V → Hp → (It → Hp → Prop) → Prop := fun x H R => ∃ a, x = .ref a ∧ (∃ xs, SqL K H a xs) ∧ R (Itl K a) H
def rWT (K : PySem.W.Frag) : V → Hp → (It → Hp → Prop) → Prop := fun x H R => ∃ a, x = .ref a ∧ (∃ xs, SqT K H a xs) ∧ R (Itt K a) H
def rWS : V → Hp → (It → Hp → Prop) → Prop := fun x H R => ∃ z, x = .str z ∧ R (Its z) H
/-- the keys of a dict that is not written any more (it stays locked) -/
def rWK : V → Hp → (It → Hp → Prop) → Prop := fun x H R => ∃ d kvs, x = .ref d ∧ ((∃ o, H d = some (.frz o (.dK kvs)) ∧ R (Itk d o kvs) H) ∨ (H d = some (.dK kvs) ∧ ∀ o, R (Itk d o kvs) (upd H d (.frz o (.dK kvs)))))
theorem piv_list {tg : Expr} : PIV X tg (rWL X.K) := by
  intro pins s1 σ H1 x v R I1 r1 q1
  obtain ⟨a, e, ⟨xs, hq⟩, q⟩ := q1
  subst e
  cases r1
  obtain ⟨its, rv, p, hz⟩ := I1.list hq
  refine wpAny_pyIter_list p.isList ?_
  refine ⟨s1.heap.objs.size, [s1.heap.objs.size], _, _, H1, rfl, I1.kept (t' := s1.toks) fun b o e => Heap.get?_push_of_some _ e, turn_list a _, ⟨_, Heap.get?_push_size _ rfl, rfl, rfl⟩, fun b hb => ?_, q⟩
  have e : b = s1.heap.objs.size := by simpa using hb
  subst e
  exact I1.fpOk (Nat.le_refl _) (I1.hok.fresh (Nat.le_refl _))
theorem piv_tup {tg : Expr} : PIV X tg (rWT X.K) := by
  intro pins s1 σ H1 x v R I1 r1 q1
  obtain ⟨a, e, ⟨xs, hq⟩, q⟩ := q1
  subst e
  cases r1
  obtain ⟨its, rv, p, hz⟩ := I1.tuple hq
  refine wpAny_pyIter_tuple (show s1.heap.IsTuple a its.toArray from p) ?_
  refine ⟨s1.heap.objs.size, [s1.heap.objs.size], _, _, H1, rfl, I1.kept (t' := s1.toks) fun b o e => Heap.get?_push_of_some _ e, turn_tuple a _, ⟨_, Heap.get?_push_size _ rfl, rfl, rfl⟩, fun b hb => ?_, q⟩
  have e : b = s1.heap.objs.size := by simpa using hb
  subst e
  exact I1.fpOk (Nat.le_refl _) (I1.hok.fresh (Nat.le_refl _))
theorem piv_str {tg : Expr} : PIV X tg rWS := by
  intro pins s1 σ H1 y v R I1 r1 q1
  obtain ⟨x, ex, q⟩ := q1
  subst ex
  obtain ⟨t, rfl⟩ := r1
  cases ha : x.cps.all (· < 128)
  · exact wpAny_pyIter_wide ha (pi_one (tk := s1.toks) I1 _ (turn_str _ x t "str_iterator" (.inr rfl)) ⟨_, Heap.get?_push_size _ rfl, rfl, rfl⟩ q)
  · exact wpAny_pyIter_ascii ha (pi_one (tk := s1.toks) I1 _ (turn_str _ x t "str_ascii_iterator" (.inl rfl)) ⟨_, Heap.get?_push_size _ rfl, rfl, rfl⟩ q)
theorem piv_frzK {tg : Expr} {pins : List (Addr × Obj)} {s1 : Shared} {σ : L2.St} {H1 : Hp} {d : Addr} {o : Obj} {kvs : List (Key × V)} {R : It → Hp → Prop} (I1 : Inv X pins σ H1 s1) (hd : H1 d = some (.frz o (.dK kvs))) (q : R (Itk d o kvs) H1) :
    wpAny (model X.prog X.w) X.A (pyIter (.ref d)) (PIE X pins σ tg R) X.xe s1 := by
  obtain ⟨hs, hgd, hx, es, ep, vs, hdt, hsz, kv, hm⟩ := I1.frzK hd
  refine iter_keys hs hgd hx hdt (pi_one (tk := s1.toks) I1 _ (turn_keys _ hdt) ⟨_, Heap.get?_push_size _ rfl, rfl, ?_⟩ q)
  rw [hsz] <;> rfl
theorem piv_keys {tg : Expr} : PIV X tg rWK := by
  intro pins s1 σ H1 y v R I1 r1 q1
  obtain ⟨d, kvs, rfl, q⟩ := q1
  obtain rfl : v = Value.ref d := r1
  rcases q with ⟨o, hd, q⟩ | ⟨hd, q⟩
  · exact piv_frzK I1 hd q
  · obtain ⟨od, I2⟩ := I1.lock hd True.intro
    exact piv_frzK I2 upd_same (q od)
def rWG (K : PySem.W.Frag) : V → Hp → (It → Hp → Prop) → Prop := fun x H R => rWL K x H R ∨ rWT K x H R ∨ rWS x H R ∨ rWK x H R
theorem piv_any {tg : Expr} : PIV X tg (rWG X.K) := piv_or piv_list (piv_or piv_tup (piv_or piv_str piv_keys))
/-- run with a thing locked, or not -/
def tLkO (t : TE) : TE := fun σ H Q => t σ H Q ∨ tLockE t σ H Q
def sLkO (t : TS) : TS := fun D σ H => t D σ H ∨ tLock t D σ H
theorem pe_lkO {e : Expr} {t : TE} (h : PE X e t) : PE X e (tLkO t) := ⟨fun pins s σ H Q I q => q.elim (h.run pins s σ H Q I) ((pe_lock h).run pins s σ H Q I)⟩
theorem ps_lkO {st : Stmt} {t : TS} (h : PS X st t) : PS X st (sLkO t) := ⟨fun pins s σ H D I q => q.elim (h.run pins s σ H D I) ((ps_lock h).run pins s σ H D I)⟩

def rLenG (K : PySem.W.Frag) : List V → Hp → VK → Prop := fun xs H Q => (∃ x n, xs = [x] ∧ LenV K x H n ∧ Q (.int n) H) ∨ ∃ a kvs, xs = [.ref a] ∧ Rd H a (.dK kvs) ∧ Q (.int kvs.length) H
theorem call_lenA : CallR X (.builtin "len") (rLenG X.K) := callr_or call_len (by
  intro pins s σ H xs us Q I r h
  obtain ⟨a, kvs, rfl, ha, q⟩ := h
  obtain ⟨u, rfl, ru⟩ := vals1 r
  cases ru
  exact d_len I ha fun t s' I' => ⟨.int kvs.length, H, I', ⟨t, rfl⟩, q⟩)
def rIntG : List V → Hp → VK → Prop := fun xs H Q => (∃ i, xs = [.int i] ∧ Q (.int i) H) ∨ ∃ k, xs = [.bl k] ∧ Q (.int (if k then 1 else 0)) H
theorem call_intA : CallR X (.type "int") rIntG := call_int1
def rAbsG : List V → Hp → VK → Prop := fun xs H Q => ∃ i, xs = [.int i] ∧ Q (.int (if i < 0 then -i else i)) H
theorem call_absA : CallR X (.builtin "abs") rAbsG := call_abs
def rIsiG (K : PySem.W.Frag) : List V → Hp → VK → Prop := fun xs H Q => rIsi K xs H Q ∨ rIsiT K xs H Q
theorem call_isiA : CallR X (.builtin "isinstance") (rIsiG X.K) := callr_or call_isi call_isiT
def rListG (K : PySem.W.Frag) : List V → Hp → VK → Prop := fun xs H Q => ∃ p ys, xs = [.ref p] ∧ (SqL K H p ys ∨ SqT K H p ys) ∧ ∀ l, H l = none → Q (.ref l) (upd H l (.lst ys))
theorem call_listA : CallR X (.type "list") (rListG X.K) := call_list_of
def rTupG (K : PySem.W.Frag) : List V → Hp → VK → Prop := fun xs H Q => ∃ p ys, xs = [.ref p] ∧ ((SqL K H p ys ∧ ∀ l, H l = none → Q (.ref l) (upd H l (.tup ys))) ∨ (SqT K H p ys ∧ Q (.ref p) H))
theorem call_tupA : CallR X (.type "tuple") (rTupG X.K) := call_tuple_of
end
section
variable {X : Cx}
theorem pe_imp {e : Expr} {t t' : TE} (h : PE X e t) (i : ∀ σ H Q, t' σ H Q → t σ H Q) : PE X e t' := ⟨fun pins s σ H Q I q => h.run pins s σ H Q I (i σ H Q q)⟩
theorem pt_imp {e : Expr} {t t' : TT} (h : PT X e t) (i : ∀ σ H Q, t' σ H Q → t σ H Q) : PT X e t' := ⟨fun pins s σ H Q I q => h.run pins s σ H Q I (i σ H Q q)⟩
theorem pw_imp {e : Expr} {t t' : TT} (h : PW X e t) (i : ∀ σ H Q, t' σ H Q → t σ H Q) : PW X e t' := ⟨fun wh pins s σ H Q I q => h.run wh pins s σ H Q I (i σ H Q q)⟩
theorem ps_imp {e : Stmt} {t t' : TS} (h : PS X e t) (i : ∀ D σ H, t' D σ H → t D σ H) : PS X e t' := ⟨fun pins s σ H D I q => h.run pins s σ H D I (i D σ H q)⟩
theorem pg_imp {e : Expr} {t t' : TG} (h : PG X e t) (i : ∀ v σ H Q, t' v σ H Q → t v σ H Q) : PG X e t' := ⟨fun pins s σ H v u Q I r q => h.run pins s σ H v u Q I r (i v σ H Q q)⟩
theorem pgs_imp {e : List Expr} {t t' : TGs} (h : PGs X e t) (i : ∀ v σ H Q, t' v σ H Q → t v σ H Q) : PGs X e t' := ⟨fun pins s σ H v u Q I r q => h.run pins s σ H v u Q I r (i v σ H Q q)⟩
theorem po_imp {e : Option Expr} {t t' : TO} (h : PO X e t) (i : ∀ σ H Q, t' σ H Q → t σ H Q) : PO X e t' := ⟨fun pins s σ H Q I q => h.run pins s σ H Q I (i σ H Q q)⟩
theorem op_imp {f : Value → Value → Sem Value} {r r' : R2} (h : OpR X f r) (i : ∀ x y H Q, r' x y H Q → r x y H Q) : OpR X f r' := fun pins s σ H x y v u Q I rx ry q => h pins s σ H x y v u Q I rx ry (i x y H Q q)
theorem ix_imp {r r' : R2} (h : IxR X r) (i : ∀ x y H Q, r' x y H Q → r x y H Q) : IxR X r' := fun value slice pins s σ H x y v u Q I rx ry q hs => h value slice pins s σ H x y v u Q I rx ry (i x y H Q q) hs
theorem sl_imp {r r' : V → Option Int → Option Int → Hp → VK → Prop} (h : SlR X r) (i : ∀ x a b H Q, r' x a b H Q → r x a b H Q) : SlR X r' := fun pins s σ H x v vl vu lo hi sl Q I rx hs pl pu q => h pins s σ H x v vl vu lo hi sl Q I rx hs pl pu (i x lo hi H Q q)
theorem cr_imp {f : Value} {r r' : List V → Hp → VK → Prop} (h : CallR X f r) (i : ∀ x H Q, r' x H Q → r x H Q) : CallR X f r' := fun pins s σ H xs us Q I rx q => h pins s σ H xs us Q I rx (i xs H Q q)
theorem un_imp {f : Value → Sem Value} {r r' : V → Hp → VK → Prop} (h : UnR X f r) (i : ∀ x H Q, r' x H Q → r x H Q) : UnR X f r' := fun pins s σ H x v Q I rx q => h pins s σ H x v Q I rx (i x H Q q)
theorem mt_imp {id : String} {r r' : V → List V → Hp → VK → Prop} (h : MtR X id r) (i : ∀ x xs H Q, r' x xs H Q → r x xs H Q) : MtR X id r' := fun pins s σ H x xs v us Q I rx rs q => h pins s σ H x xs v us Q I rx rs (i x xs H Q q)
theorem piv_imp {tg : Expr} {r r' : V → Hp → (It → Hp → Prop) → Prop} (h : PIV X tg r) (i : ∀ x H R, r' x H R → r x H R) : PIV X tg r' := fun pins s σ H x v R I rx q => h pins s σ H x v R I rx (i x H R q)

/-- what stands at a, a lock looked through -/
def look (H : Hp) (a : Addr) : Option HO := match H a with
  | some (.frz _ u) => some u
  | o => o
theorem look_rd {H : Hp} {a : Addr} {u : HO} (h : look H a = some u) : Rd H a u := by
  unfold look at h
  split at h
  · rename_i o u' e
    injection h with h
    subst h
    exact .inr ⟨o, e⟩
  · exact .inl h
def keyOf : V → Option Key
  | .int i => some (.inl i)
  | .str x => some (.inr x)
  | _ => none
theorem keyOf_kV {y : V} {k : Key} (h : keyOf y = some k) : y = kV k := by
  cases y <;> simp only [keyOf, Option.some.injEq, reduceCtorEq] at h
  · subst h; rfl
  · subst h; rfl
/-- the continuations that want a bool, an int -/
def bK (Q : Bool → Hp → Prop) : VK := fun x H => match x with | .bl k => Q k H | _ => False
def iK (Q : Int → Hp → Prop) : VK := fun x H => match x with | .int k => Q k H | _ => False
theorem bK_ex {Q : Bool → Hp → Prop} : (bK Q) = fun x H => ∃ k, x = .bl k ∧ Q k H := by
  funext x H
  apply propext
  cases x <;> simp [bK]
theorem iK_ex {Q : Int → Hp → Prop} : (iK Q) = fun x H => ∃ k, x = .int k ∧ Q k H := by
  funext x H
  apply propext
  cases x <;> simp [iK]

def tV (i : Nat) : TE := fun σ H Q => match σ[i]? with
  | some (some v) => Q v H
  | _ => False
theorem pvx (i : Nat) {x : Str} {pos : Pos} (hN : X.N[i]? = some x := by rfl) (hv : Vis X.env.scope x := by first | exact Or.inl rfl | exact Or.inr (Or.inl rfl) | exact Or.inr (Or.inr rfl)) (hd : (x == ("__debug__" : Str)) = false := by decide)
    (hcd : (x == ("__classdict__" : Str)) = false := by decide) : PE X (.Name x pos) (tV i) := pe_imp (pv i hN hv hd hcd) fun σ H Q h => by
  unfold tV at h
  split at h
  · exact ⟨_, by assumption, h⟩
  · exact h.elim
def tTs (t : TE) : TT := fun σ H Q => t σ H (bK Q)
theorem tTs_eq (t : TE) : tTs t = tB t := by funext σ H Q; unfold tTs tB; rw [bK_ex]
theorem tTs_eq2 (t : TE) : tTs t = tTest t := by funext σ H Q; unfold tTs tTest; rw [bK_ex]
theorem ptv {e : Expr} {t : TE} (h : PE X e t) (he : ∀ whole, isTrue e X.env whole = (do let v ← whole; standAt e.pos; holding [v] (truthy v)) := by intro _; rfl) : PT X e (tTs t) := by
  rw [tTs_eq]; exact pt_val h he
theorem ptcmp {op : CmpOp} {r : R2} {a b : Expr} {ta tb : TE} {pos : Pos} (ho : OpR X (compareOp op) r) (ha : PE X a ta) (hb : PE X b tb) (hm : behindInMarks op b = false) : PT X (.Compare a [op] [b] pos) (tTs (tOp r ta tb)) := by
  rw [tTs_eq2]; exact pt_cmpR ho ha hb hm
def tCh (r r' : R2) (ta tb tc : TE) : TE := fun σ H Q => ta σ H fun x H1 => tb σ H1 fun y H2 => r x y H2 (bK fun k H3 => match k with | true => tc σ H3 fun w' H4 => r' y w' H4 Q | false => Q (.bl false) H3)
theorem tCh_eq (r r' : R2) (ta tb tc : TE) : tCh r r' ta tb tc = tChain r r' ta tb tc := by
  funext σ H Q
  unfold tCh tChain
  congr 1; funext x H1
  congr 1; funext y H2
  rw [bK_ex]
  congr 1; funext z H3
  apply propext
  constructor
  · rintro ⟨k, e, h⟩; refine ⟨k, e, ?_⟩; cases k <;> simpa using h
  · rintro ⟨k, e, h⟩; refine ⟨k, e, ?_⟩; cases k <;> simpa using h
theorem pech {op op' : CmpOp} {r r' : R2} {a b c : Expr} {ta tb tc : TE} {pos : Pos} (ho : OpR X (compareOp op) r) (ho' : OpR X (compareOp op') r') (ha : PE X a ta) (hb : PE X b tb) (hc : PE X c tc)
    (hm : lastMarks [op, op'] [b, c] = false := by with_unfolding_all rfl) : PE X (.Compare a [op, op'] [b, c] pos) (tCh r r' ta tb tc) := by
  rw [tCh_eq]; exact pe_chain ho ho' ha hb hc hm
theorem ptch {op op' : CmpOp} {r r' : R2} {a b c : Expr} {ta tb tc : TE} {pos : Pos} (ho : OpR X (compareOp op) r) (ho' : OpR X (compareOp op') r') (ha : PE X a ta) (hb : PE X b tb) (hc : PE X c tc)
    (hm : lastMarks [op, op'] [b, c] = false := by with_unfolding_all rfl) : PT X (.Compare a [op, op'] [b, c] pos) (tTs (tCh r r' ta tb tc)) := by
  rw [tTs_eq2, tCh_eq]; exact pt_chain ho ho' ha hb hc hm
def tAn (t u : TT) : TT := fun σ H Q => t σ H fun c H1 => match c with | true => u σ H1 Q | false => Q false H1
def tOr' (t u : TT) : TT := fun σ H Q => t σ H fun c H1 => match c with | true => Q true H1 | false => u σ H1 Q
theorem tAn_eq (t u : TT) : tAn t u = tAnd t u := by
  funext σ H Q; unfold tAn tAnd; congr 1; funext c H1; cases c <;> simp
theorem tOr_eq (t u : TT) : tOr' t u = tOr t u := by
  funext σ H Q; unfold tOr' tOr; congr 1; funext c H1; cases c <;> simp
theorem pwand {a b : Expr} {rest : List Expr} {tA tB' : TT} {pos : Pos} (ha : PT X a tA) (hb : PW X (.BoolOp .And (b :: rest) pos) tB') : PW X (.BoolOp .And (a :: b :: rest) pos) (tAn tA tB') := by rw [tAn_eq]; exact pw_and ha hb
theorem pwor {a b : Expr} {rest : List Expr} {tA tB' : TT} {pos : Pos} (ha : PT X a tA) (hb : PW X (.BoolOp .Or (b :: rest) pos) tB') : PW X (.BoolOp .Or (a :: b :: rest) pos) (tOr' tA tB') := by rw [tOr_eq]; exact pw_or ha hb
def tAnV (ta tb : TE) : TE := fun σ H Q => ta σ H (bK fun c H1 => match c with | true => tb σ H1 Q | false => Q (.bl false) H1)
def tOrV' (ta tb : TE) : TE := fun σ H Q => ta σ H (bK fun c H1 => match c with | true => Q (.bl true) H1 | false => tb σ H1 Q)
def tNoV (ta : TE) : TE := fun σ H Q => ta σ H (bK fun c H1 => Q (.bl (!c)) H1)
theorem tAnV_eq (ta tb : TE) : tAnV ta tb = tAndV ta tb := by
  funext σ H Q; unfold tAnV tAndV; rw [bK_ex]; congr 1; funext x H1; apply propext
  constructor
  · rintro ⟨k, e, h⟩; refine ⟨k, e, ?_⟩; cases k <;> simpa using h
  · rintro ⟨k, e, h⟩; refine ⟨k, e, ?_⟩; cases k <;> simpa using h
theorem tOrV_eq (ta tb : TE) : tOrV' ta tb = tOrV ta tb := by
  funext σ H Q; unfold tOrV' tOrV; rw [bK_ex]; congr 1; funext x H1; apply propext
  constructor
  · rintro ⟨k, e, h⟩; refine ⟨k, e, ?_⟩; cases k <;> simpa using h
  · rintro ⟨k, e, h⟩; refine ⟨k, e, ?_⟩; cases k <;> simpa using h
theorem tNoV_eq (ta : TE) : tNoV ta = tNotV ta := by funext σ H Q; unfold tNoV tNotV; rw [bK_ex]
theorem peand {a b : Expr} {rest : List Expr} {ta tb : TE} {pos : Pos} (ha : PE X a ta) (hb : PE X (.BoolOp .And (b :: rest) pos) tb) : PE X (.BoolOp .And (a :: b :: rest) pos) (tAnV ta tb) := by rw [tAnV_eq]; exact pe_and ha hb
theorem peor {a b : Expr} {rest : List Expr} {ta tb : TE} {pos : Pos} (ha : PE X a ta) (hb : PE X (.BoolOp .Or (b :: rest) pos) tb) : PE X (.BoolOp .Or (a :: b :: rest) pos) (tOrV' ta tb) := by rw [tOrV_eq]; exact pe_or ha hb
theorem penot {a : Expr} {ta : TE} {pos : Pos} (ha : PE X a ta) : PE X (.UnaryOp .Not a pos) (tNoV ta) := by rw [tNoV_eq]; exact pe_not ha
def tIf' (t : TT) (ta tb : TE) : TE := fun σ H Q => t σ H fun c H1 => match c with | true => ta σ H1 Q | false => tb σ H1 Q
theorem tIf_eq (t : TT) (ta tb : TE) : tIf' t ta tb = tIf t ta tb := by funext σ H Q; unfold tIf' tIf; congr 1; funext c H1; cases c <;> simp
theorem peif {c a b : Expr} {tA : TT} {ta tb : TE} {pos : Pos} (hc : PT X c tA) (ha : PE X a ta) (hb : PE X b tb) : PE X (.IfExp c a b pos) (tIf' tA ta tb) := by rw [tIf_eq]; exact pe_ifExp hc ha hb
def sIf (c : TT) (t u : TS) : TS := fun D σ H => c σ H fun b H1 => match b with | true => t D σ H1 | false => u D σ H1
theorem sIf_eq (c : TT) (t u : TS) : sIf c t u = tIfS c t u := by funext D σ H; unfold sIf tIfS; congr 1; funext b H1; cases b <;> simp
theorem psif {c : Expr} {a b : List Stmt} {tc : TT} {t u : TS} {pos : Pos} (hc : PT X c tc) (ha : PSs X a t) (hb : PSs X b u) : PS X (.If c a b pos) (sIf tc t u) := by rw [sIf_eq]; exact ps_if hc ha hb
def tPa (t : TE) : TO := fun σ H Q => t σ H (iK fun i H1 => Q (some i) H1)
theorem posome {e : Expr} {te : TE} (h : PE X e te) : PO X (some e) (tPa te) := by
  have e1 : tPa te = tPart te := by funext σ H Q; unfold tPa tPart; rw [iK_ex]
  rw [e1]; exact po_some h

def mI2 (g : Int → Int → V) : R2 := fun x y H Q => match x, y with | .int i, .int j => Q (g i j) H | _, _ => False
def mEq (K : PySem.W.Frag) : R2 := fun x y H Q => match scal x y with | true => Q (.bl (decide (x = y))) H | false => rEqD K x y H Q
def mNe (K : PySem.W.Frag) : R2 := fun x y H Q => match scal x y with | true => Q (.bl (!decide (x = y))) H | false => rNeD K x y H Q
theorem op_mEq (hu : X.A.units + 64 < cLine) : OpR X (compareOp .Eq) (mEq X.K) := op_imp (op_eqA hu) fun x y H Q h => by
  unfold mEq at h
  split at h
  · exact .inl ⟨by assumption, h⟩
  · exact .inr h
theorem op_mNe (hu : X.A.units + 64 < cLine) : OpR X (compareOp .NotEq) (mNe X.K) := op_imp (op_neA hu) fun x y H Q h => by
  unfold mNe at h
  split at h
  · exact .inl ⟨by assumption, h⟩
  · exact .inr h
/-- a text in a text -/
def inS (i j : Str) : Bool := !(Builtin.Str.occurrences j i 0 j.length 1).isEmpty
theorem inS_one (c : Nat) (z : Str) : inS ⟨#[c]⟩ z = decide (c ∈ z.cps.toList) := PySem.StrLaws.found_one z c
def mIn (K : PySem.W.Frag) : R2 := fun x y H Q => match y with
  | .str j => (match x with | .str i => Q (.bl (inS i j)) H | _ => False)
  | .ref a => (match look H a with
    | some (.lst xs) => (match flatV x && xs.all flatV with | true => Q (.bl (inV x xs)) H | false => rInD K x y H Q)
    | some (.tup xs) => (match flatV x && xs.all flatV with | true => Q (.bl (inV x xs)) H | false => False)
    | some (.dK kvs) => (match keyOf x with | some k => Q (.bl (valV kvs k).isSome) H | none => False)
    | _ => False)
  | _ => False
def mNi (K : PySem.W.Frag) : R2 := fun x y H Q => match y with
  | .str j => (match x with | .str i => Q (.bl (!inS i j)) H | _ => False)
  | .ref a => (match look H a with
    | some (.lst xs) => (match flatV x && xs.all flatV with | true => Q (.bl (!inV x xs)) H | false => rNotInD K x y H Q)
    | some (.tup xs) => (match flatV x && xs.all flatV with | true => Q (.bl (!inV x xs)) H | false => False)
    | some (.dK kvs) => (match keyOf x with | some k => Q (.bl (!(valV kvs k).isSome)) H | none => False)
    | _ => False)
  | _ => False
theorem op_mIn (hu : X.A.units + 65 < cLine) : OpR X (compareOp .In) (mIn X.K) := op_imp (op_inG hu) fun x y H Q h => by
  unfold mIn at h
  split at h
  · split at h
    · exact .inr (.inl ⟨_, _, rfl, rfl, h⟩)
    · exact h.elim
  · split at h
    · rename_i a xs e
      split at h
      · rename_i f
        rw [Bool.and_eq_true] at f
        exact .inr (.inr (.inl ⟨_, xs, rfl, .inl (.inl (look_rd e)), f.1, f.2, h⟩))
      · exact .inr (.inr (.inr (.inr h)))
    · rename_i a xs e
      split at h
      · rename_i f
        rw [Bool.and_eq_true] at f
        exact .inr (.inr (.inl ⟨_, xs, rfl, .inr (.inl (look_rd e)), f.1, f.2, h⟩))
      · exact h.elim
    · rename_i a kvs e
      split at h
      · rename_i k f
        exact .inr (.inr (.inr (.inl ⟨_, _, rfl, .inl ⟨kvs, k, look_rd e, keyOf_kV f, rfl⟩, h⟩)))
      · exact h.elim
    · exact h.elim
  · exact h.elim
theorem op_mNi (hu : X.A.units + 65 < cLine) : OpR X (compareOp .NotIn) (mNi X.K) := op_imp (op_niG hu) fun x y H Q h => by
  unfold mNi at h
  split at h
  · split at h
    · exact .inr (.inl ⟨_, _, rfl, rfl, h⟩)
    · exact h.elim
  · split at h
    · rename_i a xs e
      split at h
      · rename_i f
        rw [Bool.and_eq_true] at f
        exact .inr (.inr (.inl ⟨_, xs, rfl, .inl (.inl (look_rd e)), f.1, f.2, h⟩))
      · exact .inr (.inr (.inr (.inr h)))
    · rename_i a xs e
      split at h
      · rename_i f
        rw [Bool.and_eq_true] at f
        exact .inr (.inr (.inl ⟨_, xs, rfl, .inr (.inl (look_rd e)), f.1, f.2, h⟩))
      · exact h.elim
    · rename_i a kvs e
      split at h
      · rename_i k f
        exact .inr (.inr (.inr (.inl ⟨_, _, rfl, .inl ⟨kvs, k, look_rd e, keyOf_kV f, rfl⟩, h⟩)))
      · exact h.elim
    · exact h.elim
  · exact h.elim
/-- the order of texts -/
def ltS (i j : Str) : Bool := decide (i.cps.toList < j.cps.toList)
def mCp (f : Int → Int → Bool) (g : Str → Str → Bool) : R2 := fun x y H Q => match x, y with
  | .int i, .int j => Q (.bl (f i j)) H
  | .str i, .str j => Q (.bl (g i j)) H
  | _, _ => False
def mLt : R2 := mCp (fun i j => decide (i < j)) fun i j => ltS i j
def mLe : R2 := mCp (fun i j => decide (i ≤ j)) fun i j => !ltS j i
def mGt : R2 := mCp (fun i j => decide (j < i)) fun i j => ltS j i
def mGe : R2 := mCp (fun i j => decide (j ≤ i)) fun i j => !ltS i j
theorem mCp_or {f : Int → Int → Bool} {g : Str → Str → Bool} {x y : V} {H : Hp} {Q : VK} (h : mCp f g x y H Q) : rI0 (fun i j => .bl (f i j)) x y H Q ∨ ∃ i j, x = .str i ∧ y = .str j ∧ Q (.bl (g i j)) H := by
  unfold mCp at h
  split at h
  · exact .inl ⟨_, _, rfl, rfl, h⟩
  · exact .inr ⟨_, _, rfl, rfl, h⟩
  · exact h.elim
theorem op_mLt : OpR X (compareOp .Lt) mLt := op_imp op_ltA fun _ _ _ _ h => mCp_or h
theorem op_mLe : OpR X (compareOp .LtE) mLe := op_imp op_leA fun _ _ _ _ h => mCp_or h
theorem op_mGt : OpR X (compareOp .Gt) mGt := op_imp op_gtA fun _ _ _ _ h => mCp_or h
theorem op_mGe : OpR X (compareOp .GtE) mGe := op_imp op_geA fun _ _ _ _ h => mCp_or h
def mIsN : R2 := fun x y H Q => match y with | .non => Q (.bl (decide (x = .non))) H | _ => False
def mNoN : R2 := fun x y H Q => match y with | .non => Q (.bl (!decide (x = .non))) H | _ => False
theorem op_mIsN : OpR X (compareOp .Is) mIsN := op_imp op_isNA fun x y H Q h => by
  unfold mIsN at h
  split at h
  · exact ⟨rfl, h⟩
  · exact h.elim
theorem op_mNoN : OpR X (compareOp .IsNot) mNoN := op_imp op_noNA fun x y H Q h => by
  unfold mNoN at h
  split at h
  · exact ⟨rfl, h⟩
  · exact h.elim
def mAdd (K : PySem.W.Frag) : R2 := fun x y H Q => match x, y with
  | .int i, .int j => Q (.int (i + j)) H
  | .str i, .str j => i.length + j.length ≤ sizeLine ∧ Q (.str (i ++ j)) H
  | .ref a, .ref b => (match H a, H b with
    | some (.lst xs), some (.lst ys) => xs.length + ys.length ≤ sizeLine ∧ ∀ p, H p = none → Q (.ref p) (upd H p (.lst (xs ++ ys)))
    | some (.tup _), some (.tup _) => rCatT K x y H Q
    | _, _ => False)
  | _, _ => False
theorem op_mAdd : OpR X (binaryOp .Add) (mAdd X.K) := op_imp op_addA fun x y H Q h => by
  unfold mAdd at h
  split at h
  · exact .inl ⟨_, _, rfl, rfl, h⟩
  · exact .inr (.inl ⟨_, _, rfl, rfl, h.1, h.2⟩)
  · split at h
    · rename_i e1 e2
      exact .inr (.inr (.inl ⟨_, _, _, _, rfl, rfl, e1, e2, h.1, h.2⟩))
    · exact .inr (.inr (.inr h))
    · exact h.elim
  · exact h.elim
def mSub : R2 := mI2 fun i j => .int (i - j)
theorem mI2_ex {g : Int → Int → V} {x y : V} {H : Hp} {Q : VK} (h : mI2 g x y H Q) : rI0 g x y H Q := by
  unfold mI2 at h
  split at h
  · exact ⟨_, _, rfl, rfl, h⟩
  · exact h.elim
theorem op_mSub : OpR X (binaryOp .Sub) mSub := op_imp op_subA fun _ _ _ _ h => mI2_ex h
def mC2 (C : Int → Int → Prop) (g : Int → Int → V) : R2 := fun x y H Q => match x, y with | .int i, .int j => C i j ∧ Q (g i j) H | _, _ => False
theorem mC2_ex {C : Int → Int → Prop} {g : Int → Int → V} {x y : V} {H : Hp} {Q : VK} (h : mC2 C g x y H Q) : rI C g x y H Q := by
  unfold mC2 at h
  split at h
  · exact ⟨_, _, rfl, rfl, h.1, h.2⟩
  · exact h.elim
def mMul : R2 := fun x y H Q => match x, y with
  | .int i, .int j => CMulX i j ∧ Q (.int (i * j)) H
  | .ref _, .int _ => rRep x y H Q
  | _, _ => False
theorem op_mMul : OpR X (binaryOp .Mult) mMul := op_imp op_mulA fun x y H Q h => by
  unfold mMul at h
  split at h
  · exact .inl ⟨_, _, rfl, rfl, h.1, h.2⟩
  · exact .inr h
  · exact h.elim
def mMod : R2 := mC2 (fun _ j => 0 < j) fun i j => .int (i % j)
theorem op_mMod : OpR X (binaryOp .Mod) mMod := op_imp op_modA fun _ _ _ _ h => mC2_ex h
def mFdv : R2 := mC2 CDiv fun i j => .int (i / j)
theorem op_mFdv : OpR X (binaryOp .FloorDiv) mFdv := op_imp op_fdvA fun _ _ _ _ h => mC2_ex h
def mPow : R2 := mC2 CPow fun i j => .int (i ^ j.toNat)
theorem op_mPow : OpR X (binaryOp .Pow) mPow := op_imp op_powA fun _ _ _ _ h => mC2_ex h
def mNeg : V → Hp → VK → Prop := fun x H Q => match x with | .int i => Q (.int (-i)) H | _ => False
theorem un_mNeg : UnR X (unaryOp .USub) mNeg := un_imp un_negA fun x H Q h => by
  unfold mNeg at h
  split at h
  · exact ⟨_, rfl, h⟩
  · exact h.elim

def mIx : R2 := fun x y H Q => match x with
  | .str z => (match y with | .int i => (match atI z.cps.toList i with | some c => z.length ≤ sizeLine ∧ Q (.str ⟨#[c]⟩) H | none => False) | _ => False)
  | .ref a => (match look H a with
    | some (.lst xs) => (match y with | .int i => (match atI xs i with | some v => Q v H | none => False) | _ => False)
    | some (.tup xs) => (match y with | .int i => (match atI xs i with | some v => Q v H | none => False) | _ => False)
    | some (.dK kvs) => (match keyOf y with | some k => (match valV kvs k with | some v => Q v H | none => False) | none => False)
    | _ => False)
  | _ => False
theorem ix_m (hu : X.A.units + 1 < cLine) : IxR X mIx := ix_imp (ix_any hu) fun x y H Q h => by
  unfold mIx at h
  split at h
  · split at h
    · split at h
      · rename_i c e
        exact .inr (.inr (.inl ⟨_, _, c, rfl, rfl, h.1, e, h.2⟩))
      · exact h.elim
    · exact h.elim
  · split at h
    · rename_i a xs e
      split at h
      · split at h
        · rename_i v e2
          exact .inl ⟨_, xs, _, v, rfl, rfl, .inl (look_rd e), e2, h⟩
        · exact h.elim
      · exact h.elim
    · rename_i a xs e
      split at h
      · split at h
        · rename_i v e2
          exact .inr (.inl ⟨_, xs, _, v, rfl, rfl, .inl (look_rd e), e2, h⟩)
        · exact h.elim
      · exact h.elim
    · rename_i a kvs e
      split at h
      · rename_i k f
        split at h
        · rename_i v e2
          exact .inr (.inr (.inr ⟨_, v, rfl, .inl ⟨kvs, k, look_rd e, keyOf_kV f, e2.symm⟩, h⟩))
        · exact h.elim
      · exact h.elim
    · exact h.elim
  · exact h.elim
def mSl (K : PySem.W.Frag) : V → Option Int → Option Int → Hp → VK → Prop := fun x lo hi H Q => match x with
  | .str z => z.length ≤ sizeLine ∧ Q (.str (cutS z lo hi)) H
  | .ref a => (match look H a with
    | some (.lst xs) => ∀ p, H p = none → Q (.ref p) (upd H p (.lst (cutV xs lo hi)))
    | some (.tup _) => rSlT K x lo hi H Q
    | _ => False)
  | _ => False
theorem sl_m : SlR X (mSl X.K) := sl_imp sl_any fun x lo hi H Q h => by
  unfold mSl at h
  split at h
  · exact .inr (.inr ⟨_, rfl, h.1, h.2⟩)
  · split at h
    · rename_i a xs e
      exact .inl ⟨_, xs, rfl, .inl (look_rd e), h⟩
    · exact .inr (.inl h)
    · exact h.elim
  · exact h.elim

def mW (K : PySem.W.Frag) : V → Hp → (It → Hp → Prop) → Prop := fun x H R => match x with
  | .str z => R (Its z) H
  | .ref a => (match look H a with
    | some (.lst _) => R (Itl K a) H
    | some (.tup _) => R (Itt K a) H
    | some (.dK kvs) => (match H a with
      | some (.frz o _) => R (Itk a o kvs) H
      | _ => ∀ o, R (Itk a o kvs) (upd H a (.frz o (.dK kvs))))
    | _ => False)
  | _ => False
theorem look_dK {H : Hp} {a : Addr} {kvs : List (Key × V)} (h : look H a = some (.dK kvs)) : (∃ o, H a = some (.frz o (.dK kvs))) ∨ H a = some (.dK kvs) := by
  rcases look_rd h with e | ⟨o, e⟩
  · exact .inr e
  · exact .inl ⟨o, e⟩
theorem piv_m {tg : Expr} : PIV X tg (mW X.K) := piv_imp piv_any fun x H R h => by
  unfold mW at h
  split at h
  · exact .inr (.inr (.inl ⟨_, rfl, h⟩))
  · split at h
    · rename_i a xs e
      exact .inl ⟨_, rfl, ⟨xs, .inl (look_rd e)⟩, h⟩
    · rename_i a xs e
      exact .inr (.inl ⟨_, rfl, ⟨xs, .inl (look_rd e)⟩, h⟩)
    · rename_i a kvs e
      rcases look_dK e with ⟨o, e2⟩ | e2
      · rw [e2] at h
        exact .inr (.inr (.inr ⟨_, kvs, rfl, .inl ⟨o, e2, h⟩⟩))
      · rw [e2] at h
        exact .inr (.inr (.inr ⟨_, kvs, rfl, .inr ⟨e2, h⟩⟩))
    · exact h.elim
  · exact h.elim

def gTp (t : TGs) : TG := fun v σ H Q => match v with
  | .ref a => (match look H a with | some (.tup xs) => t xs σ H Q | _ => False)
  | _ => False
def gNl : TGs := fun vs σ H Q => match vs with | [] => Q σ H | _ => False
def gCs (t : TG) (u : TGs) : TGs := fun vs σ H Q => match vs with | v :: r => t v σ H fun σ' H' => u r σ' H' Q | [] => False
theorem pgnil : PGs X [] gNl := pgs_imp pgs_nil fun vs σ H Q h => by
  unfold gNl at h
  split at h
  · exact ⟨rfl, h⟩
  · exact h.elim
theorem pgcons {e : Expr} {es : List Expr} {t : TG} {u : TGs} (h1 : PG X e t) (h2 : PGs X es u) (hs : (assignEach (e :: es) X.env).map (·.2) = assign e X.env :: (assignEach es X.env).map (·.2) := by rfl) : PGs X (e :: es) (gCs t u) :=
  pgs_imp (pgs_cons h1 h2 hs) fun vs σ H Q h => by
    unfold gCs at h
    split at h
    · exact ⟨_, _, rfl, h⟩
    · exact h.elim
/-- the targets' number is the list's -/
def Lng (n : Nat) (t : TGs) : Prop := ∀ vs σ H Q, t vs σ H Q → vs.length = n
theorem lng_nil : Lng 0 gNl := fun vs σ H Q h => by
  unfold gNl at h
  split at h
  · rfl
  · exact h.elim
def gNum (n : Nat) (t : TGs) : TGs := fun vs σ H Q => match decide (vs.length = n) with | true => t vs σ H Q | false => False
theorem pgtup {es : List Expr} {k : Nat} {pos : Pos} {t : TGs} {n : Nat} (hc : X.calm = true) (h : PGs X es t) (hn : (assignEach es X.env).length = n := by rfl) (hst : List.findIdx? (fun x => x.fst) (assignEach es X.env) = none := by rfl) : PG X (.Tuple es k pos) (gTp (gNum n t)) :=
  pg_imp (pg_tup hc h hn hst) fun v σ H Q h => by
    unfold gTp at h
    split at h
    · split at h
      · rename_i a xs e
        unfold gNum at h
        split at h
        · rename_i q
          exact ⟨_, xs, rfl, .inl (look_rd e), of_decide_eq_true q, h⟩
        · exact h.elim
      · exact h.elim
    · exact h.elim
def tFd (K : PySem.W.Frag) (ta : TE) (f : Str) : TE := fun σ H Q => ta σ H fun x H1 => match x with
  | .ref a => (match H1 a with
    | some (.ins C dx fs) => Cls K C ∧ NoAttr K C f ∧ (match fs.lookup f with | some v => Q v H1 | none => False)
    | _ => False)
  | _ => False
theorem pefld {e : Expr} {f : Str} {ta : TE} {pos : Pos} (he : PE X e ta) (hb : attributeBase e f X.env (eval e X.env) = eval e X.env := by rfl) : PE X (.Attribute e f pos) (tFd X.K ta f) := by
  have q : ∀ (Q : VK), (fun (x : V) (H1 : Hp) => match x with
      | .ref a => (match H1 a with
        | some (.ins C dx fs) => Cls X.K C ∧ NoAttr X.K C f ∧ (match fs.lookup f with | some v => Q v H1 | none => False)
        | _ => False)
      | _ => False) = fun x H1 => ∃ a C dx fs v, x = .ref a ∧ H1 a = some (.ins C dx fs) ∧ Cls X.K C ∧ NoAttr X.K C f ∧ fs.lookup f = some v ∧ Q v H1 := fun Q => by
    funext x H1
    apply propext
    constructor
    · intro h
      split at h
      · split at h
        · rename_i a C dx fs e
          obtain ⟨h1, h2, h3⟩ := h
          split at h3
          · exact ⟨_, C, dx, fs, _, rfl, e, h1, h2, by assumption, h3⟩
          · exact h3.elim
        · exact h.elim
      · exact h.elim
    · rintro ⟨a, C, dx, fs, v, rfl, e, h1, h2, h3, h4⟩
      simp only [e, h3]
      exact ⟨h1, h2, h4⟩
  have e1 : tFd X.K ta f = tFld X.K ta f := by
    funext σ H Q
    show ta σ H _ = ta σ H _
    rw [q Q]
  rw [e1]; exact pe_fld he hb

def one (r : V → Hp → VK → Prop) : List V → Hp → VK → Prop := fun xs H Q => match xs with | [x] => r x H Q | _ => False
def mLen : List V → Hp → VK → Prop := one fun x H Q => match x with
  | .str z => z.length ≤ sizeLine ∧ Q (.int z.length) H
  | .ref a => (match look H a with
    | some (.lst xs) => Q (.int xs.length) H
    | some (.tup xs) => Q (.int xs.length) H
    | some (.dK kvs) => Q (.int kvs.length) H
    | _ => False)
  | _ => False
theorem call_mLen : CallR X (.builtin "len") mLen := cr_imp call_lenA fun xs H Q h => by
  unfold mLen one at h
  split at h
  · split at h
    · exact .inl ⟨_, _, rfl, ⟨h.1, rfl⟩, h.2⟩
    · split at h
      · rename_i a xs e
        exact .inl ⟨_, _, rfl, .inl ⟨xs, .inl (look_rd e), rfl⟩, h⟩
      · rename_i a xs e
        exact .inl ⟨_, _, rfl, .inr ⟨xs, .inl (look_rd e), rfl⟩, h⟩
      · rename_i a kvs e
        exact .inr ⟨_, kvs, rfl, look_rd e, h⟩
      · exact h.elim
    · exact h.elim
  · exact h.elim
def mInt : List V → Hp → VK → Prop := one fun x H Q => match x with
  | .int i => Q (.int i) H
  | .bl k => Q (.int (if k then 1 else 0)) H
  | _ => False
theorem call_mInt : CallR X (.type "int") mInt := cr_imp call_intA fun xs H Q h => by
  unfold mInt one at h
  split at h
  · split at h
    · exact .inl ⟨_, rfl, h⟩
    · exact .inr ⟨_, rfl, h⟩
    · exact h.elim
  · exact h.elim
def mAbs : List V → Hp → VK → Prop := one fun x H Q => match x with
  | .int i => Q (.int (if i < 0 then -i else i)) H
  | _ => False
theorem call_mAbs : CallR X (.builtin "abs") mAbs := cr_imp call_absA fun xs H Q h => by
  unfold mAbs one at h
  split at h
  · split at h
    · exact ⟨_, rfl, h⟩
    · exact h.elim
  · exact h.elim
def mLst : List V → Hp → VK → Prop := one fun x H Q => match x with
  | .ref a => (match look H a with
    | some (.lst ys) => ∀ l, H l = none → Q (.ref l) (upd H l (.lst ys))
    | some (.tup ys) => ∀ l, H l = none → Q (.ref l) (upd H l (.lst ys))
    | _ => False)
  | _ => False
theorem call_mLst : CallR X (.type "list") mLst := cr_imp call_listA fun xs H Q h => by
  unfold mLst one at h
  split at h
  · split at h
    · split at h
      · rename_i a ys e
        exact ⟨_, ys, rfl, .inl (.inl (look_rd e)), h⟩
      · rename_i a ys e
        exact ⟨_, ys, rfl, .inr (.inl (look_rd e)), h⟩
      · exact h.elim
    · exact h.elim
  · exact h.elim
def mTup : List V → Hp → VK → Prop := one fun x H Q => match x with
  | .ref a => (match look H a with
    | some (.lst ys) => ∀ l, H l = none → Q (.ref l) (upd H l (.tup ys))
    | some (.tup _) => Q (.ref a) H
    | _ => False)
  | _ => False
theorem call_mTup : CallR X (.type "tuple") mTup := cr_imp call_tupA fun xs H Q h => by
  unfold mTup one at h
  split at h
  · split at h
    · split at h
      · rename_i a ys e
        exact ⟨_, ys, rfl, .inl ⟨.inl (look_rd e), h⟩⟩
      · rename_i a ys e
        exact ⟨_, ys, rfl, .inr ⟨.inl (look_rd e), h⟩⟩
      · exact h.elim
    · exact h.elim
  · exact h.elim
/-- bools in a list -/
def bools : List V → Option (List Bool)
  | [] => some []
  | .bl b :: r => (bools r).map (b :: ·)
  | _ => none
theorem bools_map : ∀ {xs : List V} {bs : List Bool}, bools xs = some bs → xs = bs.map V.bl
  | [], bs, h => by simp [bools] at h; subst h; rfl
  | .bl b :: r, bs, h => by
    cases e : bools r with
    | none => rw [bools, e] at h; cases h
    | some cs =>
      rw [bools, e] at h
      cases h
      rw [bools_map e]; rfl
  | .non :: _, _, h => by cases h
  | .int _ :: _, _, h => by cases h
  | .str _ :: _, _, h => by cases h
  | .byt _ :: _, _, h => by cases h
  | .flt _ :: _, _, h => by cases h
  | .ref _ :: _, _, h => by cases h
  | .ty _ :: _, _, h => by cases h
theorem bools_of (bs : List Bool) : bools (bs.map V.bl) = some bs := by
  induction bs with
  | nil => rfl
  | cons b r ih => simp [bools, ih]
def mAll : List V → Hp → VK → Prop := one fun x H Q => match x with
  | .ref a => (match look H a with
    | some (.lst ys) => (match bools ys with | some bs => Q (.bl (bs.all id)) H | none => False)
    | _ => False)
  | _ => False
def mAny : List V → Hp → VK → Prop := one fun x H Q => match x with
  | .ref a => (match look H a with
    | some (.lst ys) => (match bools ys with | some bs => Q (.bl (bs.any id)) H | none => False)
    | _ => False)
  | _ => False
theorem call_mAll (hc : X.calm = true) : CallR X (.builtin "all") mAll := cr_imp (cr_all hc) fun xs H Q h => by
  unfold mAll one at h
  split at h
  · split at h
    · split at h
      · rename_i a ys e
        split at h
        · rename_i bs f
          exact ⟨_, bs, rfl, by rw [← bools_map f]; exact .inl (look_rd e), h⟩
        · exact h.elim
      · exact h.elim
    · exact h.elim
  · exact h.elim
theorem call_mAny (hc : X.calm = true) : CallR X (.builtin "any") mAny := cr_imp (cr_any hc) fun xs H Q h => by
  unfold mAny one at h
  split at h
  · split at h
    · split at h
      · rename_i a ys e
        split at h
        · rename_i bs f
          exact ⟨_, bs, rfl, by rw [← bools_map f]; exact .inl (look_rd e), h⟩
        · exact h.elim
      · exact h.elim
    · exact h.elim
  · exact h.elim

structure InsTy (K : PySem.W.Frag) (C : Addr) : Prop where
  cl : Cls K C
  ha : PySem.W.findIn K (.ref C) "__class__" = some (some (.builtin "object.__class__"))
  hn : PySem.W.specialIn K (.builtin "object.__class__") "__get__" = some (some (.builtin "getset_descriptor.__get__"))
  htk : PySem.W.takesIn K (.builtin "object.__class__") = some true
  hm : PySem.W.mroIn K C (.type "object") = some true
/-- the name of a value's built-in type -/
def tyNm (H : Hp) : V → Option String
  | .non => some "NoneType"
  | .bl _ => some "bool"
  | .int _ => some "int"
  | .str _ => some "str"
  | .ref a => (match look H a with
    | some (.lst _) => some "list"
    | some (.tup _) => some "tuple"
    | some (.dK _) => some "dict"
    | _ => none)
  | _ => none
theorem tyNm_x {K : PySem.W.Frag} {H : Hp} {x : V} {n : String} (h : tyNm H x = some n) : TyX K H x (.type n) := by
  cases x with
  | non => cases h; exact .base .non
  | bl b => cases h; exact .base (.bl b)
  | int i => cases h; exact .base (.int i)
  | str z => cases h; exact .base (.str z)
  | byt b => cases h
  | flt b => cases h
  | ty b => cases h
  | ref a =>
    unfold tyNm at h
    simp only at h
    split at h
    · rename_i xs e
      cases h
      rcases look_rd e with q | ⟨o, q⟩
      · exact .base (.lst q)
      · exact .base (.frz q)
    · rename_i xs e
      cases h
      rcases look_rd e with q | ⟨o, q⟩
      · exact .base (.tup q)
      · exact .fTuple q
    · rename_i xs e
      cases h
      rcases look_rd e with q | ⟨o, q⟩
      · exact .base (.dK q)
      · exact .fDict q
    · cases h
/-- a class as a value -/
def clsOf : V → Option Value
  | .ty n => some (.type n)
  | .ref C => some (.ref C)
  | _ => none
theorem clsOf_v {c : V} {u : Value} (h : clsOf c = some u) : ClsV c u := by
  cases c <;> first | (cases h; done) | (cases h; first | exact .ty _ | exact .own _)
def clsOfs : List V → Option (List Value)
  | [] => some []
  | c :: r => (match clsOf c, clsOfs r with | some u, some us => some (u :: us) | _, _ => none)
theorem clsOfs_v : ∀ {cs : List V} {us : List Value}, clsOfs cs = some us → Paired ClsV cs us
  | [], us, h => by cases h; exact .nil
  | c :: r, us, h => by
    unfold clsOfs at h
    split at h
    · rename_i u vs e1 e2
      cases h
      exact .cons (clsOf_v e1) (clsOfs_v e2)
    · cases h
/-- isinstance(x, c), c a class or a tuple of classes -/
def mIsi (K : PySem.W.Frag) : List V → Hp → VK → Prop := fun xs H Q => match xs with
  | [x, c] => (match x with
    | .ref a => (match H a with
      | some (.ins C _ _) => InsTy K C ∧ ∃ u b, clsOf c = some u ∧ PySem.W.kitOne K (.ref C) u = some b ∧ Q (.bl b) H
      | _ => (match tyNm H x with
        | some n => (match c with
          | .ref t => (match H t with
            | some (.tup cs) => ∃ us b, clsOfs cs = some us ∧ PySem.W.kitAny K (.type n) us = some b ∧ Q (.bl b) H
            | _ => ∃ b, PySem.W.kitOne K (.type n) (.ref t) = some b ∧ Q (.bl b) H)
          | .ty m => (match kitB n m with | some b => Q (.bl b) H | none => False)
          | _ => False)
        | none => False))
    | _ => (match tyNm H x with
        | some n => (match c with
          | .ref t => (match H t with
            | some (.tup cs) => ∃ us b, clsOfs cs = some us ∧ PySem.W.kitAny K (.type n) us = some b ∧ Q (.bl b) H
            | _ => ∃ b, PySem.W.kitOne K (.type n) (.ref t) = some b ∧ Q (.bl b) H)
          | .ty m => (match kitB n m with | some b => Q (.bl b) H | none => False)
          | _ => False)
        | none => False))
  | _ => False
theorem call_mIsi : CallR X (.builtin "isinstance") (mIsi X.K) := cr_imp call_isiA fun xs H Q h => by
  have fin : ∀ (x c : V) (n : String), tyNm H x = some n → (match c with
          | .ref t => (match H t with
            | some (.tup cs) => ∃ us b, clsOfs cs = some us ∧ PySem.W.kitAny X.K (.type n) us = some b ∧ Q (.bl b) H
            | _ => ∃ b, PySem.W.kitOne X.K (.type n) (.ref t) = some b ∧ Q (.bl b) H)
          | .ty m => (match kitB n m with | some b => Q (.bl b) H | none => False)
          | _ => False) → rIsiG X.K [x, c] H Q := fun x c n hn h => by
    split at h
    · split at h
      · rename_i t cs e
        obtain ⟨us, b, h1, h2, h3⟩ := h
        exact .inr ⟨x, _, cs, _, us, b, rfl, e, clsOfs_v h1, tyNm_x hn, h2, h3⟩
      · obtain ⟨b, h2, h3⟩ := h
        exact .inl ⟨x, _, _, _, b, rfl, .own _, tyNm_x hn, h2, h3⟩
    · split at h
      · rename_i m b e
        exact .inl ⟨x, _, _, _, b, rfl, .ty _, tyNm_x hn, kit_ty e, h⟩
      · exact h.elim
    · exact h.elim
  unfold mIsi at h
  split at h
  · split at h
    · split at h
      · rename_i a C dx fs e
        obtain ⟨T, u, b, h1, h2, h3⟩ := h
        exact .inl ⟨_, _, _, u, b, rfl, clsOf_v h1, .base (.ins e T.cl T.ha T.hn T.htk T.hm), h2, h3⟩
      · split at h
        · rename_i n hn
          exact fin _ _ n hn h
        · exact h.elim
    · split at h
      · rename_i n hn
        exact fin _ _ n hn h
      · exact h.elim
  · exact h.elim
end

section
variable {k : Nat} {A : Around}
theorem u1 (hr : Room k A) : A.units + 1 < cLine := by have := hr.un; omega
theorem u64 (hr : Room k A) : A.units + 64 < cLine := by have := hr.un; omega
theorem u65 (hr : Room k A) : A.units + 65 < cLine := by have := hr.un; omega
end

/-- the promise of a def of n parameters whose local names are N and whose body reads as rd -/
def spR (N : List Str) (n : Nat) (rd : XK → TS) : Sp := fun vs H Q E => vs.length = n ∧ rd E { nx := fun _ H' => Q .non H', rt := Q } (start N vs) H
section
variable {P : Program} {w : World} {K : PySem.W.Frag} {mg : Str → Option Value} {base : Heap}
/-- a def of the text keeps its own reading -/
theorem fnr_of {x qual : Str} {st : Stmt} {f : Addr} {fd : FuncData} {N ps : List Str} {k : Nat} {rd : XK → TS} (F : Fun K x qual st f fd) (S : FnScope N ps (defScope st)) (hb : Binds K fd ps [])
    (hbody : ∀ (cdv : Value) (A : Around) (outer : List Env) (s : Shared) (H : Hp) (E : XK), Room k (A.deeper (envOfC qual (defScope st) s.heap.objs.size f cdv)) →
      PSs (cxOf (L2.CX P w) P w K mg base N qual (defScope st) f cdv A outer s H E) (defBody st) (rd E)) : FnR P w K mg base (L2.CX P w) (k + 1) f (spR N ps.length rd) := by
  have G : FnOk P w K mg base (L2.CX P w) (k + 1) f fd ps (spR N ps.length rd) :=
    F.okX S (fun vs H Q E h => h.1) fun cdv A outer s H vs Q E hr h => ⟨rd E, hbody cdv A outer s H E hr, h.2⟩
  exact (G.raw hb .nil).imp fun vs H Q E h => by rw [List.append_nil]; exact h
end
section
variable {X : Cx} {CX : CXT} {k j i : Nat} {f C : Addr} {sp : Sp} {E : XK} {x m : Str} {e o : Expr} {es : List Expr} {te ta : TE} {t : TA} {p pos apos : Pos}
/-- f(e, ..) by a positional promise -/
def tCallF (sp : Sp) (E : XK) (t : TA) : TE := fun σ H Q => t σ H fun vs H1 => sp vs H1 Q E
theorem pe_callF (F : FnR X.prog X.w X.K X.mg X.base CX k f sp) (hr : Room j X.A) (hj : k ≤ j) (hm : X.mg x = some (.ref f)) (hk : PySem.W.keepIn X.K (.ref f) = true) (hx : Passes CX X E) (ha : PA X (e :: es) t) (hg : Gl X x := by rfl) (hd : (x == ("__debug__" : Str)) = false := by decide)
    (he : starEach (e :: es) X.env = (false, eval e X.env) :: starEach es X.env := by rfl) (hpl : (backTo pos (starEach es X.env)).any (·.1) = false := by rfl) :
    PE X (.Call (.Name x p) (e :: es) [] pos) (tCallF sp E t) := by
  refine ⟨fun pins s σ H Q I h => ?_⟩
  refine wpAny_Call_Name_kw (ld_glob I hg hm ?_ hd)
  refine PySem.W.callWith_K (h₀ := X.base) I.ok.mod.kin hk (thn (ha.run pos pins s σ H _ I h) fun us s1 ⟨vs, H1, I1, r, q⟩ => ⟨I1.kIn, ?_⟩) he hpl
  exact wpAny_call (run_fnR F (hr.mono hj) hx I1 r q)
theorem pe_callF0 (F : FnR X.prog X.w X.K X.mg X.base CX k f sp) (hr : Room j X.A) (hj : k ≤ j) (hm : X.mg x = some (.ref f)) (hk : PySem.W.keepIn X.K (.ref f) = true) (hx : Passes CX X E) (hg : Gl X x := by rfl) (hd : (x == ("__debug__" : Str)) = false := by decide) :
    PE X (.Call (.Name x p) [] [] pos) (tCallF sp E tNil) := by
  refine ⟨fun pins s σ H Q I h => ?_⟩
  refine wpAny_Call_Name_kw (ld_glob I hg hm ?_ hd)
  exact PySem.W.callWith_K0 I.kIn hk (wpAny_call (run_fnR (us := []) F (hr.mono hj) hx I .nil h))
/-- a module's constant: a text, a number -/
theorem pe_gs {z : Str} (hm : ∃ u, X.mg x = some (.str z u)) (hg : Gl X x := by rfl) (hd : (x == ("__debug__" : Str)) = false := by decide) : PE X (.Name x pos) (tC (.str z)) := by
  obtain ⟨u, hm⟩ := hm
  exact pe_glob hg hm ⟨u, rfl⟩ hd
theorem pe_gi {z : Int} (hm : ∃ u, X.mg x = some (.int z u)) (hg : Gl X x := by rfl) (hd : (x == ("__debug__" : Str)) = false := by decide) : PE X (.Name x pos) (tC (.int z)) := by
  obtain ⟨u, hm⟩ := hm
  exact pe_glob hg hm ⟨u, rfl⟩ hd
theorem pe_gr {a : Addr} (hm : X.mg x = some (.ref a)) (hg : Gl X x := by rfl) (hd : (x == ("__debug__" : Str)) = false := by decide) : PE X (.Name x pos) (tC (.ref a)) := pe_glob hg hm rfl hd
theorem pe_gt {n : String} (hm : X.mg x = none) (hg : Gl X x := by rfl) (hv : bootBuiltins x = some (.type n) := by decide +kernel) (hn : x ≠ "__name__" := by decide) (hd : (x == ("__debug__" : Str)) = false := by decide) : PE X (.Name x pos) (tC (.ty n)) := pe_bltn hg hm hv rfl hn hd
/-- what a call lets out leaves this def, too -/
theorem passE {W : WX} (tk : Takes X W) (hW : ∀ cls d σ H, E cls d H → W cls d σ H) : Passes (L2.CX X.prog X.w) X E := passes_call tk hW
end
end Fs

namespace Fs
open PySem PySem.W PySem.Calls PyProof.Rows PySem.HandSPX
/-- self.n = n, for each name -/
def FldSts : List Str → List Stmt → Prop
  | [], sts => sts = []
  | n :: ns, sts => ∃ p1 p2 p3 p4 r, sts = .Assign [.Attribute (.Name "self" p1) n p2] (.Name n p3) p4 :: r ∧ FldSts ns r
def putAll (l : List (Str × Value)) (m : Str → Option Value) : Str → Option Value := l.foldl (fun m p => fun y => if y = p.1 then some p.2 else m y) m
def supSt (msg : Str) (k : Nat) (q0 q1 q2 q3 q4 q5 : Pos) : Stmt := .Expr (.Call (.Attribute (.Call (.Name "super" q0) [] [] q1) "__init__" q2) [.Constant (.str msg) k q3] [] q4) q5
structure SxTxt (prog : Program) (K : Frag) (mg : Str → Option Value) (C fI : Addr) (names : List Str) : Prop where
  cls : ∃ nm q N bs bm sn sub ab col dd k0 k1 k2 k3 k5, K.lookup C = some (excClassObj nm q C N bs bm true sn sub ab col dd k0 k1 k2 k3 k5 "ValueError.__new__") ∧ refsVE bm = true
  sa : findIn K (.ref C) "__setattr__" = some (some (.builtin "object.__setattr__"))
  exC : subIn K (.ref C) (.type "BaseException") = some true
  tyC : typeIn K (.ref C) = some (.type "type")
  kC : keepIn K (.ref C) = true
  iC : findIn K (.ref C) "__init__" = some (some (.ref fI))
  tC : typeIn K (.ref fI) = some (.type "function")
  noN : ∀ n ∈ names, findIn K (.ref C) n = some none
  nd : names.Nodup
  sup : ks_superIn K C C "__init__" = some (some (.builtin "ValueError.__init__"))
  sub : subIn K (.ref C) (.type "ValueError") = some true
  opq : nsIn K cStatics "thirdparty.any" = some none
  mro : mroIn K C (.ref C) = some true
  nsu : mg "super" = none
  top : (prog.main.scope.names.lookup ("super" : Str)).isSome = false
  fn : ∃ (params : Arguments) (msg : Str) (kk : Nat) (q0 q1 q2 q3 q4 q5 : Pos) (sts : List Stmt) (scope : Scope) (ar : Arg) (oc : Value) (od : Option Addr) (dV kV doc pm : Value) (an : Option Addr) (cda : Addr) (ct : Value) (cc : Addr) (osl : Array (Option Value)) (qual : Str)
      (ccl cl : Value) (cdd cld : Option Addr) (ccs csl : Array (Option Value)) (vs : Array Value) (file : Str) (tf : Tok),
    K.lookup fI = some ⟨oc, od, .func (ksFn "__init__" qual params (supSt msg kk q0 q1 q2 q3 q4 q5 :: sts) scope dV kV doc pm an (.ref cda) ct cc), osl⟩ ∧ codeIn K (.ref cda) qual = true ∧
    K.lookup cda = some ⟨ccl, cdd, .fields vs, ccs⟩ ∧ vs[2]? = some (.str file tf) ∧ ((prog.main.file : Str) == file) = true ∧ K.lookup cc = some ⟨cl, cld, .cell (some (.ref C)), csl⟩ ∧
    (q2.endLine == q4.line) = true ∧ FldSts names sts ∧ (params.posonlyargs ++ params.args).head? = some ar ∧ ar.arg = "self" ∧ scope.names.lookup ("super" : Str) = some .globalImplicit ∧ scope.names.lookup ("__class__" : Str) = some .free ∧ scope.names.lookup ("self" : Str) = some .local ∧
    (∀ n ∈ names, scope.names.lookup n = some .local ∧ n ≠ "self") ∧ (∀ y ∈ scope.names, y.2 ≠ .cell) ∧ scope.kind = .function ∧ scope.isCoroutine = false ∧ scope.isGenerator = false ∧
    (∀ (s : Shared) (self : Value) (us : List Value), us.length = names.length → BindsTo s (ksFn "__init__" qual params (supSt msg kk q0 q1 q2 q3 q4 q5 :: sts) scope dV kV doc pm an (.ref cda) ct cc) ⟨self :: us, []⟩ (("self", self) :: names.zip us))
section
variable {names : List Str} {prog : Program} {w : World} {A : Around} {E : Value → Shared → Prop} {R : Result → Shared → Prop} {K : Frag} {mg : Str → Option Value} {C fI : Addr} {g : Array GenState} {d : Drawn} {os : OsState}
variable {nm q : Str} {N : Addr} {bs bm : List Value} {hdct : Bool} {sn : List Str} {sub : List Value} {ab : Bool} {col : Option Bool} {dd : Option Addr} {k0 k1 k2 k3 k5 : Option Value}
theorem call_mw {h : Heap} {t : Nat} {u e t0 : Addr} {rest : List Value} {Q : Value → Shared → Prop}
    (hC : h.get? C = some (excClassObj nm q C N bs bm hdct sn sub ab col dd k0 k1 k2 k3 k5 "ValueError.__new__")) (he : h.get? e = some (excO C t0)) (hu : h.get? u = some (kxs_mw "ValueError.__init__" e)) (hrest : rest.length ≤ sizeLine)
    (hq : ∀ h' t1, (∀ b o, b ≠ e → h.get? b = some o → h'.get? b = some o) → h'.get? e = some (excO C t1) → Q .none ⟨h', g, d, t, os⟩) :
    wpAny (model prog w) A (call (.ref u) rest) Q E ⟨h, g, d, t, os⟩ := by
  refine wpAny_call (codeAny_of_tree ?_)
  show wpAny _ A.in1 (callAny (.ref u) ⟨rest, []⟩) _ _ _
  simp only [callAny]
  refine wpAny_bind (wpAny_load hu ?_)
  simp only [kxs_mw, show (Value.type "method-wrapper" == Value.type "method" || Value.type "method-wrapper" == Value.type "builtin_function_or_method" || Value.type "method-wrapper" == Value.type "method-wrapper") = true by decide, if_true]
  refine W.KFB.if_so (by decide) ?_
  refine wpAny_bind (ESX.check_bound PySem.F.excBase_ValueError hC he rfl ?_)
  refine wpAny_bind (wpAny_pure (wpAny_pure ?_))
  refine ⟨Code.quiet_builtin _ (by decide +kernel), codeAny_builtin PySem.F.excBase_ValueError.initEntry ?_⟩
  rw [Around.under_plainId PySem.F.excBase_ValueError.init.plain _]
  wp_walk
  refine hq _ h.objs.size (fun b o hb ho => ?_) ?_
  · rw [Heap.get?_update_other _ _ (Ne.symm hb)]
    exact Heap.get?_push_of_some _ ho
  · rw [Heap.get?_update_self _ (Heap.get?_push_of_some _ he) rfl]
    rfl
abbrev excD (C t0 : Addr) (d : Option Addr) : Obj := { cls := .ref C, dict := d, data := .fields #[.ref t0, .none, .none, .none, .bool false, .none] }

theorem ns_kept {h h' : Heap} {L : Addr} {m : Str → Option Value} (hn : h.Ns L m) (k : ∀ o, h.get? L = some o → h'.get? L = some o) : h'.Ns L m := by
  obtain ⟨o, es, ep, ho, r⟩ := hn
  exact ⟨o, es, ep, k _ ho, r⟩
theorem putAll_cons (p : Str × Value) (l : List (Str × Value)) (m : Str → Option Value) : putAll (p :: l) m = putAll l (fun y => if y = p.1 then some p.2 else m y) := rfl
/-- further fields, behind the first -/
theorem sx_more (T : SxTxt prog K mg C fI names) {env : Env} (hk : env.scope.kind = .function) {x t0 dx L : Addr} (hL : env.locals = L) {m : Str → Option Value} (hself : m "self" = some (.ref x)) (hks : env.kindOf "self" = some .local)
    {cd : ClassData} (hcl : clsIn K C = some cd) (hm : refsVE cd.mro = true) (hh : cd.hasDict = true) (hdx : dx ≠ x) (hdL : dx ≠ L) (hnK : K.lookup dx = none) :
    ∀ (l : List (Str × Value)) (sts : List Stmt), FldSts (l.map (·.1)) sts → ∀ (h : Heap) (tk : Tok) (m0 : Str → Option Value) (nl : List Str) (Q : Flow → Shared → Prop), nl.length + l.length ≤ 900 → K.In h → h.Ns L m → h.get? x = some (excD C t0 (some dx)) → h.Ns1 dx m0 → Within m0 nl →
      (∀ p ∈ l, m p.1 = some p.2 ∧ env.kindOf p.1 = some .local ∧ findIn K (.ref C) p.1 = some none ∧ (p.1 == ("__debug__" : Str)) = false) →
      (∀ h' tk', (∀ b o, b ≠ dx → h.get? b = some o → h'.get? b = some o) → h'.Ns1 dx (putAll l m0) → Q .next ⟨h', g, d, tk', os⟩) →
      wpAny (model prog w) A (execs sts env) Q E ⟨h, g, d, tk, os⟩ := by
  intro l
  induction l with
  | nil =>
    intro sts hs h tk m0 nl Q hz X hn hx hns hw hp hq
    obtain rfl : sts = [] := hs
    exact wpAny_execs_nil (hq h tk (fun b o _ e => e) hns)
  | cons p l ih =>
    intro sts hs h tk m0 nl Q hz X hn hx hns hw hp hq
    obtain ⟨p1, p2, p3, p4, r, rfl, hr⟩ := hs
    obtain ⟨hm1, hk1, hno, hdb⟩ := hp p List.mem_cons_self
    refine wpAny_execs_cons (plainObj_wpAny_Assign_Attribute ?_)
    refine wpAny_Name (wpAny_loadName_local hk hk1 (by rw [hL]; exact hn) hm1 ?_) hdb
    refine wpAny_Name (wpAny_loadName_local hk hks (by rw [hL]; exact hn) hself ?_)
    obtain ⟨oD, es, ep, hoD, hrD⟩ := hns.count hw
    refine set_plain X (ox := excD C t0 (some dx)) (od := some oD) ⟨hx, rfl, rfl, hoD⟩ T.sa ?_
    refine PySem.OEX.osa_old X hx hns hw (by rw [List.length_cons] at hz; omega) hcl hm hh hno fun h' tk' kk hn' => ?_
    have X' : K.In h' := fun a o e => kk a o (fun z => by rw [z, hnK] at e; cases e) (X a o e)
    refine ih r hr h' tk' _ (p.1 :: nl) Q (by rw [List.length_cons] at hz ⊢; omega) X' (ns_kept hn fun o e => kk L o (Ne.symm hdL) e) (kk x _ (Ne.symm hdx) hx) hn' (Within.cons p.1 p.2 hw) (fun p' hp' => hp p' (List.mem_cons_of_mem _ hp')) fun h'' tk'' k2 hn2 => ?_
    exact hq h'' tk'' (fun b o hb e => k2 b o hb (kk b o hb e)) hn2
/-- what __init__ leaves of a fresh exception at x -/
structure SxEnd (h h' : Heap) (x C t1 : Addr) (od : Option Addr) (l : List (Str × Value)) : Prop where
  keep : ∀ b o, b ≠ x → h.get? b = some o → h'.get? b = some o
  obj : h'.get? x = some (excD C t1 od)
  dict : match od with
    | none => l = []
    | some dx => l ≠ [] ∧ h.objs.size ≤ dx ∧ dx ≠ x ∧ h'.Ns1 dx (putAll l fun _ => none)
/-- self.n = n, for each name, from a fresh exception on -/
theorem sx_all (T : SxTxt prog K mg C fI names) {env : Env} (hk : env.scope.kind = .function) {x t0 L : Addr} (hL : env.locals = L) {m : Str → Option Value} (hself : m "self" = some (.ref x)) (hks : env.kindOf "self" = some .local)
    {cd : ClassData} (hcl : clsIn K C = some cd) (hm : refsVE cd.mro = true) (hh : cd.hasDict = true) (hxL : x ≠ L) (l : List (Str × Value)) (sts : List Stmt) (hs : FldSts (l.map (·.1)) sts) (h : Heap) (tk : Tok) (Q : Flow → Shared → Prop) (hz : l.length ≤ 800) (X : K.In h)
    (hn : h.Ns L m) (hx : h.get? x = some (excD C t0 none)) (hnK : ∀ dx, h.objs.size ≤ dx → K.lookup dx = none) (hnx : K.lookup x = none)
    (hp : ∀ p ∈ l, m p.1 = some p.2 ∧ env.kindOf p.1 = some .local ∧ findIn K (.ref C) p.1 = some none ∧ (p.1 == ("__debug__" : Str)) = false)
    (hq : ∀ h' tk' od, SxEnd h h' x C t0 od l → Q .next ⟨h', g, d, tk', os⟩) : wpAny (model prog w) A (execs sts env) Q E ⟨h, g, d, tk, os⟩ := by
  cases l with
  | nil =>
    obtain rfl : sts = [] := hs
    exact wpAny_execs_nil (hq h tk none ⟨fun b o _ e => e, hx, rfl⟩)
  | cons p l =>
    obtain ⟨p1, p2, p3, p4, r, rfl, hr⟩ := hs
    obtain ⟨hm1, hk1, hno, hdb⟩ := hp p List.mem_cons_self
    refine wpAny_execs_cons (plainObj_wpAny_Assign_Attribute ?_)
    refine wpAny_Name (wpAny_loadName_local hk hk1 (by rw [hL]; exact hn) hm1 ?_) hdb
    refine wpAny_Name (wpAny_loadName_local hk hks (by rw [hL]; exact hn) hself ?_)
    refine set_plain X (ox := excD C t0 none) (od := none) ⟨hx, rfl, rfl, trivial⟩ T.sa ?_
    refine PySem.HandSPX.exc_osa X hx hcl hm hh hno fun h' tk' dx kk dn dne hx' hn' => ?_
    have X' : K.In h' := fun a o e => kk a o (fun z => by rw [z, hnx] at e; cases e) (X a o e)
    have dL : dx ≠ L := fun z => by
      have y := hn.lt
      rw [z] at dn
      exact absurd y (Nat.not_lt.mpr dn)
    refine sx_more T hk hL hself hks hcl hm hh dne dL (hnK dx dn) l r hr h' tk' _ [p.1] Q (by rw [List.length_cons] at hz; simp; omega) X' (ns_kept hn fun o e => kk L o (Ne.symm hxL) e) hx' hn' (Within.cons p.1 p.2 (fun y hy => absurd rfl hy)) (fun p' hp' => hp p' (List.mem_cons_of_mem _ hp')) fun h'' tk'' k2 hn2 => ?_
    refine hq h'' tk'' (some dx) ⟨fun b o hb e => k2 b o (fun z => ?_) (kk b o hb e), k2 x _ (Ne.symm dne) hx', by simp, dn, dne, hn2⟩
    have y := Heap.lt_size e
    rw [z] at y
    exact absurd y (Nat.not_lt.mpr dn)
theorem zip_look {self : Value} : ∀ {ns : List Str} {us : List Value} {p : Str × Value}, ns.Nodup → p ∈ ns.zip us → (∀ n ∈ ns, n ≠ "self") → ((("self" : Str), self) :: ns.zip us).reverse.lookup p.1 = some p.2 := by
  intro ns us p nd hp hn
  have hns : p.1 ∈ ns := (List.of_mem_zip hp).1
  have key : ∀ (l : List (Str × Value)), (l.map (·.1)).Nodup → p ∈ l → l.reverse.lookup p.1 = some p.2 := by
    intro l
    induction l with
    | nil => intro _ h; cases h
    | cons a l ih =>
      intro nd h
      rw [List.map_cons, List.nodup_cons] at nd
      rw [List.reverse_cons]
      rcases List.mem_cons.mp h with rfl | h
      · have : l.reverse.lookup p.1 = none := by
          rw [List.lookup_eq_none_iff]
          intro b hb
          have hb' : b ∈ l := List.mem_reverse.mp hb
          have : b.1 ≠ p.1 := fun z => nd.1 (List.mem_map.mpr ⟨b, hb', z⟩)
          simpa using Ne.symm this
        rw [List.lookup_append, this]
        simp [List.lookup]
      · rw [List.lookup_append, ih nd.2 h]
        rfl
  refine key _ ?_ (List.mem_cons_of_mem _ hp)
  rw [List.map_cons, List.nodup_cons]
  have hsub : ((ns.zip us).map (·.1)).Sublist ns := by
    have : ∀ (ns : List Str) (us : List Value), ((ns.zip us).map (·.1)).Sublist ns := by
      intro ns
      induction ns with
      | nil => intro us; simp
      | cons a ns ih =>
        intro us
        cases us with
        | nil => simp
        | cons u us => simpa using ih us
    exact this ns us
  exact ⟨fun z => hn _ (hsub.subset z) rfl, nd.sublist hsub⟩
theorem zip_self {self : Value} {ns : List Str} {us : List Value} (hn : ∀ n ∈ ns, n ≠ "self") : ((("self" : Str), self) :: ns.zip us).reverse.lookup (Str.ofString "self") = some self := by
  rw [List.reverse_cons, List.lookup_append]
  have : (ns.zip us).reverse.lookup (Str.ofString "self") = none := by
    rw [List.lookup_eq_none_iff]
    intro b hb
    have hb' : b ∈ ns.zip us := List.mem_reverse.mp hb
    have : b.1 ≠ "self" := hn _ (List.of_mem_zip hb').1
    simpa using Ne.symm this
  rw [this]
  simp [List.lookup]
theorem zip_fst : ∀ {ns : List Str} {us : List Value}, us.length = ns.length → (ns.zip us).map (·.1) = ns
  | [], _, _ => by simp
  | a :: ns, [], h => by simp at h
  | a :: ns, u :: us, h => by simpa using zip_fst (ns := ns) (us := us) (by simpa using h)
theorem sup_call {env : Env} {msg : Str} {kk : Nat} {q0 q1 q2 q3 q4 : Pos} (hln : (q2.endLine == q4.line) = true) : eval (.Call (.Attribute (.Call (.Name "super" q0) [] [] q1) "__init__" q2) [.Constant (.str msg) kk q3] [] q4) env = (do
      let ov ← attributeBase (.Call (.Name "super" q0) [] [] q1) "__init__" env (eval (.Call (.Name "super" q0) [] [] q1) env)
      standAt q2.atName
      let (f, first) ← holding [ov] (getMethod ov "__init__" (do return (← importBound (.Call (.Name "super" q0) [] [] q1) env).getD true))
      callWith q4 f first (backTo q4 (starEach [.Constant (.str msg) kk q3] env)) []) := by
  rw [arm_eval_Call]
  have e : ∀ o env, methodCallPos true o env q2 q4 = pure q4 := fun o env => by unfold methodCallPos; rw [hln]; rfl
  unfold methodCall
  rw [show methodCallForm ([Expr.Constant (.str msg) kk q3].length + ([] : List Keyword).length) (backTo q4 (starEach [.Constant (.str msg) kk q3] env)) (backToKw q4 (keywordEach [] env)) = true from rfl, e]
  rfl
theorem sx_init (T : SxTxt prog K mg C fI names) {s : Shared} {x t0 : Addr} {us : List Value} (hl : us.length = names.length) (hz : names.length ≤ 800) (hdb : ∀ n ∈ names, (n == ("__debug__" : Str)) = false) (X : K.In s.heap) (hlim : s.heap.NoLimit)
    (hgl : s.heap.Ns mainGlobals mg) (hbl : ∃ mb, s.heap.Ns builtinsNs mb ∧ ∀ x : Str, x ≠ "__name__" → mb x = bootBuiltins x) (hx : s.heap.get? x = some (excO C t0)) (hnx : K.lookup x = none) (hnC : x ≠ C) (hroom : A.depth < recursionLimit)
    (hq : ∀ h' tk od t1, SxEnd s.heap h' x C t1 od (names.zip us) → R (.ok (.ret .none)) { s with heap := h', toks := tk }) :
    codeAny (model prog w) A (.call (.ref fI) ⟨.ref x :: us, []⟩) R s := by
  obtain ⟨params, msg, kk, q0, q1, q2, q3, q4, q5, sts, scope, ar, oc, od, dV, kV, doc, pm, an, cda, ct, cc, osl, qual, ccl, cl, cdd, cld, ccs, csl, vs, file, tf, ho, hcd, hcode, hvs, hfile, hcell, hln, hF, hp, har, hks, hkc, hkself, hkn, hncell, hk, hco, hgen, hbind⟩ := T.fn
  obtain ⟨skind, snames, sgen, sco, smore⟩ := scope
  dsimp only at hk hco hgen
  subst hk hco hgen
  generalize hscope : ({ kind := .function, names := snames, isGenerator := false, isCoroutine := false, more := smore } : Scope) = scope at *
  have hk : scope.kind = .function := by rw [← hscope]
  have hco : scope.isCoroutine = false := by rw [← hscope]
  have hgen : scope.isGenerator = false := by rw [← hscope]
  obtain ⟨nm, q, N, bs, bm, sn, sub, ab, col, dd, k0, k1, k2, k3, k5, hC, hbm⟩ := T.cls
  have hcl : clsIn K C = some { name := nm, bases := bs, mro := .ref C :: bm, ns := N, qualname := q, hasDict := true, slotNames := sn, subclasses := sub, abstract := ab, collection := col, hasDel := false } := by unfold clsIn; rw [hC] <;> rfl
  have hloc : ∀ y ∈ ((("self" : Str), Value.ref x) :: names.zip us), scope.names.lookup y.1 = some .local := fun y hy => by
    rcases List.mem_cons.mp hy with rfl | hy
    · exact hkself
    · exact (hkn _ (List.of_mem_zip hy).1).1
  refine ks_codeAny_call_defAt (fd := ksFn "__init__" qual params (supSt msg kk q0 q1 q2 q3 q4 q5 :: sts) scope dV kV doc pm an (.ref cda) ct cc) (body := supSt msg kk q0 q1 q2 q3 q4 q5 :: sts) (binds := (("self" : Str), Value.ref x) :: names.zip us) hroom (X _ _ ho) rfl hlim
    (codeRec_of X hcd) rfl (hbind s _ us hl) hncell hloc (fun h₁ hns hk₁ => ?_) hco hgen hk
  have X₁ : K.In h₁ := X.keeps hk₁
  have hx₁ := hk₁ _ _ hx
  have hxL : x ≠ s.heap.objs.size := Nat.ne_of_lt (Heap.lt_size hx)
  have hLn : s.heap.objs.size < h₁.objs.size := hns.lt
  have I₁ : InstAt h₁ x (excO C t0) C none := ⟨hx₁, rfl, rfl, trivial⟩
  obtain ⟨mb, hb1, hb2⟩ := hbl
  refine ks_wpAt_execs_cons (ks_wpAt_Expr_any (ks_wpAt_MethodCall ?_ (sup_call hln)) (by subst hscope; rfl))
  refine ks_wpAt_super_base (env := ksEnv qual scope s.heap.objs.size fI (.ref cda) cc) hks hkc rfl rfl (X₁ _ _ ho) rfl hp rfl (X₁ _ _ hcode) rfl hvs hfile T.top ?_
  refine ks_loadName_global hk hks (loadGlobal_builtin (env := ksEnv qual scope s.heap.objs.size fI (.ref cda) cc) (hgl.keeps hk₁) T.nsu (hb1.keeps hk₁) ((hb2 _ (by decide)).trans PyProof.Rows.Boot.«super») ⟨rfl, ?_⟩)
  refine wpAny_loadName_free hk hkc rfl ⟨_, X₁ _ _ hcell, rfl⟩ ?_
  rw [har]
  refine wpAny_loadName_local hk hkself hns (zip_self fun n hn => (hkn n hn).2) ?_
  refine ks_wpAny_isType_cls (X₁ _ _ hC) rfl ⟨rfl, ?_⟩
  refine ks_wpAny_call_super (X₁ _ _ hC) rfl hx₁ rfl (fun c e => by cases e) (looks_mroIn X₁ T.mro) (fun h₂ hso hk₂ => ?_)
  have X₂ : K.In h₂ := X₁.keeps hk₂
  have hx₂ := hk₂ _ _ hx₁
  have I₂ : InstAt h₂ x (excO C t0) C none := ⟨hx₂, rfl, rfl, trivial⟩
  have hsup := T.sup
  unfold ks_superIn at hsup
  rw [hcl] at hsup
  refine kxs_getMethod kxs_ValueError hso (looks_opaque X₂ T.opq) (l₀ := .ref C :: bm) ?_ rfl X₂ hsup (I₂.type.andThen (looks_subIn X₂ T.sub)) hnC (by decide) ?_
  · exact fun A Q E s k q => wpAny_bind ((looks_clsIn X₂ hcl) A _ E s k (wpAny_pure q))
  have hu : (h₂.push (kxs_mw "ValueError.__init__" x)).get? h₂.objs.size = some (kxs_mw "ValueError.__init__" x) := Heap.get?_push_at rfl rfl
  refine kxs_callWith (i := "ValueError.__init__") (x := x) rfl (evalArgs_plain ?_)
  show wpAny _ _ (spliced ((false, eval (.Constant (.str msg) kk q3) _) :: [])) _ _ _
  refine spliced_cons (Constant_str (spliced_nil ⟨hu, ?_⟩))
  have hk₃ : ∀ b o, h₂.get? b = some o → (h₂.push (kxs_mw "ValueError.__init__" x)).get? b = some o := fun b o e => Heap.get?_push_of_some _ e
  refine call_mw (X₂.keeps hk₃ _ _ hC) (hk₃ _ _ hx₂) hu (by rw [sizeLine_eq]; exact (by decide : 1 ≤ 16777216)) fun h₄ t1 hk₄ hx₄ => ?_
  refine wpAt_of_wpAny ?_
  have X₄ : K.In h₄ := fun a o e => hk₄ a o (fun z => by rw [z, hnx] at e; cases e) (X₂.keeps hk₃ a o e)
  have kall : ∀ b o, b ≠ x → h₁.get? b = some o → h₄.get? b = some o := fun b o hb e => hk₄ b o hb (hk₃ b o (hk₂ b o e))
  refine sx_all T (env := ksEnv qual scope s.heap.objs.size fI (.ref cda) cc) hk rfl (m := fun y => ((("self" : Str), Value.ref x) :: names.zip us).reverse.lookup y) (zip_self fun n hn => (hkn n hn).2) hkself hcl (show refsVE (.ref C :: bm) = true from hbm) rfl hxL (names.zip us) sts (by rw [zip_fst hl]; exact hF) h₄ _ _ (by rw [List.length_zip]; omega) X₄
    (ns_kept hns fun o e => kall _ o (Ne.symm hxL) e) hx₄ (fun dx hdx => ?_) hnx (fun p hp => ⟨zip_look T.nd hp (fun n hn => (hkn n hn).2), (hkn _ (List.of_mem_zip hp).1).1, T.noN _ (List.of_mem_zip hp).1, hdb _ (List.of_mem_zip hp).1⟩) fun h' tk' od' S => ?_
  · cases e : K.lookup dx with
    | none => rfl
    | some o => exact absurd (Heap.lt_size (X₄ _ _ e)) (Nat.not_lt.mpr hdx)
  · have ex : ∀ b o, b ≠ x → s.heap.get? b = some o → h'.get? b = some o := fun b o hb e => S.keep b o hb (kall b o hb (hk₁ b o e))
    have hsz : s.heap.objs.size ≤ h₄.objs.size := by
      obtain ⟨oL, _, _, hoL, _⟩ := (ns_kept hns fun o e => kall _ o (Ne.symm hxL) e : h₄.Ns s.heap.objs.size _)
      exact Nat.le_of_lt (Heap.lt_size hoL)
    refine hq h' tk' od' t1 ⟨ex, S.obj, ?_⟩
    have z := S.dict
    cases od' with
    | none => exact z
    | some dx => exact ⟨z.1, Nat.le_trans hsz z.2.1, z.2.2⟩
/-- a made exception -/
structure SxMade (h h' : Heap) (e C : Addr) (od : Option Addr) (l : List (Str × Value)) : Prop where
  keep : ∀ b o, h.get? b = some o → h'.get? b = some o
  new : h.objs.size ≤ e
  obj : ∃ t1, h'.get? e = some (excD C t1 od)
  dict : match od with
    | none => l = []
    | some dx => l ≠ [] ∧ h.objs.size ≤ dx ∧ dx ≠ e ∧ h'.Ns1 dx (putAll l fun _ => none)
theorem sx_made (T : SxTxt prog K mg C fI names) {s : Shared} {us : List Value} (hl : us.length = names.length) (hz : names.length ≤ 800) (hdb : ∀ n ∈ names, (n == ("__debug__" : Str)) = false) (X : K.In s.heap) (hlim : s.heap.NoLimit)
    (hgl : s.heap.Ns mainGlobals mg) (hbl : ∃ mb, s.heap.Ns builtinsNs mb ∧ ∀ x : Str, x ≠ "__name__" → mb x = bootBuiltins x) (hroom : A.depth + 1 < recursionLimit)
    (hq : ∀ h' tk e od, SxMade s.heap h' e C od (names.zip us) → R (.ok (.ret (.ref e))) { s with heap := h', toks := tk }) :
    codeAny (model prog w) A (.call (.ref C) ⟨us, []⟩) R s := by
  obtain ⟨nm, q, N, bs, bm, sn, sub, ab, col, dd, k0, k1, k2, k3, k5, hC, hbm⟩ := T.cls
  obtain ⟨hp, g, dr, tk, os⟩ := s
  have k : ∀ b o, hp.get? b = some o → ((hp.push (kdv_tup us)).push (excO C hp.objs.size)).get? b = some o := fun b o e => Heap.get?_push_of_some _ (Heap.get?_push_of_some _ e)
  have hget : ((hp.push (kdv_tup us)).push (excO C hp.objs.size)).get? (hp.objs.size + 1) = some (excO C hp.objs.size) := by heap_get
  have hnx : K.lookup (hp.objs.size + 1) = none := by
    cases e : K.lookup (hp.objs.size + 1) with
    | none => rfl
    | some o =>
      have z : hp.get? (hp.objs.size + 1) = some o := X _ _ e
      exact absurd (Nat.lt_of_succ_lt (Heap.lt_size z)) (Nat.lt_irrefl _)
  have hnC : hp.objs.size + 1 ≠ C := fun z => by
    rw [z, hC] at hnx
    cases hnx
  refine call_own PySem.F.excBase_ValueError (fun X => refsVE_contains X bm hbm) (X _ _ hC) (looks_findIn X T.iC) (fun self => bind_fn X self T.tC) (by rw [hl, sizeLine_eq]; omega) ?_
  refine sx_init (s := ⟨(hp.push (kdv_tup us)).push (excO C hp.objs.size), g, dr, tk, os⟩) T hl hz hdb (X.keeps k) (hlim.keeps k) (hgl.keeps k) ?_ hget hnx hnC ?_ fun h' tk' od t1 S => ?_
  · obtain ⟨mb, b1, b2⟩ := hbl
    exact ⟨mb, b1.keeps k, b2⟩
  · show A.depth + 1 < recursionLimit
    exact hroom
  · have old : ∀ b o, hp.get? b = some o → h'.get? b = some o := fun b o e => S.keep b o (Nat.ne_of_lt (Nat.lt_succ_of_lt (Heap.lt_size e))) (k b o e)
    refine ⟨rfl, hq h' tk' (hp.objs.size + 1) od ⟨old, Nat.le_succ _, ⟨_, S.obj⟩, ?_⟩⟩
    have z := S.dict
    cases od with
    | none => exact z
    | some dx =>
      have y : hp.objs.size + 1 + 1 ≤ dx := by
        first
          | (simpa only [Heap.size_push] using z.2.1)
          | exact z.2.1
          | (have q := z.2.1; rw [Heap.size_push, Heap.size_push] at q; exact q)
      exact ⟨z.1, Nat.le_trans (Nat.le_trans (Nat.le_succ _) (Nat.le_succ _)) y, z.2.2⟩
end
end Fs

namespace Fs
open PySem PySem.Spec PyProof.Rows L2
theorem relO_all : ∀ {ns : List Str} {vs : List V} {us : List Value}, Vals vs us → ∀ (fs : List (Str × V)) (m : Str → Option Value), (∀ f, RelO (fs.lookup f) (m f)) → ∀ f, RelO (((ns.zip vs).foldl (fun r p => p :: r) fs).lookup f) (putAll (ns.zip us) m f)
  | [], vs, us, r, fs, m, h, f => by simpa [putAll] using h f
  | n :: ns, [], us, r, fs, m, h, f => by cases r; simpa [putAll] using h f
  | n :: ns, v :: vs, us, r, fs, m, h, f => by
    cases r with
    | cons rv r =>
      rename_i u us
      show RelO (List.lookup f (List.foldl _ ((n, v) :: fs) (ns.zip vs))) (putAll (ns.zip us) (fun y => if y = n then some u else m y) f)
      exact relO_all r _ _ (fun g => relO_put rv h g) f
/-- the fields of an exception -/
def fldsOf (ns : List Str) (vs : List V) : List (Str × V) := (ns.zip vs).foldl (fun r p => p :: r) []
def mkQ (C : Addr) (ns : List Str) (vs : List V) (H : Hp) (Q : XK) : Prop := match ns with
  | [] => Q (.ref C) none H
  | _ => ∀ d, H d = none → Q (.ref C) (some d) (upd H d (.xd (fldsOf ns vs)))
/-- C(e, ..) -/
def tMkS (C : Addr) (ns : List Str) (ta : TA) : L2.St → Hp → XK → Prop := fun σ H Q => ta σ H fun vs H1 => match decide (vs.length = ns.length) with
  | true => mkQ C ns vs H1 Q
  | false => False
section
variable {X : Cx} {C fI : Addr} {names : List Str} {x : Str} {e : Expr} {es : List Expr} {ta : TA} {p pos : Pos} {k : Nat}
theorem mks_end {pins : List (Addr × Obj)} {σ : L2.St} {H1 : Hp} {Q : XK} {s1 : Shared} {vs : List V} {us : List Value} {h' : Heap} {tk' : Tok} {a : Addr} {od : Option Addr} (T : SxTxt X.prog X.K X.mg C fI names) (I1 : Inv X pins σ H1 s1) (r : Vals vs us) (hl : us.length = names.length)
    (M : SxMade s1.heap h' a C od (names.zip us)) (h : mkQ C names vs H1 Q) : MkP X pins σ Q (.ref a) { s1 with heap := h', toks := tk' } := by
  obtain ⟨hp, g, dr, tk, os⟩ := s1
  obtain ⟨t1, hoe⟩ := M.obj
  have hna : H1 a = none := I1.hok.fresh M.new
  obtain ⟨G', g1, g2⟩ := restrict h' fun b => decide (b ≠ a)
  have gk : ∀ b, b ≠ a → G'.get? b = h'.get? b := fun b hb => g1 b (decide_eq_true hb)
  have ge : G'.get? a = none := g2 a (by simp)
  have old : ∀ b o, hp.get? b = some o → G'.get? b = some o := fun b o q => (gk b (Nat.ne_of_lt (Nat.lt_of_lt_of_le (Heap.lt_size q) M.new))).trans (M.keep b o q)
  have kG : ∀ b o, G'.get? b = some o → h'.get? b = some o := fun b o q => by
    by_cases hb : b = a
    · rw [hb, ge] at q; cases q
    · exact (gk b hb).symm.trans q
  have z := M.dict
  cases od with
  | none =>
    have hn0 : names = [] := by
      cases names with
      | nil => rfl
      | cons n ns =>
        cases us with
        | nil => simp at hl
        | cons u us => cases z
    subst hn0
    exact ⟨a, _, _, ⟨G', g, dr, tk', os⟩, H1, .ref C, none, rfl, I1.kept old, kG, ge, hoe, ⟨rfl, rfl⟩, rfl, rfl, hna, rfl, I1.bare, raises_own T.exC T.tyC, h⟩
  | some d =>
    obtain ⟨dz, dn, dne, hns⟩ := z
    have hnd : H1 d = none := I1.hok.fresh dn
    have q : Q (.ref C) (some d) (upd H1 d (.xd (fldsOf names vs))) := by
      cases names with
      | nil => exact absurd rfl dz
      | cons n ns => exact h d hnd
    have ob : ObjOk X.prog X.w (upd H1 d (.xd (fldsOf names vs))) G' d (.xd (fldsOf names vs)) :=
      ⟨_, hns.at (fun o q => (gk d dne).trans q), fun f => relO_all r [] (fun _ => none) (fun _ => (True.intro : RelO none none)) f⟩
    have J : Inv X pins σ (upd H1 d (.xd (fldsOf names vs))) ⟨G', g, dr, tk', os⟩ := I1.laid (t' := tk') old dn ob
    refine ⟨a, _, _, ⟨G', g, dr, tk', os⟩, _, .ref C, some d, rfl, J, kG, ge, hoe, ⟨rfl, rfl⟩, rfl, rfl, ?_, rfl, I1.bare, raises_own T.exC T.tyC, q⟩
    rw [upd_ne (Ne.symm dne)]
    exact hna
theorem pmk_sx (T : SxTxt X.prog X.K X.mg C fI names) (hm : X.mg x = some (.ref C)) (hr : Room k X.A) (hz : names.length ≤ 800) (hdb : ∀ n ∈ names, (n == ("__debug__" : Str)) = false) (ha : PA X (e :: es) ta) (hg : Gl X x := by rfl) (hd : (x == ("__debug__" : Str)) = false := by decide)
    (he : starEach (e :: es) X.env = (false, eval e X.env) :: starEach es X.env := by rfl) (hpl : (backTo pos (starEach es X.env)).any (·.1) = false := by rfl) : PMk X (.Call (.Name x p) (e :: es) [] pos) (tMkS C names ta) := by
  intro pins s σ H Q I h
  refine wpAny_Call_Name_kw (ld_glob I hg hm ?_ hd)
  refine PySem.W.callWith_K (h₀ := X.base) I.ok.mod.kin T.kC (thn (ha.run pos pins s σ H _ I h) fun us s1 hh => ?_) he hpl
  obtain ⟨vs, H1, I1, r1, q1⟩ := hh
  refine ⟨I1.kIn, ?_⟩
  show wpAny _ _ (call (.ref C) us) _ _ _
  split at q1
  · rename_i hl
    have hl' : us.length = names.length := by rw [← r1.length]; exact of_decide_eq_true hl
    refine wpAny_call (sx_made T hl' hz hdb I1.kIn I1.nolimit (I1.mod.glob.keeps I1.bk) ?_ (by have := hr.dp; omega) fun h' tk' a od M => ?_)
    · obtain ⟨mb, b1, b2⟩ := I1.mod.blt
      exact ⟨mb, b1.keeps I1.bk, b2⟩
    · exact mks_end T I1 r1 hl' M q1
  · exact q1.elim
end
end Fs

namespace Fs
open PySem PySem.Spec PyProof.Rows L2
/-- a caught exception of the class cls with the dict d, at a -/
def EXO (cls : Value) (d : Option Addr) (a : Addr) : HO := .ext fun h => ∃ (oe : Obj) (vs : Array Value), h.get? a = some oe ∧ Zc cls d oe ∧ oe.data = .fields vs
theorem EXO_ne_lst {cls d a xs} : EXO cls d a ≠ .lst xs := fun z => by unfold EXO at z; cases z
theorem EXO_ne_tup {cls d a xs} : EXO cls d a ≠ .tup xs := fun z => by unfold EXO at z; cases z
theorem EXO_ne_own {cls d a x} : EXO cls d a ≠ .own x := fun z => by unfold EXO at z; cases z
theorem exo_okT {P : Program} {w : World} {H : Hp} {h : Heap} {a : Addr} {cls : Value} {d : Option Addr} {oe : Obj} {vs : Array Value} (e : h.get? a = some oe) (z : Zc cls d oe) (hd : oe.data = .fields vs) : ObjOk P w H h a (EXO cls d a) :=
  ⟨⟨oe, vs, e, z, hd⟩, ⟨oe, e⟩, fun _ _ ⟨o, v, q, r⟩ k => ⟨o, v, k o q, r⟩⟩
section
variable {X : Cx} {pins : List (Addr × Obj)} {σ : L2.St} {H : Hp} {s : Shared}
theorem claim {a : Addr} {oe : Obj} {vs : Array Value} {cls : Value} {d : Option Addr} (I : Inv X pins σ H s) (ha : s.heap.get? a = some oe) (hz : Zc cls d oe) (hd : oe.data = .fields vs) (na : H a = none) (n0 : X.s_0.heap.get? a = none) (nL : a ≠ X.env.locals)
    (np : ∀ p ∈ X.pn ++ pins, p.1 ≠ a) : Inv X pins σ (upd H a (EXO cls d a)) s := by
  have ne0 : ∀ b o, X.s_0.heap.get? b = some o → b ≠ a := fun b o e z => by
    rw [z, n0] at e; cases e
  have neS : ∀ b u, H b = some u → b ≠ a := fun b u e => ne_of_none e na
  have ncell : ∀ x c, X.env.cells.lookup x = some c → c ≠ a := fun x c e z => by
    obtain ⟨v, o, ho, hdo⟩ := I.cell x c e
    rw [z, ha] at ho; cases ho
    rw [hd] at hdo; cases hdo
  refine ⟨I.ok, I.os, I.bare, ⟨I.base.keep, I.base.slot, fun b o e n hx => ?_, I.base.there, fun b xs e => ?_, fun b o u e => ?_, fun b ps e => ?_⟩, I.loc, I.cell, ?_, fun x c e => ?_, fun p hp => ?_, fun b u e => ?_, I.len⟩
  · rw [upd_ne (ne0 b o e)]; exact I.base.free b o e n hx
  · have q := I.base.tups b xs e
    rw [upd_ne (neS b _ q)]; exact q
  · have q := I.base.frzs b o u e
    rw [upd_ne (neS b _ q)]; exact q
  · obtain ⟨more, q⟩ := I.base.tbls b ps e
    exact ⟨more, by rw [upd_ne (neS b _ q)]; exact q⟩
  · rw [upd_ne (Ne.symm nL)]; exact I.free
  · rw [upd_ne (ncell x c e)]; exact I.freeC x c e
  · obtain ⟨e, n, r⟩ := I.pin p hp
    exact ⟨e, by rw [upd_ne (np p hp)]; exact n, r⟩
  · by_cases hb : b = a
    · subst hb
      rw [upd_same] at e
      cases e
      exact exo_okT ha hz hd
    · rw [upd_ne hb] at e
      exact (I.hok b u e).stay (fun _ _ _ q => q) (fun c q => by rw [upd_ne (neS c _ q)]; exact q) fun c xs q => by rw [upd_ne (neS c _ q)]; exact q
end
/-- what the clause 'except x as n' wishes of an exception of the body: the exception is known behind the suite, too -/
def wKp (K : PySem.W.Frag) (c : Value) (i : Nat) (ts : Addr → Value → Option Addr → TS) (Wout : WX) (D : Ends) : WX := fun cls d σ H => match PySem.W.exmOne K cls c with
  | some true => ∀ a, H a = none → ts a cls d { nx := fun σ' H' => D.nx (σ'.set i none) (upd H' a (EXO cls d a)), rt := fun v H' => D.rt v (upd H' a (EXO cls d a)), bk := fun σ' H' => D.bk (σ'.set i none) (upd H' a (EXO cls d a)), ct := fun σ' H' => D.ct (σ'.set i none) (upd H' a (EXO cls d a)) } (σ.set i (some (.ref a))) H
  | some false => Wout cls d σ H
  | none => False
section
variable {X : Cx} {x n : Str} {c : Value} {i : Nat} {body suite : List Stmt} {b₀ : Stmt} {np pos pos' : Pos} {tb : WX → TS} {ts : Addr → Value → Option Addr → TS} {Wout : WX}
theorem ps_try_keep (hs : X.stack = X.env :: X.outer) (hf : X.env.frame = some X.env.locals) (hex : X.ex = []) (hN : X.N.Nodup) (hi : X.N[i]? = some n) (hln : X.env.kindOf n = some .local) (hc : Names X x c) (tk : Takes X Wout)
    (hb : ∀ (W : WX) (pn : List (Addr × Obj)) (xe : Value → Shared → Prop), Takes (X.tr pn xe) W → PassesOwn (model X.prog X.w) X.A X.env xe → PSs (X.tr pn xe) body (tb W))
    (hsu : ∀ (a : Addr) (oe : Obj) (cls : Value) (d : Option Addr) (pn : List (Addr × Obj)), Zc cls d oe → (∃ vs, oe.data = .fields vs) → PSs (X.suite a ((a, oe) :: pn)) (b₀ :: suite) (ts a cls d)) :
    PS X (.Try body [.ExceptHandler (some (.Name x np)) (some n) (b₀ :: suite) pos'] [] [] pos) (fun D σ H => tb (wKp X.K c i ts Wout D) D σ H) := by
  refine ⟨fun pins s σ H D I h => ?_⟩
  have ok := I.ok
  have hfr : X.A.frames = some (X.env :: X.outer) := by rw [ok.frames, hs]
  have hloc : Loc X.env.scope n := .inl hln
  refine wpAny_Try_except ?_
  refine wpAny_mono ((hb (wKp X.K c i ts Wout D) (X.pn ++ pins) (fun e s₁ => wpAny (model X.prog X.w) X.A (noteFrame e X.env) (fun _ s₂ => wpAny (model X.prog X.w) X.A (setFlight e none) (fun _ s₃ =>
    wpAny (model X.prog X.w) X.A (handleBy e X.env [.ExceptHandler (some (.Name x np)) (some n) (b₀ :: suite) pos']) (SP X pins D) X.xe s₃) X.xe s₂) X.xe s₁) (fun u s' xx => ?_) PassesOwn.looking).run [] s σ H D (I.toTry _) h) (fun f s1 hsp => ?_) (fun e s1 he => he)
  · obtain ⟨a, B, sI, pins', σ', H', cls, d, rfl, J', nb, up, sky, na, os, ag, hw⟩ := xx
    have J : Inv X pins σ' H' sI := J'.ofTry ok
    have sky' : Sky B (X.env :: X.outer) a (Zc cls d) X.env.locals s'.heap := by rw [← hs]; exact sky
    show wpAny (model X.prog X.w) X.A (noteFrame (.ref a) X.env) _ _ _
    refine Sky.land Zc.steady hfr hf sky' fun h3 fl3 up3 => ?_
    have J3 : Inv X pins σ' H' { s' with heap := h3 } := J.landed nb fl3.1 (up.trans up3) os ag
    obtain ⟨oe3, vs3, he3, hz3, hd3⟩ := fl3.there
    have notFr : ∀ {h : Heap} {o : Obj} {vs : Array Value}, h.FunFrames B (X.env :: X.outer) → h.get? a = some o → o.data = .fields vs → a ∉ frs (X.env :: X.outer) := fun {h o vs} ff e dd hm => by
      obtain ⟨_, o', e', hnf⟩ := ff.mem hm
      rw [e] at e'; cases e'
      exact hnf _ dd
    have nfr := notFr fl3.2.2.1 he3 hd3
    have nL : a ≠ X.env.locals := fun z => nfr (List.mem_filterMap.mpr ⟨X.env, List.mem_cons_self, by rw [hf, z]⟩)
    have nF : a ∉ X.fs := fun hm => by
      obtain ⟨e, he, q⟩ := List.mem_filterMap.mp hm
      exact nfr (List.mem_filterMap.mpr ⟨e, List.mem_cons_of_mem _ he, q⟩)
    have nB : B.get? a = none := fl3.2.1
    have n0 : X.s_0.heap.get? a = none := by
      cases e : X.s_0.heap.get? a with
      | none => rfl
      | some o =>
        obtain ⟨o', e'⟩ := J.base.there a o e (by rw [hex]; exact fun z => nomatch z)
        have z := nb a o' e' (by rw [hs]; exact nfr)
        rw [nB] at z; cases z
    have npin : ∀ p ∈ X.pn ++ pins, p.1 ≠ a := fun p hp z => by
      obtain ⟨e, _, _, _, _⟩ := J.pin p hp
      have y := nb p.1 p.2 e (by rw [z, hs]; exact nfr)
      rw [z, nB] at y; cases y
    have S3 := J3.suite he3 hd3 na nL nF
    refine wpAny_handleBy_cons (codeAny_handlers_test ?_) (by intro q; cases q)
    have LT : PySem.W.Looks (model X.prog X.w) h3 (typeOf (.ref a)) cls := fun A Q E s k q => wpAny_typeOf_ref (k _ _ he3) (by rw [hz3.1]; exact q)
    have test : ∀ {Q : Value → Shared → Prop} {E : Value → Shared → Prop}, Q c { s' with heap := h3 } → wpAny (model X.prog X.w) (X.A.mark (some (.ref a))) (eval (.Name x np) X.env) Q E { s' with heap := h3 } := fun {Q E} q => by
      obtain ⟨hg, hdbg, hm | ⟨hm, hv, hnn⟩⟩ := hc
      · exact ld_glob (X := X.suite a ((a, oe3) :: (X.pn ++ pins))) S3 hg hm q hdbg
      · exact ld_blt (X := X.suite a ((a, oe3) :: (X.pn ++ pins))) S3 hg hm hv q hnn hdbg
    unfold wKp at hw
    cases hb1 : PySem.W.exmOne X.K cls c with
    | none => rw [hb1] at hw; exact hw.elim
    | some b =>
    rw [hb1] at hw
    have LM := PySem.W.exm_one (M := model X.prog X.w) (J3.kIn) LT hb1
    refine test (LM.here ?_)
    cases b with
    | true =>
      refine codeAny_handlers_suite_as ?_
      refine HandSPX.lands_againZ fl3 fun h4 fl4 up4 => ?_
      have J4 : Inv X pins σ' H' { s' with heap := h4 } := J.landed nb fl4.1 ((up.trans up3).trans up4) os ag
      obtain ⟨oe4, vs4, he4, hz4, hd4⟩ := fl4.there
      have S4 := J4.suite he4 hd4 na nL nF
      refine store_ok (X := X.suite a ((a, oe4) :: (X.pn ++ pins))) (v := .ref a) S4 hN hi hloc rfl (fun s5 S5 => ?_) (.inr hln)
      refine wpAny_mono ((hsu a oe4 cls d (X.pn ++ pins) hz4 ⟨_, hd4⟩).run [] s5 _ H' _ S5 (hw a na)) (fun f s6 hsp => ?_) (fun _ _ z => False.elim z)
      have end_ : ∀ {σ6 : L2.St} {H6 : Hp} {Q : Shared → Prop}, Inv (X.suite a ((a, oe4) :: (X.pn ++ pins))) [] σ6 H6 s6 → (∀ s7, Inv X pins (σ6.set i none) (upd H6 a (EXO cls d a)) s7 → Q s7) →
          wpAny (model X.prog X.w) X.A (do bindName X.env n .none; unbindBehindTheSuite X.env n pos') (fun _ s7 => Q s7) X.xe s6 := fun {σ6 H6 Q} S6 hq => by
        obtain ⟨e6, n6, _⟩ := S6.pin (a, oe4) (List.mem_append_left _ List.mem_cons_self)
        exact gone_ok (claim (S6.unsuite ok) e6 hz4 hd4 n6 n0 nL npin) hN hi hln hq
      cases f with
      | next =>
        obtain ⟨σ6, H6, S6, q6⟩ := hsp
        exact end_ S6 fun s7 J7 => ⟨_, _, J7, q6⟩
      | brk =>
        obtain ⟨σ6, H6, S6, q6⟩ := hsp
        exact end_ S6 fun s7 J7 => ⟨_, _, J7, q6⟩
      | cont =>
        obtain ⟨σ6, H6, S6, q6⟩ := hsp
        exact end_ S6 fun s7 J7 => ⟨_, _, J7, q6⟩
      | ret u =>
        obtain ⟨v6, σ6, H6, S6, r6, q6⟩ := hsp
        exact end_ S6 fun s7 J7 => ⟨_, _, _, J7, r6, q6⟩
    | false =>
      show wpAny _ X.A (handleBy (.ref a) X.env []) _ _ _
      refine wpAny_handleBy_nil ?_
      obtain ⟨k1, k2, k3, oe, vs, T, oT, ts', he, hz, hd, h1, hr⟩ := id fl3
      unfold PySem.passOn
      refine wpAny_bind (wpAny_field he hd h1 ?_)
      rw [if_neg (show ¬ ((Value.ref T == Value.none) = true) from by simp)]
      have fin : wpAny (model X.prog X.w) X.A (setFlight (.ref a) X.env.frame) (fun _ s4 => wpAny (model X.prog X.w) X.A (throw (.ref a) : Sem Flow) (SP X pins D) X.xe s4) X.xe { s' with heap := h3 } := by
        rw [hf]
        refine HandSPX.setFlight_upZ fl3 fun h4 hh4 up4 => wpAny_throw (tk _ _ ?_)
        exact ⟨a, B, sI, pins, σ', H', cls, d, rfl, J, nb, (up.trans up3).trans up4, .inr (.inr (by rw [hs]; exact hh4)), na, os, ag, hw⟩
      first
        | exact wpAny_bind (wpAny_pure (wpAny_bind fin))
        | exact wpAny_bind fin
  · cases f with
    | next =>
      obtain ⟨σ', H', J', q⟩ := hsp
      exact wpAny_execs_nil ⟨σ', H', J'.ofTry ok, q⟩
    | brk =>
      obtain ⟨σ', H', J', q⟩ := hsp
      exact ⟨σ', H', J'.ofTry ok, q⟩
    | cont =>
      obtain ⟨σ', H', J', q⟩ := hsp
      exact ⟨σ', H', J'.ofTry ok, q⟩
    | ret u =>
      obtain ⟨v, σ', H', J', r, q⟩ := hsp
      exact ⟨v, σ', H', J'.ofTry ok, r, q⟩
end
/-- e.f, e a caught exception -/
def tXo (K : PySem.W.Frag) (f : Str) (te : TE) : TE := fun σ H Q => te σ H fun x H1 => match x with
  | .ref a => ∃ (C d : Addr) (fs : List (Str × V)), H1 a = some (EXO (.ref C) (some d) a) ∧ H1 d = some (.xd fs) ∧ XfC K C ∧ PySem.W.findIn K (.ref C) f = some none ∧ (match fs.lookup f with | some v => Q v H1 | none => False)
  | _ => False
theorem pe_xo {X : Cx} {e : Expr} {te : TE} {pos : Pos} {n : Str} (he : PE X e te) (hb : attributeBase e n X.env (eval e X.env) = eval e X.env := by rfl) : PE X (.Attribute e n pos) (tXo X.K n te) := by
  refine ⟨fun pins s σ H Q I h => ?_⟩
  refine attr_of hb (thn (he.run pins s σ H _ I h) fun u s1 hh => ?_)
  obtain ⟨x, H1, I1, rx, q⟩ := hh
  split at q
  · rename_i a
    obtain ⟨C, d, fs, ea, ed, T, hno, q⟩ := q
    obtain rfl : u = Value.ref a := rx
    split at q
    · rename_i v l
      obtain ⟨⟨oe, vs, ha, hz, hd⟩, _, _⟩ := (show ObjOk X.prog X.w H1 s1.heap a (EXO (.ref C) (some d) a) from I1.hok a _ ea)
      have hx : ObjOk X.prog X.w H1 s1.heap d (.xd fs) := I1.hok d _ ed
      obtain ⟨mA, hns, hr⟩ := hx
      obtain ⟨od, ho, hl⟩ := lookIn_ns hns
      obtain ⟨u, hu, ru⟩ := RelO.some_of (v := v) (o := mA n) (by rw [← l]; exact hr n)
      have J : PySem.W.InstAt s1.heap a oe C (some od) := ⟨ha, hz.1, by unfold PySem.W.notCls; rw [hd] <;> rfl, by rw [hz.2]; exact ho⟩
      exact HandSPX.exc_get I1.kIn J T.ga T.gg T.exC (PySem.W.findObj_own T.hdC hno rfl (by rw [hl, hu])) (handed_of ru) ⟨v, H1, I1.tok _, ru, q⟩
    · exact q.elim
  · exact q.elim
theorem kit_exc {X : Cx} {pins : List (Addr × Obj)} {σ : L2.St} {H : Hp} {s : Shared} {a C : Addr} {d : Option Addr} (I : Inv X pins σ H s) (T : ExcC X.K C) (ea : H a = some (EXO (.ref C) d a)) (ed : ∀ dd, d = some dd → ∃ fs, H dd = some (.xd fs)) :
    ∃ P : Heap → Prop, PySem.W.KitX X.K (.ref a) (.ref C) P ∧ P s.heap := by
  obtain ⟨⟨oe, vs, ha, hz, hd⟩, _, _⟩ := (show ObjOk X.prog X.w H s.heap a (EXO (.ref C) d a) from I.hok a _ ea)
  have key : ∀ od : Option Obj, PySem.W.InstAt s.heap a oe C od → ∃ P : Heap → Prop, PySem.W.KitX X.K (.ref a) (.ref C) P ∧ P s.heap := fun od J =>
    ⟨fun h => PySem.W.InstAt h a oe C od, {
      ty := fun _ _ _ I => I.type
      it := fun _ _ X _ => by
        obtain ⟨cdD, hcD, _⟩ := PySem.W.any_some T.hd
        unfold PySem.W.clsIn at hcD
        split at hcD
        · rename_i c' d' cd' sl' ho
          intro A' Q' E' s' k q
          unfold isType loadHead
          exact wpAny_bind (wpAny_loadPart (k _ _ (X _ _ ho)) (wpAny_pure q))
        · cases hcD
      ne := fun h tp dd its n sl X htp => by
        obtain ⟨cdD, hcD, _⟩ := PySem.W.any_some T.hd
        refine Bool.eq_false_iff.mpr fun q => ?_
        have e : C = tp := Value.ref.inj (beq_iff_eq.mp q)
        subst e
        unfold PySem.W.clsIn at hcD
        split at hcD
        · rename_i c' d' cd' sl' ho
          have z := (X _ _ ho).symm.trans htp
          cases z
        · cases hcD
      ca := fun X I k => PySem.W.kx_classE X I T.hg T.hk T.hs (PySem.W.findObj_dataE (by obtain ⟨cd, hc, _⟩ := PySem.W.any_some T.hd; rw [hc]; rfl) T.ha T.hn T.ht) T.hm k }, J⟩
  cases d with
  | none => exact key none ⟨ha, hz.1, by unfold PySem.W.notCls; rw [hd] <;> rfl, by rw [hz.2]; trivial⟩
  | some dd =>
    obtain ⟨fs, e2⟩ := ed dd rfl
    obtain ⟨mA, hns, hr⟩ := (show ObjOk X.prog X.w H s.heap dd (.xd fs) from I.hok dd _ e2)
    obtain ⟨od, ho, hl⟩ := lookIn_ns hns
    exact key (some od) ⟨ha, hz.1, by unfold PySem.W.notCls; rw [hd] <;> rfl, by rw [hz.2]; exact ho⟩
/-- isinstance(e, c), e a caught exception, c a class or a tuple of such -/
def mIsx (K : PySem.W.Frag) : List V → Hp → VK → Prop := fun xs H Q => match xs with
  | [.ref a, c] => ∃ (C : Addr) (d : Option Addr), H a = some (EXO (.ref C) d a) ∧ ExcC K C ∧ (∀ dd, d = some dd → ∃ fs, H dd = some (.xd fs)) ∧ (match c with
    | .ref t => (match H t with
      | some (.tup cs) => ∃ us b, clsOfs cs = some us ∧ PySem.W.kitAny K (.ref C) us = some b ∧ Q (.bl b) H
      | _ => ∃ b, PySem.W.kitOne K (.ref C) (.ref t) = some b ∧ Q (.bl b) H)
    | .ty m => ∃ b, PySem.W.kitOne K (.ref C) (.type m) = some b ∧ Q (.bl b) H
    | _ => False)
  | _ => False
theorem call_mIsx {X : Cx} : CallR X (.builtin "isinstance") (mIsx X.K) := by
  intro pins s σ H xs us Q I r h
  unfold mIsx at h
  split at h
  · rename_i a c
    obtain ⟨C, d, ea, T, ed, h⟩ := h
    obtain ⟨u1, u2, rfl, r1, r2⟩ := vals2 r
    obtain rfl : u1 = Value.ref a := r1
    obtain ⟨P, Z, p⟩ := kit_exc I T ea ed
    split at h
    · rename_i t
      obtain rfl : u2 = Value.ref t := r2
      split at h
      · rename_i cs hT
        obtain ⟨ws, b, k, e, q⟩ := h
        obtain ⟨_, its, rv, o, h1, h2, n, h3⟩ := (show ObjOk X.prog X.w H s.heap t (.tup cs) from I.hok t _ hT)
        have e3 := ClsV.all (clsOfs_v k) rv
        subst e3
        obtain ⟨oc, od, dt, sl⟩ := o
        simp only at h2 h3
        subst h2 h3
        exact PySem.W.kia_tup Z I.kIn p h1 e (fun z => nomatch z) fun tk => ⟨.bl b, H, I.tok tk, rfl, q⟩
      · obtain ⟨b, e, q⟩ := h
        exact PySem.W.kia_one Z I.kIn p e (fun z => nomatch z) fun tk => ⟨.bl b, H, I.tok tk, rfl, q⟩
    · rename_i m
      obtain ⟨b, e, q⟩ := h
      obtain rfl : u2 = Value.type m := r2
      exact PySem.W.kia_one Z I.kIn p e (fun z => nomatch z) fun tk => ⟨.bl b, H, I.tok tk, rfl, q⟩
    · exact h.elim
  · exact h.elim
end Fs

namespace Fs
open PySem PySem.Spec PyProof.Rows L2
open LamX (CodeO Tabs TabS ExtN TabB LamS lamCx lamEnv)
/-- x() of the lambda at f, whose code object is at cl; tl: the lambda's reading, told at the maker's slots -/
def tAct (f cl : Addr) (q : Str) (tl : XK → Hp → VK → Prop) (W : WX) : TE := fun σ H Q => σ[0]? = some (some (.ref f)) ∧ H cl = some (CodeO cl q) ∧ tl (WE W σ) H Q
abbrev hearCx (X : Cx) (Ng : List Str) (x : Str) (sg : Scope) (g : Addr) (cdg : Value) (s : Shared) (H : Hp) : Cx := cxOf C8.CX0 X.prog X.w X.K X.mg X.base Ng x sg g cdg X.A X.stack s H C8.E0
section
variable {X : Cx} {pins : List (Addr × Obj)} {σ : L2.St} {H : Hp} {s : Shared}
theorem pe_actS {Ng : List Str} {x : Str} {sg : Scope} {g f cl : Addr} {cdg pm ctv : Value} {params : Arguments} {body : Expr} {scope : Scope} {k : Nat} {a : Str} {pn : List (Addr × Obj)} {xe : Value → Shared → Prop} {W : WX} {tb : XK → TE} {p1 p2 : Pos}
    (I : Inv X pins σ H s) (L : LamS X.env.scope scope)
    (hf : s.heap.get? f = some (PySem.W.kla_obj "<lambda>" (X.env.qual ++ "<lambda>") params body scope (cloFrom X.env.cells scope.names []) pm cl ctv)) (fn : H f = none) (fr : f ∉ frs X.stack)
    (hbind : bindArgs (PySem.W.kla_fn "<lambda>" (X.env.qual ++ "<lambda>") params body scope (cloFrom X.env.cells scope.names []) pm (.ref cl) ctv) ⟨[], []⟩ = pure [])
    (tk : Takes ((hearCx X Ng x sg g cdg s H).tr pn xe) W) (hr : Room (k + 1) (X.A.deeper (envOfC x sg s.heap.objs.size g cdg)))
    (hbody : ∀ (A : Around) (outer : List Env) (sb : Shared) (Hb : Hp) (E : XK), Room k (A.deeper (lamEnv X scope sb.heap.objs.size f cl)) → PE (lamCx X A outer sb Hb E scope f cl) body (tb E))
    (hN : Ng[0]? = some a) (hv : Vis sg a) (hd : (a == ("__debug__" : Str)) = false := by decide) (hcd : (a == ("__classdict__" : Str)) = false := by decide) :
    PE ((hearCx X Ng x sg g cdg s H).tr pn xe) (.Call (.Name a p1) [] [] p2) (tAct f cl (X.env.qual ++ "<lambda>") (fun E HZ Q => tb E σ HZ Q) W) := by
  refine ⟨fun pinsZ sZ σZ HZ Q IZ h => ?_⟩
  obtain ⟨h0, hc, ht⟩ := h
  have hvar := (pe_var (X := (hearCx X Ng x sg g cdg s H).tr pn xe) (pos := p1) (i := 0) hN hv hd hcd).run pinsZ sZ σZ HZ (fun v H1 => v = .ref f ∧ H1 = HZ) IZ ⟨.ref f, h0, rfl, rfl⟩
  refine wpAny_Call_Name_kw (thn hvar fun u s1 hu => ?_)
  obtain ⟨v, H1, I1, r1, ev, eH⟩ := hu
  rw [eH] at I1
  rw [ev] at r1
  have eu : u = Value.ref f := r1
  rw [eu]
  have of1 := I1.base.keep f _ hf fn fr (fun z => nomatch (show f ∈ ([] : List Addr) from z))
  refine PySem.W.callWith_F0 ⟨_, _, _, _, of1⟩ ?_
  have un : Un (frs X.stack) [] H HZ s.heap s1.heap := I1.base
  obtain ⟨⟨oc, vs, t, hoc, hdc, hvc⟩, _, _⟩ := I1.hok cl _ hc
  have run : codeAny (model X.prog X.w) (X.A.deeper (envOfC x sg s.heap.objs.size g cdg)) (.call (.ref f) ⟨[], []⟩) (CR (L2.CX X.prog X.w) (envOfC x sg s.heap.objs.size g cdg :: X.stack) X.prog X.w HZ s1 Q (WE W σZ)) s1 := by
    refine PySem.W.kla_callFunE hr.depth of1 rfl L.co L.gen rfl ⟨cl, oc, vs, t, rfl, hoc, hdc, hvc⟩ ?_
    rw [hbind]
    refine wpAny_pure (wpAny_newFunctionEnv (fun y hy => (L.own y hy).2) (fun y hy => absurd hy (by simp)) (fun hz hns hsb => ?_) L.kind)
    refine ⟨I1.nolimit.fresh _ hsb, ?_⟩
    show codeAny _ _ (.expr body (lamEnv X scope s1.heap.objs.size f cl)) _ _
    have kp : ∀ b o, s1.heap.get? b = some o → hz.get? b = some o := fun b o e => hsb.extBut b o (Nat.ne_of_lt (Heap.lt_size e)) (Heap.get?_push_of_some _ e)
    have J := LamX.lam_start2 (E := WE W σZ) (f := f) (c' := cl) (tk := s1.toks + ([] : List (Str × Value)).length) I L I1.env0 hr.hd un hns kp
    refine PySem.W.kla_codeExpr (wpAny_mono ((hbody _ _ s1 HZ (WE W σZ) (hr.deeper _)).run [] _ _ HZ Q J ht) (fun v s' hq => ?_) fun e s' hq => hq)
    obtain ⟨y, H2, J2, rv, q⟩ := hq
    exact ⟨y, H2, J2.os, J2.bare, J2.base, J2.hok, rv, q⟩
  have hx := passAt tk σZ
  refine wpAny_call (codeAny_mono run fun r s' hq => ?_)
  match r, hq with
  | .error e, hq => exact hx pinsZ HZ s1 e s' I1 hq
  | .ok (.ret u), hq => exact I1.after hq
  | .ok .next, hq => exact False.elim hq
  | .ok .brk, hq => exact False.elim hq
  | .ok .cont, hq => exact False.elim hq
end
/-- from H to H1 where a lambda of the name q is made: nothing new but a code object at cl, perhaps; the table told of it -/
def LamTo (T : List (Addr × Str)) (q : Str) (H H1 : Hp) (cl : Addr) : Prop := H1 cl = some (CodeO cl q) ∧ Tabs T H1 ∧ (H1 = H ∨ ∃ (P : Addr) (ps more : Array Value), (P, q) ∈ T ∧ H P = some (.tbl ps) ∧ H cl = none ∧ H1 = upd (upd H P (.tbl (ps ++ more))) cl (CodeO cl q))
section
variable {X : Cx} {pins : List (Addr × Obj)} {σ : L2.St} {H : Hp} {s : Shared}
theorem lam_made {T : List (Addr × Str)} {c P : Addr} {params : Arguments} {body : Expr} {scope : Scope} {pos : Pos} {E : Value → Shared → Prop} {Q : Value → Shared → Prop} (I : Inv X pins σ H s) (TB : TabB X.base X.mg c P) (hcode : X.env.code = .ref c)
    (hm : (P, X.env.qual ++ "<lambda>") ∈ T) (hu : ∀ p ∈ T, p.1 = P → p.2 = X.env.qual ++ "<lambda>") (hT : Tabs T H) (hdef : defaultsOf params X.env = ([], [])) (hfree : ∀ y ∈ scope.names, y.2 = .free → ∃ c, X.env.cells.lookup y.1 = some c)
    (h : ∀ (f cl : Addr) (pm ctv : Value) (H1 : Hp) (s1 : Shared), Inv X pins σ H1 s1 → LamTo T (X.env.qual ++ "<lambda>") H H1 cl →
      s1.heap.get? f = some (PySem.W.kla_obj "<lambda>" (X.env.qual ++ "<lambda>") params body scope (cloFrom X.env.cells scope.names []) pm cl ctv) → H1 f = none → f ∉ frs X.stack → Q (.ref f) s1) :
    wpAny (model X.prog X.w) X.A (eval (.Lambda params body scope pos) X.env) Q E s := by
  obtain ⟨ps, hP, ht, ha⟩ := hT _ hm
  refine PySem.W.kla_eval hdef ?_
  have atP : s.heap.get? P = some { cls := .none, data := .fields ps } := I.hok P _ hP
  have young : ∀ f, s.heap.objs.size ≤ f → f ∉ frs X.stack := fun f hf z => (List.mem_cons.mp (I.stkSub _ z)).elim (fun e => by
    have l := I.lt
    rw [← e] at l
    exact absurd (Nat.lt_of_lt_of_le l hf) (Nat.lt_irrefl _)) (I.nofs hf)
  match hc : codeAmong pos ps.toList with
  | some cv =>
    obtain ⟨cl, e, hco⟩ := ha pos cv hc
    cases e
    refine PySem.W.kla_makeFunctionHit (mg := X.mg) (c := c) (P := P) (ps := ps) (closure_ok hfree) I.ok.glob (I.mod.glob.keeps I.bk) hcode (TB.code.keeps I.bk) atP ht hc (TB.bm.keeps I.bk) fun ctv hz tk hx hsz => ?_
    refine h hz.objs.size cl ((X.mg "__name__").getD .none) ctv H _ (I.kept (t' := tk) fun b o e => Heap.get?_push_of_some _ (hx b o e)) ⟨hco, hT, .inl rfl⟩ (Heap.get?_push_size _ rfl) (I.hok.fresh hsz) (young _ hsz)
  | none =>
    refine PySem.W.kla_makeFunction (mg := X.mg) (c := c) (P := P) (ps := ps) (closure_ok hfree) I.ok.glob (I.mod.glob.keeps I.bk) hcode (TB.code.keeps I.bk) atP ht hc TB.gP (TB.bm.keeps I.bk) fun cl ctv hz tk hx hge hlt hrec htb => ?_
    obtain ⟨c2, oc, vs, t, e2, hoc, hd, hv⟩ := hrec
    cases e2
    have hsz : s.heap.objs.size ≤ hz.objs.size := Nat.le_trans hge (Nat.le_of_lt hlt)
    have nC : H cl = none := I.hok.fresh hge
    have kept : ∀ b o, H b = some o → (∀ ps, o ≠ .tbl ps) → (upd (upd H P (.tbl (ps ++ #[rawInt pos.line, rawInt pos.col, .ref cl]))) cl (CodeO cl (X.env.qual ++ "<lambda>"))) b = some o := fun b o e n => by
      rw [upd_ne (ne_of_none e nC), upd_ne (fun z => n ps (Option.some.inj (e.symm.trans (by rw [z]; exact hP))))]
      exact e
    refine h hz.objs.size cl ((X.mg "__name__").getD .none) ctv _ _ (LamX.inv_table (t' := tk) (q := X.env.qual ++ "<lambda>") (more := #[rawInt pos.line, rawInt pos.col, .ref cl]) (h' := hz.push (PySem.W.kla_obj "<lambda>" (X.env.qual ++ "<lambda>") params body scope (cloFrom X.env.cells scope.names []) ((X.mg "__name__").getD .none) cl ctv)) I hP
      (fun b o hb e => Heap.get?_push_of_some _ (hx b o hb e)) (Heap.get?_push_of_some _ htb) hge ⟨oc, vs, t, Heap.get?_push_of_some _ hoc, hd, hv⟩) ⟨upd_same, fun p hp => ?_, .inr ⟨P, ps, _, hm, hP, nC, rfl⟩⟩ (Heap.get?_push_size _ rfl) ?_ (young _ hsz)
    · have toL : (ps ++ #[rawInt pos.line, rawInt pos.col, .ref cl]).toList = ps.toList ++ [rawInt pos.line, rawInt pos.col, .ref cl] := by simp
      by_cases hb : p.1 = P
      · rw [hu p hp hb, hb]
        refine ⟨_, by rw [upd_ne (ne_of_none hP nC), upd_same], by rw [toL]; exact PySem.TriplesOk_snoc _ _ _ _ ht, fun p2 cv hcv => ?_⟩
        rw [toL] at hcv
        rcases LamX.among_app _ ht hcv with z | z
        · obtain ⟨c0, e1, e2⟩ := ha p2 cv z
          exact ⟨c0, e1, kept _ _ e2 LamX.codeO_ne⟩
        · exact ⟨cl, z, upd_same⟩
      · obtain ⟨qs, a1, a2, a3⟩ := hT p hp
        refine ⟨qs, by rw [upd_ne (ne_of_none a1 nC), upd_ne hb]; exact a1, a2, fun p2 cv hcv => ?_⟩
        obtain ⟨c0, e1, e2⟩ := a3 p2 cv hcv
        exact ⟨c0, e1, kept _ _ e2 LamX.codeO_ne⟩
    · rw [upd_ne (Nat.ne_of_gt hlt), upd_ne (Nat.ne_of_gt (Nat.lt_of_lt_of_le (Heap.lt_size atP) hsz))]
      exact I.hok.fresh hsz
end
/-- the def x (of one parameter a) whose body is bg reads as rd, whatever lambda it gets -/
def Hears (X : Cx) (k : Nat) (Ng : List Str) (x : Str) (sg : Scope) (g : Addr) (cdg : Value) (bg : List Stmt) (a : Str) (rd : Addr → Addr → Str → (XK → Hp → VK → Prop) → TS) : Prop :=
  ∀ (f cl : Addr) (q : Str) (tl : XK → Hp → VK → Prop) (s : Shared) (H : Hp), Room k (X.A.deeper (envOfC x sg s.heap.objs.size g cdg)) →
    (∀ (W : WX) (pn : List (Addr × Obj)) (xe : Value → Shared → Prop) (p1 p2 : Pos), Takes ((hearCx X Ng x sg g cdg s H).tr pn xe) W → PE ((hearCx X Ng x sg g cdg s H).tr pn xe) (.Call (.Name a p1) [] [] p2) (tAct f cl q tl W)) →
    PSs (hearCx X Ng x sg g cdg s H).nox bg (rd f cl q tl)
/-- x(lambda: e) -/
def tHear (T : List (Addr × Str)) (q : Str) (Ng : List Str) (rd : Addr → Addr → Str → (XK → Hp → VK → Prop) → TS) (t : XK → TE) : TE := fun σ H Q => Tabs T H ∧
  ∀ (f cl : Addr) (H1 : Hp), LamTo T q H H1 cl → rd f cl q (fun E H2 Q2 => t E σ H2 Q2) { nx := fun _ H2 => Q .non H2, rt := Q } (L2.start Ng [.ref f]) H1
section
variable {X : Cx}
theorem pe_hear {T : List (Addr × Str)} {rd : Addr → Addr → Str → (XK → Hp → VK → Prop) → TS} {x a : Str} {g c P : Addr} {k : Nat} {st : Stmt} {fd : FuncData} {Ng : List Str} {params : Arguments} {body : Expr} {scope : Scope} {t : XK → TE} {p lpos pos : Pos}
    (F : Fun X.K x x st g fd) (hm : X.mg x = some (.ref g)) (S : FnScope Ng [a] (defScope st)) (hb : L2.Binds X.K fd [a] []) (hNg : Ng[0]? = some a) (hva : Vis (defScope st) a)
    (hG : ∀ cdg, Hears X (k + 1) Ng x (defScope st) g cdg (defBody st) a rd)
    (TB : TabB X.base X.mg c P) (hcode : X.env.code = .ref c) (hmT : (P, X.env.qual ++ "<lambda>") ∈ T) (hu : ∀ p ∈ T, p.1 = P → p.2 = X.env.qual ++ "<lambda>") (hr : Room (k + 2) X.A) (L : LamS X.env.scope scope) (hdef : defaultsOf params X.env = ([], []))
    (hbind : ∀ (q : Str) (cl : List (Str × Addr)) (pm cv ctv : Value), bindArgs (PySem.W.kla_fn "<lambda>" q params body scope cl pm cv ctv) ⟨[], []⟩ = pure [])
    (hbody : ∀ (A : Around) (outer : List Env) (s : Shared) (H : Hp) (E : XK) (f cl : Addr), Room k (A.deeper (lamEnv X scope s.heap.objs.size f cl)) → PE (lamCx X A outer s H E scope f cl) body (t E))
    (hg : Gl X x := by rfl) (hdb : (x == ("__debug__" : Str)) = false := by decide) (hd : (a == ("__debug__" : Str)) = false := by decide) (hcd : (a == ("__classdict__" : Str)) = false := by decide) :
    PE X (.Call (.Name x p) [.Lambda params body scope lpos] [] pos) (tHear T (X.env.qual ++ "<lambda>") Ng rd t) := by
  obtain ⟨oc, od, kV, doc, pm, an, cdv, ct, osl, rfl, lk, hcd2⟩ := F.ex
  refine ⟨fun pins s σ H Q I h => ?_⟩
  obtain ⟨hT, h⟩ := h
  refine wpAny_Call_Name_kw (ld_glob I hg hm ?_ hdb)
  refine PySem.W.callWith_K I.ok.mod.kin F.kp ?_ (by rfl) (by rfl)
  show wpAny _ _ (spliced ((false, eval (.Lambda params body scope lpos) X.env) :: backTo pos (starEach [] X.env))) _ _ s
  refine Calls.spliced_cons (lam_made I TB hcode hmT hu hT hdef (L.has I.ok) fun f cl pm2 ctv H1 s1 I1 lt hf fn fr => ?_)
  refine Calls.spliced_nil ⟨I1.kIn, ?_⟩
  have run : codeAny (model X.prog X.w) X.A (.call (.ref g) ⟨[.ref f], []⟩) (CR C8.CX0 X.stack X.prog X.w H1 s1 Q C8.E0) s1 := by
    refine LamX.run_ofS (N := Ng) (ps := [a]) (us := [.ref f]) (vs := [.ref f]) lk hcd2 S hr I1.env0 (hb s1 [.ref f] I1.kIn rfl) (.cons rfl .nil) rfl fun hr1 => ?_
    have hP := hG cdv f cl (X.env.qual ++ "<lambda>") (fun E H2 Q2 => t E σ H2 Q2) s1 H1 hr1 fun W pn xe p1 p2 tk =>
      pe_actS I1 L hf fn fr (hbind _ _ _ _ _) tk hr1 (fun A outer sb Hb E hr2 => hbody A outer sb Hb E f cl hr2) hNg hva hd hcd
    exact ⟨_, hP.nox, h f cl H1 lt⟩
  refine wpAny_call (codeAny_mono run fun r s2 hq => ?_)
  match r, hq with
  | .error e, hq => exact (show False from hq).elim
  | .ok (.ret u), hq => exact I1.after hq
  | .ok .next, hq => exact False.elim hq
  | .ok .brk, hq => exact False.elim hq
  | .ok .cont, hq => exact False.elim hq
end
end Fs

namespace Fs
open PySem PySem.Spec PyProof.Rows L2
theorem Held_but {B h h2 : Heap} {l : List Env} {a L C : Addr} {Z : Obj → Prop} {m m2 : Str → Option Value} (x : HandSPX.HeldZ B l a Z L h) (hn : h.Ns C m) (hn2 : h2.Ns C m2) (sb : Heap.SameBut C h h2) (nC : B.get? C = none) : HandSPX.HeldZ B l a Z L h2 := by
  obtain ⟨f1, f2, f3, oe, vs, T, oT, ts, he, hz, hd, h1, hnT, hTe, hT, hdT, h3⟩ := x
  obtain ⟨oC, es, ep, hC, hdC, _⟩ := hn
  have nf : ∀ {b : Addr} {o : Obj} {us : Array Value}, h.get? b = some o → o.data = .fields us → b ≠ C := fun {b o us} e q z => by
    rw [z, hC] at e
    cases e
    rw [hdC] at q
    cases q
  refine ⟨fun b o e => (sb.2 b fun z => ?_).trans (f1 b o e), f2, Heap.FunFrames.sameBut sb hn2 f3, oe, vs, T, oT, ts, (sb.2 a (nf he hd)).trans he, hz, hd, h1, hnT, hTe, (sb.2 T (nf hT hdT)).trans hT, hdT, h3⟩
  rw [z, nC] at e
  cases e
section
variable {X : Cx}
/-- what a block hands on of an exception out of a call -/
theorem blk_fails {EB : XK} {pins : List (Addr × Obj)} {σ : L2.St} {H3 : Hp} {s3 : Shared} {scope : Scope} {cl : List (Str × Addr)} {fp : List Addr} {R : Value → Shared → Prop} (hs : X.stack = X.env :: X.outer) (hf : X.env.frame = some X.env.locals)
    (tk : Takes X (fun cls d _ H => EB cls d H)) (I3 : Inv X pins σ H3 s3) (f3 : ∀ b ∈ fp, FpOk X pins H3 b ∧ b < s3.heap.objs.size) :
    ∀ (pb : List (Addr × Obj)) (σb : L2.St) (HB : Hp) (sB : Shared) (e : Value) (s' : Shared), Inv ((X.blk s3 H3 scope (compEnvC scope cl s3.heap.objs.size X.env) fp).wish R) pb σb HB sB → L2.CX X.prog X.w X.stack HB sB EB e s' →
      notedBy (model X.prog X.w) X.A (compEnvC scope cl s3.heap.objs.size X.env) (CompFails (model X.prog X.w) X.A X.xe (compEnvC scope cl s3.heap.objs.size X.env)) e s' := by
  intro pb σb HB sB e s' IB c
  obtain ⟨a, B, H2, cls, d, rfl, fl, hok, ub, na, os, ag, hE⟩ := c
  generalize hC : s3.heap.objs.size = C at IB ⊢
  have hfr : X.A.frames = some (X.env :: X.outer) := by rw [I3.ok.frames, hs]
  have nCst : C ∉ frs X.stack := fun hm => by
    obtain ⟨_, o, e, _⟩ := I3.stack.mem hm
    have := Heap.lt_size e
    rw [hC] at this
    exact Nat.lt_irrefl _ this
  obtain ⟨mB, hnB, _⟩ := IB.loc
  have hnB : sB.heap.Ns C mB := hnB
  have fC : HB C = none := IB.free
  obtain ⟨oB, esB, epB, hoB, hdB, hrB⟩ := id hnB
  have f2C : H2 C = none := ub.free C oB hoB fC
  have keepC : B.get? C = some oB := ub.keep C oB hoB fC nCst
  obtain ⟨B2, b1, b2⟩ := restrict B fun b => decide (b ≠ C)
  have bC : B2.get? C = none := b2 C (by simp)
  have bk : ∀ b, b ≠ C → B2.get? b = B.get? b := fun b hb => b1 b (decide_eq_true hb)
  have bs : ∀ b o, B2.get? b = some o → B.get? b = some o := fun b o e => by
    by_cases hb : b = C
    · rw [hb, bC] at e; cases e
    · rw [← bk b hb]; exact e
  have fl2 : HandSPX.FlyingZ B2 (X.env :: X.outer) a (Zc cls d) s'.heap := by
    obtain ⟨x1, x2, x3, oe, vs, T, oT, ts, he, hz, hd, h1, hnT, r⟩ := fl
    have nn : ∀ b, B.get? b = none → B2.get? b = none := fun b e => by
      cases q : B2.get? b with
      | none => rfl
      | some o => rw [bs b o q] at e; cases e
    rw [← hs]
    refine ⟨fun b o e => x1 b o (bs b o e), nn a x2, funFrames_none x3 fun b hb => nn b (x3.mem hb).1, oe, vs, T, oT, ts, he, hz, hd, h1, nn T hnT, r⟩
  show wpAny _ _ (noteFrame (.ref a) _) _ _ s'
  rw [noteFrame_env (.ref a) (show (compEnvC scope cl C X.env).frame = X.env.frame from rfl)]
  refine HandSPX.looks_onZ Zc.steady hfr hf fl2 fun h3 held3 up3 => ?_
  have hn3 : h3.Ns C mB := Heap.Ns.upToSlots (show s'.heap.Ns C mB from ⟨oB, esB, epB, fl.1 C oB keepC, hdB, hrB⟩) up3
  refine ⟨mB, hn3, fun h4 m4 hn4 sb4 => ?_⟩
  have held4 := Held_but held3 hn3 hn4 sb4 bC
  unfold PySem.passOn
  obtain ⟨_, _, _, oe, vs, T, oT, ts, he, hz, hd, h1, _⟩ := id held4
  refine wpAny_bind (wpAny_field he hd h1 ?_)
  rw [if_neg (show ¬ ((Value.ref T == Value.none) = true) from by simp)]
  have fin : wpAny (model X.prog X.w) X.A (setFlight (.ref a) (compEnvC scope cl C X.env).frame) (fun _ s5 => wpAny (model X.prog X.w) X.A (throw (.ref a) : Sem Value) (fun _ _ => False) X.xe s5) X.xe { s' with heap := h4 } := by
    rw [show (compEnvC scope cl C X.env).frame = some X.env.locals from hf]
    refine HandSPX.setFlight_onZ held4 fun h5 held5 up5 => wpAny_throw (tk _ _ ?_)
    obtain ⟨G, g1, g2⟩ := restrict s'.heap fun b => (B2.get? b).isSome || decide (b ∈ frs X.stack)
    have gB : ∀ b o, B2.get? b = some o → G.get? b = some o := fun b o e => by
      rw [g1 b (by simp [e])]
      exact fl2.1 b o e
    have gF : ∀ b, b ∈ frs X.stack → G.get? b = s'.heap.get? b := fun b hb => g1 b (by simp [hb])
    have og : ∀ b o, G.get? b = some o → s'.heap.get? b = some o ∧ ((B2.get? b).isSome = true ∨ b ∈ frs X.stack) := fun b o e => by
      cases q : ((B2.get? b).isSome || decide (b ∈ frs X.stack)) with
      | false => rw [g2 b q] at e; cases e
      | true =>
        rw [g1 b q] at e
        exact ⟨e, by simpa [Bool.or_eq_true] using q⟩
    have gC : ∀ b o, G.get? b = some o → b ≠ C := fun b o e z => by
      rcases (og b o e).2 with q | q
      · rw [z, bC] at q; cases q
      · rw [z] at q; exact nCst q
    have lt3 : ∀ b o, s3.heap.get? b = some o → b ≠ C := fun b o e z => by
      have := Heap.lt_size e
      rw [z, ← hC] at this
      exact Nat.lt_irrefl _ this
    have UB0 : Un (frs X.stack) fp H3 HB s3.heap sB.heap := IB.base
    have U : Un (frs X.stack) fp H3 H2 s3.heap G := {
      keep := fun b o e n hb hx => gB b o ((bk b (lt3 b o e)).trans (ub.keep b o (UB0.keep b o e n hb hx) (UB0.free b o e n hx) hb))
      slot := fun b o e n hb hx => by
        obtain ⟨sl, e1⟩ := UB0.slot b o e n hb hx
        obtain ⟨sl2, e2⟩ := ub.slot b _ e1 hb
        exact ⟨sl2, by rw [gF b hb]; exact e2⟩
      free := fun b o e n hx => by
        obtain ⟨o2, e2⟩ := UB0.there b o e hx
        exact ub.free b o2 e2 (UB0.free b o e n hx)
      there := fun b o e hx => by
        obtain ⟨o2, e2⟩ := UB0.there b o e hx
        by_cases hb : b ∈ frs X.stack
        · obtain ⟨sl, e3⟩ := ub.slot b o2 e2 hb
          exact ⟨_, (gF b hb).trans e3⟩
        · obtain ⟨o3, e3⟩ := ub.there b o2 e2 hb
          exact ⟨o3, gB b o3 ((bk b (lt3 b o e)).trans e3)⟩
      tups := fun b xs e => ub.tups b xs (UB0.tups b xs e)
      frzs := fun b o u e => ub.frzs b o u (UB0.frzs b o u e)
      tbls := fun b ps e => by
        obtain ⟨m1, e1⟩ := UB0.tbls b ps e
        obtain ⟨m2, e2⟩ := ub.tbls b _ e1
        exact ⟨m1 ++ m2, by rw [e2]; simp [Array.append_assoc]⟩ }
    have hokG : HOk X.prog X.w H2 G := fun b o q => (hok b o q).stay (fun c u hc e => gB c u ((bk c fun z => by
        rcases hc with hc | hc
        · rw [← hc, z, f2C] at q; cases q
        · rw [z, f2C] at hc; cases hc).trans e)) (fun _ y => y) fun _ _ y => y
    have J : Inv X pins σ H2 { s' with heap := G } := I3.call' (ch := fp) (os.trans IB.os) U hokG ag fun b hb => ⟨(f3 b hb).1.2.2.2.1, (f3 b hb).1.2.1, (f3 b hb).1.2.2.2.2.1, (f3 b hb).1.2.2.2.2.2⟩
    refine ⟨a, B2, { s' with heap := G }, pins, σ, H2, cls, d, rfl, J, fun b o e hb => ?_, fun b o e hnf => ?_, .inr (.inr (by rw [hs]; exact held5)), na, rfl, ag, hE⟩
    · obtain ⟨e1, q⟩ := og b o e
      rcases q with q | q
      · obtain ⟨o2, q2⟩ := Option.isSome_iff_exists.mp q
        have z := fl2.1 b o2 q2
        rw [e1] at z
        cases z
        exact q2
      · exact absurd q hb
    · obtain ⟨sl1, e1⟩ := up3 b o (og b o e).1 hnf
      obtain ⟨sl2, e2⟩ := up5 b _ ((sb4.2 b (gC b o e)).trans e1) hnf
      exact ⟨sl2, e2⟩
  first
    | exact wpAny_bind (wpAny_pure (wpAny_bind fin))
    | exact wpAny_bind fin
/-- the context of a block whose exceptions are wished for by R -/
abbrev blkW (X : Cx) (s : Shared) (H : Hp) (scope : Scope) (cl : List (Str × Addr)) (C : Addr) (fp : List Addr) (R : Value → Shared → Prop) : Cx := (X.blk s H scope (compEnvC scope cl C X.env) fp).wish R
/-- [elt for tg in iter if ..], elt may raise as EB says -/
theorem pe_lcR {EB : XK} {elt tg iter : Expr} {ifs : List Expr} {scope : Scope} {own : List (Str × Nat)} {pos : Pos} {wi : TI} {g : TG} {tt : TT} {te : TE} (hst : X.stack = X.env :: X.outer) (hf : X.env.frame = some X.env.locals) (tk : Takes X (fun cls d _ H => EB cls d H)) (hc : X.calm = true) (hN : X.N.Nodup)
    (hi : PI X tg iter wi) (ok : BlkOk X.N X.env.scope scope own)
    (hg : ∀ (s : Shared) (H : Hp) (C : Addr) (cl : List (Str × Addr)) (fp : List Addr) (R : Value → Shared → Prop), PG (blkW X s H scope cl C fp R) tg g)
    (ht : ∀ (s : Shared) (H : Hp) (C : Addr) (cl : List (Str × Addr)) (fp : List Addr) (R : Value → Shared → Prop), PTs (blkW X s H scope cl C fp R) ifs tt)
    (he : ∀ (s : Shared) (H : Hp) (C : Addr) (cl : List (Str × Addr)) (fp : List Addr) (R : Value → Shared → Prop), Passes (L2.CX X.prog X.w) (blkW X s H scope cl C fp R) EB → PE (blkW X s H scope cl C fp R) elt te)
    (hs : ∀ x, foldedSetIterable iter X.env x = pure x := by intro _; rfl) : PE X (.ListComp elt [⟨tg, iter, ifs, 0⟩] scope pos) (tLc wi g tt te (own.map (·.2))) := by
  refine ⟨fun pins s σ H Q I h => ?_⟩
  have hfree : ∀ y ∈ scope.names, y.2 = .free → ∃ c, X.env.cells.lookup y.1 = some c := fun y hy e => I.ok.has _ (ok.free y hy e)
  rw [eval_ListComp]
  refine comprehension_at (use := none) rfl hs (closure_ok hfree) ok.kind (fun y hy e => by rw [ok.uniq y hy, e]) (thn (hi.run pins s σ H _ I h) fun xv s1 hx => thn hx fun itv s2 h2 => ?_)
  obtain ⟨it, fp, tn, J, H2, rfl, I2, T, st2, f2, q⟩ := h2
  refine wpAny_newObj_type (newEnv_comp ?_) (by show 0 ≤ sizeLine; decide)
  generalize hD : s2.heap.objs.size = D
  obtain ⟨W, ⟨m0, w0⟩, turn⟩ := q D (I2.hok.fresh (Nat.le_of_eq hD))
  have hlt : ∀ b ∈ fp, b < s2.heap.objs.size := fun b hb => by
    obtain ⟨o, e, _⟩ := T.obj _ _ st2 b hb
    exact Heap.lt_size e
  -- the new list stands
  obtain ⟨s3, hs3⟩ : ∃ s3 : Shared, s3 = { s2 with heap := s2.heap.push { cls := .type "list", data := .seq ([] : List Value).toArray } } := ⟨_, rfl⟩
  have I3 : Inv X pins σ (upd H2 D (.lst [])) s3 := by
    subst hs3
    exact I2.laid (t' := s2.toks) (fun b o e => Heap.get?_push_of_some _ e) (Nat.le_of_eq hD) ⟨Nat.zero_le _, [], 0, .nil, by rw [← hD]; exact Heap.get?_push_size _ rfl⟩
  have hsz : s3.heap.objs.size = s2.heap.objs.size + 1 := by rw [hs3]; exact Heap.size_push ..
  have f3 : ∀ b ∈ fp, FpOk X pins (upd H2 D (.lst [])) b ∧ b < s3.heap.objs.size := fun b hb => by
    have := hlt b hb
    refine ⟨⟨?_, (f2 b hb).2⟩, by rw [hsz]; exact Nat.lt_succ_of_lt this⟩
    rw [upd_ne (by rw [← hD]; exact Nat.ne_of_lt this)]
    exact (f2 b hb).1
  have st3 : tn 0 s3.heap := T.keep _ _ _ st2 fun b _ o e => by rw [hs3]; exact Heap.get?_push_of_some _ e
  obtain ⟨H3, hH3⟩ : ∃ H3, H3 = upd H2 D (.lst []) := ⟨_, rfl⟩
  rw [← hH3] at I3 f3 w0
  rw [← hs3]
  obtain ⟨cl, hcl⟩ : ∃ cl, cl = cellsFrom (s3.heap.objs.size + 1) scope.names (cloFrom X.env.cells scope.names []) := ⟨_, rfl⟩
  have I4 := block_start I3 ok hN f3
  rw [← hcl] at I4 ⊢
  -- the wish for an exception, and what a turn keeps
  obtain ⟨ce, hce⟩ : ∃ ce, ce = compEnvC scope cl s3.heap.objs.size X.env := ⟨_, rfl⟩
  obtain ⟨R, hR⟩ : ∃ R, R = notedBy (model X.prog X.w) X.A ce (CompFails (model X.prog X.w) X.A X.xe ce) := ⟨_, rfl⟩
  obtain ⟨XB, hXB⟩ : ∃ XB, XB = blkW X s3 H3 scope cl s3.heap.objs.size fp R := ⟨_, rfl⟩
  have pass : Passes (L2.CX X.prog X.w) (blkW X s3 H3 scope cl s3.heap.objs.size fp R) EB := fun pb σb HB sB e s' IB c => by
    rw [hR, hce]
    exact blk_fails hst hf tk I3 f3 pb σb HB sB e s' IB c
  have pg := hg s3 H3 s3.heap.objs.size cl fp R
  have pt := ht s3 H3 s3.heap.objs.size cl fp R
  have pe := he s3 H3 s3.heap.objs.size cl fp R pass
  have I5 := I4.wish R
  show codeAny _ _ (.compStart _ 0 (.ref it) (.ref D) (compEnvC scope cl s3.heap.objs.size X.env)) (compEnds (model X.prog X.w) X.A X.xe none _ (.ref D) (compEnvC scope cl s3.heap.objs.size X.env)) _
  rw [← hce]
  obtain ⟨s4, hs4⟩ : ∃ s4 : Shared, s4 = { s3 with heap := pushCells (s3.heap.push { cls := .type "dict", data := .dict #[] }) scope.names } := ⟨_, rfl⟩
  rw [← hs4] at I5 ⊢
  have st4 : tn 0 s4.heap := T.keep _ _ _ st3 fun b _ o e => by rw [hs4]; exact pushCells_keeps _ _ _ _ (Heap.get?_push_of_some _ e)
  have cC : ce.locals = s3.heap.objs.size := by rw [hce]; rfl
  have eX : ∀ Y : Cx, Y = blkW X s3 H3 scope cl s3.heap.objs.size fp R → Y.env = ce ∧ Y.xe = R ∧ Y.A = X.A ∧ Y.prog = X.prog ∧ Y.w = X.w ∧ Y.calm = X.calm ∧ Y.K = X.K := fun Y e => by
    rw [e]
    exact ⟨hce.symm, rfl, rfl, rfl, rfl, rfl, rfl⟩
  have fpk : ∀ {σ1 : L2.St} {H1 : Hp} {sx : Shared}, Inv (blkW X s3 H3 scope cl s3.heap.objs.size fp R) [] σ1 H1 sx → (∀ b ∈ fp, H1 b = none) → ∀ b ∈ fp, FpOk (blkW X s3 H3 scope cl s3.heap.objs.size fp R) [] H1 b := fun {σ1 H1 sx} I' hn b hb =>
    ⟨hn b hb, (I'.ok.exf b hb).1, I'.ok.exfs b hb, .inl hb, fun x c e => (I'.ok.exf b hb).2 x c e, fun p hp => absurd (show p ∈ ([] : List (Addr × Obj)) ++ [] from hp) (by simp)⟩
  have n3 : ∀ b ∈ fp, H3 b = none := fun b hb => (f3 b hb).1.1
  subst hR
  have loop : codeAny (model X.prog X.w) X.A (.compLoop (.ListComp elt [⟨tg, iter, ifs, 0⟩] scope pos) 0 (.ref it) (.ref D) ce) (compEnds (model X.prog X.w) X.A X.xe none (EP X pins σ Q) (.ref D) ce) s4 := by
    refine compLoop_any (fun n sx => ∃ i Hx, Inv (blkW X s3 H3 scope cl s3.heap.objs.size fp (notedBy (model X.prog X.w) X.A ce (CompFails (model X.prog X.w) X.A X.xe ce))) [] (wipe σ (own.map (·.2))) Hx sx ∧ tn i sx.heap ∧ (∀ b ∈ fp, Hx b = none) ∧ W i n Hx) ?_ m0 ⟨0, H3, I5, st4, n3, w0⟩
    rintro n s5 ⟨i, H5, J5, t5, n5, w5⟩
    rcases turn i n H5 w5 with ⟨stop, qq⟩ | ⟨go, Nx, hNx, step⟩
    · refine thnF (T.done (blkW X s3 H3 scope cl s3.heap.objs.size fp (notedBy (model X.prog X.w) X.A ce (CompFails (model X.prog X.w) X.A X.xe ce))) rfl rfl rfl hc i [] s5 _ H5 (fun _ _ => False) J5 (fpk J5 n5) t5 stop) fun r s6 h6 => ?_
      obtain ⟨rfl, J6⟩ := h6
      have J7 : Inv X pins σ H5 s6 := I3.call' (ch := fp) J6.os J6.base J6.hok J6.bare fun b hb => ⟨(f3 b hb).1.2.2.2.1, (f3 b hb).1.2.1, (f3 b hb).1.2.2.2.2.1, (f3 b hb).1.2.2.2.2.2⟩
      have nC : H5 s3.heap.objs.size = none := J6.free
      obtain ⟨m, hm, _⟩ := J6.loc
      have hm : s6.heap.Ns s3.heap.objs.size m := hm
      obtain ⟨y0, y1, y2, y3, y4, y5⟩ := I3.fpOk (Nat.le_refl _) nC
      refine ⟨m, by rw [cC]; exact hm, fun h8 sb => ?_⟩
      rw [cC] at sb
      exact ⟨.ref D, H5, J7.turned (t' := s6.toks) (fun b o hb e => (sb.2 b hb).trans e) y0 y1 y3 y4 y5, rfl, qq⟩
    · refine thnF (T.item (blkW X s3 H3 scope cl s3.heap.objs.size fp (notedBy (model X.prog X.w) X.A ce (CompFails (model X.prog X.w) X.A X.xe ce))) rfl rfl rfl hc i [] s5 _ H5 (fun _ _ => False) J5 (fpk J5 n5) t5 go) fun r s6 h6 => ?_
      obtain ⟨u, rfl, h6⟩ := h6
      refine thnF h6 fun _ s7 h7 => ?_
      obtain ⟨x, H7, J7, r7, y7, t7, n7⟩ := h7
      have J7p := J7.pinned (fpk J7 n7) (T.obj _ _ t7)
      have hgo := pg.run _ s7 _ H7 x u _ J7p r7 (step x H7 y7)
      rw [show (blkW X s3 H3 scope cl s3.heap.objs.size fp (notedBy (model X.prog X.w) X.A ce (CompFails (model X.prog X.w) X.A X.xe ce))).env = ce from hce.symm] at hgo
      refine thn hgo fun _ s8 h8 => ?_
      obtain ⟨σ8, H8, J8, hw8, q8⟩ := h8
      have hto := pt.run _ s8 σ8 H8 _ J8 q8
      rw [show (blkW X s3 H3 scope cl s3.heap.objs.size fp (notedBy (model X.prog X.w) X.A ce (CompFails (model X.prog X.w) X.A X.xe ce))).env = ce from hce.symm] at hto
      refine thn hto fun b s9 h9 => ?_
      obtain ⟨H9, J9, q9⟩ := h9
      have fin : ∀ {sx : Shared} {Hx : Hp}, Inv (blkW X s3 H3 scope cl s3.heap.objs.size fp (notedBy (model X.prog X.w) X.A ce (CompFails (model X.prog X.w) X.A X.xe ce))) ([] ++ pinsAt fp s7.heap) σ8 Hx sx → Nx Hx → ∃ m, m < n ∧ ∃ i Hy, Inv (blkW X s3 H3 scope cl s3.heap.objs.size fp (notedBy (model X.prog X.w) X.A ce (CompFails (model X.prog X.w) X.A X.xe ce))) [] (wipe σ (own.map (·.2))) Hy sx ∧ tn i sx.heap ∧ (∀ b ∈ fp, Hy b = none) ∧ W i m Hy := fun {sx Hx} J nx => by
        obtain ⟨m', hm, w'⟩ := hNx Hx nx
        have pin' : ∀ b ∈ fp, ∀ o, s7.heap.get? b = some o → sx.heap.get? b = some o ∧ Hx b = none := fun b hb o e =>
          let z := J.pin (b, o) (List.mem_append_right _ (List.mem_append_right _ (mem_pinsAt hb e)))
          ⟨z.1, z.2.1⟩
        have hl : (wipe σ (own.map (·.2))).length = σ8.length := by rw [← hw8, wipe_length]
        refine ⟨m', hm, i + 1, Hx, (J.unpinned (pins := [])).weak hl (fun j v e => ?_), T.keep _ _ _ t7 fun b hb o e => (pin' b hb o e).1, fun b hb => ?_, w'⟩
        · rw [← hw8] at e
          exact (wipe_some e).1
        · obtain ⟨o, e, _⟩ := T.obj _ _ t7 b hb
          exact (pin' b hb o e).2
      cases b with
      | false => exact fin J9 (by simpa using q9)
      | true =>
        have q9 : te σ8 H9 fun y H4 => ∃ acc, H4 D = some (.lst acc) ∧ acc.length < sizeLine ∧ Nx (upd H4 D (.lst (acc ++ [y]))) := by simpa using q9
        have heo := pe.run _ s9 σ8 H9 _ J9 q9
        rw [show (blkW X s3 H3 scope cl s3.heap.objs.size fp (notedBy (model X.prog X.w) X.A ce (CompFails (model X.prog X.w) X.A X.xe ce))).env = ce from hce.symm] at heo
        simp only [if_true]
        refine thn heo fun z s10 h10 => ?_
        obtain ⟨yv, H10, J10, r10, acc, hD10, hz10, nx⟩ := h10
        exact app_ok (X := blkW X s3 H3 scope cl s3.heap.objs.size fp (notedBy (model X.prog X.w) X.A ce (CompFails (model X.prog X.w) X.A X.xe ce))) J10 hD10 hz10 r10 fun s11 J11 => fin J11 nx
  exact codeAny_compStart_list loop (T.self X.A 0 _ _ _ st4 loop)
end
end Fs

namespace Fs
open PySem PySem.Spec PyProof.Rows L2
inductive D where
  | non | bl (b : Bool) | int (i : Int) | str (x : Str) | ty (n : String) | adr (a : Addr)
  | lst (xs : List D) | tup (xs : List D) | dct (kvs : List (Key × D)) | obj (C : Addr) (fs : List (Str × D)) | exc (C : Addr) (fs : List (Str × D))
mutual
/-- the value v is the data d in the heap H, all its objects at places in A -/
inductive Is (A : Addr → Prop) (H : Hp) : V → D → Prop
  | non : Is A H .non .non
  | bl (b : Bool) : Is A H (.bl b) (.bl b)
  | int (i : Int) : Is A H (.int i) (.int i)
  | str (x : Str) : Is A H (.str x) (.str x)
  | ty (n : String) : Is A H (.ty n) (.ty n)
  | adr (a : Addr) : Is A H (.ref a) (.adr a)
  | lst {a : Addr} {vs : List V} {ds : List D} (h1 : A a) (h2 : H a = some (.lst vs)) (h3 : IsL A H vs ds) : Is A H (.ref a) (.lst ds)
  | tup {a : Addr} {vs : List V} {ds : List D} (h1 : A a) (h2 : H a = some (.tup vs)) (h3 : IsL A H vs ds) : Is A H (.ref a) (.tup ds)
  | dct {a : Addr} {vs : List (Key × V)} {ds : List (Key × D)} (h1 : A a) (h2 : look H a = some (.dK vs)) (h3 : IsK A H vs ds) : Is A H (.ref a) (.dct ds)
  | obj {a C dx : Addr} {vs : List (Str × V)} {ds : List (Str × D)} (h1 : A a) (h2 : H a = some (.ins C dx vs)) (h3 : IsF A H vs ds) : Is A H (.ref a) (.obj C ds)
  | exc {a C d : Addr} {vs : List (Str × V)} {ds : List (Str × D)} (h1 : A a) (h2 : H a = some (EXO (.ref C) (some d) a)) (h3 : A d) (h4 : H d = some (.xd vs)) (h5 : IsF A H vs ds) : Is A H (.ref a) (.exc C ds)
inductive IsL (A : Addr → Prop) (H : Hp) : List V → List D → Prop
  | nil : IsL A H [] []
  | cons {v : V} {d : D} {vs : List V} {ds : List D} (h : Is A H v d) (t : IsL A H vs ds) : IsL A H (v :: vs) (d :: ds)
inductive IsK (A : Addr → Prop) (H : Hp) : List (Key × V) → List (Key × D) → Prop
  | nil : IsK A H [] []
  | cons {k : Key} {v : V} {d : D} {vs : List (Key × V)} {ds : List (Key × D)} (h : Is A H v d) (t : IsK A H vs ds) : IsK A H ((k, v) :: vs) ((k, d) :: ds)
inductive IsF (A : Addr → Prop) (H : Hp) : List (Str × V) → List (Str × D) → Prop
  | nil : IsF A H [] []
  | cons {k : Str} {v : V} {d : D} {vs : List (Str × V)} {ds : List (Str × D)} (h : Is A H v d) (t : IsF A H vs ds) : IsF A H ((k, v) :: vs) ((k, d) :: ds)
end
/-- from (A, H) to (A', H'): what stood in A stands on, in A' -/
def Stp (A : Addr → Prop) (H : Hp) (A' : Addr → Prop) (H' : Hp) : Prop := ∀ a o, A a → H a = some o → A' a ∧ H' a = some o
theorem Stp.refl (A : Addr → Prop) (H : Hp) : Stp A H A H := fun _ _ h e => ⟨h, e⟩
theorem Stp.trans {A A1 A2 : Addr → Prop} {H H1 H2 : Hp} (x : Stp A H A1 H1) (y : Stp A1 H1 A2 H2) : Stp A H A2 H2 := fun a o h e => y a o (x a o h e).1 (x a o h e).2
theorem look_some {H : Hp} {a : Addr} {u : HO} (h : look H a = some u) : ∃ o, H a = some o := by
  cases e : H a with
  | none => simp [look, e] at h
  | some o => exact ⟨o, rfl⟩
theorem Stp.look {A A' : Addr → Prop} {H H' : Hp} (x : Stp A H A' H') {a : Addr} {u : HO} (h : A a) (e : look H a = some u) : A' a ∧ look H' a = some u := by
  obtain ⟨o, q⟩ := look_some e
  obtain ⟨y, z⟩ := x a o h q
  refine ⟨y, ?_⟩
  unfold Fs.look at e ⊢
  rw [z]
  rw [q] at e
  exact e
mutual
theorem Is.stp {A A' : Addr → Prop} {H H' : Hp} (x : Stp A H A' H') : ∀ {v : V} {d : D}, Is A H v d → Is A' H' v d
  | _, _, .non => .non
  | _, _, .bl b => .bl b
  | _, _, .int i => .int i
  | _, _, .str y => .str y
  | _, _, .ty n => .ty n
  | _, _, .adr a => .adr a
  | _, _, .lst h1 h2 h3 => .lst (x _ _ h1 h2).1 (x _ _ h1 h2).2 (IsL.stp x h3)
  | _, _, .tup h1 h2 h3 => .tup (x _ _ h1 h2).1 (x _ _ h1 h2).2 (IsL.stp x h3)
  | _, _, .dct h1 h2 h3 => .dct (x.look h1 h2).1 (x.look h1 h2).2 (IsK.stp x h3)
  | _, _, .obj h1 h2 h3 => .obj (x _ _ h1 h2).1 (x _ _ h1 h2).2 (IsF.stp x h3)
  | _, _, .exc h1 h2 h3 h4 h5 => .exc (x _ _ h1 h2).1 (x _ _ h1 h2).2 (x _ _ h3 h4).1 (x _ _ h3 h4).2 (IsF.stp x h5)
theorem IsL.stp {A A' : Addr → Prop} {H H' : Hp} (x : Stp A H A' H') : ∀ {v : List V} {d : List D}, IsL A H v d → IsL A' H' v d
  | _, _, .nil => .nil
  | _, _, .cons h t => .cons (Is.stp x h) (IsL.stp x t)
theorem IsK.stp {A A' : Addr → Prop} {H H' : Hp} (x : Stp A H A' H') : ∀ {v : List (Key × V)} {d : List (Key × D)}, IsK A H v d → IsK A' H' v d
  | _, _, .nil => .nil
  | _, _, .cons h t => .cons (Is.stp x h) (IsK.stp x t)
theorem IsF.stp {A A' : Addr → Prop} {H H' : Hp} (x : Stp A H A' H') : ∀ {v : List (Str × V)} {d : List (Str × D)}, IsF A H v d → IsF A' H' v d
  | _, _, .nil => .nil
  | _, _, .cons h t => .cons (Is.stp x h) (IsF.stp x t)
end
/-- kept at the places of P; nothing that stood is gone -/
def Ext (P : Addr → Prop) (H H' : Hp) : Prop := (∀ a o, P a → H a = some o → H' a = some o) ∧ ∀ a, H' a = none → H a = none
theorem Ext.refl (P : Addr → Prop) (H : Hp) : Ext P H H := ⟨fun _ _ _ h => h, fun _ h => h⟩
theorem Ext.trans {P : Addr → Prop} {H H1 H2 : Hp} (x : Ext P H H1) (y : Ext P H1 H2) : Ext P H H2 := ⟨fun a o h e => y.1 a o h (x.1 a o h e), fun a h => x.2 a (y.2 a h)⟩
theorem Ext.sub {P P' : Addr → Prop} {H H' : Hp} (x : Ext P H H') (h : ∀ a, P' a → P a) : Ext P' H H' := ⟨fun a o q e => x.1 a o (h a q) e, x.2⟩
theorem Ext.stp {P A : Addr → Prop} {H H' : Hp} (x : Ext P H H') (h : ∀ a, A a → P a) : Stp A H A H' := fun a o q e => ⟨q, x.1 a o (h a q) e⟩
abbrev All : Addr → Prop := fun _ => True
theorem Ext.new {H : Hp} {p : Addr} {o : HO} (h : H p = none) : Ext All H (upd H p o) := ⟨fun a u _ e => by rw [upd_ne (ne_of_none e h)]; exact e, fun a e => by
  by_cases q : a = p
  · rw [q]; exact h
  · rw [upd_ne q] at e; exact e⟩
theorem Ext.all {P : Addr → Prop} {H H' : Hp} (x : Ext All H H') : Ext P H H' := x.sub fun _ _ => trivial
inductive Res (S α : Type) where
  | ok (a : α) (s : S) | ex (C : Addr) (fs : List (Str × D)) (s : S) | bad
def M (S α : Type) := S → Res S α
def M.ret {S α : Type} (a : α) : M S α := fun s => .ok a s
def Res.then {S α β : Type} (r : Res S α) (g : α → M S β) : Res S β := match r with
  | .ok a s => g a s
  | .ex C fs s => .ex C fs s
  | .bad => .bad
def M.bind {S α β : Type} (m : M S α) (g : α → M S β) : M S β := fun s => (m s).then g
def M.of {S α : Type} (o : Option α) : M S α := fun s => match o with | some a => .ok a s | none => .bad
@[simp] theorem then_ok {S α β : Type} {a : α} {s : S} {g : α → M S β} : (Res.ok a s).then g = g a s := rfl
@[simp] theorem then_ex {S α β : Type} {C : Addr} {fs : List (Str × D)} {s : S} {g : α → M S β} : (Res.ex C fs s : Res S α).then g = .ex C fs s := rfl
@[simp] theorem then_bad {S α β : Type} {g : α → M S β} : (Res.bad : Res S α).then g = .bad := rfl
/-- an object that this frame alone knows -/
inductive OD where
  | lst (xs : List D) | dct (kvs : List (Key × D)) | ins (C : Addr) (fs : List (Str × D))
/-- what a slot holds -/
inductive Sl where
  | no | val (d : D) | own (o : OD)
abbrev Rho := List Sl
/-- the places that stay as they are; among them those that data may lie at -/
structure Pl where
  keep : Addr → Prop
  ok : Addr → Prop
  okk : ∀ a, ok a → keep a
/-- what may be written: neither a code object nor a table of them -/
def tgt : Option HO → Bool
  | some (.ext _) => false
  | some (.tbl _) => false
  | _ => true
structure Cfg (S : Type) extends Pl where
  K : PySem.W.Frag
  I : S → Hp → Prop
  st : ∀ s H H', I s H → Ext All H H' → I s H'
  st2 : ∀ s H a o, ok a → tgt (H a) = true → I s H → I s (upd H a o)
/-- ahead of the frame: its heap, the places it may touch -/
structure Bs where
  H0 : Hp
  A0 : Addr → Prop
  me : Option Addr := none
def OwnAt (me : Option Addr) (A : Addr → Prop) (H : Hp) (a : Addr) : OD → Prop
  | .lst ds => ∃ vs, H a = some (.lst vs) ∧ IsL A H vs ds
  | .dct ds => ∃ vs, H a = some (.dK vs) ∧ IsK A H vs ds
  | .ins C ds => me = some a ∧ ∃ dx vs, H a = some (.ins C dx vs) ∧ IsF A H vs ds
def SlotAt (keep : Addr → Prop) (B : Bs) (A : Addr → Prop) (H : Hp) (w : Option (Option V)) : Sl → Prop
  | .no => True
  | .val d => ∃ v, w = some (some v) ∧ Is A H v d
  | .own o => ∃ a, w = some (some (.ref a)) ∧ ¬ A a ∧ keep a ∧ B.A0 a ∧ B.H0 a = none ∧ OwnAt B.me A H a o
structure Rel (P : Pl) (B : Bs) (A : Addr → Prop) (ρ : Rho) (σ : L2.St) (H : Hp) : Prop where
  len : ρ.length = σ.length
  ext : Ext P.keep B.H0 H
  nw : ∀ a, H a = none → A a
  n0 : ∀ a, B.H0 a = none → B.A0 a
  sub : ∀ a, A a → B.A0 a
  kp : ∀ a, B.A0 a → P.ok a
  slot : ∀ (i : Nat) (sl : Sl), ρ[i]? = some sl → SlotAt P.keep B A H σ[i]? sl
  apart : ∀ (i j : Nat) (oi oj : OD) (a : Addr), ρ[i]? = some (.own oi) → ρ[j]? = some (.own oj) → σ[i]? = some (some (.ref a)) → σ[j]? = some (some (.ref a)) → i = j
section
variable {P : Pl} {B : Bs} {A : Addr → Prop} {ρ : Rho} {σ : L2.St} {H H' : Hp}
theorem Rel.ao (R : Rel P B A ρ σ H) : ∀ a, A a → P.ok a := fun a h => R.kp a (R.sub a h)
theorem Rel.ak (R : Rel P B A ρ σ H) : ∀ a, A a → P.keep a := fun a h => P.okk a (R.ao a h)
theorem OwnAt.stp {me : Option Addr} {A A' : Addr → Prop} {H H' : Hp} {a : Addr} {o : OD} (x : Stp A H A' H') (e : ∀ u, H a = some u → H' a = some u) (h : OwnAt me A H a o) : OwnAt me A' H' a o := by
  cases o with
  | lst ds => obtain ⟨vs, h1, h2⟩ := h; exact ⟨vs, e _ h1, h2.stp x⟩
  | dct ds => obtain ⟨vs, h1, h2⟩ := h; exact ⟨vs, e _ h1, h2.stp x⟩
  | ins C ds => obtain ⟨h0, dx, vs, h1, h2⟩ := h; exact ⟨h0, dx, vs, e _ h1, h2.stp x⟩
/-- an expression changes nothing of the frame's -/
theorem Rel.step (R : Rel P B A ρ σ H) (x : Ext P.keep H H') : Rel P B A ρ σ H' where
  len := R.len
  ext := R.ext.trans x
  nw := fun a h => R.nw a (x.2 a h)
  n0 := R.n0
  sub := R.sub
  kp := R.kp
  slot := fun i sl e => by
    have h := R.slot i sl e
    cases sl with
    | no => trivial
    | val d => obtain ⟨v, h1, h2⟩ := h; exact ⟨v, h1, h2.stp (x.stp R.ak)⟩
    | own o => obtain ⟨a, h1, h2, h3, h4, h5, h6⟩ := h; exact ⟨a, h1, h2, h3, h4, h5, h6.stp (x.stp R.ak) fun u e => x.1 a u h3 e⟩
  apart := R.apart
end
/-- the fields of an exception -/
def ExcIs (A : Addr → Prop) (H : Hp) (od : Option Addr) (fs : List (Str × D)) : Prop := match od with
  | none => fs = []
  | some d => A d ∧ ∃ vs, H d = some (.xd vs) ∧ IsF A H vs fs
variable {S : Type}
def Wish {α : Type} (C : Cfg S) (B : Bs) (E : XK) (r : Res S α) (P : α → S → Prop) : Prop := match r with
  | .ok a s => P a s
  | .ex c fs s => ∀ od H', Ext C.keep B.H0 H' → C.I s H' → ExcIs B.A0 H' od fs → E (.ref c) od H'
  | .bad => False
theorem Wish.then {α β : Type} {C : Cfg S} {B : Bs} {E : XK} {r : Res S α} {g : α → M S β} {P : β → S → Prop} (h : Wish C B E (r.then g) P) : Wish C B E r fun a s => Wish C B E (g a s) P := by
  cases r <;> exact h
theorem ExcIs.sub {A A' : Addr → Prop} {H : Hp} {od : Option Addr} {fs : List (Str × D)} (h : ExcIs A H od fs) (k : ∀ a, A a → A' a) : ExcIs A' H od fs := by
  cases od with
  | none => exact h
  | some d =>
    obtain ⟨a1, ws, a2, a3⟩ := h
    exact ⟨k d a1, ws, a2, a3.stp fun a o q z => ⟨k a q, z⟩⟩
/-- further on, in fewer places -/
theorem Wish.to {α : Type} {C : Cfg S} {B B' : Bs} {E : XK} {r : Res S α} {P : α → S → Prop} (h : Wish C B E r P) (x : Ext C.keep B.H0 B'.H0) (k : ∀ a, B'.A0 a → B.A0 a) : Wish C B' E r P := by
  cases r with
  | ok a s => exact h
  | ex c fs s => exact fun od H' e I q => h od H' (x.trans e) I (q.sub k)
  | bad => exact h
theorem Wish.step {α : Type} {C : Cfg S} {A : Addr → Prop} {H H1 : Hp} {E : XK} {r : Res S α} {P : α → S → Prop} (h : Wish C ⟨H, A, none⟩ E r P) (x : Ext C.keep H H1) : Wish C ⟨H1, A, none⟩ E r P := h.to x fun _ q => q
theorem Wish.mono {α : Type} {C : Cfg S} {B : Bs} {E : XK} {r : Res S α} {P P' : α → S → Prop} (h : Wish C B E r P) (i : ∀ a s, P a s → P' a s) : Wish C B E r P' := by
  cases r with
  | ok a s => exact i a s h
  | ex c fs s => exact h
  | bad => exact h
def EvD (C : Cfg S) (te : XK → TE) (f : Rho → M S D) : Prop := ∀ (B : Bs) (A : Addr → Prop) (ρ : Rho) (σ : L2.St) (H : Hp) (s : S) (E : XK) (Q : VK), Rel C.toPl B A ρ σ H → C.I s H →
  Wish C ⟨H, A, none⟩ E (f ρ s) (fun d s' => ∀ v H', Ext C.keep H H' → C.I s' H' → Is A H' v d → Q v H') → te E σ H Q
def EvA (C : Cfg S) (ta : XK → TA) (f : Rho → M S (List D)) : Prop := ∀ (B : Bs) (A : Addr → Prop) (ρ : Rho) (σ : L2.St) (H : Hp) (s : S) (E : XK) (Q : List V → Hp → Prop), Rel C.toPl B A ρ σ H → C.I s H →
  Wish C ⟨H, A, none⟩ E (f ρ s) (fun d s' => ∀ v H', Ext C.keep H H' → C.I s' H' → IsL A H' v d → Q v H') → ta E σ H Q
def EvT (C : Cfg S) (tt : XK → TT) (f : Rho → M S Bool) : Prop := ∀ (B : Bs) (A : Addr → Prop) (ρ : Rho) (σ : L2.St) (H : Hp) (s : S) (E : XK) (Q : Bool → Hp → Prop), Rel C.toPl B A ρ σ H → C.I s H →
  Wish C ⟨H, A, none⟩ E (f ρ s) (fun b s' => ∀ H', Ext C.keep H H' → C.I s' H' → Q b H') → tt E σ H Q
def EvO (C : Cfg S) (to : XK → TO) (f : Rho → M S (Option Int)) : Prop := ∀ (B : Bs) (A : Addr → Prop) (ρ : Rho) (σ : L2.St) (H : Hp) (s : S) (E : XK) (Q : Option Int → Hp → Prop), Rel C.toPl B A ρ σ H → C.I s H →
  Wish C ⟨H, A, none⟩ E (f ρ s) (fun b s' => ∀ H', Ext C.keep H H' → C.I s' H' → Q b H') → to E σ H Q
/-- a new list whose items are data, known to nobody else -/
def EvN (C : Cfg S) (te : XK → TE) (f : Rho → M S (List D)) : Prop := ∀ (B : Bs) (A : Addr → Prop) (ρ : Rho) (σ : L2.St) (H : Hp) (s : S) (E : XK) (Q : VK), Rel C.toPl B A ρ σ H → C.I s H →
  Wish C ⟨H, A, none⟩ E (f ρ s) (fun ds s' => ∀ p H1 vs, H1 p = none → Ext C.keep H H1 → C.I s' (upd H1 p (.lst vs)) → IsL A H1 vs ds → Q (.ref p) (upd H1 p (.lst vs))) → te E σ H Q
/-- operations on data, whatever the frame -/
def OpD (r : R2) (op : D → D → Option D) : Prop := ∀ (A : Addr → Prop) (H : Hp) (v w : V) (x y d : D) (Q : VK), Is A H v x → Is A H w y → (∀ a, H a = none → A a) → op x y = some d → (∀ u H', Ext All H H' → Is A H' u d → Q u H') → r v w H Q
def UnD (r : V → Hp → VK → Prop) (op : D → Option D) : Prop := ∀ (A : Addr → Prop) (H : Hp) (v : V) (x d : D) (Q : VK), Is A H v x → (∀ a, H a = none → A a) → op x = some d → (∀ u H', Ext All H H' → Is A H' u d → Q u H') → r v H Q
def CaD (r : List V → Hp → VK → Prop) (op : List D → Option D) : Prop := ∀ (A : Addr → Prop) (H : Hp) (vs : List V) (xs : List D) (d : D) (Q : VK), IsL A H vs xs → (∀ a, H a = none → A a) → op xs = some d → (∀ u H', Ext All H H' → Is A H' u d → Q u H') → r vs H Q
/-- a def's promise on data -/
def SpD (C : Cfg S) (sp : Sp) (m : List D → M S D) : Prop := ∀ (A : Addr → Prop) (H : Hp) (vs : List V) (ds : List D) (s : S) (Q : VK) (E : XK), IsL A H vs ds → (∀ a, H a = none → A a) → (∀ a, A a → C.ok a) → C.I s H →
  Wish C ⟨H, A, none⟩ E (m ds s) (fun d s' => ∀ v H', Ext C.keep H H' → C.I s' H' → Is A H' v d → Q v H') → sp vs H Q E
theorem Rel.fr {α : Type} {C : Cfg S} {B : Bs} {A : Addr → Prop} {ρ : Rho} {σ : L2.St} {H : Hp} {E : XK} {r : Res S α} {P : α → S → Prop} (R : Rel C.toPl B A ρ σ H) (h : Wish C B E r P) : Wish C ⟨H, A, none⟩ E r P := h.to R.ext R.sub
section
variable {C : Cfg S} {ta tb tc : XK → TE} {fa fb fc : Rho → M S D}
def xV (i : Nat) : Rho → M S D := fun ρ s => match ρ[i]? with
  | some (.val d) => .ok d s
  | _ => .bad
theorem e_var (i : Nat) : EvD C (fun _ => tV i) (xV i) := fun B A ρ σ H s E Q R I W => by
  unfold xV at W
  split at W
  · rename_i d e
    obtain ⟨v, h1, h2⟩ := R.slot i _ e
    unfold tV
    rw [h1]
    exact W v H (Ext.refl _ _) I h2
  · exact W.elim
def xC (d : D) : Rho → M S D := fun _ => .ret d
theorem e_str {x : Str} : EvD C (fun _ => tC (.str x)) (xC (.str x)) := fun B A ρ σ H s E Q R I W => W _ H (Ext.refl _ _) I (.str x)
theorem e_int {x : Int} : EvD C (fun _ => tC (.int x)) (xC (.int x)) := fun B A ρ σ H s E Q R I W => W _ H (Ext.refl _ _) I (.int x)
theorem e_bl {x : Bool} : EvD C (fun _ => tC (.bl x)) (xC (.bl x)) := fun B A ρ σ H s E Q R I W => W _ H (Ext.refl _ _) I (.bl x)
theorem e_non : EvD C (fun _ => tC .non) (xC .non) := fun B A ρ σ H s E Q R I W => W _ H (Ext.refl _ _) I .non
theorem e_ty {x : String} : EvD C (fun _ => tC (.ty x)) (xC (.ty x)) := fun B A ρ σ H s E Q R I W => W _ H (Ext.refl _ _) I (.ty x)
theorem e_adr {a : Addr} : EvD C (fun _ => tC (.ref a)) (xC (.adr a)) := fun B A ρ σ H s E Q R I W => W _ H (Ext.refl _ _) I (.adr a)
def xOp (op : D → D → Option D) (f g : Rho → M S D) : Rho → M S D := fun ρ => (f ρ).bind fun x => (g ρ).bind fun y => .of (op x y)
theorem e_op {r : R2} {op : D → D → Option D} (ho : OpD r op) (ha : EvD C ta fa) (hb : EvD C tb fb) : EvD C (fun E => tOp r (ta E) (tb E)) (xOp op fa fb) := fun B A ρ σ H s E Q R I W => by
  refine ha B A ρ σ H s E _ R I ((Wish.then W).mono fun x s1 W1 v H1 e1 I1 h1 => ?_)
  refine hb B A ρ σ H1 s1 E _ (R.step e1) I1 ((Wish.then (W1.step e1)).mono fun y s2 W2 w H2 e2 I2 h2 => ?_)
  cases e : op x y with
  | none => rw [e] at W2; exact W2.elim
  | some d =>
    rw [e] at W2
    exact ho A H2 v w x y d Q (h1.stp (e2.stp R.ak)) h2 (fun a q => R.nw a (e1.2 a (e2.2 a q))) e fun u H3 e3 h3 => W2 u H3 ((e1.trans e2).trans e3.all) (C.st _ _ _ I2 e3) h3
def xUn (op : D → Option D) (f : Rho → M S D) : Rho → M S D := fun ρ => (f ρ).bind fun x => .of (op x)
theorem e_un {r : V → Hp → VK → Prop} {op : D → Option D} (ho : UnD r op) (ha : EvD C ta fa) : EvD C (fun E => tUn r (ta E)) (xUn op fa) := fun B A ρ σ H s E Q R I W => by
  refine ha B A ρ σ H s E _ R I ((Wish.then W).mono fun x s1 W1 v H1 e1 I1 h1 => ?_)
  cases e : op x with
  | none => rw [e] at W1; exact W1.elim
  | some d =>
    rw [e] at W1
    exact ho A H1 v x d Q h1 (fun a q => R.nw a (e1.2 a q)) e fun u H3 e3 h3 => W1 u H3 (e1.trans e3.all) (C.st _ _ _ I1 e3) h3
/-- a truth value -/
def dBl : D → Option Bool
  | .bl b => some b
  | _ => none
theorem Is.bl_of {A : Addr → Prop} {H : Hp} {v : V} {x : D} {b : Bool} (h : Is A H v x) (e : dBl x = some b) : v = .bl b := by
  cases h <;> simp [dBl] at e
  subst e; rfl
def dIn : D → Option Int
  | .int b => some b
  | _ => none
theorem Is.in_of {A : Addr → Prop} {H : Hp} {v : V} {x : D} {b : Int} (h : Is A H v x) (e : dIn x = some b) : v = .int b := by
  cases h <;> simp [dIn] at e
  subst e; rfl
def xT (f : Rho → M S D) : Rho → M S Bool := fun ρ => (f ρ).bind fun x => .of (dBl x)
theorem e_test (ha : EvD C ta fa) : EvT C (fun E => tTs (ta E)) (xT fa) := fun B A ρ σ H s E Q R I W => by
  refine ha B A ρ σ H s E _ R I ((Wish.then W).mono fun x s1 W1 v H1 e1 I1 h1 => ?_)
  cases e : dBl x with
  | none => rw [e] at W1; exact W1.elim
  | some b =>
    rw [e] at W1
    rw [h1.bl_of e]
    exact W1 H1 e1 I1
section
variable {tt tu : XK → TT} {f g : Rho → M S Bool}
def xAnd (f g : Rho → M S Bool) : Rho → M S Bool := fun ρ => (f ρ).bind fun b => match b with | true => g ρ | false => .ret false
def xOr (f g : Rho → M S Bool) : Rho → M S Bool := fun ρ => (f ρ).bind fun b => match b with | true => .ret true | false => g ρ
def xNot (f : Rho → M S Bool) : Rho → M S Bool := fun ρ => (f ρ).bind fun b => .ret (!b)
theorem e_and (h1 : EvT C tt f) (h2 : EvT C tu g) : EvT C (fun E => tAn (tt E) (tu E)) (xAnd f g) := fun B A ρ σ H s E Q R I W => by
  refine h1 B A ρ σ H s E _ R I ((Wish.then W).mono fun b s1 W1 H1 e1 I1 => ?_)
  cases b with
  | true => exact h2 B A ρ σ H1 s1 E _ (R.step e1) I1 (Wish.mono (Wish.step W1 e1) fun b s2 W2 H2 e2 I2 => W2 H2 (e1.trans e2) I2)
  | false => exact W1 H1 e1 I1
theorem e_or (h1 : EvT C tt f) (h2 : EvT C tu g) : EvT C (fun E => tOr' (tt E) (tu E)) (xOr f g) := fun B A ρ σ H s E Q R I W => by
  refine h1 B A ρ σ H s E _ R I ((Wish.then W).mono fun b s1 W1 H1 e1 I1 => ?_)
  cases b with
  | false => exact h2 B A ρ σ H1 s1 E _ (R.step e1) I1 (Wish.mono (Wish.step W1 e1) fun b s2 W2 H2 e2 I2 => W2 H2 (e1.trans e2) I2)
  | true => exact W1 H1 e1 I1
theorem e_not (h1 : EvT C tt f) : EvT C (fun E => tNot (tt E)) (xNot f) := fun B A ρ σ H s E Q R I W => by
  refine h1 B A ρ σ H s E _ R I ((Wish.then W).mono fun b s1 W1 H1 e1 I1 => ?_)
  exact W1 H1 e1 I1
def xIf (c : Rho → M S Bool) {α : Type} (f g : Rho → M S α) : Rho → M S α := fun ρ => (c ρ).bind fun b => match b with | true => f ρ | false => g ρ
theorem e_if (h1 : EvT C tt f) (ha : EvD C ta fa) (hb : EvD C tb fb) : EvD C (fun E => tIf' (tt E) (ta E) (tb E)) (xIf f fa fb) := fun B A ρ σ H s E Q R I W => by
  refine h1 B A ρ σ H s E _ R I ((Wish.then W).mono fun b s1 W1 H1 e1 I1 => ?_)
  cases b with
  | true => exact ha B A ρ σ H1 s1 E _ (R.step e1) I1 (Wish.mono (Wish.step W1 e1) fun b s2 W2 v H2 e2 I2 q => W2 v H2 (e1.trans e2) I2 q)
  | false => exact hb B A ρ σ H1 s1 E _ (R.step e1) I1 (Wish.mono (Wish.step W1 e1) fun b s2 W2 v H2 e2 I2 q => W2 v H2 (e1.trans e2) I2 q)
end
/-- and, or, not as values (of truth values) -/
def xAndV (f g : Rho → M S D) : Rho → M S D := fun ρ => (f ρ).bind fun x => (M.of (dBl x)).bind fun b => match b with | true => g ρ | false => .ret (.bl false)
def xOrV (f g : Rho → M S D) : Rho → M S D := fun ρ => (f ρ).bind fun x => (M.of (dBl x)).bind fun b => match b with | true => .ret (.bl true) | false => g ρ
def xNotV (f : Rho → M S D) : Rho → M S D := fun ρ => (f ρ).bind fun x => (M.of (dBl x)).bind fun b => .ret (.bl (!b))
theorem e_andV (h1 : EvD C ta fa) (h2 : EvD C tb fb) : EvD C (fun E => tAnV (ta E) (tb E)) (xAndV fa fb) := fun B A ρ σ H s E Q R I W => by
  refine h1 B A ρ σ H s E _ R I ((Wish.then W).mono fun x s1 W1 v H1 e1 I1 q1 => ?_)
  cases e : dBl x with
  | none => rw [e] at W1; exact W1.elim
  | some b =>
    rw [e] at W1
    rw [q1.bl_of e]
    cases b with
    | true => exact h2 B A ρ σ H1 s1 E _ (R.step e1) I1 (Wish.mono (Wish.step W1 e1) fun b s2 W2 v H2 e2 I2 q => W2 v H2 (e1.trans e2) I2 q)
    | false => exact W1 _ H1 e1 I1 (.bl false)
theorem e_orV (h1 : EvD C ta fa) (h2 : EvD C tb fb) : EvD C (fun E => tOrV' (ta E) (tb E)) (xOrV fa fb) := fun B A ρ σ H s E Q R I W => by
  refine h1 B A ρ σ H s E _ R I ((Wish.then W).mono fun x s1 W1 v H1 e1 I1 q1 => ?_)
  cases e : dBl x with
  | none => rw [e] at W1; exact W1.elim
  | some b =>
    rw [e] at W1
    rw [q1.bl_of e]
    cases b with
    | false => exact h2 B A ρ σ H1 s1 E _ (R.step e1) I1 (Wish.mono (Wish.step W1 e1) fun b s2 W2 v H2 e2 I2 q => W2 v H2 (e1.trans e2) I2 q)
    | true => exact W1 _ H1 e1 I1 (.bl true)
theorem e_notV (h1 : EvD C ta fa) : EvD C (fun E => tNoV (ta E)) (xNotV fa) := fun B A ρ σ H s E Q R I W => by
  refine h1 B A ρ σ H s E _ R I ((Wish.then W).mono fun x s1 W1 v H1 e1 I1 q1 => ?_)
  cases e : dBl x with
  | none => rw [e] at W1; exact W1.elim
  | some b =>
    rw [e] at W1
    rw [q1.bl_of e]
    exact W1 _ H1 e1 I1 (.bl _)
theorem e_one : EvD C ta fa → EvD C ta fa := id
/-- a < b < c -/
def xCh (op op' : D → D → Option D) (f g h : Rho → M S D) : Rho → M S D := fun ρ => (f ρ).bind fun x => (g ρ).bind fun y => (M.of ((op x y).bind dBl)).bind fun b => match b with
  | true => (h ρ).bind fun z => .of (op' y z)
  | false => .ret (.bl false)
theorem e_ch {r r' : R2} {op op' : D → D → Option D} (ho : OpD r op) (ho' : OpD r' op') (ha : EvD C ta fa) (hb : EvD C tb fb) (hc : EvD C tc fc) : EvD C (fun E => tCh r r' (ta E) (tb E) (tc E)) (xCh op op' fa fb fc) := fun B A ρ σ H s E Q R I W => by
  refine ha B A ρ σ H s E _ R I ((Wish.then W).mono fun x s1 W1 v H1 e1 I1 h1 => ?_)
  refine hb B A ρ σ H1 s1 E _ (R.step e1) I1 ((Wish.then (W1.step e1)).mono fun y s2 W2 w H2 e2 I2 h2 => ?_)
  cases e : op x y with
  | none => rw [e] at W2; exact W2.elim
  | some d =>
    cases eb : dBl d with
    | none => rw [e, Option.bind_some, eb] at W2; exact W2.elim
    | some b =>
      rw [e, Option.bind_some, eb] at W2
      refine ho A H2 v w x y d _ (h1.stp (e2.stp R.ak)) h2 (fun a q => R.nw a (e1.2 a (e2.2 a q))) e fun u H3 e3 h3 => ?_
      rw [h3.bl_of eb]
      have e13 := (e1.trans e2).trans (e3.all (P := C.keep))
      cases b with
      | false => exact W2 _ H3 e13 (C.st _ _ _ I2 e3) (.bl false)
      | true =>
        refine hc B A ρ σ H3 s2 E _ (R.step e13) (C.st _ _ _ I2 e3) ((Wish.then (Wish.step (show Wish C ⟨H1, A, none⟩ E ((fc ρ s2).then fun z => M.of (op' y z)) (fun d s' => ∀ v H', Ext C.keep H H' → C.I s' H' → Is A H' v d → Q v H') from W2) (e2.trans e3.all))).mono fun z s4 W4 w4 H4 e4 I4 h4 => ?_)
        cases e' : op' y z with
        | none => rw [e'] at W4; exact W4.elim
        | some d' =>
          rw [e'] at W4
          exact ho' A H4 w w4 y z d' Q ((h2.stp (e3.all.stp R.ak)).stp (e4.stp R.ak)) h4 (fun a q => R.nw a (e13.2 a (e4.2 a q))) e' fun u H5 e5 h5 => W4 u H5 ((e13.trans e4).trans e5.all) (C.st _ _ _ I4 e5) h5
def xNil : Rho → M S (List D) := fun _ => .ret []
def xCons (f : Rho → M S D) (g : Rho → M S (List D)) : Rho → M S (List D) := fun ρ => (f ρ).bind fun x => (g ρ).bind fun xs => .ret (x :: xs)
variable {tr : XK → TA} {fr : Rho → M S (List D)}
theorem a_nil : EvA C (fun _ => tNil) xNil := fun B A ρ σ H s E Q R I W => W [] H (Ext.refl _ _) I .nil
theorem a_cons (ha : EvD C ta fa) (hr : EvA C tr fr) : EvA C (fun E => tCons (ta E) (tr E)) (xCons fa fr) := fun B A ρ σ H s E Q R I W => by
  refine ha B A ρ σ H s E _ R I ((Wish.then W).mono fun x s1 W1 v H1 e1 I1 h1 => ?_)
  refine hr B A ρ σ H1 s1 E _ (R.step e1) I1 ((Wish.then (W1.step e1)).mono fun y s2 W2 w H2 e2 I2 h2 => ?_)
  exact W2 _ H2 (e1.trans e2) I2 (.cons (h1.stp (e2.stp R.ak)) h2)
def lim (n : Nat) : Bool := decide (n ≤ 1000000)
theorem lim_ok {n : Nat} (h : lim n = true) : n ≤ sizeLine := Nat.le_trans (of_decide_eq_true h) (by decide)
def xTup (f : Rho → M S (List D)) : Rho → M S D := fun ρ => (f ρ).bind fun xs => match lim xs.length with | true => .ret (.tup xs) | false => fun _ => .bad
def xLstN (f : Rho → M S (List D)) : Rho → M S (List D) := fun ρ => (f ρ).bind fun xs => match lim xs.length with | true => .ret xs | false => fun _ => .bad
theorem IsL.length {A : Addr → Prop} {H : Hp} : ∀ {vs : List V} {ds : List D}, IsL A H vs ds → vs.length = ds.length
  | _, _, .nil => rfl
  | _, _, .cons _ t => congrArg (· + 1) (IsL.length t)
theorem look_upd {H : Hp} {p : Addr} {o : HO} (h : ∀ w u, o ≠ .frz w u) : look (upd H p o) p = some o := by
  unfold look
  rw [upd_same]
  cases o <;> first | rfl | exact absurd rfl (h _ _)
theorem e_tup (hr : EvA C tr fr) : EvD C (fun E => tTup (tr E)) (xTup fr) := fun B A ρ σ H s E Q R I W => by
  refine hr B A ρ σ H s E _ R I ((Wish.then W).mono fun xs s1 W1 vs H1 e1 I1 h1 => ?_)
  cases e : lim xs.length with
  | false => rw [e] at W1; exact W1.elim
  | true =>
    rw [e] at W1
    refine ⟨by rw [h1.length]; exact lim_ok e, fun p hp => ?_⟩
    have x : Ext All H1 (upd H1 p (.tup vs)) := Ext.new hp
    exact W1 _ _ (e1.trans (x.all (P := C.keep))) (C.st _ _ _ I1 x) (.tup (R.nw p (e1.2 p hp)) upd_same (h1.stp ((x.all (P := C.keep)).stp R.ak)))
theorem n_lst (hr : EvA C tr fr) : EvN C (fun E => tLst (tr E)) (xLstN fr) := fun B A ρ σ H s E Q R I W => by
  refine hr B A ρ σ H s E _ R I ((Wish.then W).mono fun xs s1 W1 vs H1 e1 I1 h1 => ?_)
  cases e : lim xs.length with
  | false => rw [e] at W1; exact W1.elim
  | true =>
    rw [e] at W1
    exact ⟨by rw [h1.length]; exact lim_ok e, fun p hp => W1 p H1 vs hp e1 (C.st _ _ _ I1 (Ext.new hp)) h1⟩
/-- a new list as a value -/
def xL (f : Rho → M S (List D)) : Rho → M S D := fun ρ => (f ρ).bind fun xs => .ret (.lst xs)
theorem e_new {te : XK → TE} {f : Rho → M S (List D)} (h : EvN C te f) : EvD C te (xL f) := fun B A ρ σ H s E Q R I W => by
  refine h B A ρ σ H s E _ R I ((Wish.then W).mono fun xs s1 W1 p H1 vs hp e1 I1 h1 => ?_)
  have x : Ext All H1 (upd H1 p (.lst vs)) := Ext.new hp
  exact W1 _ _ (e1.trans (x.all (P := C.keep))) I1 (.lst (R.nw p (e1.2 p hp)) upd_same (h1.stp ((x.all (P := C.keep)).stp R.ak)))
def xCa (op : List D → Option D) (f : Rho → M S (List D)) : Rho → M S D := fun ρ => (f ρ).bind fun xs => .of (op xs)
theorem e_ca {r : List V → Hp → VK → Prop} {op : List D → Option D} (ho : CaD r op) (hr : EvA C tr fr) : EvD C (fun E => tCB r (tr E)) (xCa op fr) := fun B A ρ σ H s E Q R I W => by
  refine hr B A ρ σ H s E _ R I ((Wish.then W).mono fun xs s1 W1 vs H1 e1 I1 h1 => ?_)
  cases e : op xs with
  | none => rw [e] at W1; exact W1.elim
  | some d =>
    rw [e] at W1
    exact ho A H1 vs xs d Q h1 (fun a q => R.nw a (e1.2 a q)) e fun u H3 e3 h3 => W1 u H3 (e1.trans e3.all) (C.st _ _ _ I1 e3) h3
/-- a call of a def -/
def xF (m : List D → M S D) (f : Rho → M S (List D)) : Rho → M S D := fun ρ => (f ρ).bind m
theorem e_call {sp : Sp} {m : List D → M S D} (hs : SpD C sp m) (hr : EvA C tr fr) : EvD C (fun E => tCallF sp E (tr E)) (xF m fr) := fun B A ρ σ H s E Q R I W => by
  refine hr B A ρ σ H s E _ R I ((Wish.then W).mono fun xs s1 W1 vs H1 e1 I1 h1 => ?_)
  refine hs A H1 vs xs s1 Q E h1 (fun a q => R.nw a (e1.2 a q)) R.ao I1 ?_
  show Wish C ⟨H1, A, none⟩ E (m xs s1) _
  have W1 : Wish C ⟨H, A, none⟩ E (m xs s1) (fun d s' => ∀ v H', Ext C.keep H H' → C.I s' H' → Is A H' v d → Q v H') := W1
  cases e : m xs s1 with
  | ok d s2 => rw [e] at W1; exact fun v H2 e2 I2 h2 => W1 v H2 (e1.trans e2) I2 h2
  | ex c fs s2 =>
    rw [e] at W1
    intro od H2 e2 I2 h2
    exact W1 od H2 (e1.trans e2) I2 h2
  | bad => rw [e] at W1; exact W1.elim
/-- a def that knows no state, called where there is one -/
def pureC (K : PySem.W.Frag) : Cfg Unit := ⟨⟨All, All, fun _ h => h⟩, K, fun _ _ => True, fun _ _ _ _ _ => trivial, fun _ _ _ _ _ _ _ => trivial⟩
def up (m : List D → M Unit D) : List D → M S D := fun ds s => match m ds () with
  | .ok d _ => .ok d s
  | .ex c fs _ => .ex c fs s
  | .bad => .bad
theorem SpD.up {K : PySem.W.Frag} {sp : Sp} {m : List D → M Unit D} (h : SpD (pureC K) sp m) : SpD C sp (up m) := fun A H vs ds s Q E hv nw kp I W => by
  refine h A H vs ds () Q E hv nw (fun _ _ => trivial) trivial ?_
  unfold Fs.up at W
  cases e : m ds () with
  | ok d u => rw [e] at W; exact fun v H2 e2 _ h2 => W v H2 e2.all (C.st _ _ _ I e2) h2
  | ex c fs u => rw [e] at W; exact fun od H2 e2 _ h2 => W od H2 e2.all (C.st _ _ _ I e2) h2
  | bad => rw [e] at W; exact W.elim
end
end Fs

namespace Fs
open PySem PySem.Spec PyProof.Rows L2
def dv : D → Option V
  | .non => some .non
  | .bl b => some (.bl b)
  | .int i => some (.int i)
  | .str x => some (.str x)
  | _ => none
theorem Is.dv {A : Addr → Prop} {H : Hp} {v w : V} {x : D} (h : Is A H v x) (e : dv x = some w) : v = w := by
  cases h <;> simp [Fs.dv] at e <;> first | exact e | (subst e; rfl)
def dvs : List D → Option (List V)
  | [] => some []
  | x :: xs => match dv x, dvs xs with
    | some v, some vs => some (v :: vs)
    | _, _ => none
theorem IsL.dvs {A : Addr → Prop} {H : Hp} : ∀ {vs ws : List V} {xs : List D}, IsL A H vs xs → dvs xs = some ws → vs = ws
  | _, _, _, .nil, e => by simp [Fs.dvs] at e; exact e.symm ▸ rfl
  | _, _, _, .cons h t, e => by
    unfold Fs.dvs at e
    split at e
    · rename_i v vs e1 e2
      cases e
      rw [h.dv e1, IsL.dvs t e2]
    · cases e
mutual
def toPy : D → Option PyData
  | .non => some .none
  | .bl b => some (.bool b)
  | .int i => some (.int i)
  | .str x => some (.str x)
  | .lst xs => (toPyL xs).map .list
  | .tup xs => (toPyL xs).map .tuple
  | .ty _ => none
  | .adr _ => none
  | .dct _ => none
  | .obj _ _ => none
  | .exc _ _ => none
def toPyL : List D → Option (List PyData)
  | [] => some []
  | x :: xs => match toPy x, toPyL xs with
    | some d, some ds => some (d :: ds)
    | _, _ => none
end
mutual
theorem Is.py {K : PySem.W.Frag} {A : Addr → Prop} {H : Hp} : ∀ {v : V} {x : D} {d : PyData}, Is A H v x → toPy x = some d → Dp K H v d
  | _, _, _, .non, e => by simp [toPy] at e; subst e; exact .non
  | _, _, _, .bl b, e => by simp [toPy] at e; subst e; exact .bl b
  | _, _, _, .int b, e => by simp [toPy] at e; subst e; exact .int b
  | _, _, _, .str b, e => by simp [toPy] at e; subst e; exact .str b
  | _, _, _, .ty _, e => by simp [toPy] at e
  | _, _, _, .adr _, e => by simp [toPy] at e
  | _, _, _, .lst h1 h2 h3, e => by
    simp only [toPy, Option.map_eq_some_iff] at e
    obtain ⟨ds, e1, e2⟩ := e
    subst e2
    exact .lst (.inl (.inl h2)) (IsL.py h3 e1)
  | _, _, _, .tup h1 h2 h3, e => by
    simp only [toPy, Option.map_eq_some_iff] at e
    obtain ⟨ds, e1, e2⟩ := e
    subst e2
    exact .tup (.inl (.inl h2)) (IsL.py h3 e1)
  | _, _, _, .dct _ _ _, e => by simp [toPy] at e
  | _, _, _, .obj _ _ _, e => by simp [toPy] at e
  | _, _, _, .exc _ _ _ _ _, e => by simp [toPy] at e
theorem IsL.py {K : PySem.W.Frag} {A : Addr → Prop} {H : Hp} : ∀ {v : List V} {x : List D} {d : List PyData}, IsL A H v x → toPyL x = some d → DpAll K H v d
  | _, _, _, .nil, e => by simp [toPyL] at e; subst e; exact .nil
  | _, _, _, .cons h t, e => by
    unfold toPyL at e
    split at e
    · rename_i d ds e1 e2
      cases e
      exact .cons (Is.py h e1) (IsL.py t e2)
    · cases e
end
def pyEq (x y : D) : Option Bool := match toPy x, toPy y with
  | some p, some q => (match SeqAt.shaped p && SeqAt.shaped q with | true => some (PyData.eqv p q) | false => none)
  | _, _ => none
def eqD (x y : D) : Option Bool := match dv x, dv y with
  | some v, some w => (match scal v w with | true => some (decide (v = w)) | false => pyEq x y)
  | _, _ => pyEq x y
def dEq (x y : D) : Option D := (eqD x y).map .bl
def dNe (x y : D) : Option D := (eqD x y).map fun b => .bl (!b)
section
variable {K : PySem.W.Frag} {A : Addr → Prop} {H : Hp}
theorem eqD_cases {v w : V} {x y : D} {b : Bool} (h1 : Is A H v x) (h2 : Is A H w y) (e : eqD x y = some b) : (scal v w = true ∧ b = decide (v = w)) ∨ ∃ p q, Dp K H v p ∧ Dp K H w q ∧ SeqAt.shaped p = true ∧ SeqAt.shaped q = true ∧ b = PyData.eqv p q := by
  have py : pyEq x y = some b → ∃ p q, Dp K H v p ∧ Dp K H w q ∧ SeqAt.shaped p = true ∧ SeqAt.shaped q = true ∧ b = PyData.eqv p q := fun e => by
    unfold pyEq at e
    split at e
    · rename_i p q e1 e2
      split at e
      · rename_i s
        rw [Bool.and_eq_true] at s
        cases e
        exact ⟨p, q, h1.py e1, h2.py e2, s.1, s.2, rfl⟩
      · cases e
    · cases e
  unfold eqD at e
  split at e
  · rename_i v' w' e1 e2
    rw [h1.dv e1, h2.dv e2]
    split at e
    · rename_i s
      cases e
      exact .inl ⟨s, rfl⟩
    · have z := py e
      rw [h1.dv e1, h2.dv e2] at z
      exact .inr z
  · exact .inr (py e)
theorem o_eq : OpD (mEq K) dEq := fun A H v w x y d Q h1 h2 nw e q => by
  obtain ⟨b, e1, rfl⟩ := Option.map_eq_some_iff.mp e
  unfold mEq
  split
  · rename_i s
    rcases eqD_cases (K := K) h1 h2 e1 with ⟨_, rfl⟩ | ⟨p, r, a1, a2, a3, a4, rfl⟩
    · exact q _ H (Ext.refl _ _) (.bl _)
    · have : PyData.eqv p r = decide (v = w) := by
        cases a1 <;> cases a2 <;> simp [scal] at s <;> simp [PyData.eqv] <;> (rw [Bool.eq_iff_iff]; simp)
      rw [← this]
      exact q _ H (Ext.refl _ _) (.bl _)
  · rename_i s
    rcases eqD_cases (K := K) h1 h2 e1 with ⟨s', _⟩ | ⟨p, r, a1, a2, a3, a4, rfl⟩
    · rw [s'] at s; cases s
    · exact ⟨p, r, a1, a2, a3, a4, q _ H (Ext.refl _ _) (.bl _)⟩
theorem o_ne : OpD (mNe K) dNe := fun A H v w x y d Q h1 h2 nw e q => by
  obtain ⟨b, e1, rfl⟩ := Option.map_eq_some_iff.mp e
  unfold mNe
  split
  · rename_i s
    rcases eqD_cases (K := K) h1 h2 e1 with ⟨_, rfl⟩ | ⟨p, r, a1, a2, a3, a4, rfl⟩
    · exact q _ H (Ext.refl _ _) (.bl _)
    · have : PyData.eqv p r = decide (v = w) := by
        cases a1 <;> cases a2 <;> simp [scal] at s <;> simp [PyData.eqv] <;> (rw [Bool.eq_iff_iff]; simp)
      rw [← this]
      exact q _ H (Ext.refl _ _) (.bl _)
  · rename_i s
    rcases eqD_cases (K := K) h1 h2 e1 with ⟨s', _⟩ | ⟨p, r, a1, a2, a3, a4, rfl⟩
    · rw [s'] at s; cases s
    · exact ⟨p, r, a1, a2, a3, a4, q _ H (Ext.refl _ _) (.bl _)⟩
def valD (kds : List (Key × D)) (k : Key) : Option D := (kds.find? fun kv => decide (kv.1 = k)).map (·.2)
theorem IsK.val {A : Addr → Prop} {H : Hp} {k : Key} : ∀ {vs : List (Key × V)} {ds : List (Key × D)}, IsK A H vs ds → (valV vs k = none ∧ valD ds k = none) ∨ ∃ v d, valV vs k = some v ∧ valD ds k = some d ∧ Is A H v d
  | _, _, .nil => .inl ⟨rfl, rfl⟩
  | _, _, .cons (k := k') (v := v) (d := d) (vs := vs) (ds := ds) h t => by
    unfold valV valD
    rw [List.find?_cons, List.find?_cons]
    by_cases e : k' = k
    · simp only [e, decide_true]
      exact .inr ⟨v, d, rfl, rfl, h⟩
    · simp only [e, decide_false]
      exact IsK.val t
def keyD : D → Option Key
  | .int i => some (.inl i)
  | .str x => some (.inr x)
  | _ => none
theorem Is.key {A : Addr → Prop} {H : Hp} {v : V} {x : D} {k : Key} (h : Is A H v x) (e : keyD x = some k) : keyOf v = some k := by
  cases h <;> simp [keyD] at e <;> simp [keyOf, e]
def flatIn (x : D) (xs : List D) : Option Bool := match dv x, dvs xs with
  | some v, some vs => (match flatV v && vs.all flatV with | true => some (inV v vs) | false => none)
  | _, _ => none
def pyIn (x : D) (xs : List D) : Option Bool := match toPy x, toPyL xs with
  | some p, some qs => (match SeqAt.shaped p && SeqAt.shaped (.list qs) with | true => some (qs.any fun z => PyData.eqv z p) | false => none)
  | _, _ => none
def inD (x y : D) : Option Bool := match y with
  | .str j => (match x with | .str i => some (inS i j) | _ => none)
  | .lst xs => (match flatIn x xs with | some b => some b | none => (match dv x, dvs xs with | some _, some _ => none | _, _ => pyIn x xs))
  | .tup xs => flatIn x xs
  | .dct kds => (keyD x).map fun k => (valD kds k).isSome
  | _ => none
theorem flatIn_of {v : V} {vs : List V} {x : D} {xs : List D} {b : Bool} (h1 : Is A H v x) (h2 : IsL A H vs xs) (e : flatIn x xs = some b) : (flatV v && vs.all flatV) = true ∧ b = inV v vs := by
  unfold flatIn at e
  split at e
  · rename_i v' vs' e1 e2
    rw [h1.dv e1, h2.dvs e2]
    split at e
    · rename_i f
      cases e
      exact ⟨f, rfl⟩
    · cases e
  · cases e
def dIn2 (x y : D) : Option D := (inD x y).map .bl
def dNi2 (x y : D) : Option D := (inD x y).map fun b => .bl (!b)
theorem notFlat {v : V} {x : D} (h : Is A H v x) (e : dv x = none) : flatV v = false := by
  cases h <;> simp [dv] at e <;> rfl
theorem notFlats : ∀ {vs : List V} {xs : List D}, IsL A H vs xs → dvs xs = none → vs.all flatV = false
  | _, _, .nil, e => by simp [dvs] at e
  | _, _, .cons h t, e => by
    unfold dvs at e
    rw [List.all_cons]
    split at e
    · cases e
    · rename_i n
      cases e1 : dv _ with
      | none => rw [notFlat h e1]; rfl
      | some v =>
        cases e2 : dvs _ with
        | none => rw [notFlats t e2, Bool.and_false]
        | some vs => exact absurd e2 (n v vs e1)
def inR (K : PySem.W.Frag) (c : Bool → V) : R2 := fun v w H Q => match w with
  | .str j => (match v with | .str i => Q (c (inS i j)) H | _ => False)
  | .ref a => (match look H a with
    | some (.lst xs) => (match flatV v && xs.all flatV with | true => Q (c (inV v xs)) H | false => ∃ d ds, Dp K H v d ∧ Dp K H w (.list ds) ∧ SeqAt.shaped d = true ∧ SeqAt.shaped (.list ds) = true ∧ Q (c (ds.any fun z => PyData.eqv z d)) H)
    | some (.tup xs) => (match flatV v && xs.all flatV with | true => Q (c (inV v xs)) H | false => False)
    | some (.dK kvs) => (match keyOf v with | some k => Q (c (valV kvs k).isSome) H | none => False)
    | _ => False)
  | _ => False
theorem mIn_eq : mIn K = inR K fun b => .bl b := by
  funext v w H Q
  unfold mIn inR rInD
  rfl
theorem mNi_eq : mNi K = inR K fun b => .bl (!b) := by
  funext v w H Q
  unfold mNi inR rNotInD
  rfl
theorem in_core {v w : V} {x y : D} {b : Bool} {Q : VK} (c : Bool → V) (h1 : Is A H v x) (h2 : Is A H w y) (e : inD x y = some b) (q : Q (c b) H) : inR K c v w H Q := by
  unfold inR
  unfold inD at e
  split at e
  · cases h2
    split at e
    · cases h1
      cases e
      exact q
    · cases e
  · cases h2 with
    | @lst a vs ds k1 k2 k3 =>
      have lk : look H a = some (.lst vs) := by unfold look; rw [k2]
      simp only [lk]
      split at e
      · rename_i b' f
        cases e
        obtain ⟨f1, f2⟩ := flatIn_of h1 k3 f
        simp only [f1]
        rw [← f2]; exact q
      · split at e
        · cases e
        · rename_i n
          unfold pyIn at e
          split at e
          · rename_i p qs e1 e2
            split at e
            · rename_i s
              rw [Bool.and_eq_true] at s
              cases e
              have nf : (flatV v && vs.all flatV) = false := by
                cases d1 : dv x with
                | none => rw [notFlat h1 d1]; rfl
                | some v' =>
                  cases d2 : dvs _ with
                  | none => rw [notFlats k3 d2, Bool.and_false]
                  | some vs' => exact absurd d2 (n v' vs' d1)
              simp only [nf]
              exact ⟨p, qs, h1.py e1, .lst (.inl (.inl k2)) (k3.py e2), s.1, s.2, q⟩
            · cases e
          · cases e
  · cases h2 with
    | @tup a vs ds k1 k2 k3 =>
      have lk : look H a = some (.tup vs) := by unfold look; rw [k2]
      simp only [lk]
      obtain ⟨f1, f2⟩ := flatIn_of h1 k3 e
      simp only [f1]
      rw [← f2]; exact q
  · cases h2 with
    | @dct a vs ds k1 k2 k3 =>
      obtain ⟨k, e1, e2⟩ := Option.map_eq_some_iff.mp e
      simp only [k2, h1.key e1]
      rcases k3.val (k := k) with ⟨z1, z2⟩ | ⟨v', d', z1, z2, _⟩
      · rw [z1]; rw [z2] at e2; rw [← e2] at q; exact q
      · rw [z1]; rw [z2] at e2; rw [← e2] at q; exact q
  · cases e
theorem o_in : OpD (mIn K) dIn2 := fun A H v w x y d Q h1 h2 nw e q => by
  obtain ⟨b, e1, rfl⟩ := Option.map_eq_some_iff.mp e
  rw [mIn_eq]
  exact in_core (K := K) (fun b => .bl b) h1 h2 e1 (q _ H (Ext.refl _ _) (.bl _))
theorem o_ni : OpD (mNi K) dNi2 := fun A H v w x y d Q h1 h2 nw e q => by
  obtain ⟨b, e1, rfl⟩ := Option.map_eq_some_iff.mp e
  rw [mNi_eq]
  exact in_core (K := K) (fun b => .bl (!b)) h1 h2 e1 (q _ H (Ext.refl _ _) (.bl _))
def dCp (f : Int → Int → Bool) (g : Str → Str → Bool) (x y : D) : Option D := match x, y with
  | .int i, .int j => some (.bl (f i j))
  | .str i, .str j => some (.bl (g i j))
  | _, _ => none
theorem o_cp {f : Int → Int → Bool} {g : Str → Str → Bool} : OpD (mCp f g) (dCp f g) := fun A H v w x y d Q h1 h2 nw e q => by
  unfold dCp at e
  split at e <;> first
    | (cases h1; cases h2; cases e; exact q _ H (Ext.refl _ _) (.bl _))
    | cases e
def dLt : D → D → Option D := dCp (fun i j => decide (i < j)) fun i j => ltS i j
def dLe : D → D → Option D := dCp (fun i j => decide (i ≤ j)) fun i j => !ltS j i
def dGt : D → D → Option D := dCp (fun i j => decide (j < i)) fun i j => ltS j i
def dGe : D → D → Option D := dCp (fun i j => decide (j ≤ i)) fun i j => !ltS i j
theorem o_lt : OpD mLt dLt := o_cp
theorem o_le : OpD mLe dLe := o_cp
theorem o_gt : OpD mGt dGt := o_cp
theorem o_ge : OpD mGe dGe := o_cp
/-- x is None -/
def isNon : D → Bool
  | .non => true
  | _ => false
def dIsN (x y : D) : Option D := match y with | .non => some (.bl (isNon x)) | _ => none
def dNoN (x y : D) : Option D := match y with | .non => some (.bl (!isNon x)) | _ => none
theorem isNon_of {v : V} {x : D} (h : Is A H v x) : isNon x = decide (v = .non) := by cases h <;> rfl
theorem o_isN : OpD mIsN dIsN := fun A H v w x y d Q h1 h2 nw e q => by
  unfold dIsN at e
  split at e
  · cases h2; cases e
    have := q _ H (Ext.refl _ _) (.bl _)
    rw [isNon_of h1] at this
    exact this
  · cases e
theorem o_noN : OpD mNoN dNoN := fun A H v w x y d Q h1 h2 nw e q => by
  unfold dNoN at e
  split at e
  · cases h2; cases e
    have := q _ H (Ext.refl _ _) (.bl _)
    rw [isNon_of h1] at this
    exact this
  · cases e
theorem IsL.append : ∀ {vs ws : List V} {xs ys : List D}, IsL A H vs xs → IsL A H ws ys → IsL A H (vs ++ ws) (xs ++ ys)
  | _, _, _, _, .nil, k => k
  | _, _, _, _, .cons h t, k => .cons h (IsL.append t k)
def dAdd (x y : D) : Option D := match x, y with
  | .int i, .int j => some (.int (i + j))
  | .str i, .str j => (match lim (i.length + j.length) with | true => some (.str (i ++ j)) | false => none)
  | .lst xs, .lst ys => (match lim (xs.length + ys.length) with | true => some (.lst (xs ++ ys)) | false => none)
  | _, _ => none
theorem o_add : OpD (mAdd K) dAdd := fun A H v w x y d Q h1 h2 nw e q => by
  unfold dAdd at e
  split at e
  · cases h1; cases h2; cases e
    exact q _ H (Ext.refl _ _) (.int _)
  · cases h1; cases h2
    split at e
    · rename_i l
      cases e
      exact ⟨lim_ok l, q _ H (Ext.refl _ _) (.str _)⟩
    · cases e
  · cases h1 with
    | @lst a vs _ k1 k2 k3 =>
      cases h2 with
      | @lst b ws _ m1 m2 m3 =>
        split at e
        · rename_i l
          cases e
          unfold mAdd
          simp only [k2, m2]
          refine ⟨by rw [k3.length, m3.length]; exact lim_ok l, fun p hp => ?_⟩
          have x : Ext All H (upd H p (.lst (vs ++ ws))) := Ext.new hp
          exact q _ _ x (.lst (nw p hp) upd_same ((k3.append m3).stp (x.stp fun _ _ => trivial)))
        · cases e
  · cases e
def dI2 (C : Int → Int → Bool) (g : Int → Int → Int) (x y : D) : Option D := match x, y with
  | .int i, .int j => (match C i j with | true => some (.int (g i j)) | false => none)
  | _, _ => none
theorem o_I2 {C : Int → Int → Bool} {P : Int → Int → Prop} {g : Int → Int → Int} (hc : ∀ i j, C i j = true → P i j) : OpD (mC2 P fun i j => .int (g i j)) (dI2 C g) := fun A H v w x y d Q h1 h2 nw e q => by
  unfold dI2 at e
  split at e
  · cases h1; cases h2
    split at e
    · rename_i c
      cases e
      exact ⟨hc _ _ c, q _ H (Ext.refl _ _) (.int _)⟩
    · cases e
  · cases e
def dSub (x y : D) : Option D := match x, y with | .int i, .int j => some (.int (i - j)) | _, _ => none
theorem o_sub : OpD mSub dSub := fun A H v w x y d Q h1 h2 nw e q => by
  unfold dSub at e
  split at e
  · cases h1; cases h2; cases e
    exact q _ H (Ext.refl _ _) (.int _)
  · cases e
def dMul (x y : D) : Option D := match x, y with
  | .int i, .int j => (match decide ((Builtin.Int.intBits i : Int) + (Builtin.Int.intBits j : Int) ≤ 134217728) with | true => some (.int (i * j)) | false => none)
  | .lst xs, .int k => (match decide (0 ≤ k ∧ k < 100000) && lim (xs.length * k.toNat) with | true => some (.lst (List.replicate k.toNat xs).flatten) | false => none)
  | _, _ => none
theorem IsL.rep {vs : List V} {xs : List D} (h : IsL A H vs xs) : ∀ n : Nat, IsL A H (List.replicate n vs).flatten (List.replicate n xs).flatten
  | 0 => .nil
  | n + 1 => by
    rw [List.replicate_succ, List.replicate_succ, List.flatten_cons, List.flatten_cons]
    exact h.append (IsL.rep h n)
theorem o_mul : OpD mMul dMul := fun A H v w x y d Q h1 h2 nw e q => by
  unfold dMul at e
  split at e
  · cases h1; cases h2
    split at e
    · rename_i c
      cases e
      refine ⟨?_, q _ H (Ext.refl _ _) (.int _)⟩
      have c2 := of_decide_eq_true c
      exact c2
    · cases e
  · rename_i xs0 k0
    cases h2
    cases h1 with
    | @lst a vs _ k1 k2 k3 =>
      split at e
      · rename_i c
        cases e
        rw [Bool.and_eq_true] at c
        have c1 := of_decide_eq_true c.1
        refine ⟨a, _, vs, rfl, rfl, k2, by omega, by omega, by rw [k3.length]; exact lim_ok c.2, fun p hp => ?_⟩
        have x := Ext.new (o := .lst (List.replicate k0.toNat vs).flatten) hp
        exact q _ _ x (.lst (nw p hp) upd_same ((k3.rep _).stp (x.stp fun _ _ => trivial)))
      · cases e
  · cases e
def dMod : D → D → Option D := dI2 (fun _ j => decide (0 < j)) fun i j => i % j
theorem o_mod : OpD mMod dMod := o_I2 fun _ _ h => of_decide_eq_true h
def dFdv : D → D → Option D := dI2 (fun _ j => decide (0 < j ∧ j < 1073741824)) fun i j => i / j
theorem o_fdv : OpD mFdv dFdv := o_I2 fun _ _ h => by have h2 := of_decide_eq_true h; exact h2
def dPow : D → D → Option D := dI2 (fun i j => decide (0 ≤ j ∧ j ≤ 1000000 ∧ i.natAbs < 2 ^ 64)) fun i j => i ^ j.toNat
theorem o_pow : OpD mPow dPow := o_I2 fun _ _ h => by have h2 := of_decide_eq_true h; exact h2
def dNeg (x : D) : Option D := match x with | .int i => some (.int (-i)) | _ => none
theorem u_neg : UnD mNeg dNeg := fun A H v x d Q h1 nw e q => by
  unfold dNeg at e
  split at e
  · cases h1; cases e
    exact q _ H (Ext.refl _ _) (.int _)
  · cases e
theorem IsL.get : ∀ {vs : List V} {xs : List D} (j : Nat), IsL A H vs xs → (vs[j]? = none ∧ xs[j]? = none) ∨ ∃ v x, vs[j]? = some v ∧ xs[j]? = some x ∧ Is A H v x
  | _, _, j, .nil => .inl (by simp)
  | _, _, 0, .cons h t => .inr ⟨_, _, rfl, rfl, h⟩
  | _, _, j + 1, .cons h t => by simpa using IsL.get j t
theorem IsL.at {vs : List V} {xs : List D} {i : Int} {x : D} (h : IsL A H vs xs) (e : atI xs i = some x) : ∃ v, atI vs i = some v ∧ Is A H v x := by
  unfold atI at e ⊢
  rw [h.length]
  obtain ⟨j, e1, e2⟩ := Option.bind_eq_some_iff.mp e
  rw [e1, Option.bind_some]
  rcases h.get j with ⟨_, z⟩ | ⟨v, y, z1, z2, z3⟩
  · rw [z] at e2; cases e2
  · rw [z2] at e2; cases e2
    exact ⟨v, z1, z3⟩
def dIx (x y : D) : Option D := match x with
  | .str z => (match y with | .int i => (match lim z.length with | true => (atI z.cps.toList i).map fun c => .str ⟨#[c]⟩ | false => none) | _ => none)
  | .lst xs => (match y with | .int i => atI xs i | _ => none)
  | .tup xs => (match y with | .int i => atI xs i | _ => none)
  | .dct kds => (match keyD y with | some k => valD kds k | none => none)
  | _ => none
theorem o_ix : OpD mIx dIx := fun A H v w x y d Q h1 h2 nw e q => by
  unfold dIx at e
  split at e
  · cases h1
    split at e
    · cases h2
      split at e
      · rename_i l
        obtain ⟨c, e1, rfl⟩ := Option.map_eq_some_iff.mp e
        unfold mIx
        simp only [e1]
        exact ⟨lim_ok l, q _ H (Ext.refl _ _) (.str _)⟩
      · cases e
    · cases e
  · cases h1 with
    | @lst a vs _ k1 k2 k3 =>
      split at e
      · cases h2
        obtain ⟨v', e1, e2⟩ := k3.at e
        have lk : look H a = some (.lst vs) := by unfold look; rw [k2]
        unfold mIx
        simp only [lk, e1]
        exact q _ H (Ext.refl _ _) e2
      · cases e
  · cases h1 with
    | @tup a vs _ k1 k2 k3 =>
      split at e
      · cases h2
        obtain ⟨v', e1, e2⟩ := k3.at e
        have lk : look H a = some (.tup vs) := by unfold look; rw [k2]
        unfold mIx
        simp only [lk, e1]
        exact q _ H (Ext.refl _ _) e2
      · cases e
  · cases h1 with
    | @dct a vs _ k1 k2 k3 =>
      split at e
      · rename_i k ek
        unfold mIx
        simp only [k2, h2.key ek]
        rcases k3.val (k := k) with ⟨_, z⟩ | ⟨v', d', z1, z2, z3⟩
        · rw [z] at e; cases e
        · rw [z2] at e; cases e
          simp only [z1]
          exact q _ H (Ext.refl _ _) z3
      · cases e
  · cases e
/-- a slice -/
def cutD (xs : List D) (lo hi : Option Int) : List D := (xs.drop (HT.sIx xs.length 0 lo)).take (HT.sIx xs.length xs.length hi - HT.sIx xs.length 0 lo)
theorem IsL.drop : ∀ {vs : List V} {xs : List D} (n : Nat), IsL A H vs xs → IsL A H (vs.drop n) (xs.drop n)
  | _, _, 0, h => h
  | _, _, n + 1, .nil => .nil
  | _, _, n + 1, .cons h t => IsL.drop n t
theorem IsL.take : ∀ {vs : List V} {xs : List D} (n : Nat), IsL A H vs xs → IsL A H (vs.take n) (xs.take n)
  | _, _, 0, h => .nil
  | _, _, n + 1, .nil => .nil
  | _, _, n + 1, .cons h t => .cons h (IsL.take n t)
theorem IsL.cut {vs : List V} {xs : List D} (h : IsL A H vs xs) (lo hi : Option Int) : IsL A H (cutV vs lo hi) (cutD xs lo hi) := by
  unfold cutV cutD
  rw [h.length]
  exact (h.drop _).take _
def SlD (r : V → Option Int → Option Int → Hp → VK → Prop) (op : D → Option Int → Option Int → Option D) : Prop := ∀ (A : Addr → Prop) (H : Hp) (v : V) (lo hi : Option Int) (x d : D) (Q : VK), Is A H v x → (∀ a, H a = none → A a) → op x lo hi = some d →
  (∀ u H', Ext All H H' → Is A H' u d → Q u H') → r v lo hi H Q
def dSl (x : D) (lo hi : Option Int) : Option D := match x with
  | .str z => (match lim z.length with | true => some (.str (cutS z lo hi)) | false => none)
  | .lst xs => some (.lst (cutD xs lo hi))
  | .tup xs => (match decide (HT.sIx xs.length 0 lo = 0 ∧ HT.sIx xs.length xs.length hi = xs.length) with | true => none | false => some (.tup (cutD xs lo hi)))
  | _ => none
theorem s_sl : SlD (mSl K) dSl := fun A H v lo hi x d Q h1 nw e q => by
  unfold dSl at e
  split at e
  · cases h1
    split at e
    · rename_i l
      cases e
      exact ⟨lim_ok l, q _ H (Ext.refl _ _) (.str _)⟩
    · cases e
  · cases h1 with
    | @lst a vs _ k1 k2 k3 =>
      cases e
      have lk : look H a = some (.lst vs) := by unfold look; rw [k2]
      unfold mSl
      simp only [lk]
      intro p hp
      have x := Ext.new (o := .lst (cutV vs lo hi)) hp
      exact q _ _ x (.lst (nw p hp) upd_same ((k3.cut lo hi).stp (x.stp fun _ _ => trivial)))
  · cases h1 with
    | @tup a vs _ k1 k2 k3 =>
      split at e
      · cases e
      · rename_i c
        cases e
        have lk : look H a = some (.tup vs) := by unfold look; rw [k2]
        unfold mSl
        simp only [lk]
        refine ⟨a, vs, rfl, .inl (.inl k2), by rw [k3.length]; exact of_decide_eq_false c, fun p hp => ?_⟩
        have x := Ext.new (o := .tup (cutV vs lo hi)) hp
        exact q _ _ x (.tup (nw p hp) upd_same ((k3.cut lo hi).stp (x.stp fun _ _ => trivial)))
  · cases e
end
end Fs

namespace Fs
open PySem PySem.Spec PyProof.Rows L2
variable {S : Type}
theorem Rel.setVal {P : Pl} {B : Bs} {A : Addr → Prop} {ρ : Rho} {σ : L2.St} {H : Hp} {i : Nat} {v : V} {d : D} (R : Rel P B A ρ σ H) (h : Is A H v d) : Rel P B A (ρ.set i (.val d)) (σ.set i (some v)) H where
  len := by simpa using R.len
  ext := R.ext
  nw := R.nw
  n0 := R.n0
  sub := R.sub
  kp := R.kp
  slot := fun j sl e => by
    by_cases q : i = j
    · subst q
      by_cases l : i < ρ.length
      · rw [List.getElem?_set_self l] at e
        cases e
        rw [List.getElem?_set_self (by rw [← R.len]; exact l)]
        exact ⟨v, rfl, h⟩
      · rw [List.getElem?_eq_none (by simpa using l)] at e; cases e
    · rw [List.getElem?_set_ne q] at e ⊢
      exact R.slot j sl e
  apart := fun j k oi oj a e1 e2 e3 e4 => by
    have ne : ∀ {j : Nat} {o : OD}, (ρ.set i (.val d))[j]? = some (.own o) → i ≠ j := fun {j o} e z => by
      subst z
      by_cases l : i < ρ.length
      · rw [List.getElem?_set_self l] at e; cases e
      · rw [List.getElem?_eq_none (by simpa using l)] at e; cases e
    have n1 := ne e1
    have n2 := ne e2
    rw [List.getElem?_set_ne n1] at e1 e3
    rw [List.getElem?_set_ne n2] at e2 e4
    exact R.apart j k oi oj a e1 e2 e3 e4
def wipeR (ρ : Rho) : List Nat → Rho
  | [] => ρ
  | v :: vs => (wipeR ρ vs).set v .no
theorem Rel.setNo {P : Pl} {B : Bs} {A : Addr → Prop} {ρ : Rho} {σ : L2.St} {H : Hp} {i : Nat} {w : Option V} (R : Rel P B A ρ σ H) : Rel P B A (ρ.set i .no) (σ.set i w) H where
  len := by simpa using R.len
  ext := R.ext
  nw := R.nw
  n0 := R.n0
  sub := R.sub
  kp := R.kp
  slot := fun j sl e => by
    by_cases q : i = j
    · subst q
      by_cases l : i < ρ.length
      · rw [List.getElem?_set_self l] at e
        cases e
        trivial
      · rw [List.getElem?_eq_none (by simpa using l)] at e; cases e
    · rw [List.getElem?_set_ne q] at e ⊢
      exact R.slot j sl e
  apart := fun j k oi oj a e1 e2 e3 e4 => by
    have ne : ∀ {j : Nat} {o : OD}, (ρ.set i .no)[j]? = some (.own o) → i ≠ j := fun {j o} e z => by
      subst z
      by_cases l : i < ρ.length
      · rw [List.getElem?_set_self l] at e; cases e
      · rw [List.getElem?_eq_none (by simpa using l)] at e; cases e
    have n1 := ne e1
    have n2 := ne e2
    rw [List.getElem?_set_ne n1] at e1 e3
    rw [List.getElem?_set_ne n2] at e2 e4
    exact R.apart j k oi oj a e1 e2 e3 e4
theorem Rel.wipe {P : Pl} {B : Bs} {A : Addr → Prop} {ρ : Rho} {σ : L2.St} {H : Hp} (R : Rel P B A ρ σ H) : ∀ vs : List Nat, Rel P B A (wipeR ρ vs) (L2.wipe σ vs) H
  | [] => R
  | _ :: vs => (R.wipe vs).setNo
theorem wipe_set {σ : L2.St} {i : Nat} {w : Option V} : ∀ {vs : List Nat}, i ∈ vs → L2.wipe (σ.set i w) vs = L2.wipe σ vs
  | [], h => absurd h (by simp)
  | v :: vs, h => by
    show (L2.wipe (σ.set i w) vs).set v none = (L2.wipe σ vs).set v none
    by_cases q : i ∈ vs
    · rw [wipe_set q]
    · have e : i = v := by simpa [q] using h
      subst e
      have key : ∀ (vs : List Nat), i ∉ vs → L2.wipe (σ.set i w) vs = (L2.wipe σ vs).set i w := by
        intro vs
        induction vs with
        | nil => intro _; rfl
        | cons u us ih =>
          intro hn
          show (L2.wipe (σ.set i w) us).set u none = ((L2.wipe σ us).set u none).set i w
          rw [ih (fun z => hn (by simp [z])), List.set_comm _ _ (fun z => hn (by simp [z]))]
      rw [key vs q, List.set_set]
theorem wipe_in {σ : L2.St} {vs : List Nat} : ∀ us : List Nat, (∀ u ∈ us, u ∈ vs) → L2.wipe (L2.wipe σ us) vs = L2.wipe σ vs
  | [], _ => rfl
  | u :: us, h => by
    show L2.wipe ((L2.wipe σ us).set u none) vs = _
    rw [wipe_set (h u List.mem_cons_self)]
    exact wipe_in us fun w hw => h w (List.mem_cons_of_mem _ hw)
theorem wipe_idem {σ : L2.St} {vs : List Nat} : L2.wipe (L2.wipe σ vs) vs = L2.wipe σ vs := wipe_in vs fun _ h => h
/-- a target, its slots among vs -/
def TgD (t : TG) (g : D → Rho → Option Rho) (vs : List Nat) : Prop := ∀ (P : Pl) (B : Bs) (A : Addr → Prop) (ρ ρ1 : Rho) (σ : L2.St) (H : Hp) (v : V) (d : D) (Q : L2.St → Hp → Prop), Rel P B A ρ σ H → Is A H v d → g d ρ = some ρ1 →
  (∀ σ1, Rel P B A ρ1 σ1 H → L2.wipe σ1 vs = L2.wipe σ vs → Q σ1 H) → t v σ H Q
def TgsD (t : TGs) (g : List D → Rho → Option Rho) (vs : List Nat) : Prop := ∀ (P : Pl) (B : Bs) (A : Addr → Prop) (ρ ρ1 : Rho) (σ : L2.St) (H : Hp) (v : List V) (d : List D) (Q : L2.St → Hp → Prop), Rel P B A ρ σ H → IsL A H v d → g d ρ = some ρ1 →
  (∀ σ1, Rel P B A ρ1 σ1 H → L2.wipe σ1 vs = L2.wipe σ vs → Q σ1 H) → t v σ H Q
def gV (i : Nat) : D → Rho → Option Rho := fun d ρ => some (ρ.set i (.val d))
theorem g_name {i : Nat} {vs : List Nat} (hi : i ∈ vs) : TgD (gName i) (gV i) vs := fun P B A ρ ρ1 σ H v d Q R h e q => by
  cases e
  exact q _ (R.setVal h) (wipe_set hi)
def gVn : List D → Rho → Option Rho := fun ds ρ => match ds with | [] => some ρ | _ => none
def gVc (g : D → Rho → Option Rho) (h : List D → Rho → Option Rho) : List D → Rho → Option Rho := fun ds ρ => match ds with | d :: r => (g d ρ).bind (h r) | [] => none
theorem g_nil {vs : List Nat} : TgsD gNl gVn vs := fun P B A ρ ρ1 σ H v d Q R h e q => by
  cases h with
  | nil => cases e; exact q σ R rfl
  | cons _ _ => cases e
theorem g_cons {t : TG} {u : TGs} {g : D → Rho → Option Rho} {h : List D → Rho → Option Rho} {vs : List Nat} (h1 : TgD t g vs) (h2 : TgsD u h vs) : TgsD (gCs t u) (gVc g h) vs := fun P B A ρ ρ1 σ H v d Q R hl e q => by
  cases hl with
  | nil => cases e
  | cons k l =>
    obtain ⟨ρ2, e1, e2⟩ := Option.bind_eq_some_iff.mp e
    exact h1 P B A ρ ρ2 σ H _ _ _ R k e1 fun σ1 R1 w1 => h2 P B A ρ2 ρ1 σ1 H _ _ _ R1 l e2 fun σ2 R2 w2 => q σ2 R2 (w2.trans w1)
def gVt (n : Nat) (h : List D → Rho → Option Rho) : D → Rho → Option Rho := fun d ρ => match d with
  | .tup ds => (match decide (ds.length = n) with | true => h ds ρ | false => none)
  | _ => none
theorem g_tup {t : TGs} {n : Nat} {h : List D → Rho → Option Rho} {vs : List Nat} (h2 : TgsD t h vs) : TgD (gTp (gNum n t)) (gVt n h) vs := fun P B A ρ ρ1 σ H v d Q R hv e q => by
  unfold gVt at e
  split at e
  · cases hv with
    | @tup a vs' ds k1 k2 k3 =>
      split at e
      · rename_i c
        have lk : look H a = some (.tup vs') := by unfold look; rw [k2]
        have c2 : decide (vs'.length = n) = true := by rw [k3.length]; exact c
        unfold gTp gNum
        simp only [lk, c2]
        exact h2 P B A ρ ρ1 σ H _ _ _ R k3 e q
      · cases e
  · cases e
def Walks (A : Addr → Prop) (H : Hp) (J : It) (ds : List D) : Prop := ∀ (A1 : Addr → Prop) (H1 : Hp), Stp A H A1 H1 → (∀ a, H1 a = none → A1 a) →
  (∀ i, ds.length ≤ i → J.stop i H1) ∧ ∀ i d, ds[i]? = some d → J.go i H1 ∧ ∀ x H2, J.yld i H1 x H2 → Ext All H1 H2 ∧ Is A1 H2 x d
def EvI (C : Cfg S) (wi : XK → TI) (f : Rho → M S (List D)) : Prop := ∀ (B : Bs) (A : Addr → Prop) (ρ : Rho) (σ : L2.St) (H : Hp) (s : S) (E : XK) (Q : It → Hp → Prop), Rel C.toPl B A ρ σ H → C.I s H →
  Wish C ⟨H, A, none⟩ E (f ρ s) (fun ds s1 => ∀ J H1, Ext C.keep H H1 → C.I s1 H1 → Walks A H1 J ds → Q J H1) → wi E σ H Q
theorem walks_list {K : PySem.W.Frag} {A : Addr → Prop} {H : Hp} {a : Addr} {vs : List V} {ds : List D} (h1 : A a) (h2 : H a = some (.lst vs)) (h3 : IsL A H vs ds) : Walks A H (Itl K a) ds := fun A1 H1 x nw => by
  obtain ⟨k1, k2⟩ := x a _ h1 h2
  have k3 := h3.stp x
  have sq : SqL K H1 a vs := .inl (.inl k2)
  refine ⟨fun i hi => ⟨vs, sq, by rw [k3.length]; exact hi⟩, fun i d e => ?_⟩
  rcases k3.get i with ⟨_, z⟩ | ⟨v, d', z1, z2, z3⟩
  · rw [z] at e; cases e
  · rw [z2] at e; cases e
    refine ⟨⟨vs, v, sq, z1⟩, fun x H2 y => ?_⟩
    obtain ⟨e1, y⟩ := y
    rw [e1]
    have q := y vs sq
    rw [z1] at q; cases q
    exact ⟨Ext.refl _ _, z3⟩
theorem walks_tup {K : PySem.W.Frag} {A : Addr → Prop} {H : Hp} {a : Addr} {vs : List V} {ds : List D} (h1 : A a) (h2 : H a = some (.tup vs)) (h3 : IsL A H vs ds) : Walks A H (Itt K a) ds := fun A1 H1 x nw => by
  obtain ⟨k1, k2⟩ := x a _ h1 h2
  have k3 := h3.stp x
  have sq : SqT K H1 a vs := .inl (.inl k2)
  refine ⟨fun i hi => ⟨vs, sq, by rw [k3.length]; exact hi⟩, fun i d e => ?_⟩
  rcases k3.get i with ⟨_, z⟩ | ⟨v, d', z1, z2, z3⟩
  · rw [z] at e; cases e
  · rw [z2] at e; cases e
    refine ⟨⟨vs, v, sq, z1⟩, fun x H2 y => ?_⟩
    obtain ⟨e1, y⟩ := y
    rw [e1]
    have q := y vs sq
    rw [z1] at q; cases q
    exact ⟨Ext.refl _ _, z3⟩
/-- the signs of a text -/
def signs (z : Str) : List D := z.cps.toList.map fun c => .str ⟨#[c]⟩
theorem walks_str {A : Addr → Prop} {H : Hp} {z : Str} : Walks A H (Its z) (signs z) := fun A1 H1 x nw => by
  refine ⟨fun i hi => ?_, fun i d e => ?_⟩
  · have : z.cps.size ≤ i := by simpa [signs] using hi
    exact this
  · unfold signs at e
    rw [List.getElem?_map, Array.getElem?_toList] at e
    obtain ⟨c, e1, e2⟩ := Option.map_eq_some_iff.mp e
    refine ⟨(Array.getElem?_eq_some_iff.mp e1).1, fun x H2 y => ?_⟩
    obtain ⟨e3, c', y1, y2⟩ := y
    rw [e1] at y1; cases y1
    rw [e3, y2, ← e2]
    exact ⟨Ext.refl _ _, .str _⟩
def numd : Nat → List D → List D
  | _, [] => []
  | n, d :: ds => .tup [.int n, d] :: numd (n + 1) ds
theorem numd_get : ∀ (ds : List D) (n i : Nat), (numd n ds)[i]? = (ds[i]?).map fun d => .tup [.int ((n + i : Nat) : Int), d]
  | [], n, i => by simp [numd]
  | d :: ds, n, 0 => by simp [numd]
  | d :: ds, n, i + 1 => by
    have := numd_get ds (n + 1) i
    simp only [numd, List.getElem?_cons_succ]
    rw [this]
    have e : n + 1 + i = n + (i + 1) := by omega
    rw [e]
theorem numd_length : ∀ (ds : List D) (n : Nat), (numd n ds).length = ds.length
  | [], _ => rfl
  | _ :: ds, n => congrArg (· + 1) (numd_length ds (n + 1))
theorem walks_enum {K : PySem.W.Frag} {A : Addr → Prop} {H : Hp} {a : Addr} {vs : List V} {ds : List D} (h1 : A a) (h2 : H a = some (.lst vs)) (h3 : IsL A H vs ds) : Walks A H (Ite K a) (numd 0 ds) := fun A1 H1 x nw => by
  obtain ⟨k1, k2⟩ := x a _ h1 h2
  have k3 := h3.stp x
  have sq : SqL K H1 a vs := .inl (.inl k2)
  refine ⟨fun i hi => ⟨vs, sq, by rw [k3.length]; simpa [numd_length] using hi⟩, fun i d e => ?_⟩
  rw [numd_get] at e
  rcases k3.get i with ⟨_, z⟩ | ⟨v, d', z1, z2, z3⟩
  · rw [z] at e; cases e
  · rw [z2] at e
    cases e
    refine ⟨⟨vs, v, sq, z1⟩, fun x H2 y => ?_⟩
    obtain ⟨T, w, rfl, hT, rfl, y⟩ := y
    have q := y vs sq
    rw [z1] at q; cases q
    have xx : Ext All H1 (upd H1 T (.tup [.int (i : Nat), v])) := Ext.new hT
    refine ⟨xx, .tup (nw T hT) upd_same (.cons ?_ (.cons (z3.stp (xx.stp fun _ _ => trivial)) .nil))⟩
    rw [Nat.zero_add]
    exact .int _
theorem walks_rng {A : Addr → Prop} {H : Hp} {lo : Int} {n : Nat} : Walks A H (Itr lo n) ((List.range n).map fun i : Nat => D.int (lo + (i : Int))) := fun A1 H1 x nw => by
  refine ⟨fun i hi => ?_, fun i d e => ?_⟩
  · have : n ≤ i := by simpa using hi
    exact this
  · rw [List.getElem?_map] at e
    obtain ⟨j, e1, e2⟩ := Option.map_eq_some_iff.mp e
    obtain ⟨hl, e3⟩ := List.getElem?_eq_some_iff.mp e1
    rw [List.getElem_range] at e3
    subst e3
    have hl2 : i < n := by simpa using hl
    refine ⟨hl2, fun x H2 y => ?_⟩
    obtain ⟨e3, y2⟩ := y
    rw [e3, y2, ← e2]
    exact ⟨Ext.refl _ _, .int _⟩
/-- the items of a list, a tuple, a text -/
def items : D → Option (List D)
  | .lst ds => some ds
  | .tup ds => some ds
  | .str z => some (signs z)
  | _ => none
def keysOf (kds : List (Key × D)) : List D := kds.map fun kd => match kd.1 with | .inl i => .int i | .inr x => .str x
section
variable {C : Cfg S} {ta te : XK → TE} {fa fe : Rho → M S D} {tr : XK → TA} {fr : Rho → M S (List D)}
def xIt (f : Rho → M S D) : Rho → M S (List D) := fun ρ => (f ρ).bind fun x => .of (items x)
theorem i_of {K : PySem.W.Frag} (h : EvD C te fe) : EvI C (fun E => iOf (te E) (mW K)) (xIt fe) := fun B A ρ σ H s E Q R I W => by
  refine h B A ρ σ H s E _ R I ((Wish.then W).mono fun x s1 W1 v H1 e1 I1 h1 => ?_)
  unfold items at W1
  unfold mW
  split at W1
  · cases h1 with
    | @lst a vs _ k1 k2 k3 =>
      have lk : look H1 a = some (.lst vs) := by unfold look; rw [k2]
      simp only [lk]
      exact W1 _ H1 e1 I1 (walks_list k1 k2 k3)
  · cases h1 with
    | @tup a vs _ k1 k2 k3 =>
      have lk : look H1 a = some (.tup vs) := by unfold look; rw [k2]
      simp only [lk]
      exact W1 _ H1 e1 I1 (walks_tup k1 k2 k3)
  · cases h1
    exact W1 _ H1 e1 I1 walks_str
  · exact W1.elim
def enD : List D → Option (List D)
  | [.lst ds] => some (numd 0 ds)
  | _ => none
def xEn (f : Rho → M S (List D)) : Rho → M S (List D) := fun ρ => (f ρ).bind fun xs => .of (enD xs)
theorem of_some {α : Type} {o : Option α} {C : Cfg S} {B : Bs} {E : XK} {s : S} {P : α → S → Prop} (h : Wish C B E (M.of o s) P) : ∃ a, o = some a ∧ P a s := by
  cases o with
  | none => exact h.elim
  | some a => exact ⟨a, rfl, h⟩
theorem i_enum {K : PySem.W.Frag} (h : EvA C tr fr) : EvI C (fun E => iEnum K (tr E)) (xEn fr) := fun B A ρ σ H s E Q R I W => by
  refine h B A ρ σ H s E _ R I ((Wish.then W).mono fun x s1 W1 v H1 e1 I1 h1 => ?_)
  obtain ⟨ds, e, W1⟩ := of_some W1
  unfold enD at e
  split at e
  · cases e
    cases h1 with
    | cons k t =>
      cases t
      cases k with
      | @lst a vs _ k1 k2 k3 => exact ⟨a, vs, rfl, .inl (.inl k2), W1 _ H1 e1 I1 (walks_enum k1 k2 k3)⟩
  · cases e
def rngD (lo hi : Int) : List D := (List.range (hi - lo).toNat).map fun i : Nat => D.int (lo + (i : Int))
def r1D : List D → Option (List D)
  | [.int j] => (match decide (-1000000000 ≤ j ∧ j ≤ 1000000000) with | true => some (rngD 0 j) | false => none)
  | _ => none
def xR1 (f : Rho → M S (List D)) : Rho → M S (List D) := fun ρ => (f ρ).bind fun xs => .of (r1D xs)
theorem i_rng1 (h : EvA C tr fr) : EvI C (fun E => iRng1 (tr E)) (xR1 fr) := fun B A ρ σ H s E Q R I W => by
  refine h B A ρ σ H s E _ R I ((Wish.then W).mono fun x s1 W1 v H1 e1 I1 h1 => ?_)
  obtain ⟨ds, e, W1⟩ := of_some W1
  unfold r1D at e
  split at e
  · rename_i j
    cases h1 with
    | cons k t =>
      cases t
      cases k
      split at e
      · rename_i c
        cases e
        have c2 := of_decide_eq_true c
        refine ⟨j, rfl, by omega, by omega, W1 _ H1 e1 I1 ?_⟩
        have := walks_rng (A := A) (H := H1) (lo := 0) (n := j.toNat)
        unfold rngD
        rw [Int.sub_zero]
        exact this
      · cases e
  · cases e
def r2D : List D → Option (List D)
  | [.int i, .int j] => (match decide ((-1000000000 ≤ i ∧ i ≤ 1000000000) ∧ -1000000000 ≤ j ∧ j ≤ 1000000000) with | true => some (rngD i j) | false => none)
  | _ => none
def xR2 (f : Rho → M S (List D)) : Rho → M S (List D) := fun ρ => (f ρ).bind fun xs => .of (r2D xs)
theorem i_rng2 (h : EvA C tr fr) : EvI C (fun E => iRng2 (tr E)) (xR2 fr) := fun B A ρ σ H s E Q R I W => by
  refine h B A ρ σ H s E _ R I ((Wish.then W).mono fun x s1 W1 v H1 e1 I1 h1 => ?_)
  obtain ⟨ds, e, W1⟩ := of_some W1
  unfold r2D at e
  split at e
  · rename_i i j
    cases h1 with
    | cons k t =>
      cases k
      cases t with
      | cons k t =>
        cases t
        cases k
        split at e
        · rename_i c
          cases e
          have c2 := of_decide_eq_true c
          exact ⟨i, j, rfl, ⟨by omega, by omega, by omega, by omega⟩, W1 _ H1 e1 I1 walks_rng⟩
        · cases e
  · cases e
def compD (g : D → Rho → Option Rho) (t : Rho → M S Bool) (e : Rho → M S D) (ρ : Rho) : List D → M S (List D)
  | [] => .ret []
  | d :: ds => match g d ρ with
    | none => fun _ => .bad
    | some ρ1 => (t ρ1).bind fun b => match b with
      | true => (e ρ1).bind fun y => (compD g t e ρ ds).bind fun ys => .ret (y :: ys)
      | false => compD g t e ρ ds
def xLc (f : Rho → M S (List D)) (g : D → Rho → Option Rho) (t : Rho → M S Bool) (e : Rho → M S D) (vs : List Nat) : Rho → M S (List D) := fun ρ => (f ρ).bind fun ds => match lim ds.length with
  | true => compD g t e (wipeR ρ vs) ds
  | false => fun _ => .bad
theorem yes_ev : EvT C (fun _ => tYes) (fun _ => .ret true) := fun B A ρ σ H s E Q R I W => W H (Ext.refl _ _) I
/-- the address D0 set aside -/
theorem Rel.aside {P : Pl} {B : Bs} {A : Addr → Prop} {ρ : Rho} {σ : L2.St} {H H1 : Hp} {p : Addr} (R : Rel P B A ρ σ H) (x : Ext P.keep H H1) (hn : H p = none) (hp : H1 p ≠ none) : Rel P B (fun a => A a ∧ a ≠ p) ρ σ H1 := by
  have R1 := R.step x
  have st : Stp A H (fun a => A a ∧ a ≠ p) H1 := fun a o h e => ⟨⟨h, fun z => by rw [z, hn] at e; cases e⟩, x.1 a o (R.ak a h) e⟩
  exact {
    len := R.len
    ext := R1.ext
    nw := fun a h => ⟨R1.nw a h, fun z => hp (by rw [← z]; exact h)⟩
    n0 := R.n0
    sub := fun a h => R.sub a h.1
    kp := R.kp
    slot := fun i sl e => by
      have h := R.slot i sl e
      cases sl with
      | no => trivial
      | val d => obtain ⟨v, h1, h2⟩ := h; exact ⟨v, h1, h2.stp st⟩
      | own o => obtain ⟨a, h1, h2, h3, h4, h5, h6⟩ := h; exact ⟨a, h1, fun z => h2 z.1, h3, h4, h5, h6.stp st fun u e => x.1 a u h3 e⟩
    apart := R.apart }
/-- an object that is no slot's and no data's changes -/
theorem Rel.grown {P : Pl} {B : Bs} {A : Addr → Prop} {ρ : Rho} {σ : L2.St} {H : Hp} {p : Addr} {o : HO} (R : Rel P B A ρ σ H) (hA : ¬ A p) (h0 : B.H0 p = none) (hne : ∀ (i : Nat) (o : OD) (a : Addr), ρ[i]? = some (.own o) → σ[i]? = some (some (.ref a)) → a ≠ p) : Rel P B A ρ σ (upd H p o) := by
  have st : Stp A H A (upd H p o) := fun a u h e => ⟨h, by rw [upd_ne (fun z => hA (by rw [← z]; exact h))]; exact e⟩
  exact {
    len := R.len
    ext := ⟨fun a u k e => by rw [upd_ne (ne_of_none e h0)]; exact R.ext.1 a u k e, fun a e => by
      by_cases z : a = p
      · rw [z]; exact h0
      · rw [upd_ne z] at e; exact R.ext.2 a e⟩
    nw := fun a e => R.nw a (by
      by_cases z : a = p
      · rw [z, upd_same] at e; cases e
      · rw [upd_ne z] at e; exact e)
    n0 := R.n0
    sub := R.sub
    kp := R.kp
    slot := fun i sl e => by
      have h := R.slot i sl e
      cases sl with
      | no => trivial
      | val d => obtain ⟨v, h1, h2⟩ := h; exact ⟨v, h1, h2.stp st⟩
      | own od => obtain ⟨a, h1, h2, h3, h4, h5, h6⟩ := h; exact ⟨a, h1, h2, h3, h4, h5, h6.stp st fun u q => by rw [upd_ne (hne i od a e h1)]; exact q⟩
    apart := R.apart }
theorem lc_body {g : TG} {gd : D → Rho → Option Rho} {tt : XK → TT} {ft : Rho → M S Bool} {vs : List Nat} (hg : TgD g gd vs) (ht : EvT C tt ft) (he : EvD C te fe) {B : Bs} {A : Addr → Prop} {ρ : Rho} {σ : L2.St} {H1 : Hp} {s1 : S} {E : XK} {Q : VK} {J : It} {ds : List D}
    (R1 : Rel C.toPl B A ρ σ H1) (I1 : C.I s1 H1) (wk : Walks A H1 J ds) (hl : lim ds.length = true)
    (W1 : Wish C ⟨H1, A, none⟩ E (compD gd ft fe (wipeR ρ vs) ds s1) (fun ys s3 => ∀ p H3 zs, H3 p = none → Ext C.keep H1 H3 → C.I s3 (upd H3 p (.lst zs)) → IsL A H3 zs ys → Q (.ref p) (upd H3 p (.lst zs)))) (p : Addr) (hp : H1 p = none) :
    ∃ W : Nat → Nat → Hp → Prop, (∃ m, W 0 m (upd H1 p (.lst []))) ∧ ∀ i m H, W i m H → (J.stop i H ∧ Q (.ref p) H) ∨ (J.go i H ∧ ∃ Nx : Hp → Prop, (∀ H', Nx H' → ∃ m', m' < m ∧ W (i + 1) m' H') ∧ ∀ x H', J.yld i H x H' → g x (L2.wipe σ vs) H' fun σ2 H2 => L2.wipe σ2 vs = L2.wipe σ vs ∧ tt E σ2 H2 fun b H3 =>
      if b = true then te E σ2 H3 fun y H4 => ∃ acc, H4 p = some (.lst acc) ∧ acc.length < sizeLine ∧ Nx (upd H4 p (.lst (acc ++ [y]))) else Nx H3) := by
  have kpp : C.keep p := R1.ak p (R1.nw p hp)
  have okp : C.ok p := R1.ao p (R1.nw p hp)
  have x0 : Ext All H1 (upd H1 p (.lst [])) := Ext.new hp
  have hne : ∀ (i : Nat) (o : OD) (a : Addr), (wipeR ρ vs)[i]? = some (.own o) → (L2.wipe σ vs)[i]? = some (some (.ref a)) → a ≠ p := fun i o a e1 e2 z => by
    obtain ⟨a', h1, _, _, _, _, h6⟩ := (R1.wipe vs).slot i _ e1
    rw [e2] at h1
    cases h1
    subst z
    cases o with
    | lst ds => obtain ⟨_, q, _⟩ := h6; rw [hp] at q; cases q
    | dct ds => obtain ⟨_, q, _⟩ := h6; rw [hp] at q; cases q
    | ins c ds => obtain ⟨_, _, _, q, _⟩ := h6; rw [hp] at q; cases q
  have Ra := (R1.wipe vs).aside (x0.all) hp (by rw [upd_same]; simp)
  -- what a turn keeps
  refine ⟨fun i m H2 => m = ds.length - i ∧ i ≤ ds.length ∧ ∃ acc accD s2, H2 p = some (.lst acc) ∧ acc.length ≤ i ∧ Ext C.keep H1 (del H2 p) ∧ Rel C.toPl B (fun a => A a ∧ a ≠ p) (wipeR ρ vs) (L2.wipe σ vs) H2 ∧ IsL (fun a => A a ∧ a ≠ p) H2 acc accD ∧ C.I s2 H2 ∧
      Wish C ⟨H1, A, none⟩ E (compD gd ft fe (wipeR ρ vs) (ds.drop i) s2) (fun ys s3 => ∀ q H3 zs, H3 q = none → Ext C.keep H1 H3 → C.I s3 (upd H3 q (.lst zs)) → IsL A H3 zs (accD ++ ys) → Q (.ref q) (upd H3 q (.lst zs))),
    ⟨ds.length, by simp, Nat.zero_le _, [], [], s1, upd_same, Nat.le_refl _, ?_, Ra, .nil, C.st _ _ _ I1 x0, by simpa using W1⟩, ?_⟩
  · refine ⟨fun a o k e => ?_, fun a e => ?_⟩
    · have ne : a ≠ p := ne_of_none e hp
      rw [del_ne ne, upd_ne ne]; exact e
    · by_cases z : a = p
      · rw [z]; exact hp
      · rw [del_ne z, upd_ne z] at e; exact e
  rintro i m H2 ⟨rfl, hi, acc, accD, s2, hacc, hal, ex, R2, il, I2, W2⟩
  have st : Stp A H1 (fun a => A a ∧ a ≠ p) H2 := fun a o h e => by
    have ne : a ≠ p := ne_of_none e hp
    have z := ex.1 a o (R1.ak a h) e
    rw [del_ne ne] at z
    exact ⟨⟨h, ne⟩, z⟩
  have e12 : Ext C.keep H1 H2 := ⟨fun a o k e => by
    have ne : a ≠ p := ne_of_none e hp
    have z := ex.1 a o k e
    rw [del_ne ne] at z
    exact z, fun a e => by
    by_cases z : a = p
    · rw [z]; exact hp
    · exact ex.2 a (by rw [del_ne z]; exact e)⟩
  obtain ⟨wk1, wk2⟩ := wk _ H2 st R2.nw
  by_cases hlt : i < ds.length
  · obtain ⟨go, yl⟩ := wk2 i ds[i] (by simp [hlt])
    refine .inr ⟨go, fun H5 => ∃ acc accD s2, H5 p = some (.lst acc) ∧ acc.length ≤ i + 1 ∧ Ext C.keep H1 (del H5 p) ∧ Rel C.toPl B (fun a => A a ∧ a ≠ p) (wipeR ρ vs) (L2.wipe σ vs) H5 ∧ IsL (fun a => A a ∧ a ≠ p) H5 acc accD ∧ C.I s2 H5 ∧
      Wish C ⟨H1, A, none⟩ E (compD gd ft fe (wipeR ρ vs) (ds.drop (i + 1)) s2) (fun ys s3 => ∀ q H3 zs, H3 q = none → Ext C.keep H1 H3 → C.I s3 (upd H3 q (.lst zs)) → IsL A H3 zs (accD ++ ys) → Q (.ref q) (upd H3 q (.lst zs))),
      fun H5 h5 => ⟨ds.length - (i + 1), by omega, rfl, hlt, h5⟩, fun x H3 y => ?_⟩
    obtain ⟨e3, hx⟩ := yl x H3 y
    rw [List.drop_eq_getElem_cons hlt] at W2
    unfold compD at W2
    cases hg1 : gd ds[i] (wipeR ρ vs) with
    | none => rw [hg1] at W2; exact W2.elim
    | some ρ1 =>
    rw [hg1] at W2
    have R3 := R2.step (e3.all (P := C.keep))
    have exk : ∀ {H4 : Hp}, Ext C.keep H3 H4 → H4 p = some (.lst acc) ∧ Ext C.keep H1 (del H4 p) := fun {H4} e4 => by
      have e24 : Ext C.keep H2 H4 := (e3.all (P := C.keep)).trans e4
      refine ⟨e24.1 p _ kpp hacc, fun a o k e => ?_, fun a e => ?_⟩
      · have ne : a ≠ p := ne_of_none e hp
        have z := ex.1 a o k e
        rw [del_ne ne] at z ⊢
        exact e24.1 a o k z
      · by_cases z : a = p
        · rw [z]; exact hp
        · rw [del_ne z] at e
          exact ex.2 a (by rw [del_ne z]; exact e24.2 a e)
    refine hg C.toPl B _ (wipeR ρ vs) ρ1 (L2.wipe σ vs) H3 x ds[i] _ R3 hx hg1 fun σ1 R4 w1 => ⟨by rw [w1, wipe_idem], ?_⟩
    refine ht B _ ρ1 σ1 H3 s2 E _ R4 (C.st _ _ _ I2 e3) (((Wish.then W2).mono fun b s3 W3 H4 e4 I4 => ?_).to (e12.trans e3.all) fun _ q => q.1)
    have back : ∀ {H5 : Hp}, Ext C.keep H3 H5 → Rel C.toPl B (fun a => A a ∧ a ≠ p) (wipeR ρ vs) (L2.wipe σ vs) H5 := fun {H5} e5 => R3.step e5
    have ilk : ∀ {H5 : Hp}, Ext C.keep H3 H5 → IsL (fun a => A a ∧ a ≠ p) H5 acc accD := fun {H5} e5 => il.stp (((e3.all (P := C.keep)).trans e5).stp R2.ak)
    cases b with
    | false =>
      show ∃ acc accD s2, _
      exact ⟨acc, accD, s3, (exk e4).1, Nat.le_succ_of_le hal, (exk e4).2, back e4, ilk e4, I4, W3⟩
    | true =>
      show te E σ1 H4 _
      refine he B _ ρ1 σ1 H4 s3 E _ (R4.step e4) I4 (((Wish.then W3).mono fun yd s4 W4 w H5 e5 I5 h5 => ?_).to ((e12.trans e3.all).trans e4) fun _ q => q.1)
      have e35 := e4.trans e5
      have z5 := exk e35
      refine ⟨acc, z5.1, Nat.lt_of_le_of_lt (Nat.le_trans hal hi) (Nat.lt_of_le_of_lt (of_decide_eq_true hl) (by decide)), ?_⟩
      -- the list grows
      have stq : Stp (fun a => A a ∧ a ≠ p) H5 (fun a => A a ∧ a ≠ p) (upd H5 p (.lst (acc ++ [w]))) := fun a o h e => ⟨h, by rw [upd_ne h.2]; exact e⟩
      have R5 := back e35
      refine ⟨acc ++ [w], accD ++ [yd], s4, upd_same, by simpa using hal, ⟨fun a o k e => ?_, fun a e => ?_⟩, ?_, ((ilk e35).append (.cons h5 .nil)).stp stq, ?_, ?_⟩
      · have ne : a ≠ p := ne_of_none e hp
        have z := z5.2.1 a o k e
        rw [del_ne ne] at z ⊢
        rw [upd_ne ne]; exact z
      · by_cases z : a = p
        · rw [z]; exact hp
        · rw [del_ne z, upd_ne z] at e
          exact z5.2.2 a (by rw [del_ne z]; exact e)
      · exact R5.grown (fun z => z.2 rfl) (R1.ext.2 p hp) hne
      · exact C.st2 _ _ _ _ okp (by rw [z5.1]; rfl) I5
      · have W5 := Wish.then W4
        refine W5.mono fun ys s6 W6 q H6 zs a1 a2 a3 a4 => ?_
        exact W6 q H6 zs a1 a2 a3 (by simpa using a4)
  · have e : i = ds.length := by omega
    subst e
    refine .inl ⟨wk1 _ (Nat.le_refl _), ?_⟩
    rw [List.drop_length] at W2
    have eq : upd (del H2 p) p (.lst acc) = H2 := by
      funext b
      by_cases z : b = p
      · rw [z, upd_same, hacc]
      · rw [upd_ne z, del_ne z]
    have fin := W2 p (del H2 p) acc del_same ex
    rw [eq] at fin
    refine fin I2 ?_
    rw [List.append_nil]
    exact il.stp fun a o h e => ⟨h.1, by rw [del_ne h.2]; exact e⟩
theorem lc_core2 {wi : XK → TI} {g : TG} {gd : D → Rho → Option Rho} {tt : XK → TT} {ft : Rho → M S Bool} {fi : Rho → M S (List D)} {vs : List Nat} (hi : EvI C wi fi) (hg : TgD g gd vs) (ht : EvT C tt ft) (he : EvD C te fe) :
    EvN C (fun E => tLc (wi E) g (tt E) (te E) vs) (xLc fi gd ft fe vs) := fun B A ρ σ H s E Q R I W => by
  refine hi B A ρ σ H s E _ R I ((Wish.then W).mono fun ds s1 W1 J H1 e1 I1 wk => ?_)
  cases hl : lim ds.length with
  | false => rw [hl] at W1; exact W1.elim
  | true =>
    rw [hl] at W1
    exact fun p hp => lc_body hg ht he (R.step e1) I1 wk hl (Wish.mono (Wish.step W1 e1) fun ys s3 W3 q H3 zs a1 a2 a3 a4 => W3 q H3 zs a1 (e1.trans a2) a3 a4) p hp
end
end Fs

namespace Fs
open PySem PySem.Spec PyProof.Rows L2
variable {S : Type}
inductive Out where
  | nx (ρ : Rho) | rt (d : D) | bk (ρ : Rho) | ct (ρ : Rho)
def OutOk (C : Cfg S) (B : Bs) (A : Addr → Prop) (H : Hp) (D : Ends) (o : Out) (s : S) : Prop := match o with
  | .nx ρ => ∀ A1 σ1 H1, Rel C.toPl B A1 ρ σ1 H1 → Stp A H A1 H1 → C.I s H1 → D.nx σ1 H1
  | .bk ρ => ∀ A1 σ1 H1, Rel C.toPl B A1 ρ σ1 H1 → Stp A H A1 H1 → C.I s H1 → D.bk σ1 H1
  | .ct ρ => ∀ A1 σ1 H1, Rel C.toPl B A1 ρ σ1 H1 → Stp A H A1 H1 → C.I s H1 → D.ct σ1 H1
  | .rt d => ∀ A1 v H1, Is A1 H1 v d → (∀ a, A1 a → B.A0 a) → Ext C.keep B.H0 H1 → C.I s H1 → D.rt v H1
theorem OutOk.stp {C : Cfg S} {B : Bs} {A A1 : Addr → Prop} {H H1 : Hp} {D : Ends} {o : Out} {s : S} (h : OutOk C B A H D o s) (x : Stp A H A1 H1) : OutOk C B A1 H1 D o s := by
  cases o with
  | nx ρ => exact fun A2 σ2 H2 R y I => h A2 σ2 H2 R (x.trans y) I
  | bk ρ => exact fun A2 σ2 H2 R y I => h A2 σ2 H2 R (x.trans y) I
  | ct ρ => exact fun A2 σ2 H2 R y I => h A2 σ2 H2 R (x.trans y) I
  | rt d => exact h
def StD (C : Cfg S) (ts : XK → TS) (f : Rho → M S Out) : Prop := ∀ (B : Bs) (A : Addr → Prop) (ρ : Rho) (σ : L2.St) (H : Hp) (s : S) (E : XK) (D : Ends), Rel C.toPl B A ρ σ H → C.I s H → Wish C B E (f ρ s) (OutOk C B A H D) → ts E D σ H
section
variable {C : Cfg S} {te : XK → TE} {fe : Rho → M S Fs.D} {tr : XK → TA} {fr : Rho → M S (List Fs.D)} {t u : XK → TS} {f g : Rho → M S Out}
def yNx : Rho → M S Out := fun ρ => .ret (.nx ρ)
theorem d_nx : StD C (fun _ => tNext) yNx := fun B A ρ σ H s E D R I W => W A σ H R (Stp.refl _ _) I
def yBk : Rho → M S Out := fun ρ => .ret (.bk ρ)
theorem d_bk : StD C (fun _ => tBreak) yBk := fun B A ρ σ H s E D R I W => W A σ H R (Stp.refl _ _) I
def yCt : Rho → M S Out := fun ρ => .ret (.ct ρ)
theorem d_ct : StD C (fun _ => tCont) yCt := fun B A ρ σ H s E D R I W => W A σ H R (Stp.refl _ _) I
def yRet (fe : Rho → M S Fs.D) : Rho → M S Out := fun ρ => (fe ρ).bind fun d => .ret (.rt d)
theorem d_ret (h : EvD C te fe) : StD C (fun E => tRet (te E)) (yRet fe) := fun B A ρ σ H s E D R I W => by
  exact h B A ρ σ H s E _ R I (R.fr <| (Wish.then W).mono fun x s1 W1 v H1 e1 I1 h1 => W1 A v H1 h1 R.sub (R.ext.trans e1) I1)
def yRetN : Rho → M S Out := fun ρ => .ret (.rt .non)
theorem d_retN : StD C (fun _ => tRetN) yRetN := fun B A ρ σ H s E D R I W => W A .non H .non R.sub R.ext I
def yDrop (fe : Rho → M S Fs.D) : Rho → M S Out := fun ρ => (fe ρ).bind fun _ => .ret (.nx ρ)
theorem d_drop (h : EvD C te fe) : StD C (fun E => tDrop (te E)) (yDrop fe) := fun B A ρ σ H s E D R I W => by
  exact h B A ρ σ H s E _ R I (R.fr <| (Wish.then W).mono fun x s1 W1 v H1 e1 I1 h1 => W1 A σ H1 (R.step e1) (e1.stp R.ak) I1)
def yAsg (fe : Rho → M S Fs.D) (g : Fs.D → Rho → Option Rho) : Rho → M S Out := fun ρ => (fe ρ).bind fun d => (M.of (g d ρ)).bind fun ρ1 => .ret (.nx ρ1)
theorem d_asg {tg : TG} {g : Fs.D → Rho → Option Rho} {vs : List Nat} (h : EvD C te fe) (hg : TgD tg g vs) : StD C (fun E => tAsg (te E) tg) (yAsg fe g) := fun B A ρ σ H s E D R I W => by
  refine h B A ρ σ H s E _ R I (R.fr <| (Wish.then W).mono fun x s1 W1 v H1 e1 I1 h1 => ?_)
  obtain ⟨ρ1, e, W2⟩ := of_some (Wish.then W1)
  exact hg _ B A ρ ρ1 σ H1 v x _ (R.step e1) h1 e fun σ1 R1 _ => W2 A σ1 H1 R1 (e1.stp R.ak) I1
def ySeq (f g : Rho → M S Out) : Rho → M S Out := fun ρ => (f ρ).bind fun o => match o with
  | .nx ρ1 => g ρ1
  | .rt d => .ret (.rt d)
  | .bk ρ1 => .ret (.bk ρ1)
  | .ct ρ1 => .ret (.ct ρ1)
theorem d_seq (h1 : StD C t f) (h2 : StD C u g) : StD C (fun E => tSeq (t E) (u E)) (ySeq f g) := fun B A ρ σ H s E D R I W => by
  refine h1 B A ρ σ H s E { D with nx := u E D } R I ((Wish.then W).mono fun o s1 W1 => ?_)
  cases o with
  | nx ρ1 => exact fun A1 σ1 H1 R1 x I1 => h2 B A1 ρ1 σ1 H1 s1 E D R1 I1 (Wish.mono W1 fun o s2 W2 => W2.stp x)
  | rt d => exact W1
  | bk ρ1 => exact W1
  | ct ρ1 => exact W1
def yIf (c : Rho → M S Bool) (f g : Rho → M S Out) : Rho → M S Out := fun ρ => (c ρ).bind fun b => match b with | true => f ρ | false => g ρ
theorem d_if {tt : XK → TT} {c : Rho → M S Bool} (hc : EvT C tt c) (h1 : StD C t f) (h2 : StD C u g) : StD C (fun E => sIf (tt E) (t E) (u E)) (yIf c f g) := fun B A ρ σ H s E D R I W => by
  refine hc B A ρ σ H s E _ R I (R.fr <| (Wish.then W).mono fun b s1 W1 H1 e1 I1 => ?_)
  cases b with
  | true => exact h1 B A ρ σ H1 s1 E D (R.step e1) I1 (Wish.mono W1 fun o s2 W2 => W2.stp (e1.stp R.ak))
  | false => exact h2 B A ρ σ H1 s1 E D (R.step e1) I1 (Wish.mono W1 fun o s2 W2 => W2.stp (e1.stp R.ak))
def loopD (g : Fs.D → Rho → Option Rho) (body : Rho → M S Out) : List Fs.D → Rho → M S Out
  | [], ρ => .ret (.nx ρ)
  | d :: ds, ρ => match g d ρ with
    | none => fun _ => .bad
    | some ρ1 => (body ρ1).bind fun o => match o with
      | .nx ρ2 => loopD g body ds ρ2
      | .ct ρ2 => loopD g body ds ρ2
      | .bk ρ2 => .ret (.nx ρ2)
      | .rt d => .ret (.rt d)
def yFor (fi : Rho → M S (List Fs.D)) (g : Fs.D → Rho → Option Rho) (body : Rho → M S Out) : Rho → M S Out := fun ρ => (fi ρ).bind fun ds => loopD g body ds ρ
theorem d_for {wi : XK → TI} {fi : Rho → M S (List Fs.D)} {tg : TG} {g : Fs.D → Rho → Option Rho} {vs : List Nat} (hi : EvI C wi fi) (hg : TgD tg g vs) (hb : StD C t f) : StD C (fun E => tFor (wi E) tg (t E)) (yFor fi g f) := fun B A ρ σ H s E D R I W => by
  refine hi B A ρ σ H s E _ R I (R.fr <| (Wish.then W).mono fun ds s1 W1 J H1 e1 I1 wk => ?_)
  have R1 := R.step e1
  refine ⟨fun i m σ2 H2 => m = ds.length - i ∧ i ≤ ds.length ∧ ∃ A2 ρ2 s2, Rel C.toPl B A2 ρ2 σ2 H2 ∧ Stp A H1 A2 H2 ∧ C.I s2 H2 ∧ Wish C B E (loopD g f (ds.drop i) ρ2 s2) (OutOk C B A H D),
    ⟨ds.length, by simp, Nat.zero_le _, A, ρ, s1, R1, Stp.refl _ _, I1, by simpa using W1⟩, ?_⟩
  rintro i m σ2 H2 ⟨rfl, hi, A2, ρ2, s2, R2, x2, I2, W2⟩
  obtain ⟨wk1, wk2⟩ := wk A2 H2 x2 R2.nw
  have x02 : Stp A H A2 H2 := (e1.stp R.ak).trans x2
  by_cases hlt : i < ds.length
  · obtain ⟨go, yl⟩ := wk2 i ds[i] (by simp [hlt])
    refine .inr ⟨go, fun σ3 H3 => ∃ A3 ρ3 s3, Rel C.toPl B A3 ρ3 σ3 H3 ∧ Stp A H1 A3 H3 ∧ C.I s3 H3 ∧ Wish C B E (loopD g f (ds.drop (i + 1)) ρ3 s3) (OutOk C B A H D), fun σ3 H3 h3 => ⟨ds.length - (i + 1), by omega, rfl, hlt, h3⟩, fun x H3 y => ?_⟩
    obtain ⟨e3, hx⟩ := yl x H3 y
    rw [List.drop_eq_getElem_cons hlt] at W2
    unfold loopD at W2
    cases hg1 : g ds[i] ρ2 with
    | none => rw [hg1] at W2; exact W2.elim
    | some ρ3 =>
    rw [hg1] at W2
    refine hg _ B A2 ρ2 ρ3 σ2 H3 x ds[i] _ (R2.step e3.all) hx hg1 fun σ3 R3 _ => ?_
    refine hb B A2 ρ3 σ3 H3 s2 E _ R3 (C.st _ _ _ I2 e3) ((Wish.then W2).mono fun o s3 W3 => ?_)
    have x3 : Stp A H1 A2 H3 := x2.trans ((e3.all (P := C.keep)).stp R2.ak)
    cases o with
    | nx ρ4 => exact fun A4 σ4 H4 R4 y4 I4 => ⟨A4, ρ4, s3, R4, x3.trans y4, I4, W3⟩
    | ct ρ4 => exact fun A4 σ4 H4 R4 y4 I4 => ⟨A4, ρ4, s3, R4, x3.trans y4, I4, W3⟩
    | bk ρ4 => exact fun A4 σ4 H4 R4 y4 I4 => W3 A4 σ4 H4 R4 ((e1.stp R.ak).trans (x3.trans y4)) I4
    | rt d => exact W3
  · have e : i = ds.length := by omega
    subst e
    rw [List.drop_length] at W2
    exact .inl ⟨wk1 _ (Nat.le_refl _), W2 A2 σ2 H2 R2 x02 I2⟩
/-- while, at most n turns -/
def whileD (c : Rho → M S Bool) (body : Rho → M S Out) : Nat → Rho → M S Out
  | 0, _ => fun _ => .bad
  | n + 1, ρ => (c ρ).bind fun b => match b with
    | false => .ret (.nx ρ)
    | true => (body ρ).bind fun o => match o with
      | .nx ρ2 => whileD c body n ρ2
      | .ct ρ2 => whileD c body n ρ2
      | .bk ρ2 => .ret (.nx ρ2)
      | .rt d => .ret (.rt d)
def yWhile (n : Rho → S → Nat) (c : Rho → M S Bool) (body : Rho → M S Out) : Rho → M S Out := fun ρ s => whileD c body (n ρ s) ρ s
theorem d_while {tt : XK → TT} {c : Rho → M S Bool} {n : Rho → S → Nat} (hc : EvT C tt c) (hb : StD C t f) : StD C (fun E => tWhile (tt E) (t E)) (yWhile n c f) := fun B A ρ σ H s E D R I W => by
  refine ⟨fun m σ2 H2 => ∃ A2 ρ2 s2, Rel C.toPl B A2 ρ2 σ2 H2 ∧ Stp A H A2 H2 ∧ C.I s2 H2 ∧ Wish C B E (whileD c f m ρ2 s2) (OutOk C B A H D), ⟨n ρ s, A, ρ, s, R, Stp.refl _ _, I, W⟩, ?_⟩
  rintro m σ2 H2 ⟨A2, ρ2, s2, R2, x2, I2, W2⟩
  cases m with
  | zero => exact W2.elim
  | succ m =>
    unfold whileD at W2
    refine hc B A2 ρ2 σ2 H2 s2 E _ R2 I2 (R2.fr <| (Wish.then W2).mono fun b s3 W3 H3 e3 I3 => ?_)
    have x3 := x2.trans (e3.stp R2.ak)
    cases b with
    | false => exact W3 A2 σ2 H3 (R2.step e3) x3 I3
    | true =>
      refine ⟨fun σ4 H4 => ∃ A4 ρ4 s4, Rel C.toPl B A4 ρ4 σ4 H4 ∧ Stp A H A4 H4 ∧ C.I s4 H4 ∧ Wish C B E (whileD c f m ρ4 s4) (OutOk C B A H D), fun σ4 H4 h4 => ⟨m, Nat.lt_succ_self _, h4⟩, ?_⟩
      refine hb B A2 ρ2 σ2 H3 s3 E _ (R2.step e3) I3 ((Wish.then W3).mono fun o s4 W4 => ?_)
      cases o with
      | nx ρ4 => exact fun A4 σ4 H4 R4 y4 I4 => ⟨A4, ρ4, s4, R4, x3.trans y4, I4, W4⟩
      | ct ρ4 => exact fun A4 σ4 H4 R4 y4 I4 => ⟨A4, ρ4, s4, R4, x3.trans y4, I4, W4⟩
      | bk ρ4 => exact fun A4 σ4 H4 R4 y4 I4 => W4 A4 σ4 H4 R4 (x3.trans y4) I4
      | rt d => exact W4
def fldsD (ns : List Str) (ds : List Fs.D) : List (Str × Fs.D) := (ns.zip ds).foldl (fun r p => p :: r) []
def yRaise (cl : Addr) (ns : List Str) (fr : Rho → M S (List Fs.D)) : Rho → M S Out := fun ρ => (fr ρ).bind fun ds s => match decide (ds.length = ns.length) with
  | true => .ex cl (fldsD ns ds) s
  | false => .bad
theorem flds_is {A : Addr → Prop} {H : Hp} : ∀ {ns : List Str} {vs : List V} {ds : List Fs.D}, IsL A H vs ds → ∀ {fs : List (Str × V)} {gs : List (Str × Fs.D)}, IsF A H fs gs → IsF A H ((ns.zip vs).foldl (fun r p => p :: r) fs) ((ns.zip ds).foldl (fun r p => p :: r) gs)
  | [], _, _, _, _, _, k => by simpa using k
  | n :: ns, _, _, .nil, _, _, k => by simpa using k
  | n :: ns, _, _, .cons h t, _, _, k => flds_is (ns := ns) t (.cons h k)
theorem d_raise {cl : Addr} {ns : List Str} (h : EvA C tr fr) : StD C (fun E D σ H => tMkS cl ns (tr E) σ H fun cls d H' => E cls d H') (yRaise cl ns fr) := fun B A ρ σ H s E D R I W => by
  refine h B A ρ σ H s E _ R I (R.fr <| (Wish.then W).mono fun ds s1 W1 vs H1 e1 I1 h1 => ?_)
  have R1 := R.step e1
  rw [h1.length]
  cases e : decide (ds.length = ns.length) with
  | false => rw [e] at W1; exact W1.elim
  | true =>
    rw [e] at W1
    show mkQ cl ns vs H1 _
    unfold mkQ
    split
    · have z : fldsD [] ds = [] := by simp [fldsD]
      exact W1 none H1 R1.ext I1 z
    · intro d hd
      have x : Ext All H1 (upd H1 d (.xd (fldsOf ns vs))) := Ext.new hd
      refine W1 (some d) _ (R1.ext.trans x.all) (C.st _ _ _ I1 x) ⟨R.sub d (R1.nw d hd), _, upd_same, ?_⟩
      have k := flds_is (ns := ns) h1 (.nil (A := A) (H := H1))
      exact k.stp fun a o q z => ⟨R.sub a q, by rw [upd_ne (ne_of_none z hd)]; exact z⟩
end
section
variable {C : Cfg S}
/-- slot i gets a new object -/
theorem Rel.setOwn {P : Pl} {B : Bs} {A : Addr → Prop} {ρ : Rho} {σ : L2.St} {H : Hp} {i : Nat} {p : Addr} {o : OD} {u : HO} (R : Rel P B A ρ σ H) (hp : H p = none) (ho : OwnAt B.me (fun a => A a ∧ a ≠ p) (upd H p u) p o) : Rel P B (fun a => A a ∧ a ≠ p) (ρ.set i (.own o)) (σ.set i (some (.ref p))) (upd H p u) := by
  have x : Ext All H (upd H p u) := Ext.new hp
  have R1 := R.aside (x.all (P := P.keep)) hp (by rw [upd_same]; simp)
  have nown : ∀ (j : Nat) (oj : OD) (a : Addr), ρ[j]? = some (.own oj) → σ[j]? = some (some (.ref a)) → a ≠ p := fun j oj a e1 e2 z => by
    obtain ⟨a', h1, _, _, _, _, h6⟩ := R.slot j _ e1
    rw [e2] at h1
    cases h1
    subst z
    cases oj with
    | lst ds => obtain ⟨_, q, _⟩ := h6; rw [hp] at q; cases q
    | dct ds => obtain ⟨_, q, _⟩ := h6; rw [hp] at q; cases q
    | ins c ds => obtain ⟨_, _, _, q, _⟩ := h6; rw [hp] at q; cases q
  exact {
    len := by simpa using R.len
    ext := R1.ext
    nw := R1.nw
    n0 := R1.n0
    sub := R1.sub
    kp := R1.kp
    slot := fun j sl e => by
      by_cases q : i = j
      · subst q
        by_cases l : i < ρ.length
        · rw [List.getElem?_set_self l] at e
          cases e
          rw [List.getElem?_set_self (by rw [← R.len]; exact l)]
          exact ⟨p, rfl, fun z => z.2 rfl, R.ak p (R.nw p hp), R.sub p (R.nw p hp), R.ext.2 p hp, ho⟩
        · rw [List.getElem?_eq_none (by simpa using l)] at e; cases e
      · rw [List.getElem?_set_ne q] at e ⊢
        exact R1.slot j sl e
    apart := fun j k oj ok a e1 e2 e3 e4 => by
      have at_i : ∀ {j : Nat}, i = j → σ.length > i → (σ.set i (some (.ref p)))[j]? = some (some (.ref a)) → a = p := fun {j} q l e => by
        subst q
        rw [List.getElem?_set_self l] at e
        cases e; rfl
      have lt : ∀ {j : Nat} {o' : OD}, (ρ.set i (.own o))[j]? = some (.own o') → j < ρ.length := fun {j o'} e => by
        have := (List.getElem?_eq_some_iff.mp e).1
        simpa using this
      by_cases q1 : i = j
      · by_cases q2 : i = k
        · rw [← q1, ← q2]
        · have l1 : i < σ.length := by rw [← R.len, q1]; exact lt e1
          have ea := at_i q1 l1 e3
          rw [List.getElem?_set_ne q2] at e2 e4
          exact absurd ea (nown k ok a e2 e4)
      · by_cases q2 : i = k
        · have l1 : i < σ.length := by rw [← R.len, q2]; exact lt e2
          have ea := at_i q2 l1 e4
          rw [List.getElem?_set_ne q1] at e1 e3
          exact absurd ea (nown j oj a e1 e3)
        · rw [List.getElem?_set_ne q1] at e1 e3
          rw [List.getElem?_set_ne q2] at e2 e4
          exact R.apart j k oj ok a e1 e2 e3 e4 }
def yAsgN (fe : Rho → M S (List Fs.D)) (i : Nat) : Rho → M S Out := fun ρ => (fe ρ).bind fun ds => .ret (.nx (ρ.set i (.own (.lst ds))))
/-- x = a new list that x alone knows -/
theorem d_asgN {te : XK → TE} {fe : Rho → M S (List Fs.D)} {i : Nat} (h : EvN C te fe) : StD C (fun E => tAsg (te E) (gName i)) (yAsgN fe i) := fun B A ρ σ H s E D R I W => by
  refine h B A ρ σ H s E _ R I (R.fr <| (Wish.then W).mono fun ds s1 W1 p H1 vs hp e1 I1 h1 => ?_)
  have R1 := R.step e1
  have st : Stp A H1 (fun a => A a ∧ a ≠ p) (upd H1 p (.lst vs)) := fun a o q z => ⟨⟨q, ne_of_none z hp⟩, by rw [upd_ne (ne_of_none z hp)]; exact z⟩
  exact W1 _ _ _ (R1.setOwn hp ⟨vs, upd_same, h1.stp st⟩) ((e1.stp R.ak).trans st) I1
def yAsgK (i : Nat) : Rho → M S Out := fun ρ => .ret (.nx (ρ.set i (.own (.dct []))))
/-- x = {} -/
theorem d_asgK {i : Nat} : StD C (fun _ => tAsg tDNewK (gName i)) (yAsgK i) := fun B A ρ σ H s E D R I W p hp => by
  have st : Stp A H (fun a => A a ∧ a ≠ p) (upd H p (.dK [])) := fun a o q z => ⟨⟨q, ne_of_none z hp⟩, by rw [upd_ne (ne_of_none z hp)]; exact z⟩
  exact W _ _ _ (R.setOwn hp ⟨[], upd_same, .nil⟩) st (C.st _ _ _ I (Ext.new hp))
/-- x, y = a, {} -/
def yParK (fe : Rho → M S Fs.D) (i j : Nat) : Rho → M S Out := fun ρ => (fe ρ).bind fun d => .ret (.nx ((ρ.set i (.val d)).set j (.own (.dct []))))
theorem d_parK {te : XK → TE} {fe : Rho → M S Fs.D} {i j : Nat} (h : EvD C te fe) : StD C (fun E => tPar i j (tCons (te E) (tCons tDNewK tNil))) (yParK fe i j) := fun B A ρ σ H s E D R I W => by
  refine h B A ρ σ H s E _ R I (R.fr <| (Wish.then W).mono fun d s1 W1 v H1 e1 I1 h1 p hp => ⟨v, .ref p, rfl, ?_⟩)
  have R1 := (R.step e1).setVal (i := i) h1
  have st : Stp A H1 (fun a => A a ∧ a ≠ p) (upd H1 p (.dK [])) := fun a o q z => ⟨⟨q, ne_of_none z hp⟩, by rw [upd_ne (ne_of_none z hp)]; exact z⟩
  exact W1 _ _ _ (R1.setOwn hp ⟨[], upd_same, .nil⟩) ((e1.stp R.ak).trans st) (C.st _ _ _ I1 (Ext.new hp))
/-- x, y = a new list, b -/
def yParN (fe : Rho → M S (List Fs.D)) (fe2 : Rho → M S Fs.D) (i j : Nat) : Rho → M S Out := fun ρ => (fe ρ).bind fun ds => (fe2 ρ).bind fun d => .ret (.nx ((ρ.set i (.own (.lst ds))).set j (.val d)))
def yPar (fe fe2 : Rho → M S Fs.D) (i j : Nat) : Rho → M S Out := fun ρ => (fe ρ).bind fun c => (fe2 ρ).bind fun d => .ret (.nx ((ρ.set i (.val c)).set j (.val d)))
theorem d_par {te te2 : XK → TE} {fe fe2 : Rho → M S Fs.D} {i j : Nat} (h : EvD C te fe) (h2 : EvD C te2 fe2) : StD C (fun E => tPar i j (tCons (te E) (tCons (te2 E) tNil))) (yPar fe fe2 i j) := fun B A ρ σ H s E D R I W => by
  refine h B A ρ σ H s E _ R I (R.fr <| (Wish.then W).mono fun c s1 W1 v H1 e1 I1 k1 => ?_)
  refine h2 B A ρ σ H1 s1 E _ (R.step e1) I1 ((R.step e1).fr <| (Wish.then W1).mono fun d s2 W2 w H2 e2 I2 k2 => ⟨v, w, rfl, ?_⟩)
  have R2 := (((R.step e1).step e2).setVal (i := i) (k1.stp (e2.stp R.ak))).setVal (i := j) k2
  exact W2 A _ H2 R2 ((e1.trans e2).stp R.ak) I2
/-- an own object is written -/
theorem Rel.write {P : Pl} {B : Bs} {A : Addr → Prop} {ρ : Rho} {σ : L2.St} {H : Hp} {i : Nat} {p : Addr} {o o2 : OD} {u : HO} (R : Rel P B A ρ σ H) (hi : ρ[i]? = some (.own o)) (hp : σ[i]? = some (some (.ref p))) (ho : OwnAt B.me A (upd H p u) p o2) : Rel P B A (ρ.set i (.own o2)) σ (upd H p u) := by
  obtain ⟨p', h1, h2, h3, h4, h5, h6⟩ := R.slot i _ hi
  rw [hp] at h1
  cases h1
  have hpn : H p ≠ none := by
    cases o with
    | lst ds => obtain ⟨_, q, _⟩ := h6; rw [q]; simp
    | dct ds => obtain ⟨_, q, _⟩ := h6; rw [q]; simp
    | ins c ds => obtain ⟨_, _, _, q, _⟩ := h6; rw [q]; simp
  have st : Stp A H A (upd H p u) := fun a w h e => ⟨h, by rw [upd_ne (fun z => h2 (by rw [← z]; exact h))]; exact e⟩
  have li : i < ρ.length := (List.getElem?_eq_some_iff.mp hi).1
  exact {
    len := by simpa using R.len
    ext := ⟨fun a w k e => by rw [upd_ne (ne_of_none e h5)]; exact R.ext.1 a w k e, fun a e => by
      by_cases z : a = p
      · rw [z]; exact h5
      · rw [upd_ne z] at e; exact R.ext.2 a e⟩
    nw := fun a e => R.nw a (by
      by_cases z : a = p
      · rw [z, upd_same] at e; cases e
      · rw [upd_ne z] at e; exact e)
    n0 := R.n0
    sub := R.sub
    kp := R.kp
    slot := fun j sl e => by
      by_cases q : i = j
      · subst q
        rw [List.getElem?_set_self li] at e
        cases e
        exact ⟨p, hp, h2, h3, h4, h5, ho⟩
      · rw [List.getElem?_set_ne q] at e
        have h := R.slot j sl e
        cases sl with
        | no => trivial
        | val d => obtain ⟨v, k1, k2⟩ := h; exact ⟨v, k1, k2.stp st⟩
        | own oj =>
          obtain ⟨a, k1, k2, k3, k4, k5, k6⟩ := h
          exact ⟨a, k1, k2, k3, k4, k5, k6.stp st fun w y => by rw [upd_ne (fun z => q (R.apart i j o oj p hi e hp (by rw [← z]; exact k1)))]; exact y⟩
    apart := fun j k oj ok a e1 e2 e3 e4 => by
      have un : ∀ {j : Nat} {oj : OD}, (ρ.set i (.own o2))[j]? = some (.own oj) → ∃ oj', ρ[j]? = some (.own oj') := fun {j oj} e => by
        by_cases q : i = j
        · exact ⟨o, by rw [← q]; exact hi⟩
        · rw [List.getElem?_set_ne q] at e; exact ⟨oj, e⟩
      obtain ⟨_, f1⟩ := un e1
      obtain ⟨_, f2⟩ := un e2
      exact R.apart j k _ _ a f1 f2 e3 e4 }
theorem Rel.writeI {P : Pl} {B : Bs} {A : Addr → Prop} {ρ : Rho} {σ : L2.St} {H : Hp} {i : Nat} {o : OD} (R : Rel P B A ρ σ H) (hi : ρ[i]? = some (.own o)) : ∃ p, σ[i]? = some (some (.ref p)) ∧ ¬ A p ∧ P.ok p ∧ OwnAt B.me A H p o := by
  obtain ⟨p, h1, h2, h3, h4, h5, h6⟩ := R.slot i _ hi
  exact ⟨p, h1, h2, R.kp p h4, h6⟩
def ownL : Option Sl → Option (List Fs.D)
  | some (.own (.lst ds)) => some ds
  | _ => none
def ownK : Option Sl → Option (List (Key × Fs.D))
  | some (.own (.dct ds)) => some ds
  | _ => none
theorem ownL_of {x : Option Sl} {ds : List Fs.D} (h : ownL x = some ds) : x = some (.own (.lst ds)) := by
  unfold ownL at h
  split at h
  · cases h; rfl
  · cases h
theorem ownK_of {x : Option Sl} {ds : List (Key × Fs.D)} (h : ownK x = some ds) : x = some (.own (.dct ds)) := by
  unfold ownK at h
  split at h
  · cases h; rfl
  · cases h
/-- xs.append(e), xs own -/
def yApp (i : Nat) (fe : Rho → M S Fs.D) : Rho → M S Out := fun ρ => (M.of (ownL ρ[i]?)).bind fun ds => (fe ρ).bind fun d => match lim ds.length with
  | true => .ret (.nx (ρ.set i (.own (.lst (ds ++ [d])))))
  | false => fun _ => .bad
theorem d_app {K : PySem.W.Frag} {te : XK → TE} {fe : Rho → M S Fs.D} {i : Nat} (h : EvD C te fe) : StD C (fun E => tDrop (tBM K "list" rAppend (tV i) (tCons (te E) tNil))) (yApp i fe) := fun B A ρ σ H s E D R I W => by
  obtain ⟨ds, hi, W⟩ := of_some (Wish.then W)
  · have hi := ownL_of hi
    obtain ⟨p, hp, hA, hok, vs, k1, k2⟩ := R.writeI hi
    unfold tDrop tBM tV
    rw [hp]
    refine ⟨.inl ⟨rfl, vs, .inl (.inl k1)⟩, ?_⟩
    refine h B A ρ σ H s E _ R I (R.fr <| (Wish.then W).mono fun d s1 W1 v H1 e1 I1 h1 => ?_)
    have R1 := R.step e1
    cases hl : lim ds.length with
    | false => rw [hl] at W1; exact W1.elim
    | true =>
      rw [hl] at W1
      have k1' := e1.1 p _ (C.okk p hok) k1
      refine ⟨p, vs, v, rfl, rfl, k1', by rw [k2.length]; exact Nat.lt_of_le_of_lt (of_decide_eq_true hl) (by decide), ?_⟩
      have st : Stp A H1 A (upd H1 p (.lst (vs ++ [v]))) := fun a w q e => ⟨q, by rw [upd_ne (fun z => hA (by rw [← z]; exact q))]; exact e⟩
      have il : IsL A H1 (vs ++ [v]) (ds ++ [d]) := (k2.stp (e1.stp R.ak)).append (.cons h1 .nil)
      exact W1 A σ _ (R1.write hi hp ⟨_, upd_same, il.stp st⟩) ((e1.stp R.ak).trans st) (C.st2 _ _ _ _ hok (by rw [k1']; rfl) I1)
theorem IsL.set {A : Addr → Prop} {H : Hp} {v : V} {d : Fs.D} (h : Is A H v d) : ∀ {vs : List V} {ds : List Fs.D} (j : Nat), IsL A H vs ds → IsL A H (vs.set j v) (ds.set j d)
  | _, _, _, .nil => .nil
  | _, _, 0, .cons _ t => .cons h t
  | _, _, j + 1, .cons k t => .cons k (IsL.set h j t)
/-- xs[k] = e, xs own -/
def ySetL (i : Nat) (fe fk : Rho → M S Fs.D) : Rho → M S Out := fun ρ => (fe ρ).bind fun d => (M.of (ownL ρ[i]?)).bind fun ds => (fk ρ).bind fun k => (M.of ((dIn k).bind fun n => ixN ds.length n)).bind fun j => .ret (.nx (ρ.set i (.own (.lst (ds.set j d)))))
theorem d_setL {te tk : XK → TE} {fe fk : Rho → M S Fs.D} {i : Nat} (h : EvD C te fe) (hk : EvD C tk fk) : StD C (fun E => tAsg (te E) (gSub (tV i) (tk E) rSetL)) (ySetL i fe fk) := fun B A ρ σ H s E D R I W => by
  refine h B A ρ σ H s E _ R I (R.fr <| (Wish.then W).mono fun d s1 W1 v H1 e1 I1 h1 => ?_)
  have R1 := R.step e1
  obtain ⟨ds, hi, W1⟩ := of_some (Wish.then W1)
  · have hi := ownL_of hi
    obtain ⟨p, hp, hA, hok, _, _, _⟩ := R1.writeI hi
    show tV i σ H1 _
    unfold tV
    rw [hp]
    refine hk B A ρ σ H1 s1 E _ R1 I1 (R1.fr <| (Wish.then W1).mono fun k s2 W2 w H2 e2 I2 h2 => ?_)
    obtain ⟨j, ej, W3⟩ := of_some (Wish.then W2)
    obtain ⟨n, en, ej⟩ := Option.bind_eq_some_iff.mp ej
    have R2 := R1.step e2
    obtain ⟨p', hp', hA', hok', vs, k1, k2⟩ := R2.writeI hi
    rw [hp] at hp'
    cases hp'
    have ew := h2.in_of en
    refine ⟨p, vs, n, j, rfl, ew, k1, by rw [k2.length]; exact ej, ?_⟩
    have st : Stp A H2 A (upd H2 p (.lst (vs.set j v))) := fun a w q e => ⟨q, by rw [upd_ne (fun z => hA (by rw [← z]; exact q))]; exact e⟩
    have il : IsL A H2 (vs.set j v) (ds.set j d) := IsL.set (h1.stp (e2.stp R.ak)) j k2
    exact W3 A σ _ (R2.write hi hp ⟨_, upd_same, il.stp st⟩) (((e1.trans e2).stp R.ak).trans st) (C.st2 _ _ _ _ hok (by rw [k1]; rfl) I2)
def putD (kds : List (Key × Fs.D)) (k : Key) (d : Fs.D) : List (Key × Fs.D) := if (kds.any fun kv => decide (kv.1 = k)) = true then kds.map (fun kv => if kv.1 = k then (kv.1, d) else kv) else kds ++ [(k, d)]
theorem IsK.any {A : Addr → Prop} {H : Hp} {k : Key} : ∀ {vs : List (Key × V)} {ds : List (Key × Fs.D)}, IsK A H vs ds → (vs.any fun kv => decide (kv.1 = k)) = (ds.any fun kv => decide (kv.1 = k))
  | _, _, .nil => rfl
  | _, _, .cons h t => by rw [List.any_cons, List.any_cons, IsK.any t]
theorem IsK.repl {A : Addr → Prop} {H : Hp} {k : Key} {v : V} {d : Fs.D} (h : Is A H v d) : ∀ {vs : List (Key × V)} {ds : List (Key × Fs.D)}, IsK A H vs ds → IsK A H (vs.map (fun kv => if kv.1 = k then (kv.1, v) else kv)) (ds.map (fun kv => if kv.1 = k then (kv.1, d) else kv))
  | _, _, .nil => .nil
  | _, _, .cons (k := k') g t => by
    rw [List.map_cons, List.map_cons]
    by_cases e : k' = k
    · rw [if_pos e, if_pos e]; exact .cons h (IsK.repl h t)
    · rw [if_neg e, if_neg e]; exact .cons g (IsK.repl h t)
theorem IsK.append {A : Addr → Prop} {H : Hp} : ∀ {vs ws : List (Key × V)} {ds es : List (Key × Fs.D)}, IsK A H vs ds → IsK A H ws es → IsK A H (vs ++ ws) (ds ++ es)
  | _, _, _, _, .nil, k => k
  | _, _, _, _, .cons h t, k => .cons h (IsK.append t k)
theorem IsK.put {A : Addr → Prop} {H : Hp} {k : Key} {v : V} {d : Fs.D} {vs : List (Key × V)} {ds : List (Key × Fs.D)} (h : Is A H v d) (g : IsK A H vs ds) : IsK A H (putK vs k v) (putD ds k d) := by
  unfold putK putD
  rw [g.any (k := k)]
  split
  · exact g.repl h
  · exact g.append (.cons h .nil)
theorem IsK.length {A : Addr → Prop} {H : Hp} : ∀ {vs : List (Key × V)} {ds : List (Key × Fs.D)}, IsK A H vs ds → vs.length = ds.length
  | _, _, .nil => rfl
  | _, _, .cons _ t => congrArg (· + 1) (IsK.length t)
/-- xs[k] = e, xs an own dict -/
def ySetK (i : Nat) (fe fk : Rho → M S Fs.D) : Rho → M S Out := fun ρ => (fe ρ).bind fun d => (M.of (ownK ρ[i]?)).bind fun ds => (fk ρ).bind fun k => (M.of (keyD k)).bind fun k2 => match lim ds.length with
  | true => .ret (.nx (ρ.set i (.own (.dct (putD ds k2 d)))))
  | false => fun _ => .bad
theorem d_setK {te tk : XK → TE} {fe fk : Rho → M S Fs.D} {i : Nat} (h : EvD C te fe) (hk : EvD C tk fk) : StD C (fun E => sDPut (tV i) (tk E) (te E)) (ySetK i fe fk) := fun B A ρ σ H s E D R I W => by
  refine h B A ρ σ H s E _ R I (R.fr <| (Wish.then W).mono fun d s1 W1 v H1 e1 I1 h1 => ?_)
  have R1 := R.step e1
  obtain ⟨ds, hi, W1⟩ := of_some (Wish.then W1)
  · have hi := ownK_of hi
    obtain ⟨p, hp, hA, hok, _, _, _⟩ := R1.writeI hi
    show tV i σ H1 _
    unfold tV
    rw [hp]
    refine hk B A ρ σ H1 s1 E _ R1 I1 (R1.fr <| (Wish.then W1).mono fun k s2 W2 w H2 e2 I2 h2 => ?_)
    obtain ⟨k2, ek, W3⟩ := of_some (Wish.then W2)
    have R2 := R1.step e2
    obtain ⟨p', hp', hA', hok', vs, k1, il⟩ := R2.writeI hi
    rw [hp] at hp'
    cases hp'
    cases hl : lim ds.length with
    | false => rw [hl] at W3; exact W3.elim
    | true =>
      rw [hl] at W3
      refine ⟨p, upd H2 p (.dK (putK vs k2 v)), rfl, .inl ⟨vs, k2, k1, keyOf_kV (h2.key ek), by rw [il.length]; exact Nat.lt_of_le_of_lt (of_decide_eq_true hl) (by decide), rfl⟩, ?_⟩
      have st : Stp A H2 A (upd H2 p (.dK (putK vs k2 v))) := fun a w q e => ⟨q, by rw [upd_ne (fun z => hA (by rw [← z]; exact q))]; exact e⟩
      have ik := IsK.put (k := k2) (h1.stp (e2.stp R.ak)) il
      exact W3 A σ _ (R2.write hi hp ⟨_, upd_same, ik.stp st⟩) (((e1.trans e2).stp R.ak).trans st) (C.st2 _ _ _ _ hok (by rw [k1]; rfl) I2)
/-- the own object of slot i is let go: a value from now on -/
def oVal : OD → Fs.D
  | .lst ds => .lst ds
  | .dct ds => .dct ds
  | .ins c fs => .obj c fs
def freeR (i : Nat) (ρ : Rho) : Option Rho := match ρ[i]? with
  | some (.own o) => some (ρ.set i (.val (oVal o)))
  | _ => none
theorem Rel.free {P : Pl} {B : Bs} {A : Addr → Prop} {ρ ρ1 : Rho} {σ : L2.St} {H : Hp} {i : Nat} (R : Rel P B A ρ σ H) (e : freeR i ρ = some ρ1) : ∃ p, Rel P B (fun a => A a ∨ a = p) ρ1 σ H ∧ Stp A H (fun a => A a ∨ a = p) H := by
  unfold freeR at e
  split at e
  · rename_i o hi
    cases e
    obtain ⟨p, h1, h2, h3, h4, h5, h6⟩ := R.slot i _ hi
    have st : Stp A H (fun a => A a ∨ a = p) H := fun a w h e => ⟨.inl h, e⟩
    have li : i < ρ.length := (List.getElem?_eq_some_iff.mp hi).1
    refine ⟨p, {
      len := by simpa using R.len
      ext := R.ext
      nw := fun a e => .inl (R.nw a e)
      n0 := R.n0
      sub := fun a h => h.elim (R.sub a) fun z => by rw [z]; exact h4
      kp := R.kp
      slot := fun j sl e => ?_
      apart := fun j k oj ok a e1 e2 e3 e4 => ?_ }, st⟩
    · by_cases q : i = j
      · subst q
        rw [List.getElem?_set_self li] at e
        cases e
        refine ⟨.ref p, h1, ?_⟩
        cases o with
        | lst ds => obtain ⟨vs, a1, a2⟩ := h6; exact .lst (.inr rfl) a1 (a2.stp st)
        | dct ds => obtain ⟨vs, a1, a2⟩ := h6; exact .dct (.inr rfl) (by unfold look; rw [a1]) (a2.stp st)
        | ins c ds => obtain ⟨_, dx, vs, a1, a2⟩ := h6; exact .obj (.inr rfl) a1 (a2.stp st)
      · rw [List.getElem?_set_ne q] at e
        have h := R.slot j sl e
        cases sl with
        | no => trivial
        | val d => obtain ⟨v, k1, k2⟩ := h; exact ⟨v, k1, k2.stp st⟩
        | own oj =>
          obtain ⟨a, k1, k2, k3, k4, k5, k6⟩ := h
          refine ⟨a, k1, fun z => z.elim k2 fun y => q (R.apart i j o oj p hi e h1 (by rw [← y]; exact k1)), k3, k4, k5, k6.stp st fun w y => y⟩
    · have ne : ∀ {j : Nat} {oj : OD}, (ρ.set i (.val (oVal o)))[j]? = some (.own oj) → i ≠ j := fun {j oj} e z => by
        subst z
        rw [List.getElem?_set_self li] at e
        cases e
      have n1 := ne e1
      have n2 := ne e2
      rw [List.getElem?_set_ne n1] at e1
      rw [List.getElem?_set_ne n2] at e2
      exact R.apart j k oj ok a e1 e2 e3 e4
  · cases e
def yFree (i : Nat) (f : Rho → M S Out) : Rho → M S Out := fun ρ => (M.of (freeR i ρ)).bind f
theorem d_free {i : Nat} {t : XK → TS} {f : Rho → M S Out} (h : StD C t f) : StD C t (yFree i f) := fun B A ρ σ H s E D R I W => by
  obtain ⟨ρ1, e, W1⟩ := of_some (Wish.then W)
  obtain ⟨p, R1, st⟩ := R.free e
  exact h B _ ρ1 σ H s E D R1 I (Wish.mono W1 fun o s2 W2 => W2.stp st)
def startR (n : Nat) (ds : List Fs.D) : Rho := ds.map .val ++ List.replicate (n - ds.length) .no
/-- what a def of m parameters and n names computes -/
def runD (n m : Nat) (f : Rho → M S Out) : List Fs.D → M S Fs.D := fun ds => match decide (ds.length = m) with
  | true => (f (startR n ds)).bind fun o => match o with
    | .nx _ => .ret .non
    | .rt d => .ret d
    | .bk _ => fun _ => .bad
    | .ct _ => fun _ => .bad
  | false => fun _ => .bad
theorem sp_run {N : List Str} {m : Nat} {rd : XK → TS} {f : Rho → M S Out} (hm : m ≤ N.length) (h : StD C rd f) : SpD C (spR N m rd) (runD N.length m f) := fun A H vs ds s Q E hv nw sub I W => by
  unfold runD at W
  cases e : decide (ds.length = m) with
  | false => rw [e] at W; exact W.elim
  | true =>
    rw [e] at W
    have hl : ds.length = m := of_decide_eq_true e
    have hlv : vs.length = m := by rw [hv.length]; exact hl
    refine ⟨hlv, ?_⟩
    refine h ⟨H, A, none⟩ A (startR N.length ds) (L2.start N vs) H s E { nx := fun _ H' => Q .non H', rt := Q } ?_ I ((Wish.then W).mono fun o s1 W1 => ?_)
    · refine ⟨?_, Ext.refl _ _, nw, nw, fun _ h => h, sub, fun i sl e => ?_, fun i j oi oj a e1 _ _ _ => ?_⟩
      · simp only [startR, L2.start, List.length_append, List.length_map, List.length_replicate]
        omega
      · unfold startR at e
        unfold L2.start
        by_cases hi : i < ds.length
        · rw [List.getElem?_append_left (by simpa using hi), List.getElem?_map] at e
          rw [List.getElem?_append_left (by rw [List.length_map, hv.length]; exact hi), List.getElem?_map]
          rcases hv.get i with ⟨_, z⟩ | ⟨v, d, z1, z2, z3⟩
          · rw [z] at e; cases e
          · rw [z2] at e
            cases e
            rw [z1]
            exact ⟨v, rfl, z3⟩
        · rw [List.getElem?_append_right (by simpa using hi), List.getElem?_replicate] at e
          split at e
          · cases e; trivial
          · cases e
      · unfold startR at e1
        by_cases hi : i < ds.length
        · rw [List.getElem?_append_left (by simpa using hi), List.getElem?_map] at e1
          obtain ⟨d, _, z⟩ := Option.map_eq_some_iff.mp e1
          cases z
        · rw [List.getElem?_append_right (by simpa using hi), List.getElem?_replicate] at e1
          split at e1 <;> cases e1
    · cases o with
      | nx ρ => exact fun A1 σ1 H1 R1 _ I1 => W1 .non H1 R1.ext I1 .non
      | rt d => exact fun A1 v H1 h1 sb ex I1 => W1 v H1 ex I1 (h1.stp fun a o k q => ⟨sb a k, q⟩)
      | bk ρ => exact W1.elim
      | ct ρ => exact W1.elim
end
end Fs

namespace Fs
open PySem PySem.Spec PyProof.Rows L2
/-- whether a thing holds -/
noncomputable def chk (p : Prop) : Bool := @decide p (Classical.propDecidable p)
theorem chk_true {p : Prop} (h : p) : chk p = true := by
  unfold chk
  simpa using h
theorem chk_of {p : Prop} (h : chk p = true) : p := by
  unfold chk at h
  simpa using h
section
variable {X : Cx}
/-- int(x): of an int, a bool, a text -/
def mIntT : List V → Hp → VK → Prop := one fun x H Q => match x with
  | .int i => Q (.int i) H
  | .bl k => Q (.int (if k then 1 else 0)) H
  | .str a => (match PySem.intText? a with | some n => a.length ≤ 640 ∧ Q (.int n) H | none => False)
  | _ => False
theorem call_mIntT : CallR X (.type "int") mIntT := cr_imp (callr_or call_intA call_int_str) fun xs H Q h => by
  unfold mIntT one at h
  split at h
  · split at h
    · exact .inl (.inl ⟨_, rfl, h⟩)
    · exact .inl (.inr ⟨_, rfl, h⟩)
    · split at h
      · rename_i n e
        exact .inr ⟨_, n, rfl, e, h.1, h.2⟩
      · exact h.elim
    · exact h.elim
  · exact h.elim
def mStr : List V → Hp → VK → Prop := one fun x H Q => match x with
  | .int i => i.natAbs.log2 < 1920 ∧ Q (.str (toString i)) H
  | .str a => Q (.str a) H
  | _ => False
theorem call_mStr : CallR X (.type "str") mStr := cr_imp (callr_or call_str_int SkE.call_str_str) fun xs H Q h => by
  unfold mStr one at h
  split at h
  · split at h
    · exact .inl ⟨_, rfl, h.1, h.2⟩
    · exact .inr ⟨_, rfl, h⟩
    · exact h.elim
  · exact h.elim
def mRepr : List V → Hp → VK → Prop := one fun x H Q => match x with
  | .int i => i.natAbs.log2 < 1920 ∧ Q (.str (toString i)) H
  | _ => False
theorem call_mRepr : CallR X (.builtin "repr") mRepr := cr_imp SkE.call_repr_int fun xs H Q h => by
  unfold mRepr one at h
  split at h
  · split at h
    · exact ⟨_, rfl, h.1, h.2⟩
    · exact h.elim
  · exact h.elim
/-- isinstance -/
def isC (K : PySem.W.Frag) (T : Value) (c : V) (H : Hp) (Q : VK) : Prop := match c with
  | .ref t => (match H t with
    | some (.tup cs) => (K.lookup t = none → ∃ us b, clsOfs cs = some us ∧ PySem.W.kitAny K T us = some b ∧ Q (.bl b) H)
    | _ => ∃ b, PySem.W.kitOne K T (.ref t) = some b ∧ Q (.bl b) H)
  | .ty m => ∃ b, PySem.W.kitOne K T (.type m) = some b ∧ Q (.bl b) H
  | _ => False
def mIk (K : PySem.W.Frag) : List V → Hp → VK → Prop := fun xs H Q => match xs with
  | [x, c] => (match x with
    | .ref a => (match H a with
      | some (.ins C _ _) => InsTy K C ∧ isC K (.ref C) c H Q
      | _ => (match tyNm H x with | some n => isC K (.type n) c H Q | none => False))
    | _ => (match tyNm H x with | some n => isC K (.type n) c H Q | none => False))
  | _ => False
theorem isC_run {pins : List (Addr × Obj)} {σ : L2.St} {H : Hp} {s : Shared} {c : V} {u1 u2 T : Value} {P : Heap → Prop} {Q : VK} (I : Inv X pins σ H s) (Z : PySem.W.KitX X.K u1 T P) (p : P s.heap) (hx : u1 ≠ .builtin "__main__.__loader__#opaque") (r2 : RelV c u2) (h : isC X.K T c H Q) :
    wpAny (model X.prog X.w) X.A (call (.builtin "isinstance") [u1, u2]) (EP X pins σ Q) X.xe s := by
  unfold isC at h
  split at h
  · rename_i t
    obtain rfl : u2 = Value.ref t := r2
    split at h
    · rename_i cs hT
      have nk : X.K.lookup t = none := by
        cases e : X.K.lookup t with
        | none => rfl
        | some o =>
          have z := (I.bs t o (I.ok.mod.kin t o e)).2
          rw [hT] at z; cases z
      obtain ⟨ws, b, k, e, q⟩ := h nk
      obtain ⟨_, its, rv, o, h1, h2, n, h3⟩ := (show ObjOk X.prog X.w H s.heap t (.tup cs) from I.hok t _ hT)
      have e3 := ClsV.all (clsOfs_v k) rv
      subst e3
      obtain ⟨oc, od, dt, sl⟩ := o
      simp only at h2 h3
      subst h2 h3
      exact PySem.W.kia_tup Z I.kIn p h1 e hx fun tk => ⟨.bl b, H, I.tok tk, rfl, q⟩
    · obtain ⟨b, e, q⟩ := h
      exact PySem.W.kia_one Z I.kIn p e hx fun tk => ⟨.bl b, H, I.tok tk, rfl, q⟩
  · rename_i m
    obtain ⟨b, e, q⟩ := h
    obtain rfl : u2 = Value.type m := r2
    exact PySem.W.kia_one Z I.kIn p e hx fun tk => ⟨.bl b, H, I.tok tk, rfl, q⟩
  · exact h.elim
theorem call_mIk : CallR X (.builtin "isinstance") (mIk X.K) := by
  intro pins s σ H xs us Q I r h
  have fin : ∀ (x c : V) (n : String), xs = [x, c] → tyNm H x = some n → isC X.K (.type n) c H Q → wpAny (model X.prog X.w) X.A (call (.builtin "isinstance") us) (EP X pins σ Q) X.xe s := fun x c n ex hn hh => by
    rw [ex] at r
    obtain ⟨u1, u2, rfl, r1, r2⟩ := vals2 r
    obtain ⟨P, Z, p, hx⟩ := kit_of I r1 (tyNm_x hn)
    exact isC_run I Z p hx r2 hh
  unfold mIk at h
  split at h
  · split at h
    · split at h
      · rename_i a C dx fs e
        obtain ⟨T, h⟩ := h
        obtain ⟨u1, u2, rfl, r1, r2⟩ := vals2 r
        obtain ⟨P, Z, p, hx⟩ := kit_of I r1 (.base (.ins e T.cl T.ha T.hn T.htk T.hm))
        exact isC_run I Z p hx r2 h
      · split at h
        · rename_i n hn
          exact fin _ _ n rfl hn h
        · exact h.elim
    · split at h
      · rename_i n hn
        exact fin _ _ n rfl hn h
      · exact h.elim
  · exact h.elim
/-- isinstance of a caught exception -/
def mIkx (K : PySem.W.Frag) : List V → Hp → VK → Prop := fun xs H Q => match xs with
  | [.ref a, c] => ∃ (C : Addr) (d : Option Addr), H a = some (EXO (.ref C) d a) ∧ ExcC K C ∧ (∀ dd, d = some dd → ∃ fs, H dd = some (.xd fs)) ∧ isC K (.ref C) c H Q
  | _ => False
theorem call_mIkx : CallR X (.builtin "isinstance") (mIkx X.K) := by
  intro pins s σ H xs us Q I r h
  unfold mIkx at h
  split at h
  · rename_i a c
    obtain ⟨C, d, ea, T, ed, h⟩ := h
    obtain ⟨u1, u2, rfl, r1, r2⟩ := vals2 r
    obtain rfl : u1 = Value.ref a := r1
    obtain ⟨P, Z, p⟩ := kit_exc I T ea ed
    exact isC_run I Z p (fun z => nomatch z) r2 h
  · exact h.elim
end
section
variable {K : PySem.W.Frag} {A : Addr → Prop} {H : Hp}
theorem one_of {r : V → Hp → VK → Prop} {op : D → Option D} (h : UnD r op) : CaD (one r) (fun xs => match xs with | [x] => op x | _ => none) := fun A H vs xs d Q hv nw e q => by
  cases hv with
  | nil => cases e
  | cons k t =>
    cases t with
    | nil => exact h A H _ _ d Q k nw e q
    | cons _ _ => cases e
def dLen1 : D → Option D
  | .str z => (match lim z.length with | true => some (.int z.length) | false => none)
  | .lst xs => some (.int xs.length)
  | .tup xs => some (.int xs.length)
  | .dct xs => some (.int xs.length)
  | _ => none
def dLen (xs : List D) : Option D := match xs with | [x] => dLen1 x | _ => none
theorem c_len : CaD mLen dLen := one_of fun A H v x d Q h nw e q => by
  unfold dLen1 at e
  split at e
  · cases h
    split at e
    · rename_i l
      cases e
      exact ⟨lim_ok l, q _ H (Ext.refl _ _) (.int _)⟩
    · cases e
  · cases h with
    | @lst a vs _ k1 k2 k3 =>
      cases e
      have lk : look H a = some (.lst vs) := by unfold look; rw [k2]
      simp only [lk, k3.length]
      exact q _ H (Ext.refl _ _) (.int _)
  · cases h with
    | @tup a vs _ k1 k2 k3 =>
      cases e
      have lk : look H a = some (.tup vs) := by unfold look; rw [k2]
      simp only [lk, k3.length]
      exact q _ H (Ext.refl _ _) (.int _)
  · cases h with
    | @dct a vs _ k1 k2 k3 =>
      cases e
      simp only [k2, k3.length]
      exact q _ H (Ext.refl _ _) (.int _)
  · cases e
def dInt1 : D → Option D
  | .int i => some (.int i)
  | .bl k => some (.int (if k then 1 else 0))
  | .str a => (match PySem.intText? a with | some n => (match decide (a.length ≤ 640) with | true => some (.int n) | false => none) | none => none)
  | _ => none
def dInt (xs : List D) : Option D := match xs with | [x] => dInt1 x | _ => none
theorem c_int : CaD mIntT dInt := one_of fun A H v x d Q h nw e q => by
  unfold dInt1 at e
  split at e
  · cases h; cases e
    exact q _ H (Ext.refl _ _) (.int _)
  · cases h; cases e
    exact q _ H (Ext.refl _ _) (.int _)
  · cases h
    split at e
    · rename_i n en
      split at e
      · rename_i l
        cases e
        simp only [en]
        exact ⟨of_decide_eq_true l, q _ H (Ext.refl _ _) (.int _)⟩
      · cases e
    · cases e
  · cases e
def dAbs1 : D → Option D
  | .int i => some (.int (if i < 0 then -i else i))
  | _ => none
def dAbs (xs : List D) : Option D := match xs with | [x] => dAbs1 x | _ => none
theorem c_abs : CaD mAbs dAbs := one_of fun A H v x d Q h nw e q => by
  unfold dAbs1 at e
  split at e
  · cases h; cases e
    exact q _ H (Ext.refl _ _) (.int _)
  · cases e
def dStr1 : D → Option D
  | .int i => (match decide (i.natAbs.log2 < 1920) with | true => some (.str (toString i)) | false => none)
  | .str a => some (.str a)
  | _ => none
def dStr (xs : List D) : Option D := match xs with | [x] => dStr1 x | _ => none
theorem c_str : CaD mStr dStr := one_of fun A H v x d Q h nw e q => by
  unfold dStr1 at e
  split at e
  · cases h
    split at e
    · rename_i l
      cases e
      exact ⟨of_decide_eq_true l, q _ H (Ext.refl _ _) (.str _)⟩
    · cases e
  · cases h; cases e
    exact q _ H (Ext.refl _ _) (.str _)
  · cases e
def dRepr1 : D → Option D
  | .int i => (match decide (i.natAbs.log2 < 1920) with | true => some (.str (toString i)) | false => none)
  | _ => none
def dRepr (xs : List D) : Option D := match xs with | [x] => dRepr1 x | _ => none
theorem c_repr : CaD mRepr dRepr := one_of fun A H v x d Q h nw e q => by
  unfold dRepr1 at e
  split at e
  · cases h
    split at e
    · rename_i l
      cases e
      exact ⟨of_decide_eq_true l, q _ H (Ext.refl _ _) (.str _)⟩
    · cases e
  · cases e
def dTup1 : D → Option D
  | .lst ds => some (.tup ds)
  | .tup ds => some (.tup ds)
  | _ => none
def dTup (xs : List D) : Option D := match xs with | [x] => dTup1 x | _ => none
theorem c_tup : CaD mTup dTup := one_of fun A H v x d Q h nw e q => by
  unfold dTup1 at e
  split at e
  · cases h with
    | @lst a vs _ k1 k2 k3 =>
      cases e
      have lk : look H a = some (.lst vs) := by unfold look; rw [k2]
      simp only [lk]
      intro l hl
      have x := Ext.new (o := .tup vs) hl
      exact q _ _ x (.tup (nw l hl) upd_same (k3.stp (x.stp fun _ _ => trivial)))
  · cases h with
    | @tup a vs _ k1 k2 k3 =>
      cases e
      have lk : look H a = some (.tup vs) := by unfold look; rw [k2]
      simp only [lk]
      exact q _ H (Ext.refl _ _) (.tup k1 k2 k3)
  · cases e
def dLst1 : D → Option D
  | .lst ds => some (.lst ds)
  | .tup ds => some (.lst ds)
  | _ => none
def dLst (xs : List D) : Option D := match xs with | [x] => dLst1 x | _ => none
theorem c_lst : CaD mLst dLst := one_of fun A H v x d Q h nw e q => by
  unfold dLst1 at e
  split at e
  · cases h with
    | @lst a vs _ k1 k2 k3 =>
      cases e
      have lk : look H a = some (.lst vs) := by unfold look; rw [k2]
      simp only [lk]
      intro l hl
      have x := Ext.new (o := .lst vs) hl
      exact q _ _ x (.lst (nw l hl) upd_same (k3.stp (x.stp fun _ _ => trivial)))
  · cases h with
    | @tup a vs _ k1 k2 k3 =>
      cases e
      have lk : look H a = some (.tup vs) := by unfold look; rw [k2]
      simp only [lk]
      intro l hl
      have x := Ext.new (o := .lst vs) hl
      exact q _ _ x (.lst (nw l hl) upd_same (k3.stp (x.stp fun _ _ => trivial)))
  · cases e
def dBls : List D → Option (List Bool)
  | [] => some []
  | .bl b :: r => (dBls r).map (b :: ·)
  | _ => none
theorem IsL.bls : ∀ {vs : List V} {xs : List D} {bs : List Bool}, IsL A H vs xs → dBls xs = some bs → bools vs = some bs
  | _, _, _, .nil, e => by simp [dBls] at e; subst e; rfl
  | _, _, _, .cons h t, e => by
    unfold dBls at e
    split at e
    · rename_i z; cases z
    · rename_i b r eq
      cases eq
      cases h
      obtain ⟨cs, e1, e2⟩ := Option.map_eq_some_iff.mp e
      subst e2
      unfold bools
      rw [t.bls e1]
      rfl
    · cases e
def dAll1 : D → Option D
  | .lst ds => (dBls ds).map fun bs => .bl (bs.all id)
  | _ => none
def dAll (xs : List D) : Option D := match xs with | [x] => dAll1 x | _ => none
theorem c_all : CaD mAll dAll := one_of fun A H v x d Q h nw e q => by
  unfold dAll1 at e
  split at e
  · cases h with
    | @lst a vs _ k1 k2 k3 =>
      obtain ⟨bs, e1, e2⟩ := Option.map_eq_some_iff.mp e
      subst e2
      have lk : look H a = some (.lst vs) := by unfold look; rw [k2]
      simp only [lk, k3.bls e1]
      exact q _ H (Ext.refl _ _) (.bl _)
  · cases e
def dAny1 : D → Option D
  | .lst ds => (dBls ds).map fun bs => .bl (bs.any id)
  | _ => none
def dAny (xs : List D) : Option D := match xs with | [x] => dAny1 x | _ => none
theorem c_any : CaD mAny dAny := one_of fun A H v x d Q h nw e q => by
  unfold dAny1 at e
  split at e
  · cases h with
    | @lst a vs _ k1 k2 k3 =>
      obtain ⟨bs, e1, e2⟩ := Option.map_eq_some_iff.mp e
      subst e2
      have lk : look H a = some (.lst vs) := by unfold look; rw [k2]
      simp only [lk, k3.bls e1]
      exact q _ H (Ext.refl _ _) (.bl _)
  · cases e
/-- texts -/
def strsD : List D → Option (List Str)
  | [] => some []
  | .str z :: r => (strsD r).map (z :: ·)
  | _ => none
theorem IsL.strs : ∀ {vs : List V} {xs : List D} {zs : List Str}, IsL A H vs xs → strsD xs = some zs → vs = zs.map V.str
  | _, _, _, .nil, e => by simp [strsD] at e; subst e; rfl
  | _, _, _, .cons h t, e => by
    unfold strsD at e
    split at e
    · rename_i z; cases z
    · rename_i b r eq
      cases eq
      cases h
      obtain ⟨cs, e1, e2⟩ := Option.map_eq_some_iff.mp e
      subst e2
      rw [t.strs e1]
      rfl
    · cases e
theorem is_strs : ∀ (zs : List Str), IsL A H (zs.map V.str) (zs.map D.str)
  | [] => .nil
  | z :: zs => .cons (.str z) (is_strs zs)
def sortS (zs : List Str) : List Str := zs.mergeSort fun a b => !ltS b a
theorem leS_trans {a b c : Str} (h1 : ltS b a = false) (h2 : ltS c b = false) : ltS c a = false := by
  unfold ltS at *
  simp only [decide_eq_false_iff_not] at *
  exact List.le_trans h1 h2
theorem rising_pw : ∀ (zs : List Str) (p : Str), risingS p zs = true → (p :: zs).Pairwise fun a b => ltS b a = false
  | [], p, _ => by simp
  | x :: r, p, h => by
    unfold risingS at h
    rw [Bool.and_eq_true] at h
    have ih := rising_pw r x h.2
    have h1 : ltS x p = false := by
      unfold ltS
      rw [← ltCps_eq]
      simpa using h.1
    refine List.pairwise_cons.mpr ⟨fun y hy => ?_, ih⟩
    rcases List.mem_cons.mp hy with rfl | hy
    · exact h1
    · exact leS_trans h1 ((List.pairwise_cons.mp ih).1 y hy)
theorem sorted_pw : ∀ (zs : List Str), sortedS zs = true → zs.Pairwise fun a b => ltS b a = false
  | [], _ => .nil
  | x :: r, h => rising_pw r x h
theorem Str_ext {a b : Str} (h : a.cps.toList = b.cps.toList) : a = b := by
  obtain ⟨x⟩ := a
  obtain ⟨y⟩ := b
  simp only [Str.mk.injEq]
  exact Array.toList_inj.mp h
theorem sortS_uniq {zs ys : List Str} (hp : ys.Perm zs) (hs : sortedS ys = true) : ys = sortS zs := by
  refine List.Perm.eq_of_pairwise (le := fun a b => ltS b a = false) (fun a b _ _ h1 h2 => ?_) (sorted_pw ys hs) ?_ (hp.trans (List.mergeSort_perm zs _).symm)
  · unfold ltS at h1 h2
    simp only [decide_eq_false_iff_not] at h1 h2
    exact Str_ext (List.le_antisymm h1 h2)
  · have := List.pairwise_mergeSort (le := fun a b => !ltS b a) (fun a b c h1 h2 => by
      simp only [Bool.not_eq_true'] at *
      exact leS_trans h1 h2) (fun a b => by
      unfold ltS
      rcases List.le_total a.cps.toList b.cps.toList with h | h
      · have : ¬ b.cps.toList < a.cps.toList := h
        simp [this]
      · have : ¬ a.cps.toList < b.cps.toList := h
        simp [this]) zs
    exact this.imp fun h => by simpa using h
def dSorted1 : D → Option D
  | .lst ds => (match strsD ds with | some zs => (match decide (zs.length < 64) with | true => some (.lst ((sortS zs).map D.str)) | false => none) | none => none)
  | _ => none
def dSorted (xs : List D) : Option D := match xs with | [x] => dSorted1 x | _ => none
theorem c_sorted : CaD (rSortedS K) dSorted := fun A H vs xs d Q hv nw e q => by
  unfold dSorted at e
  split at e
  · cases hv with
    | cons k t =>
      cases t
      unfold dSorted1 at e
      split at e
      · cases k with
        | @lst a ws _ k1 k2 k3 =>
          split at e
          · rename_i zs ez
            split at e
            · rename_i l
              cases e
              have ew := k3.strs ez
              refine ⟨a, zs, rfl, .inl (.inl (by rw [k2, ew])), of_decide_eq_true l, fun ys p hp hs hn => ?_⟩
              have x := Ext.new (o := .lst (ys.map V.str)) hn
              rw [← sortS_uniq hp hs] at q
              exact q _ _ x (.lst (nw p hn) upd_same (is_strs ys))
            · cases e
          · cases e
      · cases e
  · cases e
def tyD : D → Option Value
  | .non => some (.type "NoneType")
  | .bl _ => some (.type "bool")
  | .int _ => some (.type "int")
  | .str _ => some (.type "str")
  | .lst _ => some (.type "list")
  | .tup _ => some (.type "tuple")
  | .dct _ => some (.type "dict")
  | .obj C _ => some (.ref C)
  | _ => none
def clsD : D → Option Value
  | .ty n => some (.type n)
  | .adr C => some (.ref C)
  | _ => none
def clsDs : List D → Option (List Value)
  | [] => some []
  | c :: r => (match clsD c, clsDs r with | some u, some us => some (u :: us) | _, _ => none)
theorem IsL.cls : ∀ {vs : List V} {xs : List D} {us : List Value}, IsL A H vs xs → clsDs xs = some us → clsOfs vs = some us
  | _, _, _, .nil, e => by simp [clsDs] at e; subst e; rfl
  | _, _, _, .cons h t, e => by
    unfold clsDs at e
    split at e
    · rename_i u us e1 e2
      cases e
      unfold clsOfs
      rw [t.cls e2]
      cases h <;> simp [clsD] at e1 <;> subst e1 <;> rfl
    · cases e
noncomputable def isCD (K : PySem.W.Frag) (T : Value) : D → Option Bool
  | .ty m => PySem.W.kitOne K T (.type m)
  | .adr t => (match (K.lookup t).isSome with | true => PySem.W.kitOne K T (.ref t) | false => none)
  | .tup cs => (match clsDs cs with | some us => PySem.W.kitAny K T us | none => none)
  | _ => none
theorem isCD_of {T : Value} {c : V} {d : D} {b : Bool} {Q : VK} (h : Is A H c d) (e : isCD K T d = some b) (q : Q (.bl b) H) : isC K T c H Q := by
  unfold isCD at e
  split at e
  · cases h
    exact ⟨b, e, q⟩
  · cases h with
    | adr t =>
      split at e
      · rename_i k
        unfold isC
        split
        · rename_i t2 ht
          cases ht
          split
          · intro z
            rw [z] at k; cases k
          · exact ⟨b, e, q⟩
        · rename_i ht; cases ht
        · rename_i h1 h2
          exact (h1 _ rfl).elim
      · cases e
  · cases h with
    | @tup a vs _ k1 k2 k3 =>
      split at e
      · rename_i us eu
        unfold isC
        simp only [k2]
        exact fun _ => ⟨us, b, k3.cls eu, e, q⟩
      · cases e
  · cases e
noncomputable def dIsi (K : PySem.W.Frag) (xs : List D) : Option D := match xs with
  | [.obj C _, c] => (match chk (InsTy K C) with | true => (isCD K (.ref C) c).map .bl | false => none)
  | [.exc C _, c] => (match chk (ExcC K C) with | true => (isCD K (.ref C) c).map .bl | false => none)
  | [x, c] => (match tyD x with | some T => (isCD K T c).map .bl | none => none)
  | _ => none
theorem c_isi : CaD (mIk K) (fun xs => match xs with | [.exc _ _, _] => none | _ => dIsi K xs) := fun A H vs xs d Q hv nw e q => by
  have fin : ∀ {v c : V} {x y : D} {n : String}, tyD x = some (.type n) → tyNm H v = some n → Is A H c y → (isCD K (.type n) y).map .bl = some d → ∃ m, tyNm H v = some m ∧ isC K (.type m) c H Q := fun {v c x y n} _ e2 k e3 => by
    obtain ⟨b, e4, e5⟩ := Option.map_eq_some_iff.mp e3
    subst e5
    exact ⟨n, e2, isCD_of k e4 (q _ H (Ext.refl _ _) (.bl _))⟩
  cases hv with
  | nil => simp [dIsi] at e
  | @cons v x vs xs k t =>
    cases t with
    | nil => cases k <;> simp [dIsi] at e
    | @cons c y vs xs k2 t =>
      cases t with
      | cons _ _ => cases k <;> simp [dIsi] at e
      | nil =>
        cases k with
        | non =>
          obtain ⟨m, e1, h⟩ := fin (v := V.non) (x := .non) rfl rfl k2 (by simpa [dIsi, tyD] using e)
          unfold mIk; simp only [e1]; exact h
        | bl b =>
          obtain ⟨m, e1, h⟩ := fin (v := V.bl b) (x := .bl b) rfl rfl k2 (by simpa [dIsi, tyD] using e)
          unfold mIk; simp only [e1]; exact h
        | int b =>
          obtain ⟨m, e1, h⟩ := fin (v := V.int b) (x := .int b) rfl rfl k2 (by simpa [dIsi, tyD] using e)
          unfold mIk; simp only [e1]; exact h
        | str b =>
          obtain ⟨m, e1, h⟩ := fin (v := V.str b) (x := .str b) rfl rfl k2 (by simpa [dIsi, tyD] using e)
          unfold mIk; simp only [e1]; exact h
        | ty n => simp [dIsi, tyD] at e
        | adr a => simp [dIsi, tyD] at e
        | @lst a ws ds k1 k3 k4 =>
          have lk : tyNm H (.ref a) = some "list" := by simp [tyNm, look, k3]
          obtain ⟨m, e1, h⟩ := fin (v := .ref a) (x := .lst ds) rfl lk k2 (by simpa [dIsi, tyD] using e)
          unfold mIk; simp only [k3, e1]; exact h
        | @tup a ws ds k1 k3 k4 =>
          have lk : tyNm H (.ref a) = some "tuple" := by simp [tyNm, look, k3]
          obtain ⟨m, e1, h⟩ := fin (v := .ref a) (x := .tup ds) rfl lk k2 (by simpa [dIsi, tyD] using e)
          unfold mIk; simp only [k3, e1]; exact h
        | @dct a ws ds k1 k3 k4 =>
          have lk : tyNm H (.ref a) = some "dict" := by unfold tyNm; simp only [k3]
          obtain ⟨m, e1, h⟩ := fin (v := .ref a) (x := .dct ds) rfl lk k2 (by simpa [dIsi, tyD] using e)
          rcases look_dK k3 with ⟨o, z⟩ | z
          · unfold mIk; simp only [z, e1]; exact h
          · unfold mIk; simp only [z, e1]; exact h
        | @obj a C dx ws ds k1 k3 k4 =>
          simp only [dIsi] at e
          split at e
          · rename_i ck
            obtain ⟨b, e4, e5⟩ := Option.map_eq_some_iff.mp e
            subst e5
            unfold mIk
            simp only [k3]
            exact ⟨chk_of ck, isCD_of k2 e4 (q _ H (Ext.refl _ _) (.bl _))⟩
          · cases e
        | exc _ _ _ _ _ => simp at e
theorem c_isx : CaD (mIkx K) (fun xs => match xs with | [.exc _ _, _] => dIsi K xs | _ => none) := fun A H vs xs d Q hv nw e q => by
  dsimp only at e
  split at e
  · rename_i C fs c
    cases hv with
    | cons k t =>
      cases t with
      | cons k2 t =>
        cases t
        cases k with
        | @exc a _ dd ws _ k1 k3 k4 k5 k6 =>
          simp only [dIsi] at e
          split at e
          · rename_i ck
            obtain ⟨b, e4, e5⟩ := Option.map_eq_some_iff.mp e
            subst e5
            refine ⟨C, some dd, k3, chk_of ck, fun z hz => ?_, isCD_of k2 e4 (q _ H (Ext.refl _ _) (.bl _))⟩
            cases hz
            exact ⟨ws, k5⟩
          · cases e
  · cases e
theorem IsF.look : ∀ {vs : List (Str × V)} {ds : List (Str × D)} {f : Str} {d : D}, IsF A H vs ds → ds.lookup f = some d → ∃ v, vs.lookup f = some v ∧ Is A H v d
  | _, _, _, _, .nil, e => by simp at e
  | _, _, f, _, .cons (k := k) h t, e => by
    rw [List.lookup_cons] at e ⊢
    cases hb : f == k with
    | true => rw [hb] at e; cases e; exact ⟨_, rfl, h⟩
    | false => rw [hb] at e; exact IsF.look t e
/-- e.f, of an object -/
noncomputable def dFd (K : PySem.W.Frag) (f : Str) : D → Option D
  | .obj C fs => (match chk (Cls K C ∧ NoAttr K C f) with | true => fs.lookup f | false => none)
  | _ => none
noncomputable def dXf (K : PySem.W.Frag) (f : Str) : D → Option D
  | .exc C fs => (match chk (XfC K C ∧ PySem.W.findIn K (.ref C) f = some none) with | true => fs.lookup f | false => none)
  | _ => none
variable {S : Type} {C : Cfg S} {ta : XK → TE} {fa : Rho → M S D}
def x1 (op : D → Option D) (f : Rho → M S D) : Rho → M S D := fun ρ => (f ρ).bind fun x => .of (op x)
theorem e_fld {f : Str} (ha : EvD C ta fa) : EvD C (fun E => tFd K (ta E) f) (x1 (dFd K f) fa) := fun B A ρ σ H s E Q R I W => by
  refine ha B A ρ σ H s E _ R I ((Wish.then W).mono fun x s1 W1 v H1 e1 I1 h1 => ?_)
  obtain ⟨d, e, W2⟩ := of_some W1
  unfold dFd at e
  split at e
  · cases h1 with
    | @obj a c dx vs _ k1 k2 k3 =>
      split at e
      · rename_i ck
        obtain ⟨w, e2, k⟩ := k3.look e
        simp only [k2]
        refine ⟨(chk_of ck).1, (chk_of ck).2, ?_⟩
        rw [e2]
        exact W2 w H1 e1 I1 k
      · cases e
  · cases e
theorem e_xfld {f : Str} (ha : EvD C ta fa) : EvD C (fun E => tXo K f (ta E)) (x1 (dXf K f) fa) := fun B A ρ σ H s E Q R I W => by
  refine ha B A ρ σ H s E _ R I ((Wish.then W).mono fun x s1 W1 v H1 e1 I1 h1 => ?_)
  obtain ⟨d, e, W2⟩ := of_some W1
  unfold dXf at e
  split at e
  · cases h1 with
    | @exc a c dd vs _ k1 k2 k3 k4 k5 =>
      split at e
      · rename_i ck
        obtain ⟨w, e2, k⟩ := k5.look e
        refine ⟨_, dd, vs, k2, k4, (chk_of ck).1, (chk_of ck).2, ?_⟩
        rw [e2]
        exact W2 w H1 e1 I1 k
      · cases e
  · cases e
variable {tl th : XK → TO} {fl fh : Rho → M S (Option Int)} {tr : XK → TA} {fr : Rho → M S (List D)}
def xNo : Rho → M S (Option Int) := fun _ => .ret none
theorem o_none : EvO C (fun _ => tNoPart) xNo := fun B A ρ σ H s E Q R I W => W H (Ext.refl _ _) I
def xPa (f : Rho → M S D) : Rho → M S (Option Int) := fun ρ => (f ρ).bind fun x => (M.of (dIn x)).bind fun i => .ret (some i)
theorem o_part (ha : EvD C ta fa) : EvO C (fun E => tPa (ta E)) (xPa fa) := fun B A ρ σ H s E Q R I W => by
  refine ha B A ρ σ H s E _ R I ((Wish.then W).mono fun x s1 W1 v H1 e1 I1 h1 => ?_)
  obtain ⟨i, e, W2⟩ := of_some (Wish.then W1)
  rw [h1.in_of e]
  exact W2 H1 e1 I1
def xSl (f : Rho → M S D) (g h : Rho → M S (Option Int)) : Rho → M S D := fun ρ => (f ρ).bind fun x => (g ρ).bind fun l => (h ρ).bind fun u => .of (dSl x l u)
theorem e_sl (ha : EvD C ta fa) (hl : EvO C tl fl) (hh : EvO C th fh) : EvD C (fun E => L2.tSl (mSl K) (ta E) (tl E) (th E)) (xSl fa fl fh) := fun B A ρ σ H s E Q R I W => by
  refine ha B A ρ σ H s E _ R I ((Wish.then W).mono fun x s1 W1 v H1 e1 I1 h1 => ?_)
  refine hl B A ρ σ H1 s1 E _ (R.step e1) I1 ((Wish.then (Wish.step W1 e1)).mono fun l s2 W2 H2 e2 I2 => ?_)
  refine hh B A ρ σ H2 s2 E _ ((R.step e1).step e2) I2 ((Wish.then (Wish.step W2 e2)).mono fun u s3 W3 H3 e3 I3 => ?_)
  obtain ⟨d, e, W4⟩ := of_some W3
  have e13 := (e1.trans e2).trans e3
  exact s_sl A H3 v l u x d Q (h1.stp ((e2.trans e3).stp R.ak)) (fun a q => R.nw a (e13.2 a q)) e fun w H4 e4 h4 => W4 w H4 (e13.trans e4.all) (C.st _ _ _ I3 e4) h4
def itemsLT : D → Option (List D)
  | .lst ds => some ds
  | .tup ds => some ds
  | _ => none
def xStar (f : Rho → M S D) (g : Rho → M S (List D)) : Rho → M S (List D) := fun ρ => (f ρ).bind fun x => (M.of (itemsLT x)).bind fun xs => (g ρ).bind fun ys => .ret (xs ++ ys)
theorem a_star (ha : EvD C ta fa) (hr : EvA C tr fr) : EvA C (fun E => StX.tStar K (ta E) (tr E)) (xStar fa fr) := fun B A ρ σ H s E Q R I W => by
  refine ha B A ρ σ H s E _ R I ((Wish.then W).mono fun x s1 W1 v H1 e1 I1 h1 => ?_)
  obtain ⟨xs, e, W2⟩ := of_some (Wish.then W1)
  have key : ∃ p vs, v = V.ref p ∧ (SqT K H1 p vs ∨ SqL K H1 p vs) ∧ IsL A H1 vs xs := by
    unfold itemsLT at e
    split at e
    · cases e
      cases h1 with
      | @lst a vs _ k1 k2 k3 => exact ⟨a, vs, rfl, .inr (.inl (.inl k2)), k3⟩
    · cases e
      cases h1 with
      | @tup a vs _ k1 k2 k3 => exact ⟨a, vs, rfl, .inl (.inl (.inl k2)), k3⟩
    · cases e
  obtain ⟨p, vs, rfl, sq, il⟩ := key
  refine ⟨p, vs, rfl, sq, ?_⟩
  refine hr B A ρ σ H1 s1 E _ (R.step e1) I1 ((Wish.then (Wish.step W2 e1)).mono fun ys s2 W3 ws H2 e2 I2 h2 => ?_)
  exact W3 _ H2 (e1.trans e2) I2 ((il.stp (e2.stp R.ak)).append h2)
abbrev rSplit : V → List V → Hp → VK → Prop := fun x xs H Q => ∃ a b, x = .str a ∧ xs = [.str b] ∧ (b.length == 0) = false ∧ a.length + 2 ≤ sizeLine ∧ rNewStrs (Txt.split a b) H Q
def strD : D → Option Str
  | .str a => some a
  | _ => none
theorem Is.str_of {v : V} {x : D} {a : Str} (h : Is A H v x) (e : strD x = some a) : v = .str a := by
  cases h <;> simp [strD] at e
  subst e; rfl
def splitD (a : Str) : D → Option (List D)
  | .str b => (match !(b.length == 0) && lim a.length with | true => some ((Txt.split a b).map D.str) | false => none)
  | _ => none
def xSplit (f g : Rho → M S D) : Rho → M S (List D) := fun ρ => (f ρ).bind fun x => (M.of (strD x)).bind fun a => (g ρ).bind fun y => .of (splitD a y)
variable {tb : XK → TE} {fb : Rho → M S D}
theorem n_split (ha : EvD C ta fa) (hb : EvD C tb fb) : EvN C (fun E => tM1 rSplit (ta E) (tb E)) (xSplit fa fb) := fun B A ρ σ H s E Q R I W => by
  refine ha B A ρ σ H s E _ R I ((Wish.then W).mono fun x s1 W1 v H1 e1 I1 h1 => ?_)
  obtain ⟨a, ea, W1⟩ := of_some (Wish.then W1)
  rw [h1.str_of ea]
  refine ⟨⟨a, rfl⟩, ?_⟩
  refine hb B A ρ σ H1 s1 E _ (R.step e1) I1 ((Wish.then (Wish.step W1 e1)).mono fun y s2 W2 w H2 e2 I2 h2 => ?_)
  obtain ⟨zs, e, W3⟩ := of_some W2
  unfold splitD at e
  split at e
  · cases h2
    split at e
    · rename_i l
      rw [Bool.and_eq_true] at l
      cases e
      refine ⟨_, _, rfl, rfl, by simpa using l.1, ?_, fun p hp => ?_⟩
      · have := of_decide_eq_true l.2
        exact Nat.le_trans (Nat.add_le_add_right this 2) (by decide)
      · exact W3 p H2 _ hp (e1.trans e2) (C.st _ _ _ I2 (Ext.new hp)) (is_strs _)
    · cases e
  · cases e
abbrev rJoin (K : PySem.W.Frag) : V → List V → Hp → VK → Prop := fun x xs H Q => ∃ a p, ∃ ys : List Str, x = .str a ∧ xs = [.ref p] ∧ (SqL K H p (ys.map V.str) ∨ SqT K H p (ys.map V.str)) ∧
    (ys.map (·.length)).sum + ys.length * a.length ≤ 16777216 ∧ Q (.str (Txt.join a ys)) H
def joinD (a : Str) (y : D) : Option D := (itemsLT y).bind fun ds => (strsD ds).bind fun ys => match decide ((ys.map (·.length)).sum + ys.length * a.length ≤ 16777216) with
  | true => some (.str (Txt.join a ys))
  | false => none
def xM1 (op : Str → D → Option D) (f g : Rho → M S D) : Rho → M S D := fun ρ => (f ρ).bind fun x => (M.of (strD x)).bind fun a => (g ρ).bind fun y => .of (op a y)
theorem e_join (ha : EvD C ta fa) (hb : EvD C tb fb) : EvD C (fun E => tM1 (rJoin K) (ta E) (tb E)) (xM1 joinD fa fb) := fun B A ρ σ H s E Q R I W => by
  refine ha B A ρ σ H s E _ R I ((Wish.then W).mono fun x s1 W1 v H1 e1 I1 h1 => ?_)
  obtain ⟨a, ea, W1⟩ := of_some (Wish.then W1)
  rw [h1.str_of ea]
  refine ⟨⟨a, rfl⟩, ?_⟩
  refine hb B A ρ σ H1 s1 E _ (R.step e1) I1 ((Wish.then (Wish.step W1 e1)).mono fun y s2 W2 w H2 e2 I2 h2 => ?_)
  obtain ⟨d, e, W3⟩ := of_some W2
  obtain ⟨ds, e3, e⟩ := Option.bind_eq_some_iff.mp e
  obtain ⟨ys, e4, e⟩ := Option.bind_eq_some_iff.mp e
  split at e
  · rename_i l
    cases e
    have key : ∃ p, w = .ref p ∧ (SqL K H2 p (ys.map V.str) ∨ SqT K H2 p (ys.map V.str)) := by
      unfold itemsLT at e3
      split at e3
      · cases e3
        cases h2 with
        | @lst p vs _ k1 k2 k3 => exact ⟨p, rfl, .inl (.inl (.inl (by rw [k2, k3.strs e4])))⟩
      · cases e3
        cases h2 with
        | @tup p vs _ k1 k2 k3 => exact ⟨p, rfl, .inr (.inl (.inl (by rw [k2, k3.strs e4])))⟩
      · cases e3
    obtain ⟨p, rfl, sq⟩ := key
    exact ⟨a, p, ys, rfl, rfl, sq, of_decide_eq_true l, W3 _ H2 (e1.trans e2) I2 (.str _)⟩
  · cases e
def fmtD : D → Option Str
  | .str y => (match lim y.length with | true => some y | false => none)
  | .int i => (match decide (i.natAbs.log2 < 1920) with | true => some (toString i) | false => none)
  | _ => none
def xFmt (f : Rho → M S D) : Rho → M S D := fun ρ => (f ρ).bind fun x => (M.of (fmtD x)).bind fun z => .ret (.str z)
theorem e_fmt (ha : EvD C ta fa) : EvD C (fun E => tFmt (ta E)) (xFmt fa) := fun B A ρ σ H s E Q R I W => by
  refine ha B A ρ σ H s E _ R I ((Wish.then W).mono fun x s1 W1 v H1 e1 I1 h1 => ?_)
  obtain ⟨z, e, W2⟩ := of_some (Wish.then W1)
  unfold fmtD at e
  split at e
  · cases h1
    split at e
    · rename_i l
      cases e
      exact .inl ⟨_, rfl, lim_ok l, W2 _ H1 e1 I1 (.str _)⟩
    · cases e
  · cases h1
    split at e
    · rename_i l
      cases e
      exact .inr ⟨_, rfl, of_decide_eq_true l, W2 _ H1 e1 I1 (.str _)⟩
    · cases e
  · cases e
/-- the parts of an f-string, one behind the other -/
inductive EvJ (C : Cfg S) : List (XK → TE) → List (Rho → M S D) → Prop
  | nil : EvJ C [] []
  | cons {t : XK → TE} {f : Rho → M S D} {ts : List (XK → TE)} {fs : List (Rho → M S D)} (h : EvD C t f) (r : EvJ C ts fs) : EvJ C (t :: ts) (f :: fs)
def limU (n : Nat) : Option Unit := match lim n with
  | true => some ()
  | false => none
theorem limU_of {n : Nat} {u : Unit} (h : limU n = some u) : lim n = true := by
  unfold limU at h
  split at h
  · assumption
  · cases h
def joinR : List (Rho → M S D) → Str → Rho → M S D
  | [], acc, _ => .ret (.str acc)
  | f :: fs, acc, ρ => (f ρ).bind fun x => (M.of (strD x)).bind fun y => (M.of (limU (acc ++ y).length)).bind fun _ => joinR fs (acc ++ y) ρ
theorem j_run {ts : List (XK → TE)} {fs : List (Rho → M S D)} (h : EvJ C ts fs) : ∀ (acc : Str), EvD C (fun E σ H Q => tJs (ts.map fun t => t E) acc σ H fun out H1 => Q (.str out) H1) (joinR fs acc) := by
  induction h with
  | nil => exact fun acc B A ρ σ H s E Q R I W => W _ H (Ext.refl _ _) I (.str _)
  | @cons t f ts fs ht _ ih =>
    intro acc B A ρ σ H s E Q R I W
    show t E σ H _
    refine ht B A ρ σ H s E _ R I ((Wish.then W).mono fun x s1 W1 v H1 e1 I1 h1 => ?_)
    obtain ⟨y, e, W2⟩ := of_some (Wish.then W1)
    rw [h1.str_of e]
    obtain ⟨_, el, W2⟩ := of_some (Wish.then W2)
    · refine ⟨y, rfl, lim_ok (limU_of el), ?_⟩
      exact ih (acc ++ y) B A ρ σ H1 s1 E Q (R.step e1) I1 ((Wish.step W2 e1).mono fun d s2 W3 w H2 e2 I2 h2 => W3 w H2 (e1.trans e2) I2 h2)
end
end Fs

namespace Fs
open PySem PySem.Spec PyProof.Rows L2
variable {S : Type} {C : Cfg S}
def ownI : Option Sl → Option (Addr × List (Str × D))
  | some (.own (.ins c fs)) => some (c, fs)
  | _ => none
theorem ownI_of {x : Option Sl} {y : Addr × List (Str × D)} (h : ownI x = some y) : x = some (.own (.ins y.1 y.2)) := by
  unfold ownI at h
  split at h
  · cases h; rfl
  · cases h
def putFD (f : Str) (v : D) : List (Str × D) → List (Str × D)
  | [] => [(f, v)]
  | (g, x) :: r => if g = f then (g, v) :: r else (g, x) :: putFD f v r
theorem IsF.put {A : Addr → Prop} {H : Hp} {f : Str} {v : V} {d : D} (h : Is A H v d) : ∀ {vs : List (Str × V)} {ds : List (Str × D)}, IsF A H vs ds → IsF A H (putF f v vs) (putFD f d ds)
  | _, _, .nil => .cons h .nil
  | _, _, .cons (k := k) g t => by
    unfold putF putFD
    by_cases e : k = f
    · rw [if_pos e, if_pos e]; exact .cons h t
    · rw [if_neg e, if_neg e]; exact .cons g (IsF.put h t)
theorem IsF.length {A : Addr → Prop} {H : Hp} : ∀ {vs : List (Str × V)} {ds : List (Str × D)}, IsF A H vs ds → vs.length = ds.length
  | _, _, .nil => rfl
  | _, _, .cons _ t => congrArg (· + 1) (IsF.length t)
noncomputable def putO (K : PySem.W.Frag) (f : Str) (d : D) : Addr × List (Str × D) → Option OD := fun y => match chk (Cls K y.1 ∧ NoAttr K y.1 f) && decide (y.2.length < 900) with
  | true => some (.ins y.1 (putFD f d y.2))
  | false => none
noncomputable def ySetF (K : PySem.W.Frag) (i : Nat) (f : Str) (fe : Rho → M S D) : Rho → M S Out := fun ρ => (fe ρ).bind fun d => (M.of ((ownI ρ[i]?).bind (putO K f d))).bind fun o => .ret (.nx (ρ.set i (.own o)))
theorem d_setF {K : PySem.W.Frag} {te : XK → TE} {fe : Rho → M S D} {i : Nat} {f : Str} (h : EvD C te fe) : StD C (fun E => sFld K (tV i) (te E) f) (ySetF K i f fe) := fun B A ρ σ H s E De R I W => by
  refine h B A ρ σ H s E _ R I (R.fr <| (Wish.then W).mono fun d s1 W1 v H1 e1 I1 h1 => ?_)
  obtain ⟨o, eo, W2⟩ := of_some (Wish.then W1)
  obtain ⟨y, ey, eo⟩ := Option.bind_eq_some_iff.mp eo
  have hi := ownI_of ey
  have R1 := R.step e1
  obtain ⟨p, hp, hA, hok, hme, dx, vs, k1, k2⟩ := R1.writeI hi
  unfold tV
  rw [hp]
  unfold putO at eo
  split at eo
  · rename_i ck
    rw [Bool.and_eq_true] at ck
    cases eo
    have cc := chk_of ck.1
    refine ⟨p, y.1, dx, vs, rfl, k1, cc.1, cc.2, by rw [k2.length]; exact Nat.lt_trans (of_decide_eq_true ck.2) (by decide), ?_⟩
    have st : Stp A H1 A (upd H1 p (.ins y.1 dx (putF f v vs))) := fun a w q e => ⟨q, by rw [upd_ne (fun z => hA (by rw [← z]; exact q))]; exact e⟩
    exact W2 A σ _ (R1.write hi hp ⟨hme, dx, _, upd_same, (IsF.put h1 k2).stp st⟩) ((e1.stp R.ak).trans st) (C.st2 _ _ _ _ hok (by rw [k1]; rfl) I1)
  · cases eo
def initOut (cl : Addr) : Out → Option D
  | .nx ρ => (match ownI ρ[0]? with | some (c, fs) => some (.obj c fs) | none => none)
  | _ => none
def runI (cl : Addr) (n m : Nat) (f : Rho → M S Out) : List D → M S D := fun ds => match decide (ds.length = m) with
  | true => (f (.own (.ins cl []) :: startR n ds)).bind fun o => .of (initOut cl o)
  | false => fun _ => .bad
variable {tr : XK → TA} {fr : Rho → M S (List D)}
theorem e_make {N : List Str} {n m : Nat} {rd : XK → TS} {f : Rho → M S Out} {cl : Addr} (hn : N.length = n + 1) (hm : m ≤ n) (hb : StD C rd f) (hr : EvA C tr fr) : EvD C (fun E => StX.tMakeR cl (spR N (m + 1) rd) E (tr E)) (xF (runI cl n m f) fr) := fun B A ρ σ H s E Q R I W => by
  refine hr B A ρ σ H s E _ R I ((Wish.then W).mono fun ds s1 W1 vs H1 e1 I1 h1 x dx hx hdx hne => ?_)
  unfold runI at W1
  have R1 := R.step e1
  cases e : decide (ds.length = m) with
  | false => rw [e] at W1; exact W1.elim
  | true =>
    rw [e] at W1
    have hl : ds.length = m := of_decide_eq_true e
    have hlv : vs.length = m := by rw [h1.length]; exact hl
    refine ⟨by simp [hlv], ?_⟩
    have hxn : (upd H1 dx (.own x)) x = none := by rw [upd_ne (Ne.symm hne)]; exact hx
    have ex1 : Ext All H1 (upd H1 dx (.own x)) := Ext.new hdx
    have ex2 : Ext All (upd H1 dx (.own x)) (upd (upd H1 dx (.own x)) x (.ins cl dx [])) := Ext.new hxn
    have ex := ex1.trans ex2
    have st : Stp A H1 (fun a => A a ∧ a ≠ x) (upd (upd H1 dx (.own x)) x (.ins cl dx [])) := fun a o q z => ⟨⟨q, ne_of_none z hx⟩, ex.1 a o trivial z⟩
    refine hb ⟨H1, A, some x⟩ (fun a => A a ∧ a ≠ x) (.own (.ins cl []) :: startR n ds) (L2.start N (V.ref x :: vs)) _ s1 E { nx := fun _ H' => V.non = .non ∧ Q (.ref x) H', rt := fun v H2 => v = .non ∧ Q (.ref x) H2 } ?_ (C.st _ _ _ I1 ex) ?_
    · refine ⟨?_, ex.all, fun a q => ⟨R1.nw a (ex.2 a q), fun z => by rw [z, upd_same] at q; cases q⟩, R1.nw, fun a q => q.1, R1.ao, fun i sl e => ?_, fun i j oi oj a e1 e2 _ _ => ?_⟩
      · simp only [startR, L2.start, List.length_cons, List.length_append, List.length_map, List.length_replicate]
        omega
      · cases i with
        | zero =>
          cases e
          exact ⟨x, rfl, fun z => z.2 rfl, R.ak x (R1.nw x hx), R1.nw x hx, hx, rfl, dx, [], upd_same, .nil⟩
        | succ i =>
          rw [List.getElem?_cons_succ] at e
          unfold startR at e
          unfold L2.start
          rw [List.map_cons, List.cons_append, List.getElem?_cons_succ]
          by_cases hi : i < ds.length
          · rw [List.getElem?_append_left (by simpa using hi), List.getElem?_map] at e
            rw [List.getElem?_append_left (by rw [List.length_map, h1.length]; exact hi), List.getElem?_map]
            rcases h1.get i with ⟨_, z⟩ | ⟨v, d, z1, z2, z3⟩
            · rw [z] at e; cases e
            · rw [z2] at e
              cases e
              rw [z1]
              exact ⟨v, rfl, z3.stp st⟩
          · rw [List.getElem?_append_right (by simpa using hi), List.getElem?_replicate] at e
            split at e
            · cases e; trivial
            · cases e
      · have own0 : ∀ {i : Nat} {o : OD}, (Sl.own (.ins cl []) :: startR n ds)[i]? = some (.own o) → i = 0 := fun {i o} e => by
          cases i with
          | zero => rfl
          | succ i =>
            rw [List.getElem?_cons_succ] at e
            unfold startR at e
            by_cases hi : i < ds.length
            · rw [List.getElem?_append_left (by simpa using hi), List.getElem?_map] at e
              obtain ⟨d, _, z⟩ := Option.map_eq_some_iff.mp e
              cases z
            · rw [List.getElem?_append_right (by simpa using hi), List.getElem?_replicate] at e
              split at e <;> cases e
        rw [own0 e1, own0 e2]
    · cases q : f (.own (.ins cl []) :: startR n ds) s1 with
      | bad =>
        have W2 := Wish.then (show Wish C ⟨H, A, none⟩ E ((f (.own (.ins cl []) :: startR n ds) s1).then fun o => M.of (initOut cl o)) _ from W1)
        rw [q] at W2
        exact W2.elim
      | ex c fs s2 =>
        have W2 := Wish.then (show Wish C ⟨H, A, none⟩ E ((f (.own (.ins cl []) :: startR n ds) s1).then fun o => M.of (initOut cl o)) _ from W1)
        rw [q] at W2
        intro od H2 e2 I2 h2
        exact W2 od H2 (e1.trans e2) I2 h2
      | ok o s2 =>
        have W2 := Wish.then (show Wish C ⟨H, A, none⟩ E ((f (.own (.ins cl []) :: startR n ds) s1).then fun o => M.of (initOut cl o)) _ from W1)
        rw [q] at W2
        obtain ⟨d, ed, W3⟩ := of_some (show Wish C ⟨H, A, none⟩ E (M.of (initOut cl o) s2) _ from W2)
        unfold initOut at ed
        cases o with
        | nx ρ1 =>
          simp only at ed
          split at ed
          · rename_i c fs eo
            cases ed
            intro A2 σ2 H2 R2 st2 I2
            have hi := ownI_of eo
            obtain ⟨a, k1, k2, k3, k4, k5, k6, dx2, ws, k7, k8⟩ := R2.slot 0 _ hi
            cases k6
            exact ⟨rfl, W3 _ H2 (e1.trans (R2.ext)) I2 (.obj k4 k7 (k8.stp fun a o q z => ⟨R2.sub a q, z⟩))⟩
          · cases ed
        | rt _ => cases ed
        | bk _ => cases ed
        | ct _ => cases ed
section
variable {X : Cx}
def rNeDE : R2 := fun x y H Q => ∃ a b ks, x = .ref a ∧ y = .ref b ∧ Rd H a (.dK ks) ∧ Rd H b (.dK []) ∧ Q (.bl (!ks.isEmpty)) H
theorem op_neDE (hu : X.A.units < cLine) : OpR X (compareOp .NotEq) rNeDE := by
  intro pins s σ H x y v u Q I rx ry h
  obtain ⟨a, b, ks, rfl, rfl, ea, eb, q⟩ := h
  obtain rfl : v = Value.ref a := rx
  obtain rfl : u = Value.ref b := ry
  obtain ⟨_, ya, va, ra, da⟩ := (show ObjOk X.prog X.w H s.heap a (.dK ks) from ea.ok I.hok)
  obtain ⟨_, yb, vb, rb, db⟩ := (show ObjOk X.prog X.w H s.heap b (.dK []) from eb.ok I.hok)
  have hlb : vb = [] := by cases rb; rfl
  subst hlb
  cases ks with
  | nil =>
    have hla : va = [] := by cases ra; rfl
    subst hla
    exact PySem.W.keq_ne (knd := mixKind X.prog X.w) (r := true) ya yb da db hu (fun _ => hits_all rb ra (fun p hp => absurd hp (by simp))) (fin_bl I q (by simp))
  | cons k ks =>
    have hla : va.length ≠ ([] : List (Key × Value)).length := by
      have := ra.length
      rw [← this]; simp
    exact PySem.W.keq_ne (knd := mixKind X.prog X.w) (r := true) ya yb da db hu (fun z => absurd z hla) (fin_bl I q (by
      have z : va ≠ [] := fun z => hla (by rw [z])
      simp [z]))
/-- !=, dicts and {} told too -/
def mNeA (K : PySem.W.Frag) : R2 := fun x y H Q => match x, y with
  | .ref a, .ref b => (match look H a, look H b with
    | some (.dK ks), some (.dK []) => Q (.bl (!ks.isEmpty)) H
    | _, _ => mNe K x y H Q)
  | _, _ => mNe K x y H Q
theorem op_mNeA (hu : X.A.units + 64 < cLine) : OpR X (compareOp .NotEq) (mNeA X.K) := op_imp (opr_or (op_mNe hu) (op_neDE (by omega))) fun x y H Q h => by
  unfold mNeA at h
  split at h
  · split at h
    · rename_i ks e1 e2
      exact .inr ⟨_, _, ks, rfl, rfl, look_rd e1, look_rd e2, h⟩
    · exact .inl h
  · exact .inl h
end
def neA (x y : D) : Option D := match x, y with
  | .dct ks, .dct [] => some (.bl (!ks.isEmpty))
  | _, _ => dNe x y
theorem look_lst {H : Hp} {a : Addr} {vs : List V} (h : H a = some (.lst vs)) : look H a = some (.lst vs) := by unfold look; rw [h]
theorem look_tup {H : Hp} {a : Addr} {vs : List V} (h : H a = some (.tup vs)) : look H a = some (.tup vs) := by unfold look; rw [h]
theorem look_ins {H : Hp} {a c dx : Addr} {vs : List (Str × V)} (h : H a = some (.ins c dx vs)) : look H a = some (.ins c dx vs) := by unfold look; rw [h]
theorem o_neA {K : PySem.W.Frag} : OpD (mNeA K) neA := fun A H v w x y d Q h1 h2 nw e q => by
  unfold neA at e
  split at e
  · cases h1 with
    | @dct a vs _ k1 k2 k3 =>
      cases h2 with
      | @dct b ws _ m1 m2 m3 =>
        cases m3
        cases e
        unfold mNeA
        simp only [k2, m2]
        have z := q _ H (Ext.refl _ _) (.bl _)
        have l := k3.length
        cases vs <;> cases k3 <;> exact z
  · rename_i n
    have old := o_ne (K := K) A H v w x y d Q h1 h2 nw e q
    unfold mNeA
    split
    · rename_i a b
      split
      · rename_i ks e1 e2
        exfalso
        cases h1 with
        | lst k1 k2 k3 => rw [look_lst k2] at e1; cases e1
        | tup k1 k2 k3 => rw [look_tup k2] at e1; cases e1
        | obj k1 k2 k3 => rw [look_ins k2] at e1; cases e1
        | exc k1 k2 k3 k4 k5 => unfold look EXO at *; rw [k2] at e1; cases e1
        | adr =>
          have z : dNe (.adr a) y = some d := e
          unfold dNe eqD at z
          simp [dv, pyEq, toPy] at z
        | @dct _ vs ds k1 k2 k3 =>
          cases h2 with
          | lst k1 k2 k3 => rw [look_lst k2] at e2; cases e2
          | tup k1 k2 k3 => rw [look_tup k2] at e2; cases e2
          | obj k1 k2 k3 => rw [look_ins k2] at e2; cases e2
          | exc k1 k2 k3 k4 k5 => unfold look EXO at *; rw [k2] at e2; cases e2
          | adr =>
            unfold dNe eqD at e
            simp [dv, pyEq, toPy] at e
          | @dct _ ws es m1 m2 m3 =>
            rw [m2] at e2
            cases e2
            cases m3
            exact n _ rfl rfl
      · exact old
    · exact old
/-- nothing is raised -/
def noEx {α : Type} (m : M S α) : M S α := fun s => match m s with
  | .ok a s1 => .ok a s1
  | _ => .bad
/-- the frame's own objects are forgotten -/
def dropOwn (ρ : Rho) : Rho := ρ.map fun sl => match sl with
  | .own _ => .no
  | sl => sl
def kdsOf : Option Sl → Option (List (Key × D))
  | some (.val (.dct kds)) => some kds
  | _ => none
theorem kdsOf_of {x : Option Sl} {kds : List (Key × D)} (h : kdsOf x = some kds) : x = some (.val (.dct kds)) := by
  unfold kdsOf at h
  split at h
  · cases h; rfl
  · cases h
def xLcV (i : Nat) (g : D → Rho → Option Rho) (t : Rho → M S Bool) (e : Rho → M S D) (vs : List Nat) : Rho → M S (List D) := fun ρ => match kdsOf ρ[i]? with
  | some kds => (M.of (limU kds.length)).bind fun _ => noEx (compD g t e (wipeR (dropOwn ρ) vs) (keysOf kds))
  | none => xLc (xIt (xV i)) g t e vs ρ
theorem walks_keys {A : Addr → Prop} {H : Hp} {a : Addr} {o : Obj} {vs : List (Key × V)} {ds : List (Key × D)} (h1 : A a) (h2 : H a = some (.frz o (.dK vs))) (h3 : IsK A H vs ds) : Walks A H (Itk a o vs) (keysOf ds) := fun A1 H1 x nw => by
  obtain ⟨k1, k2⟩ := x a _ h1 h2
  have hl := h3.length
  refine ⟨fun i hi => ⟨k2, by unfold keysOf at hi; rw [List.length_map] at hi; omega⟩, fun i d e => ?_⟩
  unfold keysOf at e
  rw [List.getElem?_map] at e
  obtain ⟨kd, e1, e2⟩ := Option.map_eq_some_iff.mp e
  have hi := (List.getElem?_eq_some_iff.mp e1).1
  refine ⟨⟨k2, by omega⟩, fun x H2 y => ?_⟩
  obtain ⟨e3, k, v, e4, e5⟩ := y
  rw [e3, e5]
  refine ⟨Ext.refl _ _, ?_⟩
  have same : ∀ {vs : List (Key × V)} {ds : List (Key × D)} (i : Nat) {k : Key} {v : V} {kd : Key × D}, IsK A H vs ds → vs[i]? = some (k, v) → ds[i]? = some kd → kd.1 = k := by
    intro vs ds i
    induction i generalizing vs ds with
    | zero =>
      intro k v kd g a b
      cases g with
      | nil => simp at a
      | cons _ _ => simp at a b; rw [← b]; exact a.1
    | succ i ih =>
      intro k v kd g a b
      cases g with
      | nil => simp at a
      | cons _ t => exact ih t (by simpa using a) (by simpa using b)
  have ek := same i h3 e4 e1
  rw [← e2, ek]
  cases k with
  | inl i => exact .int i
  | inr x => exact .str x
mutual
theorem Is.swap {A : Addr → Prop} {H H' : Hp} {a : Addr} {kvs : List (Key × V)} (e : ∀ b, b ≠ a → H' b = H b) (l : look H a = some (.dK kvs)) (l' : look H' a = some (.dK kvs)) : ∀ {v : V} {d : D}, Is A H v d → Is A H' v d
  | _, _, .non => .non
  | _, _, .bl b => .bl b
  | _, _, .int i => .int i
  | _, _, .str y => .str y
  | _, _, .ty n => .ty n
  | _, _, .adr a => .adr a
  | _, _, .lst h1 h2 h3 => .lst h1 (by rw [e _ (fun z => by rw [z] at h2; rw [look_lst h2] at l; cases l)]; exact h2) (IsL.swap e l l' h3)
  | _, _, .tup h1 h2 h3 => .tup h1 (by rw [e _ (fun z => by rw [z] at h2; rw [look_tup h2] at l; cases l)]; exact h2) (IsL.swap e l l' h3)
  | _, _, @Is.dct _ _ b vs ds h1 h2 h3 => .dct h1 (by
      by_cases z : b = a
      · rw [z] at h2 ⊢
        rw [l] at h2
        rw [l']; exact h2
      · unfold look at h2 ⊢; rw [e _ z]; exact h2) (IsK.swap e l l' h3)
  | _, _, .obj h1 h2 h3 => .obj h1 (by rw [e _ (fun z => by rw [z] at h2; rw [look_ins h2] at l; cases l)]; exact h2) (IsF.swap e l l' h3)
  | _, _, .exc h1 h2 h3 h4 h5 => .exc h1 (by rw [e _ (fun z => by rw [z] at h2; unfold look EXO at *; rw [h2] at l; cases l)]; exact h2) h3 (by rw [e _ (fun z => by rw [z] at h4; unfold look at *; rw [h4] at l; cases l)]; exact h4) (IsF.swap e l l' h5)
theorem IsL.swap {A : Addr → Prop} {H H' : Hp} {a : Addr} {kvs : List (Key × V)} (e : ∀ b, b ≠ a → H' b = H b) (l : look H a = some (.dK kvs)) (l' : look H' a = some (.dK kvs)) : ∀ {v : List V} {d : List D}, IsL A H v d → IsL A H' v d
  | _, _, .nil => .nil
  | _, _, .cons h t => .cons (Is.swap e l l' h) (IsL.swap e l l' t)
theorem IsK.swap {A : Addr → Prop} {H H' : Hp} {a : Addr} {kvs : List (Key × V)} (e : ∀ b, b ≠ a → H' b = H b) (l : look H a = some (.dK kvs)) (l' : look H' a = some (.dK kvs)) : ∀ {v : List (Key × V)} {d : List (Key × D)}, IsK A H v d → IsK A H' v d
  | _, _, .nil => .nil
  | _, _, .cons h t => .cons (Is.swap e l l' h) (IsK.swap e l l' t)
theorem IsF.swap {A : Addr → Prop} {H H' : Hp} {a : Addr} {kvs : List (Key × V)} (e : ∀ b, b ≠ a → H' b = H b) (l : look H a = some (.dK kvs)) (l' : look H' a = some (.dK kvs)) : ∀ {v : List (Str × V)} {d : List (Str × D)}, IsF A H v d → IsF A H' v d
  | _, _, .nil => .nil
  | _, _, .cons h t => .cons (Is.swap e l l' h) (IsF.swap e l l' t)
end
theorem Rel.drop {P : Pl} {B : Bs} {A : Addr → Prop} {ρ : Rho} {σ : L2.St} {H H' : Hp} (R : Rel P B A ρ σ H) (hi : ∀ {v : V} {d : D}, Is A H v d → Is A H' v d) (hn : ∀ a, H' a = none → H a = none) : Rel P ⟨H', A, none⟩ A (dropOwn ρ) σ H' where
  len := by simpa [dropOwn] using R.len
  ext := Ext.refl _ _
  nw := fun a e => R.nw a (hn a e)
  n0 := fun a e => R.nw a (hn a e)
  sub := fun _ h => h
  kp := R.ao
  slot := fun i sl e => by
    unfold dropOwn at e
    rw [List.getElem?_map] at e
    obtain ⟨w, e1, e2⟩ := Option.map_eq_some_iff.mp e
    cases w with
    | no => cases e2; trivial
    | own o => cases e2; trivial
    | val d =>
      cases e2
      obtain ⟨v, h1, h2⟩ := R.slot i _ e1
      exact ⟨v, h1, hi h2⟩
  apart := fun i j oi oj a e1 _ _ _ => by
    unfold dropOwn at e1
    rw [List.getElem?_map] at e1
    obtain ⟨w, _, e2⟩ := Option.map_eq_some_iff.mp e1
    cases w <;> cases e2
theorem noEx_wish {α : Type} {B B' : Bs} {E : XK} {m : M S α} {s : S} {P : α → S → Prop} (W : Wish C B E (noEx m s) P) : Wish C B' E (m s) P := by
  unfold noEx at W
  cases e : m s with
  | ok a s1 => rw [e] at W; exact W
  | ex c fs s1 => rw [e] at W; exact W.elim
  | bad => rw [e] at W; exact W.elim
theorem n_lcV {K : PySem.W.Frag} {i : Nat} {te : XK → TE} {fe : Rho → M S D} {g : TG} {gd : D → Rho → Option Rho} {tt : XK → TT} {ft : Rho → M S Bool} {vs : List Nat} (hg : TgD g gd vs) (ht : EvT C tt ft) (he : EvD C te fe) :
    EvN C (fun E => tLkO (tLc (iOf (tV i) (mW K)) g (tt E) (te E) vs)) (xLcV i gd ft fe vs) := fun B A ρ σ H s E Q R I W => by
  unfold xLcV at W
  cases ek : kdsOf ρ[i]? with
  | some kds =>
    rw [ek] at W
    have ei := kdsOf_of ek
    obtain ⟨v, hv, h1⟩ := R.slot i _ ei
    cases h1 with
    | @dct a kvs _ k1 k2 k3 =>
      obtain ⟨_, el, W⟩ := of_some (Wish.then (r := M.of (limU kds.length) s) W)
      have hl := limU_of el
      have hlk : lim (keysOf kds).length = true := by unfold keysOf; rw [List.length_map]; exact hl
      rcases look_dK k2 with ⟨o, z⟩ | z
      · -- locked already
        left
        unfold tLc iOf tV mW
        rw [hv]
        simp only [k2, z]
        intro p hp
        have R1 := R.drop (H' := H) (fun h => h) (fun _ h => h)
        exact lc_body hg ht he R1 I (walks_keys k1 z k3) hlk (noEx_wish W) p hp
      · right
        refine ⟨a, .dK kvs, z, trivial, fun od => ?_⟩
        have lk : look (upd H a (.frz od (.dK kvs))) a = some (.dK kvs) := by unfold look; rw [upd_same]
        have hn : ∀ b, (upd H a (.frz od (.dK kvs))) b = none → H b = none := fun b e => by
          by_cases q : b = a
          · rw [q, upd_same] at e; cases e
          · rw [upd_ne q] at e; exact e
        have sw : ∀ {v : V} {d : D}, Is A H v d → Is A (upd H a (.frz od (.dK kvs))) v d := fun h => h.swap (fun b hb => upd_ne hb) k2 lk
        have R1 := R.drop sw hn
        have k3' : IsK A (upd H a (.frz od (.dK kvs))) kvs kds := k3.swap (fun b hb => upd_ne hb) k2 lk
        unfold tLc iOf tV mW
        rw [hv]
        simp only [lk, upd_same]
        intro p hp
        have okA : C.ok a := R.ao a k1
        refine lc_body (Q := fun v H' => H' a = some (.frz od (.dK kvs)) ∧ Q v (upd H' a (.dK kvs))) hg ht he R1 (C.st2 _ _ _ _ okA (by rw [z]; rfl) I) (walks_keys k1 upd_same k3') hlk ((noEx_wish W).mono fun ys s3 W3 q H3 zs a1 a2 a3 a4 => ?_) p hp
        have h3a : H3 a = some (.frz od (.dK kvs)) := a2.1 a _ (C.okk a okA) upd_same
        have qa : q ≠ a := fun e => by rw [e, h3a] at a1; cases a1
        refine ⟨by rw [upd_ne (Ne.symm qa)]; exact h3a, ?_⟩
        have comm : upd (upd H3 q (.lst zs)) a (.dK kvs) = upd (upd H3 a (.dK kvs)) q (.lst zs) := by
          funext b
          by_cases e1 : b = a
          · rw [e1, upd_same, upd_ne (Ne.symm qa), upd_same]
          · by_cases e2 : b = q
            · rw [e2, upd_ne qa, upd_same, upd_same]
            · rw [upd_ne e1, upd_ne e2, upd_ne e2, upd_ne e1]
        rw [comm]
        have lk3 : look H3 a = some (.dK kvs) := by unfold look; rw [h3a]
        have lk4 : look (upd H3 a (.dK kvs)) a = some (.dK kvs) := by unfold look; rw [upd_same]
        refine W3 q (upd H3 a (.dK kvs)) zs (by rw [upd_ne qa]; exact a1) ⟨fun b o k e => ?_, fun b e => ?_⟩ (by rw [← comm]; exact C.st2 _ _ _ _ okA (by rw [upd_ne (Ne.symm qa), h3a]; rfl) a3) (a4.swap (fun b hb => upd_ne hb) lk3 lk4)
        · by_cases e1 : b = a
          · rw [e1] at e ⊢
            rw [z] at e
            rw [upd_same]; exact e
          · rw [upd_ne e1]
            exact a2.1 b o k (by rw [upd_ne e1]; exact e)
        · by_cases e1 : b = a
          · rw [e1, upd_same] at e; cases e
          · rw [upd_ne e1] at e
            exact hn b (a2.2 b e)
  | none =>
    rw [ek] at W
    exact .inl (lc_core2 (i_of (e_var i)) hg ht he B A ρ σ H s E Q R I W)
end Fs

namespace Fs
open PySem PySem.Spec PyProof.Rows L2
open LamX (CodeO Tabs)
variable {S : Type} {C : Cfg S}
theorem e_dnew : EvD C (fun _ => tDNewK) (xC (.dct [])) := fun B A ρ σ H s E Q R I W p hp => by
  have x : Ext All H (upd H p (.dK [])) := Ext.new hp
  exact W _ _ x.all (C.st _ _ _ I x) (.dct (R.nw p hp) (by unfold look; rw [upd_same]) .nil)
theorem n_lkO {te : XK → TE} {f : Rho → M S (List D)} (h : EvN C te f) : EvN C (fun E => tLkO (te E)) f := fun B A ρ σ H s E Q R I W => .inl (h B A ρ σ H s E Q R I W)
/-- try: found = ask() / except X as error: caught = error -/
def sTry (K : PySem.W.Frag) (c : Value) (iC iF iE : Nat) (f cl : Addr) (q : Str) (tl : XK → Hp → VK → Prop) : TS := fun De σ H =>
  tAsg (tAct f cl q tl (wKp K c iE (fun _ _ _ => tAsg (tV iE) (gName iC)) (fun _ _ _ _ => False) De)) (gName iF) De σ H
/-- caught, found = None, None: the tuple is a constant, so it is made and taken apart -/
def nonTwo (iC iF : Nat) : TS := tAsg (tTup (tCons (tC .non) (tCons (tC .non) tNil))) (gTp (gNum 2 (gCs (gName iC) (gCs (gName iF) gNl))))
def rdHear (K : PySem.W.Frag) (c : Value) (iC iF iE : Nat) (rest : TS) (f cl : Addr) (q : Str) (tl : XK → Hp → VK → Prop) : TS :=
  tSeq (nonTwo iC iF) (tSeq (sTry K c iC iF iE f cl q tl) rest)
def outD : Out → Option D
  | .rt d => some d
  | .nx _ => some .non
  | _ => none
def rho0 (n iC iF : Nat) : Rho := ((List.replicate n Sl.no).set iC (.val .non)).set iF (.val .non)
noncomputable def caughtD (K : PySem.W.Frag) (c : Value) (cl : Addr) (fs : List (Str × D)) : Option D := match chk (PySem.W.exmOne K (.ref cl) c = some true) && !fs.isEmpty with
  | true => some (.exc cl fs)
  | false => none
noncomputable def xHear (K : PySem.W.Frag) (c : Value) (n iC iF iE : Nat) (mt : Rho → M S D) (frest : Rho → M S Out) : Rho → M S D := fun ρ s => match mt ρ s with
  | .ok d s1 => ((frest ((rho0 n iC iF).set iF (.val d))).bind fun o => .of (outD o)) s1
  | .ex cl fs s1 => ((M.of (caughtD K c cl fs)).bind fun d => (frest (((rho0 n iC iF).set iE .no).set iC (.val d))).bind fun o => .of (outD o)) s1
  | .bad => .bad
/-- a frame that has just these values -/
theorem rel_fresh {P : Pl} {A : Addr → Prop} {H : Hp} {n : Nat} {σ : L2.St} (hl : σ.length = n) (nw : ∀ a, H a = none → A a) (ao : ∀ a, A a → P.ok a) : Rel P ⟨H, A, none⟩ A (List.replicate n Sl.no) σ H where
  len := by simp [hl]
  ext := Ext.refl _ _
  nw := nw
  n0 := nw
  sub := fun _ h => h
  kp := ao
  slot := fun i sl e => by
    rw [List.getElem?_replicate] at e
    split at e
    · cases e; trivial
    · cases e
  apart := fun i j oi oj a e1 _ _ _ => by
    rw [List.getElem?_replicate] at e1
    split at e1 <;> cases e1
theorem rest_run {B : Bs} {A : Addr → Prop} {ρ : Rho} {σ : L2.St} {H : Hp} {s : S} {E : XK} {Q : VK} {rest : TS} {frest : Rho → M S Out} (h : StD C (fun _ => rest) frest) (R : Rel C.toPl B A ρ σ H) (I : C.I s H)
    (W : Wish C B E (((frest ρ).bind fun o => M.of (outD o)) s) (fun d s1 => ∀ A1 v H1, Is A1 H1 v d → (∀ a, A1 a → B.A0 a) → Ext C.keep B.H0 H1 → C.I s1 H1 → Q v H1)) : rest { nx := fun _ H2 => Q .non H2, rt := Q } σ H := by
  refine h B A ρ σ H s E _ R I ((Wish.then W).mono fun o s1 W1 => ?_)
  obtain ⟨d, e, W2⟩ := of_some W1
  cases o with
  | nx ρ1 => cases e; exact fun A1 σ1 H1 R1 _ I1 => W2 A1 .non H1 .non R1.sub R1.ext I1
  | rt d1 => cases e; exact fun A1 v H1 h1 sb ex I1 => W2 A1 v H1 h1 sb ex I1
  | bk _ => cases e
  | ct _ => cases e
theorem e_hear {K : PySem.W.Frag} {c : Value} {iC iF iE n : Nat} {T : List (Addr × Str)} {q : Str} {Ng : List Str} {rest : TS} {frest : Rho → M S Out} {t : XK → TE} {mt : Rho → M S D} (hT : ∀ s H, C.I s H → Tabs T H) (hL : ∀ s H H1 cl, C.I s H → LamTo T q H H1 cl → C.I s H1 ∧ Ext C.keep H H1)
    (hn : Ng.length = n) (h1 : iC ≠ 0) (h2 : iF ≠ 0) (h3 : iE < n) (h4 : iC < n) (h5 : iE ≠ iC) (hn0 : 0 < n) (ht : EvD C t mt) (hrest : StD C (fun _ => rest) frest) :
    EvD C (fun _ => tHear T q Ng (rdHear K c iC iF iE rest) t) (xHear K c n iC iF iE mt frest) := fun B A ρ σ H s E Q R I W => by
  refine ⟨hT s H I, fun f cl H1 lt => ?_⟩
  obtain ⟨I1, e1⟩ := hL s H H1 cl I lt
  have R1 := R.step e1
  -- the slots of the def that hears
  obtain ⟨σ0, hσ0⟩ : ∃ σ0, σ0 = L2.start Ng [V.ref f] := ⟨_, rfl⟩
  have l0 : σ0.length = n := by
    rw [hσ0]
    simp only [L2.start, List.length_append, List.length_map, List.length_replicate, List.length_cons, List.length_nil]
    omega
  have z0 : σ0[0]? = some (some (.ref f)) := by rw [hσ0]; rfl
  show nonTwo iC iF _ (L2.start Ng [V.ref f]) H1
  rw [← hσ0]
  obtain ⟨σ1, hσ1⟩ : ∃ σ1, σ1 = (σ0.set iC (some V.non)).set iF (some V.non) := ⟨_, rfl⟩
  refine ⟨by show 2 ≤ sizeLine; decide, fun p0 hp0 => ?_⟩
  have x0 : Ext All H1 (upd H1 p0 (.tup [.non, .non])) := Ext.new hp0
  have lt1 : upd H1 p0 (.tup [.non, .non]) cl = some (CodeO cl q) := by rw [upd_ne (ne_of_none lt.1 hp0)]; exact lt.1
  have R1 := R1.step (x0.all (P := C.keep))
  have I1 := C.st _ _ _ I1 x0
  have e1 := e1.trans (x0.all (P := C.keep))
  have hlook : look (upd H1 p0 (.tup [.non, .non])) p0 = some (.tup [.non, .non]) := look_upd (by intro w u z; cases z)
  generalize upd H1 p0 (.tup [.non, .non]) = H1b at *
  show gTp _ (.ref p0) σ0 H1b _
  unfold gTp
  simp only [hlook]
  show tSeq (sTry K c iC iF iE f cl q (fun E H2 Q2 => t E σ H2 Q2)) rest { nx := fun _ H2 => Q .non H2, rt := Q } ((σ0.set iC (some V.non)).set iF (some V.non)) H1b
  rw [← hσ1]
  have z1 : σ1[0]? = some (some (.ref f)) := by rw [hσ1, List.getElem?_set_ne h2, List.getElem?_set_ne h1]; exact z0
  have l1 : σ1.length = n := by rw [hσ1]; simpa using l0
  refine ⟨z1, lt1, ?_⟩
  have base : ∀ {H2 : Hp} {A2 : Addr → Prop}, (∀ a, H2 a = none → A2 a) → (∀ a, A2 a → C.ok a) → Rel C.toPl ⟨H2, A2, none⟩ A2 (rho0 n iC iF) σ1 H2 := fun {H2 A2} nw ao => by
    rw [hσ1]
    exact ((rel_fresh l0 nw ao).setVal .non).setVal .non
  -- the wish of the lambda's run
  have key : Wish C ⟨H, A, none⟩ (WE (wKp K c iE (fun _ _ _ => tAsg (tV iE) (gName iC)) (fun _ _ _ _ => False) { nx := rest { nx := fun _ H2 => Q .non H2, rt := Q }, rt := Q }) σ1) (mt ρ s) (fun d s1 => ∀ v H2, Ext C.keep H H2 → C.I s1 H2 → Is A H2 v d → rest { nx := fun _ H2 => Q .non H2, rt := Q } (σ1.set iF (some v)) H2) := by
    unfold xHear at W
    cases e : mt ρ s with
    | bad => rw [e] at W; exact W.elim
    | ok d s1 =>
      rw [e] at W
      intro v H2 e2 I2 k2
      have W := show Wish C ⟨H, A, none⟩ E (((frest ((rho0 n iC iF).set iF (.val d))).bind fun o => M.of (outD o)) s1) (fun d s' => ∀ v H', Ext C.keep H H' → C.I s' H' → Is A H' v d → Q v H') from W
      refine rest_run hrest ((base (fun a z => R.nw a (e2.2 a z)) R.ao).setVal k2) I2 ((Wish.step W e2).mono fun d3 s3 W3 A1 v3 H3 a1 a2 a3 a4 => ?_)
      exact W3 v3 H3 (e2.trans a3) a4 (a1.stp fun a o k z => ⟨a2 a k, z⟩)
    | ex cc fs s1 =>
      rw [e] at W
      intro od H2 e2 I2 k2
      have W := Wish.then (show Wish C ⟨H, A, none⟩ E (((M.of (caughtD K c cc fs)).bind fun d => (frest (((rho0 n iC iF).set iE .no).set iC (.val d))).bind fun o => M.of (outD o)) s1) (fun d s' => ∀ v H', Ext C.keep H H' → C.I s' H' → Is A H' v d → Q v H') from W)
      obtain ⟨d, ed, W⟩ := of_some W
      unfold caughtD at ed
      split at ed
      · rename_i ck
        rw [Bool.and_eq_true] at ck
        cases ed
        have em := chk_of ck.1
        show wKp K c iE _ _ _ (.ref cc) od σ1 H2
        unfold wKp
        rw [em]
        intro a ha
        have za : (σ1.set iE (some (.ref a)))[iE]? = some (some (.ref a)) := List.getElem?_set_self (by rw [l1]; exact h3)
        show tAsg (tV iE) (gName iC) _ (σ1.set iE (some (.ref a))) H2
        unfold tAsg tV gName
        rw [za]
        have x : Ext All H2 (upd H2 a (EXO (.ref cc) od a)) := Ext.new ha
        have e3 := e2.trans (x.all (P := C.keep))
        have nw3 : ∀ b, (upd H2 a (EXO (.ref cc) od a)) b = none → A b := fun b z => R.nw b (e3.2 b z)
        have Aa : A a := R.nw a (e2.2 a ha)
        have hexc : Is A (upd H2 a (EXO (.ref cc) od a)) (.ref a) (.exc cc fs) := by
          cases od with
          | none =>
            have z : fs = [] := k2
            rw [z] at ck
            exact absurd ck.2 (by simp)
          | some d =>
            obtain ⟨a1, ws, a2, a3⟩ := k2
            exact .exc Aa upd_same a1 (by rw [upd_ne (ne_of_none a2 ha)]; exact a2) (a3.stp fun b o k z => ⟨k, by rw [upd_ne (ne_of_none z ha)]; exact z⟩)
        have eσ : ((σ1.set iE (some (V.ref a))).set iC (some (V.ref a))).set iE none = (σ1.set iE none).set iC (some (V.ref a)) := by
          rw [List.set_comm _ _ (Ne.symm h5), List.set_set]
        have R3 : Rel C.toPl ⟨upd H2 a (EXO (.ref cc) od a), A, none⟩ A (((rho0 n iC iF).set iE .no).set iC (.val (.exc cc fs))) (((σ1.set iE (some (V.ref a))).set iC (some (V.ref a))).set iE none) (upd H2 a (EXO (.ref cc) od a)) := by
          rw [eσ]
          exact ((base nw3 R.ao).setNo).setVal hexc
        have I3 := C.st _ _ _ I2 x
        refine rest_run (E := E) hrest R3 I3 ((Wish.step W e3).mono fun d3 s3 W3 A1 v3 H3 a1 a2 a3 a4 => ?_)
        exact W3 v3 H3 (e3.trans a3) a4 (a1.stp fun a o k z => ⟨a2 a k, z⟩)
      · cases ed
  exact ht B A ρ σ H1b s _ _ R1 I1 ((Wish.step key e1).mono fun d s2 W2 v H2 e2 I2 k2 => W2 v H2 (e1.trans e2) I2 k2)
end Fs

namespace Fs
open PySem PySem.Spec PyProof.Rows L2
noncomputable def dIsk (K : PySem.W.Frag) (xs : List D) : Option D := match xs with
  | [.exc _ _, _] => none
  | _ => dIsi K xs
noncomputable def dIsx (K : PySem.W.Frag) (xs : List D) : Option D := match xs with
  | [.exc _ _, _] => dIsi K xs
  | _ => none
section
variable {S : Type} {C : Cfg S}
theorem d_lkO {t : XK → TS} {f : Rho → M S Out} (h : StD C t f) : StD C (fun E => sLkO (t E)) f := fun B A ρ σ H s E De R I W => .inl (h B A ρ σ H s E De R I W)
/-- x, y = a new list, b -/
theorem d_parN {te te2 : XK → TE} {fe : Rho → M S (List D)} {fe2 : Rho → M S D} {i j : Nat} (hij : i ≠ j) (h : EvN C te fe) (h2 : EvD C te2 fe2) : StD C (fun E => tPar i j (tCons (te E) (tCons (te2 E) tNil))) (yParN fe fe2 i j) := fun B A ρ σ H s E De R I W => by
  refine h B A ρ σ H s E _ R I (R.fr <| (Wish.then W).mono fun ds s1 W1 p H1 vs hp e1 I1 k1 => ?_)
  have R1 := R.step e1
  have x1 : Ext All H1 (upd H1 p (.lst vs)) := Ext.new hp
  have st : Stp A H1 (fun a => A a ∧ a ≠ p) (upd H1 p (.lst vs)) := fun a o q z => ⟨⟨q, ne_of_none z hp⟩, by rw [upd_ne (ne_of_none z hp)]; exact z⟩
  have Ra := R1.aside (x1.all (P := C.keep)) hp (by rw [upd_same]; simp)
  refine h2 B _ ρ σ _ s1 E _ Ra I1 (Ra.fr <| (Wish.then W1).mono fun d s2 W2 w H2 e2 I2 k2 => ⟨.ref p, w, rfl, ?_⟩)
  have R3 := ((R1.setOwn (i := i) (o := .lst ds) (u := .lst vs) hp ⟨vs, upd_same, k1.stp st⟩).step e2).setVal (i := j) k2
  exact W2 _ _ H2 R3 (((e1.stp R.ak).trans st).trans (e2.stp fun a q => R.ak a q.1)) I2
/-- data without objects -/
def flat : D → Bool
  | .non | .bl _ | .int _ | .str _ | .ty _ | .adr _ => true
  | _ => false
theorem Is.flat {A A' : Addr → Prop} {H : Hp} {v : V} {d : D} (h : Is A H v d) (f : Fs.flat d = true) : Is A' H v d := by
  cases h with
  | non => exact .non
  | bl b => exact .bl b
  | int b => exact .int b
  | str b => exact .str b
  | ty b => exact .ty b
  | adr b => exact .adr b
  | lst _ _ _ => cases f
  | tup _ _ _ => cases f
  | dct _ _ _ => cases f
  | obj _ _ _ => cases f
  | exc _ _ _ _ _ => cases f
def flatOf (d : D) : Option D := match flat d with | true => some d | false => none
def noX {α : Type} (r : Res S α) : Res S α := match r with
  | .ok a s => .ok a s
  | _ => .bad
def xBor (i : Nat) (f : Rho → M S D) : Rho → M S D := fun ρ => (M.of (freeR i ρ)).bind fun ρ1 s => (noX (f ρ1 s)).then fun d => .of (flatOf d)
theorem e_bor {i : Nat} {te : XK → TE} {f : Rho → M S D} (h : EvD C te f) : EvD C te (xBor i f) := fun B A ρ σ H s E Q R I W => by
  obtain ⟨ρ1, e, W1⟩ := of_some (Wish.then W)
  obtain ⟨p, R1, st⟩ := R.free e
  refine h B _ ρ1 σ H s E Q R1 I ?_
  cases er : f ρ1 s with
  | bad => rw [er] at W1; exact W1.elim
  | ex c fs s2 => rw [er] at W1; exact W1.elim
  | ok d s2 =>
    rw [er] at W1
    have W1 : Wish C ⟨H, A, none⟩ E ((M.of (flatOf d) : M S D) s2) (fun d s' => ∀ v H', Ext C.keep H H' → C.I s' H' → Is A H' v d → Q v H') := W1
    unfold flatOf at W1
    cases ef : flat d with
    | false => rw [ef] at W1; exact W1.elim
    | true =>
      rw [ef] at W1
      exact fun v H2 e2 I2 h2 => W1 v H2 e2 I2 (h2.flat ef)
def xBorT (i : Nat) (f : Rho → M S Bool) : Rho → M S Bool := fun ρ => (M.of (freeR i ρ)).bind fun ρ1 s => noX (f ρ1 s)
theorem e_borT {i : Nat} {te : XK → TT} {f : Rho → M S Bool} (h : EvT C te f) : EvT C te (xBorT i f) := fun B A ρ σ H s E Q R I W => by
  obtain ⟨ρ1, e, W1⟩ := of_some (Wish.then W)
  obtain ⟨p, R1, st⟩ := R.free e
  refine h B _ ρ1 σ H s E Q R1 I ?_
  cases er : f ρ1 s with
  | bad => rw [er] at W1; exact W1.elim
  | ex c fs s2 => rw [er] at W1; exact W1.elim
  | ok d s2 =>
    rw [er] at W1
    exact W1
def xF0 (m : List D → M S D) (f : Rho → M S (List D)) : Rho → M S D := fun ρ => (f ρ).bind fun xs s => noX (m xs s)
theorem e_call0 {tr : XK → TA} {fr : Rho → M S (List D)} {sp : Sp} {m : List D → M S D} (hs : SpD C sp m) (hr : EvA C tr fr) : EvD C (fun E => tCallF sp (fun _ _ _ => False) (tr E)) (xF0 m fr) := fun B A ρ σ H s E Q R I W => by
  refine hr B A ρ σ H s E _ R I ((Wish.then W).mono fun xs s1 W1 vs H1 e1 I1 h1 => ?_)
  refine hs A H1 vs xs s1 Q _ h1 (fun a q => R.nw a (e1.2 a q)) R.ao I1 ?_
  have W1 : Wish C ⟨H, A, none⟩ E (noX (m xs s1)) (fun d s' => ∀ v H', Ext C.keep H H' → C.I s' H' → Is A H' v d → Q v H') := W1
  cases e : m xs s1 with
  | ok d s2 => rw [e] at W1; exact fun v H2 e2 I2 h2 => W1 v H2 (e1.trans e2) I2 h2
  | ex c fs s2 => rw [e] at W1; exact W1.elim
  | bad => rw [e] at W1; exact W1.elim
def tIfT (t ta tb : TT) : TT := fun σ H Q => t σ H fun c H1 => match c with | true => ta σ H1 Q | false => tb σ H1 Q
theorem pt_ifE {X : Cx} {c a b : Expr} {tA ta tb : TT} {pos : Pos} (hc : PT X c tA) (ha : PT X a ta) (hb : PT X b tb) : PT X (.IfExp c a b pos) (tIfT tA ta tb) := by
  refine ⟨fun pins s σ H Q I h => isTrue_IfExp (thn (hc.run pins s σ H _ I h) fun d s1 ⟨H1, I1, q1⟩ => ?_)⟩
  cases d with
  | true => exact ha.run pins s1 σ H1 Q I1 q1
  | false => exact hb.run pins s1 σ H1 Q I1 q1
theorem e_ifT {tt ta tb : XK → TT} {f fa fb : Rho → M S Bool} (h1 : EvT C tt f) (ha : EvT C ta fa) (hb : EvT C tb fb) : EvT C (fun E => tIfT (tt E) (ta E) (tb E)) (xIf f fa fb) := fun B A ρ σ H s E Q R I W => by
  refine h1 B A ρ σ H s E _ R I ((Wish.then W).mono fun b s1 W1 H1 e1 I1 => ?_)
  cases b with
  | true => exact ha B A ρ σ H1 s1 E _ (R.step e1) I1 (Wish.mono (Wish.step W1 e1) fun b s2 W2 H2 e2 I2 => W2 H2 (e1.trans e2) I2)
  | false => exact hb B A ρ σ H1 s1 E _ (R.step e1) I1 (Wish.mono (Wish.step W1 e1) fun b s2 W2 H2 e2 I2 => W2 H2 (e1.trans e2) I2)
def mRepS : R2 := fun x y H Q => match x, y with
  | .str a, .int k => 1 ≤ k ∧ k ≤ 1000 ∧ a.length ≤ 1000 ∧ Q (.str (Txt.mul a k)) H
  | _, _ => False
theorem op_mRepS {X : Cx} : OpR X (binaryOp .Mult) mRepS := by
  intro pins s σ H x y v u Q I rx ry h
  unfold mRepS at h
  split at h
  · rename_i a k
    obtain ⟨h1, h2, h3, q⟩ := h
    obtain ⟨t, rfl⟩ := rx
    obtain ⟨t2, rfl⟩ := ry
    refine SB.mul ⟨?_, fun _ _ => ?_, fun _ _ => ?_⟩ fun t' tk => ⟨.str _, H, I.tok tk, ⟨t', rfl⟩, q⟩
    · rw [decide_eq_false (by omega), decide_eq_false (by omega)]; rfl
    · intro hc
      have h4 : (2 ^ 63 - 1 : Int) / 1000 ≤ (2 ^ 63 - 1) / k := by
        rw [Int.le_ediv_iff_mul_le (by omega)]
        have : (2 ^ 63 - 1 : Int) / 1000 * k ≤ (2 ^ 63 - 1 : Int) / 1000 * 1000 := Int.mul_le_mul_of_nonneg_left h2 (by decide)
        omega
      have h5 : ((2 ^ 63 - 1 : Int) / 1000) = 9223372036854775 := by decide
      have h6 : (a.length : Int) ≤ 1000 := by exact_mod_cast h3
      omega
    · have h7 : a.length * k.toNat ≤ 1000 * 1000 := Nat.mul_le_mul h3 (by omega)
      have h8 : (1000 * 1000 : Nat) ≤ sizeLine := by decide
      exact decide_eq_false (by omega)
  · exact h.elim
def dRepS : D → D → Option D
  | .str a, .int k => match decide (1 ≤ k ∧ k ≤ 1000 ∧ a.length ≤ 1000) with
    | true => some (.str (Txt.mul a k))
    | false => none
  | _, _ => none
theorem o_repS : OpD mRepS dRepS := fun A H v w x y d Q h1 h2 nw e q => by
  unfold dRepS at e
  split at e
  · cases h1; cases h2
    split at e
    · rename_i l
      cases e
      have l := of_decide_eq_true l
      exact ⟨l.1, l.2.1, l.2.2, q _ H (Ext.refl _ _) (.str _)⟩
    · cases e
  · cases e
end
section
variable {P : Program} {w : World} {K : PySem.W.Frag} {mg : Str → Option Value} {base : Heap}
/-- a def whose code object is known -/
theorem fnr_ofC {x qual : Str} {st : Stmt} {f cd : Addr} {fd : FuncData} {N ps : List Str} {k : Nat} {rd : XK → TS} (F : Fun K x qual st f fd) (hc : fd.code = .ref cd) (S : FnScope N ps (defScope st)) (hb : Binds K fd ps [])
    (hbody : ∀ (A : Around) (outer : List Env) (s : Shared) (H : Hp) (E : XK), Room k (A.deeper (envOfC qual (defScope st) s.heap.objs.size f (.ref cd))) →
      PSs (cxOf (L2.CX P w) P w K mg base N qual (defScope st) f (.ref cd) A outer s H E) (defBody st) (rd E)) : FnR P w K mg base (L2.CX P w) (k + 1) f (spR N ps.length rd) := by
  have G : FnOk P w K mg base (L2.CX P w) (k + 1) f fd ps (spR N ps.length rd) := by
    obtain ⟨oc, od, kV, doc, pm, an, cdv, ct, osl, rfl, lk, hcd⟩ := F.ex
    obtain rfl : cdv = .ref cd := hc
    exact fn_of lk hcd S (fun vs H Q E h => h.1) fun A outer s H vs Q E hr h => ⟨rd E, hbody A outer s H E hr, h.2⟩
  exact (G.raw hb .nil).imp fun vs H Q E h => by rw [List.append_nil]; exact h
end
end Fs

namespace Fs
open PySem PySem.Spec PyProof.Rows L2
open LamX (CodeO Tabs TabS)
structure PenS where
  used : Int
  rest : Int
structure PenA where
  p : Addr
  c : Addr
  cells : List Int
  T : List (Addr × Str)
def penPl (L : PenA) : Pl := ⟨fun a => a ≠ L.p ∧ ∀ t ∈ L.T, a ≠ t.1, fun a => (a ≠ L.p ∧ ∀ t ∈ L.T, a ≠ t.1) ∧ a ≠ L.c, fun _ h => h.1⟩
def PenI (L : PenA) (s : PenS) (H : Hp) : Prop := H L.p = some (.lst [.ref L.c, .int s.used, .int s.rest]) ∧ H L.c = some (.lst (L.cells.map V.int)) ∧ Tabs L.T H
theorem tabs_upd {T : List (Addr × Str)} {H : Hp} {a : Addr} {o : HO} (h : Tabs T H) (h1 : ∀ t ∈ T, a ≠ t.1) (h2 : tgt (H a) = true) : Tabs T (upd H a o) := fun t ht => by
  obtain ⟨ps, e1, e2, e3⟩ := h t ht
  refine ⟨ps, by rw [upd_ne (Ne.symm (h1 t ht))]; exact e1, e2, fun pos cv hc => ?_⟩
  obtain ⟨c, f1, f2⟩ := e3 pos cv hc
  refine ⟨c, f1, ?_⟩
  rw [upd_ne (fun z => by
    rw [z] at f2
    rw [f2] at h2
    cases h2)]
  exact f2
def penC (K : PySem.W.Frag) (L : PenA) : Cfg PenS where
  toPl := penPl L
  K := K
  I := PenI L
  st := fun s H H' I e => ⟨e.1 _ _ trivial I.1, e.1 _ _ trivial I.2.1, fun t ht => (I.2.2 t ht).ext fun b o z => e.1 b o trivial z⟩
  st2 := fun s H a o k t I => ⟨by rw [upd_ne (Ne.symm k.1.1)]; exact I.1, by rw [upd_ne (Ne.symm k.2)]; exact I.2.1, tabs_upd I.2.2 k.1.2 t⟩
section
variable {K : PySem.W.Frag} {L : PenA}
theorem pen_tabs : ∀ s H, (penC K L).I s H → Tabs L.T H := fun _ _ I => I.2.2
theorem pen_lam {q : Str} : ∀ s H H1 cl, (penC K L).I s H → LamTo L.T q H H1 cl → (penC K L).I s H1 ∧ Ext (penC K L).keep H H1 := fun s H H1 cl I h => by
  obtain ⟨h1, h2, rfl | ⟨P, ps, more, m1, m2, m3, rfl⟩⟩ := h
  · exact ⟨I, Ext.refl _ _⟩
  · have ne : ∀ {a : Addr} {xs : List V}, H a = some (.lst xs) → a ≠ P := fun {a xs} e z => by rw [z, m2] at e; cases e
    have at' : ∀ {a : Addr} {o : HO}, H a = some o → a ≠ P → upd (upd H P (.tbl (ps ++ more))) cl (CodeO cl q) a = some o := fun {a o} e z => by
      rw [upd_ne (ne_of_none e m3), upd_ne z]; exact e
    refine ⟨⟨at' I.1 (ne I.1), at' I.2.1 (ne I.2.1), h2⟩, fun a o k e => at' e (k.2 _ m1), fun a e => ?_⟩
    by_cases z : a = cl
    · rw [z]; exact m3
    · rw [upd_ne z] at e
      by_cases z2 : a = P
      · rw [z2, upd_same] at e; cases e
      · rw [upd_ne z2] at e; exact e
def penAt (L : PenA) (i : Nat) (ρ : Rho) : Bool := match ρ[i]? with
  | some (.val (.adr a)) => decide (a = L.p)
  | _ => false
theorem pen_slot {P : Pl} {B : Bs} {A : Addr → Prop} {ρ : Rho} {σ : L2.St} {H : Hp} {i : Nat} (R : Rel P B A ρ σ H) (h : penAt L i ρ = true) : σ[i]? = some (some (.ref L.p)) := by
  unfold penAt at h
  split at h
  · rename_i a e
    obtain ⟨v, h1, h2⟩ := R.slot i _ e
    rw [h1]
    cases h2
    rw [of_decide_eq_true h]
  · cases h
theorem pen_ix {s : PenS} {H : Hp} (I : PenI L s H) {σ : L2.St} {i : Nat} (h : σ[i]? = some (some (.ref L.p))) {k : Int} {v : V} (e : atI [V.ref L.c, .int s.used, .int s.rest] k = some v) {Q : VK} (q : Q v H) : tOp mIx (tV i) (tC (.int k)) σ H Q := by
  show tV i σ H _
  unfold tV
  rw [h]
  show mIx (.ref L.p) (.int k) H Q
  have hl : look H L.p = some (.lst [V.ref L.c, .int s.used, .int s.rest]) := by unfold look; rw [I.1]
  unfold mIx
  simp only [hl, e]
  exact q
def xPen (L : PenA) (i : Nat) (g : PenS → Int) : Rho → M PenS D := fun ρ s => match penAt L i ρ with
  | true => .ok (.int (g s)) s
  | false => .bad
theorem e_pen1 {i : Nat} : EvD (penC K L) (fun _ => tOp mIx (tV i) (tC (.int 1))) (xPen L i PenS.used) := fun B A ρ σ H s E Q R I W => by
  unfold xPen at W
  cases e : penAt L i ρ with
  | false => rw [e] at W; exact W.elim
  | true =>
    rw [e] at W
    exact pen_ix I (pen_slot R e) rfl (W _ H (Ext.refl _ _) I (.int _))
theorem e_pen2 {i : Nat} : EvD (penC K L) (fun _ => tOp mIx (tV i) (tC (.int 2))) (xPen L i PenS.rest) := fun B A ρ σ H s E Q R I W => by
  unfold xPen at W
  cases e : penAt L i ρ with
  | false => rw [e] at W; exact W.elim
  | true =>
    rw [e] at W
    exact pen_ix I (pen_slot R e) rfl (W _ H (Ext.refl _ _) I (.int _))
theorem cells_is {H : Hp} {s : PenS} (I : PenI L s H) : Is All H (.ref L.c) (.lst (L.cells.map D.int)) := .lst trivial I.2.1 (by
  generalize L.cells = cs
  induction cs with
  | nil => exact .nil
  | cons x xs ih => exact .cons (.int x) ih)
def xPenLen (L : PenA) (i : Nat) : Rho → M PenS D := fun ρ s => match penAt L i ρ with
  | true => .ok (.int L.cells.length) s
  | false => .bad
theorem e_penLen {i : Nat} : EvD (penC K L) (fun _ => tCB mLen (tCons (tOp mIx (tV i) (tC (.int 0))) tNil)) (xPenLen L i) := fun B A ρ σ H s E Q R I W => by
  unfold xPenLen at W
  cases e : penAt L i ρ with
  | false => rw [e] at W; exact W.elim
  | true =>
    rw [e] at W
    refine pen_ix I (pen_slot R e) (k := 0) (v := .ref L.c) rfl ?_
    show mLen [.ref L.c] H Q
    have hl : look H L.c = some (.lst (L.cells.map V.int)) := by unfold look; rw [I.2.1]
    unfold mLen one
    simp only [hl, List.length_map]
    exact W _ H (Ext.refl _ _) I (.int _)
noncomputable def xPenNe (L : PenA) (i : Nat) : Rho → M PenS Bool := fun ρ s => match penAt L i ρ, (neA (.lst (L.cells.map D.int)) (.lst [])).bind dBl with
  | true, some b => .ok b s
  | _, _ => .bad
theorem e_penNe {i : Nat} : EvT (penC K L) (fun _ => tTs (tOp (mNeA K) (tOp mIx (tV i) (tC (.int 0))) (tLst tNil))) (xPenNe L i) := fun B A ρ σ H s E Q R I W => by
  unfold xPenNe at W
  split at W
  · rename_i b e1 e2
    obtain ⟨d, e3, e4⟩ := Option.bind_eq_some_iff.mp e2
    refine pen_ix I (pen_slot R e1) (k := 0) (v := .ref L.c) rfl ⟨by decide, fun p hp => ?_⟩
    have x : Ext All H (upd H p (.lst [])) := Ext.new hp
    refine o_neA All _ _ _ _ _ d _ ((cells_is I).stp (x.stp fun _ _ => trivial)) (.lst trivial upd_same .nil) (fun _ _ => trivial) e3 fun u H' x2 h => ?_
    rw [h.bl_of e4]
    exact W H' ((x.trans x2).all) ((penC K L).st _ _ _ I (x.trans x2))
  · exact W.elim
def xPenCell (L : PenA) (i : Nat) (f : Rho → M PenS D) : Rho → M PenS D := fun ρ => match penAt L i ρ with
  | true => (f ρ).bind fun k => .of ((dIx (.lst (L.cells.map D.int)) k).bind flatOf)
  | false => fun _ => .bad
theorem e_penCell {i : Nat} {te : XK → TE} {f : Rho → M PenS D} (h : EvD (penC K L) te f) : EvD (penC K L) (fun E => tOp mIx (tOp mIx (tV i) (tC (.int 0))) (te E)) (xPenCell L i f) := fun B A ρ σ H s E Q R I W => by
  unfold xPenCell at W
  cases e : penAt L i ρ with
  | false => rw [e] at W; exact W.elim
  | true =>
    rw [e] at W
    refine pen_ix I (pen_slot R e) (k := 0) (v := .ref L.c) rfl ?_
    refine h B A ρ σ H s E _ R I ((Wish.then W).mono fun k s1 W1 v H1 e1 I1 h1 => ?_)
    cases e2 : (dIx (.lst (L.cells.map D.int)) k).bind flatOf with
    | none => rw [e2] at W1; exact W1.elim
    | some d =>
      rw [e2] at W1
      obtain ⟨d2, e3, e4⟩ := Option.bind_eq_some_iff.mp e2
      unfold flatOf at e4
      cases ef : flat d2 with
      | false => rw [ef] at e4; cases e4
      | true =>
        rw [ef] at e4
        cases e4
        refine o_ix All _ _ _ _ _ d _ (cells_is I1) (h1.stp fun a o _ z => ⟨trivial, z⟩) (fun _ _ => trivial) e3 fun u H' x2 h => ?_
        exact W1 u H' (e1.trans x2.all) ((penC K L).st _ _ _ I1 x2) (h.flat ef)
def yPen (L : PenA) (i : Nat) (g : PenS → Int → PenS) (f : Rho → M PenS D) : Rho → M PenS Out := fun ρ => match penAt L i ρ with
  | true => (f ρ).bind fun d => (M.of (dIn d)).bind fun n s => .ok (.nx ρ) (g s n)
  | false => fun _ => .bad
theorem d_penSet {i : Nat} {k : Int} {j : Nat} {g : PenS → Int → PenS} {te : XK → TE} {f : Rho → M PenS D} (h : EvD (penC K L) te f) (hk : ixN 3 k = some j) (hg : ∀ s n, [V.ref L.c, V.int s.used, V.int s.rest].set j (.int n) = [V.ref L.c, V.int (g s n).used, V.int (g s n).rest]) (hpc : L.p ≠ L.c) (hT : ∀ t ∈ L.T, L.p ≠ t.1) :
    StD (penC K L) (fun E => tAsg (te E) (gSub (tV i) (tC (.int k)) rSetL)) (yPen L i g f) := fun B A ρ σ H s E De R I W => by
  unfold yPen at W
  cases e : penAt L i ρ with
  | false => rw [e] at W; exact W.elim
  | true =>
    rw [e] at W
    refine h B A ρ σ H s E _ R I (R.fr <| (Wish.then W).mono fun d s1 W1 v H1 e1 I1 h1 => ?_)
    obtain ⟨n, en, W2⟩ := of_some (Wish.then W1)
    have R1 := R.step e1
    show tV i σ H1 _
    unfold tV
    rw [pen_slot R e]
    have ev := h1.in_of en
    refine ⟨L.p, _, k, j, rfl, rfl, I1.1, hk, ?_⟩
    rw [ev, hg]
    have x : Ext (penC K L).keep H1 (upd H1 L.p (.lst [V.ref L.c, V.int (g s1 n).used, V.int (g s1 n).rest])) := ⟨fun a o k z => by rw [upd_ne k.1]; exact z, fun a z => by
      by_cases q : a = L.p
      · rw [q, upd_same] at z; cases z
      · rw [upd_ne q] at z; exact z⟩
    refine W2 A σ _ (R1.step x) ((e1.trans x).stp R.ak) ⟨upd_same, by rw [upd_ne (Ne.symm hpc)]; exact I1.2.1, tabs_upd I1.2.2 hT (by rw [I1.1]; rfl)⟩
end
end Fs

namespace Fs
open PySem L2
variable {S : Type}
theorem comp_pure {g : D → Rho → Option Rho} {t : Rho → M S Bool} {e : Rho → M S D} {ρ : Rho} {s : S} (p : D → Bool) (h : D → D) : ∀ (ds : List D), (∀ d ∈ ds, ∃ ρ1, g d ρ = some ρ1 ∧ t ρ1 s = .ok (p d) s ∧ (p d = true → e ρ1 s = .ok (h d) s)) → compD g t e ρ ds s = .ok ((ds.filter p).map h) s
  | [], _ => rfl
  | d :: ds, H => by
    obtain ⟨ρ1, h1, h2, h3⟩ := H d (by simp)
    have ih := comp_pure (s := s) p h ds fun x hx => H x (List.mem_cons_of_mem _ hx)
    unfold compD
    simp only [h1, M.bind, h2, then_ok]
    cases e1 : p d with
    | true =>
      show (e ρ1 s).then (fun y => (compD g t e ρ ds).bind fun ys => M.ret (y :: ys)) = _
      rw [h3 e1]
      show (compD g t e ρ ds s).then _ = _
      rw [ih]
      simp only [List.filter_cons, e1, if_true, List.map_cons]
      rfl
    | false =>
      simp only [ih, List.filter_cons, e1]
      rfl
theorem dLen_str {w : Str} (h : lim w.length = true) : dLen [.str w] = some (.int w.length) := by
  unfold dLen dLen1
  simp only [h]
theorem dLen_lst {xs : List D} : dLen [.lst xs] = some (.int xs.length) := rfl
theorem dLen_tup {xs : List D} : dLen [.tup xs] = some (.int xs.length) := rfl
theorem dLe_int {a b : Int} : dLe (.int a) (.int b) = some (.bl (decide (a ≤ b))) := rfl
theorem dLt_int {a b : Int} : dLt (.int a) (.int b) = some (.bl (decide (a < b))) := rfl
theorem dGt_int {a b : Int} : dGt (.int a) (.int b) = some (.bl (decide (b < a))) := rfl
theorem dGe_int {a b : Int} : dGe (.int a) (.int b) = some (.bl (decide (b ≤ a))) := rfl
theorem dLe_str {a b : Str} : dLe (.str a) (.str b) = some (.bl (!ltS b a)) := rfl
theorem dGt_str {a b : Str} : dGt (.str a) (.str b) = some (.bl (ltS b a)) := rfl
theorem dNi_str {a b : Str} : dNi2 (.str a) (.str b) = some (.bl (!inS a b)) := rfl
theorem dIn_str {a b : Str} : dIn2 (.str a) (.str b) = some (.bl (inS a b)) := rfl
theorem dAdd_int {a b : Int} : dAdd (.int a) (.int b) = some (.int (a + b)) := rfl
theorem dSub_int {a b : Int} : dSub (.int a) (.int b) = some (.int (a - b)) := rfl
theorem dMod_int {a b : Int} (h : 0 < b) : dMod (.int a) (.int b) = some (.int (a % b)) := by
  unfold dMod dI2
  simp only [decide_eq_true h]
theorem dFdv_int {a b : Int} (h : 0 < b ∧ b < 1073741824) : dFdv (.int a) (.int b) = some (.int (a / b)) := by
  unfold dFdv dI2
  simp only [decide_eq_true h]
theorem dPow_int {a b : Int} (h : 0 ≤ b ∧ b ≤ 1000000 ∧ a.natAbs < 2 ^ 64) : dPow (.int a) (.int b) = some (.int (a ^ b.toNat)) := by
  unfold dPow dI2
  simp only [decide_eq_true h]
theorem dMul_int {a b : Int} (h : (Builtin.Int.intBits a : Int) + (Builtin.Int.intBits b : Int) ≤ 134217728) : dMul (.int a) (.int b) = some (.int (a * b)) := by
  unfold dMul
  simp only [decide_eq_true h]
theorem eqD_int {a b : Int} : eqD (.int a) (.int b) = some (decide (a = b)) := by
  show some (decide (V.int a = V.int b)) = _
  simp
theorem eqD_str {a b : Str} : eqD (.str a) (.str b) = some (decide (a = b)) := by
  show some (decide (V.str a = V.str b)) = _
  simp
theorem dEq_int {a b : Int} : dEq (.int a) (.int b) = some (.bl (decide (a = b))) := by unfold dEq; rw [eqD_int]; rfl
theorem dEq_str {a b : Str} : dEq (.str a) (.str b) = some (.bl (decide (a = b))) := by unfold dEq; rw [eqD_str]; rfl
theorem neA_int {a b : Int} : neA (.int a) (.int b) = some (.bl (!decide (a = b))) := by unfold neA dNe; rw [eqD_int]; rfl
theorem neA_str {a b : Str} : neA (.str a) (.str b) = some (.bl (!decide (a = b))) := by unfold neA dNe; rw [eqD_str]; rfl
theorem dIx_str {z : Str} {i : Int} (h : lim z.length = true) : dIx (.str z) (.int i) = (atI z.cps.toList i).map fun c => .str ⟨#[c]⟩ := by
  unfold dIx
  simp only [h]
theorem dIx_lst {xs : List D} {i : Int} : dIx (.lst xs) (.int i) = atI xs i := rfl
theorem dIx_tup {xs : List D} {i : Int} : dIx (.tup xs) (.int i) = atI xs i := rfl
theorem toPyL_map {α : Type} (f : α → D) (g : α → PyData) (h : ∀ x, toPy (f x) = some (g x)) : ∀ xs : List α, toPyL (xs.map f) = some (xs.map g)
  | [] => rfl
  | x :: xs => by
    rw [List.map_cons, List.map_cons]
    unfold toPyL
    rw [h x, toPyL_map f g h xs]
theorem canAll_str : ∀ {xs : List Str}, (∀ x ∈ xs, PyData.strOk x = true) → PyData.canLayAll0 (xs.map PyData.str) = true
  | [], _ => rfl
  | x :: xs, h => by
    show (PyData.strOk x && PyData.canLayAll0 (xs.map PyData.str)) = true
    rw [h x (by simp), canAll_str fun y hy => h y (List.mem_cons_of_mem _ hy)]
    rfl
theorem depthAll_str : ∀ {xs : List Str}, PyData.depthAll (xs.map PyData.str) ≤ 1
  | [] => by decide
  | x :: xs => by
    show max (PyData.depth (.str x)) (PyData.depthAll (xs.map PyData.str)) ≤ 1
    have h1 : PyData.depth (.str x) ≤ 1 := by simp [PyData.depth]
    have h2 := depthAll_str (xs := xs)
    omega
theorem shaped_strs {xs : List Str} (h : ∀ x ∈ xs, PyData.strOk x = true) : SeqAt.shaped (.list (xs.map PyData.str)) = true := by
  unfold SeqAt.shaped
  rw [Bool.and_eq_true]
  refine ⟨canAll_str h, decide_eq_true ?_⟩
  have h2 := depthAll_str (xs := xs)
  simp only [PyData.depth]
  omega
theorem toPy_strs (xs : List Str) : toPy (.lst (xs.map D.str)) = some (.list (xs.map PyData.str)) := by
  unfold toPy
  rw [toPyL_map D.str PyData.str (fun _ => rfl)]
  rfl
theorem eqvAll_str : ∀ xs ys : List Str, PyData.eqvAll (xs.map PyData.str) (ys.map PyData.str) = decide (xs = ys)
  | [], [] => rfl
  | [], _ :: _ => by simp [PyData.eqvAll]
  | _ :: _, [] => by simp [PyData.eqvAll]
  | x :: xs, y :: ys => by
    show (PyData.eqv (.str x) (.str y) && PyData.eqvAll (xs.map PyData.str) (ys.map PyData.str)) = _
    rw [eqvAll_str xs ys]
    have e : PyData.eqv (.str x) (.str y) = decide (x = y) := by
      simp only [PyData.eqv]
      by_cases h : x = y
      · rw [h]; simp
      · simp [h]
    rw [e]
    by_cases h1 : x = y <;> by_cases h2 : xs = ys <;> simp [h1, h2]
theorem eqD_strs {xs ys : List Str} (hx : ∀ x ∈ xs, PyData.strOk x = true) (hy : ∀ x ∈ ys, PyData.strOk x = true) : eqD (.lst (xs.map D.str)) (.lst (ys.map D.str)) = some (decide (xs = ys)) := by
  show pyEq _ _ = _
  unfold pyEq
  rw [toPy_strs, toPy_strs]
  simp only [shaped_strs hx, shaped_strs hy, Bool.and_self]
  show some (PyData.eqvAll (xs.map PyData.str) (ys.map PyData.str)) = _
  rw [eqvAll_str]
theorem dEq_nil {xs : List Str} (hx : ∀ x ∈ xs, PyData.strOk x = true) : dEq (.lst (xs.map D.str)) (.lst []) = some (.bl (decide (xs = []))) := by
  unfold dEq
  rw [show (D.lst []) = .lst (([] : List Str).map D.str) from rfl, eqD_strs hx (by simp)]
  rfl
theorem dBls_map {α : Type} (f : α → Bool) : ∀ xs : List α, dBls (xs.map fun x => D.bl (f x)) = some (xs.map f)
  | [] => rfl
  | x :: xs => by
    rw [List.map_cons, List.map_cons]
    unfold dBls
    rw [dBls_map f xs]
    rfl
theorem dAll_map {α : Type} (f : α → Bool) (xs : List α) : dAll [.lst (xs.map fun x => D.bl (f x))] = some (.bl (xs.all f)) := by
  show (dBls (xs.map fun x => D.bl (f x))).map (fun bs => D.bl (bs.all id)) = _
  rw [dBls_map]
  simp [List.all_map]
theorem in_sign (c : Nat) (b : Str) : inS ⟨#[c]⟩ b = decide (c ∈ TL.tl b) := StrLaws.found_one b c
def one1 (c : Nat) : Str := ⟨#[c]⟩
theorem signs_eq (w : Str) : signs w = ((TL.tl w).map one1).map D.str := by
  unfold signs
  rw [List.map_map]; rfl
theorem comp_ni {B : Str} {ρ : Rho} {i : Nat} {s : S} (hi : i < ρ.length) (w : Str) : compD (gV i) (xT (xOp dNi2 (xV i) (xC (.str B)))) (xV i) ρ (signs w) s = .ok ((((TL.tl w).filter fun c => !decide (c ∈ TL.tl B)).map one1).map D.str) s := by
  have h := comp_pure (g := gV i) (t := xT (xOp dNi2 (xV i) (xC (.str B)))) (e := xV i) (ρ := ρ) (s := s) (fun d => match d with | .str x => !inS x B | _ => false) id (signs w) fun d hd => by
    unfold signs at hd
    obtain ⟨c, _, rfl⟩ := List.mem_map.mp hd
    have e : (ρ.set i (.val (.str ⟨#[c]⟩)))[i]? = some (.val (.str ⟨#[c]⟩)) := List.getElem?_set_self hi
    refine ⟨_, rfl, ?_, fun _ => ?_⟩
    · simp only [xT, xOp, xV, xC, M.bind, M.ret, M.of, e, then_ok, dNi_str, dBl]
    · simp only [xV, e]; rfl
  rw [h]
  congr 1
  rw [List.map_id]
  unfold signs
  rw [List.filter_map, List.map_map]
  congr 1
  · apply List.filter_congr
    intro c _
    show (!inS ⟨#[c]⟩ B) = _
    rw [in_sign]
theorem comp_in {B : Str} {ρ : Rho} {i : Nat} {s : S} (hi : i < ρ.length) (w : Str) : compD (gV i) (fun _ => M.ret true) (xOp dIn2 (xV i) (xC (.str B))) ρ (signs w) s = .ok ((TL.tl w).map fun c => D.bl (decide (c ∈ TL.tl B))) s := by
  have h := comp_pure (g := gV i) (t := fun _ => M.ret true) (e := xOp dIn2 (xV i) (xC (.str B))) (ρ := ρ) (s := s) (fun _ => true) (fun d => match d with | .str x => .bl (inS x B) | _ => .non) (signs w) fun d hd => by
    unfold signs at hd
    obtain ⟨c, _, rfl⟩ := List.mem_map.mp hd
    have e : (ρ.set i (.val (.str ⟨#[c]⟩)))[i]? = some (.val (.str ⟨#[c]⟩)) := List.getElem?_set_self hi
    refine ⟨_, rfl, rfl, fun _ => ?_⟩
    simp only [xOp, xV, xC, M.bind, M.ret, M.of, e, then_ok, dIn_str]
  rw [h]
  congr 1
  unfold signs
  rw [List.filter_eq_self.mpr (fun _ _ => rfl), List.map_map]
  apply List.map_congr_left
  intro c _
  show D.bl (inS ⟨#[c]⟩ B) = _
  rw [in_sign]
theorem filt_nil (p : Nat → Bool) : ∀ l : List Nat, decide ((((l.filter fun c => !p c).map one1)) = []) = l.all p
  | [] => rfl
  | c :: l => by
    rw [List.filter_cons, List.all_cons]
    cases h : p c with
    | true => simpa using filt_nil p l
    | false => simp
theorem seq_nx {f g : Rho → M S Out} {ρ ρ1 : Rho} {s s1 : S} (h : f ρ s = .ok (.nx ρ1) s1) : ySeq f g ρ s = g ρ1 s1 := by
  show (f ρ s).then _ = _
  rw [h]; rfl
theorem seq_rt {f g : Rho → M S Out} {ρ : Rho} {s s1 : S} {d : D} (h : f ρ s = .ok (.rt d) s1) : ySeq f g ρ s = .ok (.rt d) s1 := by
  show (f ρ s).then _ = _
  rw [h]; rfl
theorem seq_ex {f g : Rho → M S Out} {ρ : Rho} {s s1 : S} {c : Addr} {fs : List (Str × D)} (h : f ρ s = .ex c fs s1) : ySeq f g ρ s = .ex c fs s1 := by
  show (f ρ s).then _ = _
  rw [h]; rfl
theorem run_rt {n m : Nat} {f : Rho → M S Out} {ds : List D} {s s1 : S} {d : D} (hl : decide (ds.length = m) = true) (h : f (startR n ds) s = .ok (.rt d) s1) : runD n m f ds s = .ok d s1 := by
  unfold runD
  rw [hl]
  show (f (startR n ds) s).then _ = _
  rw [h]; rfl
theorem run_nx {n m : Nat} {f : Rho → M S Out} {ds : List D} {s s1 : S} {ρ : Rho} (hl : decide (ds.length = m) = true) (h : f (startR n ds) s = .ok (.nx ρ) s1) : runD n m f ds s = .ok .non s1 := by
  unfold runD
  rw [hl]
  show (f (startR n ds) s).then _ = _
  rw [h]; rfl
theorem run_ex {n m : Nat} {f : Rho → M S Out} {ds : List D} {s s1 : S} {c : Addr} {fs : List (Str × D)} (hl : decide (ds.length = m) = true) (h : f (startR n ds) s = .ex c fs s1) : runD n m f ds s = .ex c fs s1 := by
  unfold runD
  rw [hl]
  show (f (startR n ds) s).then _ = _
  rw [h]; rfl
theorem for_of {fi : Rho → M S (List D)} {g : D → Rho → Option Rho} {f : Rho → M S Out} {ρ : Rho} {s s1 : S} {ds : List D} (h : fi ρ s = .ok ds s1) : yFor fi g f ρ s = loopD g f ds ρ s1 := by
  show (fi ρ s).then _ = _
  rw [h]; rfl
end Fs

namespace Fs
open PySem L2 TL
theorem pre_one (s c : Nat) (r : List Nat) : pre [s] (c :: r) = decide (c = s) := by
  show (List.take 1 (c :: r) == [s]) = _
  by_cases h : c = s
  · rw [h]; simp
  · simp [h]
theorem spl_one (s c : Nat) (acc r : List Nat) : spl [s] 0 acc (c :: r) = if c = s then acc :: spl [s] 0 [] r else spl [s] 0 (acc ++ [c]) r := by
  by_cases h : c = s
  · rw [if_pos h, spl_hit (by rw [pre_one]; exact decide_eq_true h)]; rfl
  · rw [if_neg h, spl_miss (by rw [pre_one]; exact decide_eq_false h)]
theorem spl_ne (s : Nat) : ∀ (l acc : List Nat), spl [s] 0 acc l ≠ []
  | [], acc => by rw [spl_nil]; simp
  | c :: r, acc => by
    rw [spl_one]
    split
    · simp
    · exact spl_ne s r _
theorem join_spl (s : Nat) : ∀ (l acc : List Nat), joinL [s] (spl [s] 0 acc l) = acc ++ l
  | [], acc => by rw [spl_nil]; simp [joinL]
  | c :: r, acc => by
    rw [spl_one]
    split
    · rename_i h
      have ih := join_spl s r []
      cases e : spl [s] 0 [] r with
      | nil => exact absurd e (spl_ne s r [])
      | cons q m =>
        rw [e] at ih
        show acc ++ ([s] ++ joinL [s] (q :: m)) = _
        rw [ih, h]; rfl
    · rw [join_spl s r, List.append_assoc]; rfl
theorem spl_sub (s : Nat) : ∀ (l acc : List Nat), ∀ p ∈ spl [s] 0 acc l, p.length ≤ acc.length + l.length ∧ ∀ c ∈ p, c ∈ acc ++ l
  | [], acc, p, h => by
    rw [spl_nil] at h
    rw [List.mem_singleton.mp h]
    exact ⟨Nat.le_add_right _ _, fun c k => by simpa using k⟩
  | c :: r, acc, p, h => by
    rw [spl_one] at h
    split at h
    · rcases List.mem_cons.mp h with e | k
      · rw [e]
        exact ⟨Nat.le_add_right _ _, fun c k => List.mem_append.mpr (.inl k)⟩
      · obtain ⟨h1, h2⟩ := spl_sub s r [] p k
        refine ⟨?_, fun c k => ?_⟩
        · simp at h1 ⊢; omega
        · have := h2 c k
          simp at this ⊢
          exact .inr (.inr this)
    · obtain ⟨h1, h2⟩ := spl_sub s r _ p h
      refine ⟨?_, fun c k => ?_⟩
      · simp at h1 ⊢; omega
      · have := h2 c k
        simpa using this
theorem spl_free (s : Nat) : ∀ (l acc : List Nat), s ∉ acc → ∀ p ∈ spl [s] 0 acc l, s ∉ p
  | [], acc, h0, p, h => by
    rw [spl_nil] at h
    rw [List.mem_singleton.mp h]; exact h0
  | c :: r, acc, h0, p, h => by
    rw [spl_one] at h
    split at h
    · rcases List.mem_cons.mp h with e | k
      · rw [e]; exact h0
      · exact spl_free s r [] (by simp) p k
    · rename_i hc
      exact spl_free s r _ (by simp [h0]; exact fun e => hc e.symm) p h
theorem spl_count (s : Nat) : ∀ (l acc : List Nat), (spl [s] 0 acc l).length ≤ l.length + 1
  | [], acc => by rw [spl_nil]; simp
  | c :: r, acc => by
    rw [spl_one]
    split
    · have := spl_count s r []
      simp; omega
    · have := spl_count s r (acc ++ [c])
      simp; omega
structure Sep (y : Str) (s : Nat) : Prop where
  tl : tl y = [s]
  lo : s < 256
section
variable {y : Str} {s : Nat}
theorem Sep.spl (Y : Sep y s) (a : Str) : (Txt.split a y).map TL.tl = TL.spl [s] 0 [] (TL.tl a) := by
  have h := split_spl a y (by rw [Y.tl]; simp) (kind_ok (by
    rw [Array.all_eq_true']
    intro c hc
    have hc : c ∈ TL.tl y := Array.mem_toList_iff.mpr hc
    rw [Y.tl] at hc
    rw [List.mem_singleton.mp hc]
    exact decide_eq_true Y.lo))
  rw [Y.tl] at h
  exact h
theorem Sep.ne (Y : Sep y s) (a : Str) : Txt.split a y ≠ [] := fun e => by
  have h := Y.spl a
  rw [e] at h
  exact spl_ne s _ _ h.symm
theorem Sep.back (Y : Sep y s) (a : Str) : Txt.join y (Txt.split a y) = a := by
  apply ext_tl
  rw [join_eq, tl_join, Y.tl, Y.spl, join_spl]; rfl
theorem Sep.part (Y : Sep y s) (a : Str) {p : Str} (h : p ∈ Txt.split a y) : p.length ≤ a.length ∧ ∀ c ∈ TL.tl p, c ∈ TL.tl a := by
  have k : TL.tl p ∈ TL.spl [s] 0 [] (TL.tl a) := by rw [← Y.spl]; exact List.mem_map_of_mem h
  obtain ⟨h1, h2⟩ := spl_sub s _ _ _ k
  rw [len_tl, len_tl]
  exact ⟨by simpa using h1, fun c hc => by simpa using h2 c hc⟩
theorem Sep.free (Y : Sep y s) (a : Str) {p : Str} (h : p ∈ Txt.split a y) : s ∉ TL.tl p := by
  have k : TL.tl p ∈ TL.spl [s] 0 [] (TL.tl a) := by rw [← Y.spl]; exact List.mem_map_of_mem h
  exact spl_free s _ _ (by simp) _ k
theorem Sep.count (Y : Sep y s) (a : Str) : (Txt.split a y).length ≤ a.length + 1 := by
  have h := congrArg List.length (Y.spl a)
  rw [List.length_map] at h
  rw [h, len_tl]
  exact spl_count s _ _
theorem Sep.whole (Y : Sep y s) (a : Str) (h : s ∉ TL.tl a) : Txt.split a y = [a] := by
  apply map_tl_inj
  rw [Y.spl, TL.spl_last1 h]; rfl
theorem Sep.read (Y : Sep y s) {ps : List Str} (hne : ps ≠ []) (h : ∀ p ∈ ps, s ∉ TL.tl p) : Txt.split (Txt.join y ps) y = ps := by
  apply map_tl_inj
  rw [Y.spl, join_eq, tl_join, Y.tl]
  refine TL.spl_join (fun e => hne (List.map_eq_nil_iff.mp e)) fun p hp => ?_
  obtain ⟨z, hz, rfl⟩ := List.mem_map.mp hp
  exact h z hz
theorem Sep.split (Y : Sep y s) (a : Str) (h : lim a.length = true) : splitD a (.str y) = some ((Txt.split a y).map D.str) := by
  unfold splitD
  have e : (y.length == 0) = false := by rw [len_tl, Y.tl]; rfl
  simp only [e, h]
  rfl
end
theorem spaceS : Sep (" " : Str) 32 := ⟨by rw [tl_ofString]; decide, by decide⟩
theorem lineS : Sep ("\n" : Str) 10 := ⟨by rw [tl_ofString]; decide, by decide⟩
end Fs

namespace Fs
open PySem L2 TL
open NumText (AllDigits digitsVal)
theorem chr_back {c : Nat} (h : c ≤ 57) : (Char.ofNat c).toNat = c := by
  have h2 : ∀ c : Nat, c < 58 → (Char.ofNat c).toNat = c := by decide
  exact h2 c (by omega)
theorem fig_num {cs : List Nat} (h : AllDigits cs) (hc : cs = [48] ∨ ∃ c r, cs = c :: r ∧ 49 ≤ c) : numL (digitsVal cs) = cs := by
  obtain ⟨n, hn⟩ : ∃ n, cs.length = n + 1 := by
    rcases hc with rfl | ⟨c, r, rfl, _⟩
    · exact ⟨0, rfl⟩
    · exact ⟨r.length, rfl⟩
  have e := NumText.toDigits_digitsVal n cs hn h (by
    rcases hc with rfl | z
    · exact .inl (by simpa using hn.symm)
    · exact .inr z)
  unfold numL
  rw [e, List.map_map]
  have : ∀ c ∈ cs, (Char.toNat ∘ Char.ofNat) c = c := fun c hc => chr_back (h c hc).2
  exact (List.map_congr_left this).trans (List.map_id _)
theorem val_lt : ∀ {cs : List Nat}, AllDigits cs → ∀ a : Nat, cs.foldl (fun acc c => acc * 10 + (c - 48)) a < (a + 1) * 10 ^ cs.length
  | [], _, a => by simp
  | c :: cs, h, a => by
    have hc := h.head
    have ih := val_lt h.tail (a * 10 + (c - 48))
    have e : (a * 10 + (c - 48) + 1) * 10 ^ cs.length ≤ (a + 1) * 10 ^ (cs.length + 1) := by
      rw [Nat.pow_succ]
      have : a * 10 + (c - 48) + 1 ≤ (a + 1) * 10 := by omega
      calc (a * 10 + (c - 48) + 1) * 10 ^ cs.length ≤ ((a + 1) * 10) * 10 ^ cs.length := Nat.mul_le_mul_right _ this
        _ = (a + 1) * (10 ^ cs.length * 10) := by rw [Nat.mul_assoc, Nat.mul_comm 10]
    exact Nat.lt_of_lt_of_le ih e
theorem tl_neg (k : Nat) : tl (Str.ofString (toString (Int.negSucc k))) = 45 :: numL (k + 1) := by
  have e : toString (Int.negSucc k) = "-" ++ toString (k + 1) := rfl
  rw [e, tl_ofString]
  have e2 := tl_num (k + 1)
  rw [tl_ofString] at e2
  have e3 : toString (((k + 1 : Nat) : Int)) = toString (k + 1) := rfl
  rw [e3] at e2
  rw [String.toList_append, List.map_append, e2]
  rfl
end Fs

namespace Fs
open PySem PySem.Spec PyProof.Rows L2
open PySem.HandSPX (refsVE)
/-- an own exception's __init__ -/
structure InD where
  cls : Str
  qual : Str
  params : Arguments
  body : List Stmt
  scope : Scope
abbrev FnI : Type := Option (Str × Str × Arguments × FuncBody × Scope × Addr × List Str × Addr)
def fnI (K : PySem.W.Frag) (f : Addr) : FnI := match K.lookup f with
  | some ⟨_, _, .func fd, _⟩ => some (fd.name, fd.qualname, fd.params, fd.body, fd.scope, fd.globals, fd.closure.map (·.1), fd.builtins)
  | _ => none
def InD.val (d : InD) : FnI := some ("__init__", d.qual, d.params, .stmts d.body, d.scope, mainGlobals, ["__class__"], builtinsNs)
def InD.at_ (K : PySem.W.Frag) (d : InD) : Addr := He.ma K (He.ga K d.cls) "__init__"
/-- the class, as an exception's over ValueError -/
def sxC (K : PySem.W.Frag) (C : Addr) : Bool := match K.lookup C with
  | some ⟨.type t, _, .cls cd, sl⟩ => decide (t = "type") && (cd.hasDict && (!cd.hasDel && ((match cd.mro with
    | .ref C' :: bm => decide (C' = C) && refsVE bm
    | _ => false) && (match sl.toList with
    | [_, _, _, _, some (.builtin n), _] => decide (n = "ValueError.__new__")
    | _ => false))))
  | _ => false
theorem sxC_ok {K : PySem.W.Frag} {C : Addr} (h : sxC K C = true) : ∃ nm q N bs bm sn sub ab col dd k0 k1 k2 k3 k5, K.lookup C = some (excClassObj nm q C N bs bm true sn sub ab col dd k0 k1 k2 k3 k5 "ValueError.__new__") ∧ refsVE bm = true := by
  unfold sxC at h
  split at h
  · rename_i t dd cd sl lk
    obtain ⟨h1, h⟩ := He.ba h
    obtain ⟨h2, h⟩ := He.ba h
    obtain ⟨h3, h⟩ := He.ba h
    obtain ⟨h4, h5⟩ := He.ba h
    split at h4
    · rename_i C' bm em
      obtain ⟨h6, h7⟩ := He.ba h4
      split at h5
      · rename_i k0 k1 k2 k3 n k5 es
        obtain ⟨nm, bs, mro, ns, qn, hd, sn, sub, ab, col, hdel⟩ := cd
        have e1 : t = "type" := of_decide_eq_true h1
        have e2 : hd = true := h2
        have e3 : hdel = false := by simpa using h3
        have e4 : mro = .ref C' :: bm := em
        have e5 : C' = C := of_decide_eq_true h6
        have e6 : n = "ValueError.__new__" := of_decide_eq_true h5
        have e7 : sl = #[k0, k1, k2, k3, some (.builtin n), k5] := by
          rw [← Array.toArray_toList (xs := sl), es]
        subst e1 e2 e3 e4 e5 e6 e7
        exact ⟨nm, qn, ns, bs, bm, sn, sub, ab, col, dd, k0, k1, k2, k3, k5, lk, h7⟩
      · cases h5
    · cases h4
  · cases h
/-- the function object of __init__ -/
def sxF (file : Str) (K : PySem.W.Frag) (C fI : Addr) (qual : Str) : Bool := match K.lookup fI with
  | some ⟨_, _, .func fd, _⟩ => (match fd.defaults with | .none => true | _ => false) && (PySem.W.codeIn K fd.code qual && ((match fd.code with
    | .ref cda => (match K.lookup cda with
      | some ⟨_, _, .fields vs, _⟩ => (match (vs[2]? : Option Value) with
        | some (.str f _) => file == f
        | _ => false)
      | _ => false)
    | _ => false) && (match fd.closure with
    | [(_, cc)] => (match K.lookup cc with
      | some ⟨_, _, .cell (some (.ref C')), _⟩ => decide (C' = C)
      | _ => false)
    | _ => false)))
  | _ => false
def inB (file : Str) (K : PySem.W.Frag) (d : InD) (names : List Str) : Bool :=
  sxC K (He.ga K d.cls) && (He.eqO (PySem.W.findIn K (.ref (He.ga K d.cls)) "__setattr__") (some (some (.builtin "object.__setattr__"))) &&
  (decide (PySem.W.subIn K (.ref (He.ga K d.cls)) (.type "BaseException") = some true) && (decide (PySem.W.typeIn K (.ref (He.ga K d.cls)) = some (.type "type")) &&
  (PySem.W.keepIn K (.ref (He.ga K d.cls)) && (He.eqO (PySem.W.findIn K (.ref (He.ga K d.cls)) "__init__") (some (some (.ref (d.at_ K)))) &&
  (decide (PySem.W.typeIn K (.ref (d.at_ K)) = some (.type "function")) && ((names.all fun n => He.eqO (PySem.W.findIn K (.ref (He.ga K d.cls)) n) (some none)) &&
  (He.eqO (PySem.W.ks_superIn K (He.ga K d.cls) (He.ga K d.cls) "__init__") (some (some (.builtin "ValueError.__init__"))) &&
  (decide (PySem.W.subIn K (.ref (He.ga K d.cls)) (.type "ValueError") = some true) && (He.eqO (PySem.W.nsIn K cStatics "thirdparty.any") (some none) &&
  (decide (PySem.W.mroIn K (He.ga K d.cls) (.ref (He.ga K d.cls)) = some true) && sxF file K (He.ga K d.cls) (d.at_ K) d.qual)))))))))))
/-- what the text of __init__ says -/
structure InS (d : InD) (names : List Str) : Prop where
  nd : names.Nodup
  tx : ∃ (msg : Str) (kk : Nat) (q0 q1 q2 q3 q4 q5 : Pos) (sts : List Stmt) (ar : Arg), d.body = supSt msg kk q0 q1 q2 q3 q4 q5 :: sts ∧ (q2.endLine == q4.line) = true ∧ FldSts names sts ∧ (d.params.posonlyargs ++ d.params.args).head? = some ar ∧ ar.arg = "self"
  s1 : d.scope.names.lookup ("super" : Str) = some .globalImplicit
  s2 : d.scope.names.lookup ("__class__" : Str) = some .free
  s3 : d.scope.names.lookup ("self" : Str) = some .local
  s4 : ∀ n ∈ names, d.scope.names.lookup n = some .local ∧ n ≠ "self"
  s5 : ∀ y ∈ d.scope.names, y.2 ≠ .cell
  s6 : d.scope.kind = .function ∧ d.scope.isCoroutine = false ∧ d.scope.isGenerator = false
  b : ∀ (kV doc pm : Value) (an : Option Addr) (cdv ct : Value) (cc : Addr) (s : Shared) (self : Value) (us : List Value), us.length = names.length → BindsTo s (PySem.W.ksFn "__init__" d.qual d.params d.body d.scope .none kV doc pm an cdv ct cc) ⟨self :: us, []⟩ (("self", self) :: names.zip us)
theorem in_sx {P : Program} {K : PySem.W.Frag} {mg : Str → Option Value} {d : InD} {names : List Str} (S : InS d names) (hb : inB P.main.file K d names = true) (hf : fnI K (d.at_ K) = d.val) (nsu : mg "super" = none) (top : (P.main.scope.names.lookup ("super" : Str)).isSome = false) :
    SxTxt P K mg (He.ga K d.cls) (d.at_ K) names := by
  unfold inB at hb
  obtain ⟨h1, hb⟩ := He.ba hb
  obtain ⟨h2, hb⟩ := He.ba hb
  obtain ⟨h3, hb⟩ := He.ba hb
  obtain ⟨h4, hb⟩ := He.ba hb
  obtain ⟨h5, hb⟩ := He.ba hb
  obtain ⟨h6, hb⟩ := He.ba hb
  obtain ⟨h7, hb⟩ := He.ba hb
  obtain ⟨h8, hb⟩ := He.ba hb
  obtain ⟨h9, hb⟩ := He.ba hb
  obtain ⟨h10, hb⟩ := He.ba hb
  obtain ⟨h11, hb⟩ := He.ba hb
  obtain ⟨h12, h13⟩ := He.ba hb
  refine ⟨sxC_ok h1, He.eqO_ok h2, of_decide_eq_true h3, of_decide_eq_true h4, h5, He.eqO_ok h6, of_decide_eq_true h7, fun n hn => He.eqO_ok (List.all_eq_true.mp h8 n hn), S.nd, He.eqO_ok h9, of_decide_eq_true h10, He.eqO_ok h11, of_decide_eq_true h12, nsu, top, ?_⟩
  unfold sxF at h13
  split at h13
  · rename_i oc od fd osl lk
    unfold fnI at hf
    rw [lk] at hf
    obtain ⟨n1, n2, n3, n4, n5, n6, n7, n8, n9, n10, n11, n12, n13, n14, n15⟩ := fd
    have e2 : (some (n1, n2, n3, n4, n5, n6, n7.map (·.1), n15) : FnI) = (some (("__init__" : Str), d.qual, d.params, FuncBody.stmts d.body, d.scope, mainGlobals, [("__class__" : Str)], builtinsNs) : FnI) := hf
    simp only [Option.some.injEq, Prod.mk.injEq] at e2
    obtain ⟨f1, f2, f3, f4, f5, f6, f7, f8⟩ := e2
    obtain ⟨k1, h13⟩ := He.ba h13
    obtain ⟨k2, h13⟩ := He.ba h13
    obtain ⟨k3, k4⟩ := He.ba h13
    have k2 : PySem.W.codeIn K n13 d.qual = true := k2
    split at k1
    · rename_i en8
      have en8 : n8 = .none := en8
      split at k3
      · rename_i cda ec
        have ec : n13 = .ref cda := ec
        split at k3
        · rename_i ccl cdd vs ccs lkc
          split at k3
          · rename_i file tf ev
            split at k4
            · rename_i xx cc ecl
              have ecl : n7 = [(xx, cc)] := ecl
              split at k4
              · rename_i cl cld C' csl lkcc
                have eC : C' = He.ga K d.cls := of_decide_eq_true k4
                have exx : xx = "__class__" := by rw [ecl] at f7; simpa using f7
                subst exx eC en8 ec ecl f1 f2 f3 f4 f5 f6 f8
                obtain ⟨msg, kk, q0, q1, q2, q3, q4, q5, sts, ar, t1, t2, t3, t4, t5⟩ := S.tx
                have sb := S.b
                rw [t1] at lk sb
                exact ⟨d.params, msg, kk, q0, q1, q2, q3, q4, q5, sts, d.scope, ar, oc, od, .none, n9, n10, n11, n12, cda, n14, cc, osl, d.qual, ccl, cl, cdd, cld, ccs, csl, vs, file, tf, lk, k2, lkc, ev, k3, lkcc, t2, t3, t4, t5, S.s1, S.s2, S.s3, S.s4, S.s5, S.s6.1, S.s6.2.1, S.s6.2.2, fun s self us hu => sb _ _ _ _ _ _ _ s self us hu⟩
              · cases k4
            · cases k4
          · cases k3
        · cases k3
      · cases k3
    · cases k1
  · cases h13
def insB (K : PySem.W.Frag) (C : Addr) : Bool := He.eqO (PySem.W.findIn K (.ref C) "__class__") (some (some (.builtin "object.__class__"))) && (He.eqO (PySem.W.specialIn K (.builtin "object.__class__") "__get__") (some (some (.builtin "getset_descriptor.__get__"))) &&
  (decide (PySem.W.takesIn K (.builtin "object.__class__") = some true) && decide (PySem.W.mroIn K C (.type "object") = some true)))
theorem insB_ok {K : PySem.W.Frag} {C : Addr} (c : Cls K C) (h : insB K C = true) : InsTy K C := by
  unfold insB at h
  obtain ⟨h1, h⟩ := He.ba h
  obtain ⟨h2, h⟩ := He.ba h
  obtain ⟨h3, h4⟩ := He.ba h
  exact ⟨c, He.eqO_ok h1, He.eqO_ok h2, of_decide_eq_true h3, of_decide_eq_true h4⟩
def exB (K : PySem.W.Frag) (C : Addr) : Bool := He.eqO (PySem.W.findIn K (.ref C) "__getattribute__") (some (some (.builtin "BaseException.__getattribute__"))) && (He.eqO (PySem.W.findIn K (.ref C) "__getattr__") (some none) &&
  (decide (PySem.W.subIn K (.ref C) (.type "BaseException") = some true) && (PySem.W.hasDictIn K C && insB K C)))
theorem exB_ok {K : PySem.W.Frag} {C : Addr} (h : exB K C = true) : ExcC K C := by
  unfold exB insB at h
  obtain ⟨h1, h⟩ := He.ba h
  obtain ⟨h2, h⟩ := He.ba h
  obtain ⟨h3, h⟩ := He.ba h
  obtain ⟨h4, h⟩ := He.ba h
  obtain ⟨h5, h⟩ := He.ba h
  obtain ⟨h6, h⟩ := He.ba h
  obtain ⟨h7, h8⟩ := He.ba h
  exact ⟨He.eqO_ok h1, He.eqO_ok h2, of_decide_eq_true h3, h4, He.eqO_ok h5, He.eqO_ok h6, of_decide_eq_true h7, of_decide_eq_true h8⟩
def kitB (K : PySem.W.Frag) (t c : Value) (b : Bool) : Bool := decide (PySem.W.kitOne K t c = some b)
theorem kitB_ok {K : PySem.W.Frag} {t c : Value} {b : Bool} (h : kitB K t c b = true) : PySem.W.kitOne K t c = some b := of_decide_eq_true h
def isTB (K : PySem.W.Frag) (t n : String) (b : Bool) : Bool := kitB K (.type t) (.type n) b
theorem isTB_ok {K : PySem.W.Frag} {t n : String} {b : Bool} (h : isTB K t n b = true) : isCD K (.type t) (.ty n) = some b := kitB_ok h
def isCB (K : PySem.W.Frag) (t : Value) (C : Addr) (b : Bool) : Bool := (K.lookup C).isSome && kitB K t (.ref C) b
theorem isCB_ok {K : PySem.W.Frag} {t : Value} {C : Addr} {b : Bool} (h : isCB K t C b = true) : isCD K t (.adr C) = some b := by
  obtain ⟨h1, h2⟩ := He.ba h
  show (match (K.lookup C).isSome with | true => PySem.W.kitOne K t (.ref C) | false => none) = _
  rw [h1]
  exact kitB_ok h2
theorem all_at {l : List Bool} (h : l.all id = true) (i : Nat) {b : Bool} (e : l[i]? = some b) : b = true := List.all_eq_true.mp h b (List.mem_of_getElem? e)
section
variable {K : PySem.W.Frag} {x qual : Str} {st : Stmt} {fd : FuncData}
theorem fun_of {f : Addr} (F : FunD K x qual (defArgs st) (defBody st) (defScope st) [] [] f fd) : Fun K x qual st f fd := by
  obtain ⟨oc, od, dV, kV, doc, pm, an, cdv, ct, osl, e, lk, hc, hD, hK⟩ := F.ex
  rcases hD with ⟨_, rfl⟩ | ⟨ne, _⟩
  · exact ⟨⟨oc, od, kV, doc, pm, an, cdv, ct, osl, e, lk, hc⟩, F.kp⟩
  · exact absurd rfl ne
theorem code_of {p : Str × Option Str} {params : Arguments} {body : List Stmt} {scope : Scope} (F : FunD K x qual params body scope [] [] (He.fAd K p) fd) : fd.code = .ref (He.codeOf K p) := by
  obtain ⟨oc, od, dV, kV, doc, pm, an, cdv, ct, osl, e, lk, hc, hD, hK⟩ := F.ex
  obtain ⟨c, ec⟩ := He.codeIn_ref hc
  have e2 : fd.code = .ref c := by rw [e, ← ec]
  rw [e2, He.codeOf_eq lk e2]
def fdOf (K : PySem.W.Frag) (p : Str × Option Str) : FuncData := match K.lookup (He.fAd K p) with
  | some ⟨_, _, .func fd, _⟩ => fd
  | _ => default
theorem fd_of {p : Str × Option Str} {params : Arguments} {body : List Stmt} {scope : Scope} (F : FunD K x qual params body scope [] [] (He.fAd K p) fd) : fd = fdOf K p := by
  obtain ⟨oc, od, dV, kV, doc, pm, an, cdv, ct, osl, e, lk, hc, hD, hK⟩ := F.ex
  unfold fdOf
  rw [lk]
end
structure Hd where
  n : Nat
  fa : List He.Fa
  fn : List He.DefD
  is : List InD
  tf : List He.Defn
  ex : PySem.W.Frag → Bool
def asZ (g : Addr → Option Obj) (n : Nat) : List Addr := He.asD g n ++ [cStatics]
abbrev AlZ : Type := (He.AlD × List FnI) × Bool
def obsK (z : Hd) (g : Addr → Option Obj) (K : PySem.W.Frag) : AlZ := ((He.obsD z.fa z.fn K, z.is.map fun d => fnI K (d.at_ K)), z.ex K && He.tabsB g z.tf K)
def obsZ (z : Hd) (g : Addr → Option Obj) : AlZ := obsK z g (He.frT g (asZ g z.n))
def valZ (z : Hd) : AlZ := ((He.valD z.fn, z.is.map InD.val), true)
structure SaysZ (z : Hd) (h : Heap) (K : PySem.W.Frag) : Prop where
  d : He.SaysD z.fa z.fn K
  i : z.is.map (fun d => fnI K (d.at_ K)) = z.is.map InD.val
  more : z.ex K = true
  hd : ∀ p ∈ z.tf, PySem.W.codeHdIn K (He.cT K p).1 (He.cT K p).2 = true
  out : ∀ p ∈ z.tf, K.lookup (He.cT K p).2 = none
  empty : ∀ p ∈ z.tf, h.get? (He.cT K p).2 = some { cls := .none, data := .fields #[] }
theorem saysZ_of {z : Hd} {h : Heap} (e : obsZ z h.get? = valZ z) : SaysZ z h (He.frT h.get? (asZ h.get? z.n)) := by
  unfold obsZ at e
  obtain ⟨K, hK⟩ : ∃ K, K = He.frT h.get? (asZ h.get? z.n) := ⟨_, rfl⟩
  have e1 : He.obsD z.fa z.fn K = He.valD z.fn := by rw [hK]; exact congrArg (fun q : AlZ => q.1.1) e
  have e3 : z.is.map (fun d => fnI K (d.at_ K)) = z.is.map InD.val := by rw [hK]; exact congrArg (fun q : AlZ => q.1.2) e
  have e2 : (z.ex K && He.tabsB h.get? z.tf K) = true := by rw [hK]; exact congrArg (fun q : AlZ => q.2) e
  obtain ⟨h1, h2⟩ := He.ba e2
  have key : ∀ p ∈ z.tf, PySem.W.codeHdIn K (He.cT K p).1 (He.cT K p).2 = true ∧ ∃ o, h.get? (He.cT K p).2 = some o ∧ He.emptyTab o = true := fun p hp => by
    obtain ⟨h3, h4⟩ := He.ba (List.all_eq_true.mp h2 p hp)
    refine ⟨h3, ?_⟩
    cases q : h.get? (He.cT K p).2 with
    | none => rw [q] at h4; cases h4
    | some o => rw [q] at h4; exact ⟨o, rfl, h4⟩
  rw [← hK]
  exact ⟨e1, e3, h1, fun p hp => (key p hp).1, fun p hp => by
    obtain ⟨_, o, q, t⟩ := key p hp
    have z := He.frT_none (as := asZ h.get? z.n) q t
    rw [← hK] at z
    exact z, fun p hp => by
    obtain ⟨_, o, q, t⟩ := key p hp
    rw [q, He.emptyTab_eq t]⟩
def hookZ (z : Hd) : PySem.W.Hook where
  α := AlZ
  obs := fun s => obsZ z s.heap.get?
  val := fun _ => valZ z
  says := fun _ h => ∃ K : PySem.W.Frag, K.In h ∧ SaysZ z h K
  of := fun _ _ e => ⟨_, He.frT_in, saysZ_of e⟩
  keeps := fun _ _ _ ⟨K, hK, c⟩ k => ⟨K, PySem.W.Frag.In.keeps hK k, c.d, c.i, c.more, c.hd, c.out, fun p hp => k _ _ (c.empty p hp)⟩
theorem obsZ_eq {z : Hd} {g : Addr → Option Obj} {s : Shared} (h : ∀ a, g a = s.heap.get? a) : obsZ z g = (hookZ z).obs s := by
  have e : g = s.heap.get? := funext h
  rw [e] <;> rfl
theorem SaysZ.ini {z : Hd} {h : Heap} {K : PySem.W.Frag} (c : SaysZ z h K) (i : Nat) {d : InD} (hd : z.is[i]? = some d) : fnI K (d.at_ K) = d.val := by
  have e2 : (z.is.map fun d => fnI K (d.at_ K))[i]? = (z.is.map InD.val)[i]? := by rw [c.i]
  rw [List.getElem?_map, List.getElem?_map, hd] at e2
  exact Option.some.inj e2
section
variable {P : Program} {w : World} {K : PySem.W.Frag} {mg : Str → Option Value} {base : Heap}
theorem fnok_of {x qual : Str} {st : Stmt} {f : Addr} {fd : FuncData} {N ps : List Str} {k : Nat} {rd : XK → TS} (F : Fun K x qual st f fd) (S : FnScope N ps (defScope st))
    (hbody : ∀ (cdv : Value) (A : Around) (outer : List Env) (s : Shared) (H : Hp) (E : XK), Room k (A.deeper (envOfC qual (defScope st) s.heap.objs.size f cdv)) →
      PSs (cxOf (L2.CX P w) P w K mg base N qual (defScope st) f cdv A outer s H E) (defBody st) (rd E)) : FnOk P w K mg base (L2.CX P w) (k + 1) f fd ps (spR N ps.length rd) :=
  F.okX S (fun vs H Q E h => h.1) fun cdv A outer s H vs Q E hr h => ⟨rd E, hbody cdv A outer s H E hr, h.2⟩
theorem fnok_ofC {x qual : Str} {st : Stmt} {f cd : Addr} {fd : FuncData} {N ps : List Str} {k : Nat} {rd : XK → TS} (F : Fun K x qual st f fd) (hc : fd.code = .ref cd) (S : FnScope N ps (defScope st))
    (hbody : ∀ (A : Around) (outer : List Env) (s : Shared) (H : Hp) (E : XK), Room k (A.deeper (envOfC qual (defScope st) s.heap.objs.size f (.ref cd))) →
      PSs (cxOf (L2.CX P w) P w K mg base N qual (defScope st) f (.ref cd) A outer s H E) (defBody st) (rd E)) : FnOk P w K mg base (L2.CX P w) (k + 1) f fd ps (spR N ps.length rd) := by
  obtain ⟨oc, od, kV, doc, pm, an, cdv, ct, osl, rfl, lk, hcd⟩ := F.ex
  obtain rfl : cdv = .ref cd := hc
  exact fn_of lk hcd S (fun vs H Q E h => h.1) fun A outer s H vs Q E hr h => ⟨rd E, hbody A outer s H E hr, h.2⟩
end
end Fs

namespace Fs
open PySem PySem.Spec PyProof.Rows L2
def rdPen (K : PySem.W.Frag) : TS := tRet (tLst (tCons (tCB mLst (tCons (L2.tSl (rSlG K) (tV 0) tNoPart (tPa (tC (.int 63)))) tNil)) (tCons (tC (.int 0)) (tCons (tC (.int 0)) tNil))))
theorem cut63 {α : Type} (f : α → V) (xs : List α) (h : xs.length ≤ 63) : cutV (xs.map f) none (some 63) = xs.map f := by
  unfold cutV
  have e1 : HT.sIx (xs.map f).length 0 none = 0 := rfl
  have e2 : HT.sIx (xs.map f).length (xs.map f).length (some 63) = xs.length := by
    have := HT.sIx_nat (xs.map f).length (xs.map f).length 63
    rw [show (some 63 : Option Int) = some ((63 : Nat) : Int) from rfl, this, List.length_map]
    omega
  rw [e1, e2, List.drop_zero, Nat.sub_zero, List.take_of_length_le (by rw [List.length_map]; exact Nat.le_refl _)]
theorem tabs_empty {T : List (Addr × Str)} {H : Hp} (h : ∀ t ∈ T, H t.1 = some (.tbl #[])) : LamX.Tabs T H := fun t ht => ⟨#[], h t ht, by first | exact trivial | (intro x hx; cases hx) | decide, fun pos cv hc => by cases hc⟩
/-- the law's promise, from what it computes behind the pen -/
theorem law_sp {K : PySem.W.Frag} {T : List (Addr × Str)} {H : Hp} {a : Addr} {ns : List Int} {Np N : List Str} {rt : XK → TS} {f : PenA → Rho → M PenS Out}
    (hn : 2 ≤ N.length) (hT : ∀ t ∈ T, H t.1 = some (.tbl #[])) (hS : SqL K H a (ns.map V.int)) (hl : ns.length ≤ 63) (hb : ∀ z ∈ ns, Builtin.Int.intBits z ≤ 1048576)
    (S : ∀ L : PenA, L.T = T → L.p ≠ L.c → (∀ t ∈ L.T, L.p ≠ t.1) → StD (penC K L) rt (f L))
    (R : ∀ L : PenA, L.T = T → L.p ≠ L.c → (∀ t ∈ L.T, L.p ≠ t.1) → L.cells = ns → ∃ s', f L (.no :: .val (.adr L.p) :: List.replicate (N.length - 2) .no) ⟨0, 0⟩ = .ok (.rt (.bl true)) s') :
    spR N 1 (fun E => tSeq (tAsg (tCallF (spR Np 1 fun _ => rdPen K) E (tCons (tV 0) tNil)) (gName 1)) (rt E)) [.ref a] H (fun v _ => v = .bl true) fun _ _ _ => False := by
  obtain ⟨σ, hσ⟩ : ∃ σ, σ = start N [V.ref a] := ⟨_, rfl⟩
  have lσ : σ.length = N.length := by
    rw [hσ]
    simp only [L2.start, List.length_append, List.length_map, List.length_replicate, List.length_cons, List.length_nil]
    omega
  have z0 : σ[0]? = some (some (.ref a)) := by rw [hσ]; rfl
  refine ⟨rfl, ?_⟩
  rw [← hσ]
  show tV 0 σ H _
  unfold tV
  rw [z0]
  refine ⟨rfl, ?_⟩
  show tV 0 (L2.start Np [V.ref a]) H (fun x H1 => rSlG K x none (some 63) H1 _)
  have z1 : (L2.start Np [V.ref a])[0]? = some (some (.ref a)) := rfl
  unfold tV
  rw [z1]
  refine .inl ⟨a, ns.map V.int, rfl, hS, fun p0 hp0 => ?_⟩
  rw [cut63 V.int ns hl]
  have x0 : Ext All H (upd H p0 (.lst (ns.map V.int))) := Ext.new hp0
  have k0 : look (upd H p0 (.lst (ns.map V.int))) p0 = some (.lst (ns.map V.int)) := look_upd (by intro w u z; cases z)
  show mLst [.ref p0] (upd H p0 (.lst (ns.map V.int))) _
  unfold mLst one
  simp only [k0]
  intro c hc
  have x1 : Ext All (upd H p0 (.lst (ns.map V.int))) (upd (upd H p0 (.lst (ns.map V.int))) c (.lst (ns.map V.int))) := Ext.new hc
  have ec : (upd (upd H p0 (.lst (ns.map V.int))) c (.lst (ns.map V.int))) c = some (.lst (ns.map V.int)) := upd_same
  have x01 := x0.trans x1
  generalize upd (upd H p0 (.lst (ns.map V.int))) c (.lst (ns.map V.int)) = H2 at *
  refine ⟨by show 3 ≤ sizeLine; decide, fun p hp => ?_⟩
  have x2 : Ext All H2 (upd H2 p (.lst [.ref c, .int 0, .int 0])) := Ext.new hp
  have x02 := x01.trans x2
  have hpc : p ≠ c := fun e => by rw [e, ec] at hp; cases hp
  have hT2 : ∀ t ∈ T, (upd H2 p (.lst [.ref c, .int 0, .int 0])) t.1 = some (.tbl #[]) := fun t ht => x02.1 _ _ trivial (hT t ht)
  have hpT : ∀ t ∈ T, p ≠ t.1 := fun t ht e => by
    have := hT2 t ht
    rw [← e, upd_same] at this
    cases this
  have hcT : ∀ t ∈ T, c ≠ t.1 := fun t ht e => by
    have h1 := x01.1 _ _ trivial (hT t ht)
    rw [← e, ec] at h1
    cases h1
  obtain ⟨L, hL⟩ : ∃ L : PenA, L = ⟨p, c, ns, T⟩ := ⟨_, rfl⟩
  have hc3 : (upd H2 p (.lst [.ref c, .int 0, .int 0])) c = some (.lst (ns.map V.int)) := by rw [upd_ne (Ne.symm hpc)]; exact ec
  have hp3 : (upd H2 p (.lst [.ref c, .int 0, .int 0])) p = some (.lst [.ref c, .int 0, .int 0]) := upd_same
  generalize upd H2 p (.lst [.ref c, .int 0, .int 0]) = H3 at *
  have I : (penC K L).I ⟨0, 0⟩ H3 := by rw [hL]; exact ⟨hp3, hc3, tabs_empty hT2⟩
  have nw : ∀ b, H3 b = none → (penC K L).ok b := fun b hb => by
    rw [hL]
    refine ⟨⟨fun e => ?_, fun t ht e => ?_⟩, fun e => ?_⟩
    · rw [e, hp3] at hb; cases hb
    · rw [e, hT2 t ht] at hb; cases hb
    · rw [e, hc3] at hb; cases hb
  obtain ⟨s', hr⟩ := R L (by rw [hL]) (by rw [hL]; exact hpc) (by rw [hL]; exact hpT) (by rw [hL])
  have rel : Rel (penC K L).toPl ⟨H3, (penC K L).ok, none⟩ (penC K L).ok (.no :: .val (.adr L.p) :: List.replicate (N.length - 2) .no) (σ.set 1 (some (.ref p))) H3 := by
    refine ⟨?_, Ext.refl _ _, nw, nw, fun _ h => h, fun _ h => h, fun i sl e => ?_, fun i j oi oj b e1 e2 _ _ => ?_⟩
    · simp only [List.length_cons, List.length_replicate, List.length_set]
      omega
    · cases i with
      | zero => cases e; trivial
      | succ i =>
        cases i with
        | zero =>
          cases e
          refine ⟨.ref p, List.getElem?_set_self (by omega), ?_⟩
          rw [hL]
          exact .adr p
        | succ i =>
          have e : (List.replicate (N.length - 2) Sl.no)[i]? = some sl := e
          rw [List.getElem?_replicate] at e
          split at e
          · cases e; trivial
          · cases e
    · cases i with
      | zero => cases e1
      | succ i =>
        cases i with
        | zero => cases e1
        | succ i =>
          have e : (List.replicate (N.length - 2) Sl.no)[i]? = some (.own oi) := e1
          rw [List.getElem?_replicate] at e
          split at e <;> cases e
  refine S L (by rw [hL]) (by rw [hL]; exact hpc) (by rw [hL]; exact hpT) ⟨H3, (penC K L).ok, none⟩ (penC K L).ok _ _ H3 ⟨0, 0⟩ _ _ rel I ?_
  rw [hr]
  intro A1 v H1 hv _ _ _
  cases hv
  rfl
theorem bits_nat {z : Int} {n : Nat} (h : Builtin.Int.intBits z ≤ n) : z.natAbs < 2 ^ n := by
  unfold Builtin.Int.intBits at h
  split at h
  · rename_i e
    have : z.natAbs = 0 := by simpa using e
    rw [this]
    exact Nat.two_pow_pos n
  · exact Nat.lt_of_lt_of_le Nat.lt_log2_self (Nat.pow_le_pow_right (by decide) h)
end Fs

namespace Rk94
open PySem L2 Fs
structure Ad where
  f_StuckU_initU : Addr
  f_L_draw : Addr
  f_L_pick : Addr
  f_L_bent : Addr
  f_L_heard : Addr
  f_L_pen : Addr
  f_L_is_name : Addr
  f_L_is_shelf : Addr
  f_L_is_whole : Addr
  f_L_safe_due : Addr
  f_L_stuck_due : Addr
  f_SafeU_initU : Addr
  f_is_name : Addr
  f_is_shelf : Addr
  f_is_figures : Addr
  f_is_whole : Addr
  f_need_string : Addr
  f_words_of_line : Addr
  f_read_safe : Addr
  f_FillU_initU : Addr
  f_read_fill : Addr
  f_read_stuck : Addr
  f_is_integer : Addr
  f_is_numbers : Addr
  f_pairs_text : Addr
  f_write_safe : Addr
  f_is_fill : Addr
  f_write_stuck : Addr
  f_L_right : Addr
  f_law : Addr
  c_BadPaper : Addr
  c_BadText : Addr
  c_Fill : Addr
  c_Safe : Addr
  c_ShelfError : Addr
  c_Stuck : Addr
  i_BadPaper : Addr
  i_BadText : Addr
  cd_L_right : Addr
  tb_L_right : Addr
  cd_law : Addr
  tb_law : Addr
  d_L_heard : FuncData
  dummy : Addr
abbrev Ad.tabs (A : Ad) : List (Addr × Str) := [(A.tb_L_right, ("_law_right" ++ ".<locals>.") ++ "<lambda>"), (A.tb_law, ("law" ++ ".<locals>.") ++ "<lambda>")]
def v_GREATEST : Int := 1000000000000000000000000000000000000000000000000000000000000
def v_LONGEST_checks : Int := 8
def v_LONGEST_reader : Int := 60
/-- Stuck.__init__ -/
abbrev N_StuckU_initU : List Str := ["self", "fills"]
def rd_StuckU_initU (K : PySem.W.Frag) (A : Ad) (E : XK) : TS :=
  (sFld K (tV 0) (tV 1) "fills")
abbrev sp_StuckU_initU (K : PySem.W.Frag) (A : Ad) : Sp := spR N_StuckU_initU 2 (rd_StuckU_initU K A)
noncomputable def b_StuckU_initU {S : Type} (K : PySem.W.Frag) (A : Ad) : Rho → M S Out :=
  (ySetF K 0 "fills" (xV 1))
theorem S_StuckU_initU {S : Type} {C : Cfg S} {K : PySem.W.Frag} {A : Ad} : StD C (fun E => rd_StuckU_initU K A E) (b_StuckU_initU K A) :=
  (d_setF (e_var 1))
/-- _law_draw -/
abbrev N_L_draw : List Str := ["_law_pen_here", "_law_many", "_law_digit", "_law_used", "_law_cell", "_law_great", "_law_mixed"]
def rd_L_draw (K : PySem.W.Frag) (A : Ad) (E : XK) : TS :=
  (tSeq (sIf (tTs (tOp mGt (tOp mIx (tV 0) (tC (.int 2))) (tC (.int 0)))) (tSeq (tAsg (tOp mMod (tCB mIntT (tCons (tOp mIx (tV 0) (tC (.int 2))) tNil)) (tV 1)) (gName 2))
  (tSeq (tAsg (tOp mFdv (tCB mIntT (tCons (tOp mIx (tV 0) (tC (.int 2))) tNil)) (tV 1)) (gSub (tV 0) (tC (.int 2)) rSetL))
  (tRet (tV 2)))) tNext)
  (tSeq (tAsg (tOp mIx (tV 0) (tC (.int 1))) (gName 3))
  (tSeq (tAsg (tOp (mAdd K) (tV 3) (tC (.int 1))) (gSub (tV 0) (tC (.int 1)) rSetL))
  (tSeq (tAsg (tOp (mAdd K) (tOp mMul (tC (.int 109941)) (tV 3)) (tC (.int 6825))) (gName 4))
  (tSeq (sIf (tTs (tOp (mNeA K) (tOp mIx (tV 0) (tC (.int 0))) (tLst tNil))) (tAsg (tOp mIx (tOp mIx (tV 0) (tC (.int 0))) (tOp mMod (tCB mIntT (tCons (tV 3) tNil)) (tCB mLen (tCons (tOp mIx (tV 0) (tC (.int 0))) tNil)))) (gName 4)) tNext)
  (tSeq (sIf (tAn (tTs (tOp mLt (tV 3) (tCB mLen (tCons (tOp mIx (tV 0) (tC (.int 0))) tNil)))) (tTs (tOp mGe (tCB mAbs (tCons (tV 4) tNil)) (tOp mPow (tC (.int 10)) (tC (.int 18)))))) (tSeq (tAsg (tOp (mAdd K) (tOp mMul (tC (.int 2)) (tOp mSub (tCB mAbs (tCons (tV 4) tNil)) (tOp mPow (tC (.int 10)) (tC (.int 18))))) (tCB mIntT (tCons (tOp mLt (tV 4) (tC (.int 0))) tNil))) (gName 5))
  (tSeq (tAsg (tOp mFdv (tCB mIntT (tCons (tV 5) tNil)) (tV 1)) (gSub (tV 0) (tC (.int 2)) rSetL))
  (tRet (tOp mMod (tCB mIntT (tCons (tV 5) tNil)) (tV 1))))) tNext)
  (tSeq (tAsg (tOp mMod (tCB mIntT (tCons (tOp mPow (tOp (mAdd K) (tOp (mAdd K) (tOp mMod (tCB mIntT (tCons (tV 4) tNil)) (tC (.int 2147483549))) (tOp mMul (tC (.int 76275)) (tV 3))) (tC (.int 3307))) (tC (.int 5))) tNil)) (tC (.int 2147483629))) (gName 6))
  (tSeq (tAsg (tOp mMod (tCB mIntT (tCons (tOp mPow (tOp (mAdd K) (tOp (mAdd K) (tOp mMul (tV 6) (tOp (mAdd K) (tOp mMul (tC (.int 2)) (tV 3)) (tC (.int 489)))) (tOp mMul (tOp mMul (tC (.int 60331)) (tV 3)) (tV 3))) (tC (.int 775))) (tC (.int 3))) tNil)) (tC (.int 2147483587))) (gName 6))
  (tRet (tOp mMod (tCB mIntT (tCons (tOp mFdv (tV 6) (tC (.int 32))) tNil)) (tV 1)))))))))))
abbrev sp_L_draw (K : PySem.W.Frag) (A : Ad) : Sp := spR N_L_draw 2 (rd_L_draw K A)
noncomputable def b_L_draw (K : PySem.W.Frag) (A : Ad) (L : PenA) : Rho → M PenS Out :=
  (ySeq (yIf (xT (xOp dGt (xPen L 0 PenS.rest) (xC (.int 0)))) (ySeq (yAsg (xOp dMod (xCa dInt (xCons (xPen L 0 PenS.rest) xNil)) (xV 1)) (gV 2))
  (ySeq (yPen L 0 (fun s n => ⟨s.used, n⟩) (xOp dFdv (xCa dInt (xCons (xPen L 0 PenS.rest) xNil)) (xV 1)))
  (yRet (xV 2)))) yNx)
  (ySeq (yAsg (xPen L 0 PenS.used) (gV 3))
  (ySeq (yPen L 0 (fun s n => ⟨n, s.rest⟩) (xOp dAdd (xV 3) (xC (.int 1))))
  (ySeq (yAsg (xOp dAdd (xOp dMul (xC (.int 109941)) (xV 3)) (xC (.int 6825))) (gV 4))
  (ySeq (yIf (xPenNe L 0) (yAsg (xPenCell L 0 (xOp dMod (xCa dInt (xCons (xV 3) xNil)) (xPenLen L 0))) (gV 4)) yNx)
  (ySeq (yIf (xAnd (xT (xOp dLt (xV 3) (xPenLen L 0))) (xT (xOp dGe (xCa dAbs (xCons (xV 4) xNil)) (xOp dPow (xC (.int 10)) (xC (.int 18)))))) (ySeq (yAsg (xOp dAdd (xOp dMul (xC (.int 2)) (xOp dSub (xCa dAbs (xCons (xV 4) xNil)) (xOp dPow (xC (.int 10)) (xC (.int 18))))) (xCa dInt (xCons (xOp dLt (xV 4) (xC (.int 0))) xNil))) (gV 5))
  (ySeq (yPen L 0 (fun s n => ⟨s.used, n⟩) (xOp dFdv (xCa dInt (xCons (xV 5) xNil)) (xV 1)))
  (yRet (xOp dMod (xCa dInt (xCons (xV 5) xNil)) (xV 1))))) yNx)
  (ySeq (yAsg (xOp dMod (xCa dInt (xCons (xOp dPow (xOp dAdd (xOp dAdd (xOp dMod (xCa dInt (xCons (xV 4) xNil)) (xC (.int 2147483549))) (xOp dMul (xC (.int 76275)) (xV 3))) (xC (.int 3307))) (xC (.int 5))) xNil)) (xC (.int 2147483629))) (gV 6))
  (ySeq (yAsg (xOp dMod (xCa dInt (xCons (xOp dPow (xOp dAdd (xOp dAdd (xOp dMul (xV 6) (xOp dAdd (xOp dMul (xC (.int 2)) (xV 3)) (xC (.int 489)))) (xOp dMul (xOp dMul (xC (.int 60331)) (xV 3)) (xV 3))) (xC (.int 775))) (xC (.int 3))) xNil)) (xC (.int 2147483587))) (gV 6))
  (yRet (xOp dMod (xCa dInt (xCons (xOp dFdv (xV 6) (xC (.int 32))) xNil)) (xV 1)))))))))))
theorem S_L_draw {K : PySem.W.Frag} {A : Ad} {L : PenA} (hpc : L.p ≠ L.c) (hpt : ∀ t ∈ L.T, L.p ≠ t.1) : StD (penC K L) (fun E => rd_L_draw K A E) (b_L_draw K A L) :=
  (d_seq (d_if (e_test (e_op o_gt e_pen2 e_int)) (d_seq (d_asg (e_op o_mod (e_ca c_int (a_cons e_pen2 a_nil)) (e_var 1)) (g_name (vs := [2]) (by decide)))
  (d_seq (d_penSet (k := 2) (j := 2) (e_op o_fdv (e_ca c_int (a_cons e_pen2 a_nil)) (e_var 1)) rfl (fun _ _ => rfl) hpc hpt)
  (d_ret (e_var 2)))) d_nx)
  (d_seq (d_asg e_pen1 (g_name (vs := [3]) (by decide)))
  (d_seq (d_penSet (k := 1) (j := 1) (e_op o_add (e_var 3) e_int) rfl (fun _ _ => rfl) hpc hpt)
  (d_seq (d_asg (e_op o_add (e_op o_mul e_int (e_var 3)) e_int) (g_name (vs := [4]) (by decide)))
  (d_seq (d_if e_penNe (d_asg (e_penCell (e_op o_mod (e_ca c_int (a_cons (e_var 3) a_nil)) e_penLen)) (g_name (vs := [4]) (by decide))) d_nx)
  (d_seq (d_if (e_and (e_test (e_op o_lt (e_var 3) e_penLen)) (e_test (e_op o_ge (e_ca c_abs (a_cons (e_var 4) a_nil)) (e_op o_pow e_int e_int)))) (d_seq (d_asg (e_op o_add (e_op o_mul e_int (e_op o_sub (e_ca c_abs (a_cons (e_var 4) a_nil)) (e_op o_pow e_int e_int))) (e_ca c_int (a_cons (e_op o_lt (e_var 4) e_int) a_nil))) (g_name (vs := [5]) (by decide)))
  (d_seq (d_penSet (k := 2) (j := 2) (e_op o_fdv (e_ca c_int (a_cons (e_var 5) a_nil)) (e_var 1)) rfl (fun _ _ => rfl) hpc hpt)
  (d_ret (e_op o_mod (e_ca c_int (a_cons (e_var 5) a_nil)) (e_var 1))))) d_nx)
  (d_seq (d_asg (e_op o_mod (e_ca c_int (a_cons (e_op o_pow (e_op o_add (e_op o_add (e_op o_mod (e_ca c_int (a_cons (e_var 4) a_nil)) e_int) (e_op o_mul e_int (e_var 3))) e_int) e_int) a_nil)) e_int) (g_name (vs := [6]) (by decide)))
  (d_seq (d_asg (e_op o_mod (e_ca c_int (a_cons (e_op o_pow (e_op o_add (e_op o_add (e_op o_mul (e_var 6) (e_op o_add (e_op o_mul e_int (e_var 3)) e_int)) (e_op o_mul (e_op o_mul e_int (e_var 3)) (e_var 3))) e_int) e_int) a_nil)) e_int) (g_name (vs := [6]) (by decide)))
  (d_ret (e_op o_mod (e_ca c_int (a_cons (e_op o_fdv (e_var 6) e_int) a_nil)) (e_var 1)))))))))))
theorem SP_L_draw {K : PySem.W.Frag} {A : Ad} {L : PenA} (hpc : L.p ≠ L.c) (hpt : ∀ t ∈ L.T, L.p ≠ t.1) : SpD (penC K L) (sp_L_draw K A) (runD 7 2 (b_L_draw K A L)) := sp_run (N := N_L_draw) (by decide) (S_L_draw hpc hpt)
/-- _law_pick -/
abbrev N_L_pick : List Str := ["_law_pen_here", "_law_some"]
def rd_L_pick (K : PySem.W.Frag) (A : Ad) (E : XK) : TS :=
  (tRet (tOp mIx (tV 1) (tCallF (sp_L_draw K A) E (tCons (tV 0) (tCons (tCB mLen (tCons (tV 1) tNil)) tNil)))))
abbrev sp_L_pick (K : PySem.W.Frag) (A : Ad) : Sp := spR N_L_pick 2 (rd_L_pick K A)
noncomputable def b_L_pick {S : Type} (K : PySem.W.Frag) (A : Ad) (mm_L_draw : List D → M S D) : Rho → M S Out :=
  (yRet (xOp dIx (xV 1) (xF mm_L_draw (xCons (xV 0) (xCons (xCa dLen (xCons (xV 1) xNil)) xNil)))))
theorem S_L_pick {S : Type} {C : Cfg S} {K : PySem.W.Frag} {A : Ad} {mm_L_draw : List D → M S D} (h_L_draw : SpD C (sp_L_draw K A) mm_L_draw) : StD C (fun E => rd_L_pick K A E) (b_L_pick K A mm_L_draw) :=
  (d_ret (e_op o_ix (e_var 1) (e_call h_L_draw (a_cons (e_var 0) (a_cons (e_ca c_len (a_cons (e_var 1) a_nil)) a_nil)))))
theorem SP_L_pick {S : Type} {C : Cfg S} {K : PySem.W.Frag} {A : Ad} {mm_L_draw : List D → M S D} (h_L_draw : SpD C (sp_L_draw K A) mm_L_draw) : SpD C (sp_L_pick K A) (runD 2 2 (b_L_pick K A mm_L_draw)) := sp_run (N := N_L_pick) (by decide) (S_L_pick h_L_draw)
/-- _law_bent -/
abbrev N_L_bent : List Str := ["_law_pen_here", "_law_text_so", "_law_lines", "_law_way", "_law_at", "_law_words", "_law_spot", "_law_odd"]
def rd_L_bent (K : PySem.W.Frag) (A : Ad) (E : XK) : TS :=
  (tSeq (tPar 2 3 (tCons (tM1 rSplit (tV 1) (tC (.str "\n"))) (tCons (tCallF (sp_L_draw K A) E (tCons (tV 0) (tCons (tC (.int 7)) tNil))) tNil)))
  (tSeq (tAsg (tCallF (sp_L_draw K A) E (tCons (tV 0) (tCons (tCB mLen (tCons (tV 2) tNil)) tNil))) (gName 4))
  (tSeq (tAsg (tM1 rSplit (tOp mIx (tV 2) (tV 4)) (tC (.str " "))) (gName 5))
  (tSeq (tAsg (tCallF (sp_L_draw K A) E (tCons (tV 0) (tCons (tCB mLen (tCons (tV 5) tNil)) tNil))) (gName 6))
  (tSeq (tAsg (tLst (tCons (tC (.str "")) (tCons (tC (.str "-")) (tCons (tC (.str "a")) (tCons (tC (.str "b2")) (tCons (tC (.str "c")) (tCons (tC (.str "out")) (tCons (tC (.str "out2")) (tCons (tC (.str "a5")) (tCons (tC (.str "p")) (tCons (tC (.str "0")) (tCons (tC (.str "-0")) (tCons (tC (.str "01")) (tCons (tC (.str "-7")) (tCons (tC (.str "+1")) (tCons (tOp mRepS (tC (.str "9")) (tC (.int 60))) tNil)))))))))))))))) (gName 7))
  (tSeq (tAsg (tOp (mAdd K) (tV 7) (tLst (tCons (tOp (mAdd K) (tC (.str "1")) (tOp mRepS (tC (.str "0")) (tC (.int 60)))) (tCons (tOp (mAdd K) (tC (.str "-")) (tOp mRepS (tC (.str "9")) (tC (.int 60)))) (tCons (tC (.str "A")) (tCons (tC (.str "ninesigns")) (tCons (tC (.str "zzzzzzzz4")) (tCons (tC (.str "zzzzzzzz44")) (tCons (tC (.str "1.0")) (tCons (tC (.str "a\n")) (tCons (tC (.str "d")) tNil))))))))))) (gName 7))
  (tSeq (sIf (tTs (tOp mLt (tV 3) (tC (.int 3)))) (tAsg (tM1 (rJoin K) (tC (.str " ")) (tOp (mAdd K) (tOp (mAdd K) (L2.tSl (mSl K) (tV 5) tNoPart (tPa (tV 6))) (tLst (tCons (tCallF (sp_L_pick K A) E (tCons (tV 0) (tCons (tV 7) tNil))) tNil))) (L2.tSl (mSl K) (tV 5) (tPa (tOp (mAdd K) (tV 6) (tCB mIntT (tCons (tOp mLt (tV 3) (tC (.int 2))) tNil)))) tNoPart))) (gSub (tV 2) (tV 4) rSetL)) tNext)
  (tSeq (sIf (tTs (tOp (mEq K) (tV 3) (tC (.int 3)))) (tAsg (tM1 (rJoin K) (tC (.str " ")) (tOp (mAdd K) (L2.tSl (mSl K) (tV 5) tNoPart (tPa (tV 6))) (L2.tSl (mSl K) (tV 5) (tPa (tOp (mAdd K) (tV 6) (tC (.int 1)))) tNoPart))) (gSub (tV 2) (tV 4) rSetL)) tNext)
  (tSeq (sIf (tTs (tOp (mEq K) (tV 3) (tC (.int 4)))) (tAsg (tM1 (rJoin K) (tC (.str " ")) (tOp (mAdd K) (L2.tSl (mSl K) (tV 5) tNoPart (tPa (tOp (mAdd K) (tV 6) (tC (.int 1))))) (L2.tSl (mSl K) (tV 5) (tPa (tV 6)) tNoPart))) (gSub (tV 2) (tV 4) rSetL)) tNext)
  (tSeq (sIf (tTs (tOp (mEq K) (tV 3) (tC (.int 5)))) (tAsg (tOp (mAdd K) (L2.tSl (mSl K) (tV 2) tNoPart (tPa (tV 4))) (L2.tSl (mSl K) (tV 2) (tPa (tOp (mAdd K) (tV 4) (tC (.int 1)))) tNoPart)) (gName 2)) tNext)
  (tRet (tIf' (tTs (tOp mLt (tV 3) (tC (.int 6)))) (tM1 (rJoin K) (tC (.str "\n")) (tV 2)) (tOp (mAdd K) (tV 1) (tCallF (sp_L_pick K A) E (tCons (tV 0) (tCons (tLst (tCons (tC (.str "\n")) (tCons (tC (.str " ")) (tCons (tC (.str "\n-")) (tCons (tC (.str " a")) (tCons (tC (.str "\na p b a")) tNil)))))) tNil))))))))))))))))
abbrev sp_L_bent (K : PySem.W.Frag) (A : Ad) : Sp := spR N_L_bent 2 (rd_L_bent K A)
noncomputable def b_L_bent {S : Type} (K : PySem.W.Frag) (A : Ad) (mm_L_draw : List D → M S D) (mm_L_pick : List D → M S D) : Rho → M S Out :=
  (ySeq (yParN (xSplit (xV 1) (xC (.str "\n"))) (xF mm_L_draw (xCons (xV 0) (xCons (xC (.int 7)) xNil))) 2 3)
  (ySeq (yAsg (xF mm_L_draw (xCons (xV 0) (xCons (xBor 2 (xCa dLen (xCons (xV 2) xNil))) xNil))) (gV 4))
  (ySeq (yAsg (xL (xSplit (xBor 2 (xOp dIx (xV 2) (xV 4))) (xC (.str " ")))) (gV 5))
  (ySeq (yAsg (xF mm_L_draw (xCons (xV 0) (xCons (xCa dLen (xCons (xV 5) xNil)) xNil))) (gV 6))
  (ySeq (yAsg (xL (xLstN (xCons (xC (.str "")) (xCons (xC (.str "-")) (xCons (xC (.str "a")) (xCons (xC (.str "b2")) (xCons (xC (.str "c")) (xCons (xC (.str "out")) (xCons (xC (.str "out2")) (xCons (xC (.str "a5")) (xCons (xC (.str "p")) (xCons (xC (.str "0")) (xCons (xC (.str "-0")) (xCons (xC (.str "01")) (xCons (xC (.str "-7")) (xCons (xC (.str "+1")) (xCons (xOp dRepS (xC (.str "9")) (xC (.int 60))) xNil))))))))))))))))) (gV 7))
  (ySeq (yAsg (xOp dAdd (xV 7) (xL (xLstN (xCons (xOp dAdd (xC (.str "1")) (xOp dRepS (xC (.str "0")) (xC (.int 60)))) (xCons (xOp dAdd (xC (.str "-")) (xOp dRepS (xC (.str "9")) (xC (.int 60)))) (xCons (xC (.str "A")) (xCons (xC (.str "ninesigns")) (xCons (xC (.str "zzzzzzzz4")) (xCons (xC (.str "zzzzzzzz44")) (xCons (xC (.str "1.0")) (xCons (xC (.str "a\n")) (xCons (xC (.str "d")) xNil)))))))))))) (gV 7))
  (ySeq (yIf (xT (xOp dLt (xV 3) (xC (.int 3)))) (ySetL 2 (xM1 joinD (xC (.str " ")) (xOp dAdd (xOp dAdd (xSl (xV 5) xNo (xPa (xV 6))) (xL (xLstN (xCons (xF mm_L_pick (xCons (xV 0) (xCons (xV 7) xNil))) xNil)))) (xSl (xV 5) (xPa (xOp dAdd (xV 6) (xCa dInt (xCons (xOp dLt (xV 3) (xC (.int 2))) xNil)))) xNo))) (xV 4)) yNx)
  (ySeq (yIf (xT (xOp dEq (xV 3) (xC (.int 3)))) (ySetL 2 (xM1 joinD (xC (.str " ")) (xOp dAdd (xSl (xV 5) xNo (xPa (xV 6))) (xSl (xV 5) (xPa (xOp dAdd (xV 6) (xC (.int 1)))) xNo))) (xV 4)) yNx)
  (ySeq (yIf (xT (xOp dEq (xV 3) (xC (.int 4)))) (ySetL 2 (xM1 joinD (xC (.str " ")) (xOp dAdd (xSl (xV 5) xNo (xPa (xOp dAdd (xV 6) (xC (.int 1))))) (xSl (xV 5) (xPa (xV 6)) xNo))) (xV 4)) yNx)
  (yFree 2 (ySeq (yIf (xT (xOp dEq (xV 3) (xC (.int 5)))) (yAsg (xOp dAdd (xSl (xV 2) xNo (xPa (xV 4))) (xSl (xV 2) (xPa (xOp dAdd (xV 4) (xC (.int 1)))) xNo)) (gV 2)) yNx)
  (yRet (xIf (xT (xOp dLt (xV 3) (xC (.int 6)))) (xM1 joinD (xC (.str "\n")) (xV 2)) (xOp dAdd (xV 1) (xF mm_L_pick (xCons (xV 0) (xCons (xL (xLstN (xCons (xC (.str "\n")) (xCons (xC (.str " ")) (xCons (xC (.str "\n-")) (xCons (xC (.str " a")) (xCons (xC (.str "\na p b a")) xNil))))))) xNil)))))))))))))))))
theorem S_L_bent {S : Type} {C : Cfg S} {K : PySem.W.Frag} {A : Ad} {mm_L_draw : List D → M S D} (h_L_draw : SpD C (sp_L_draw K A) mm_L_draw) {mm_L_pick : List D → M S D} (h_L_pick : SpD C (sp_L_pick K A) mm_L_pick) : StD C (fun E => rd_L_bent K A E) (b_L_bent K A mm_L_draw mm_L_pick) :=
  (d_seq (d_parN (by decide) (n_split (e_var 1) e_str) (e_call h_L_draw (a_cons (e_var 0) (a_cons e_int a_nil))))
  (d_seq (d_asg (e_call h_L_draw (a_cons (e_var 0) (a_cons (e_bor (i := 2) (e_ca c_len (a_cons (e_var 2) a_nil))) a_nil))) (g_name (vs := [4]) (by decide)))
  (d_seq (d_asg (e_new (n_split (e_bor (i := 2) (e_op o_ix (e_var 2) (e_var 4))) e_str)) (g_name (vs := [5]) (by decide)))
  (d_seq (d_asg (e_call h_L_draw (a_cons (e_var 0) (a_cons (e_ca c_len (a_cons (e_var 5) a_nil)) a_nil))) (g_name (vs := [6]) (by decide)))
  (d_seq (d_asg (e_new (n_lst (a_cons e_str (a_cons e_str (a_cons e_str (a_cons e_str (a_cons e_str (a_cons e_str (a_cons e_str (a_cons e_str (a_cons e_str (a_cons e_str (a_cons e_str (a_cons e_str (a_cons e_str (a_cons e_str (a_cons (e_op o_repS e_str e_int) a_nil))))))))))))))))) (g_name (vs := [7]) (by decide)))
  (d_seq (d_asg (e_op o_add (e_var 7) (e_new (n_lst (a_cons (e_op o_add e_str (e_op o_repS e_str e_int)) (a_cons (e_op o_add e_str (e_op o_repS e_str e_int)) (a_cons e_str (a_cons e_str (a_cons e_str (a_cons e_str (a_cons e_str (a_cons e_str (a_cons e_str a_nil)))))))))))) (g_name (vs := [7]) (by decide)))
  (d_seq (d_if (e_test (e_op o_lt (e_var 3) e_int)) (d_setL (e_join e_str (e_op o_add (e_op o_add (e_sl (e_var 5) o_none (o_part (e_var 6))) (e_new (n_lst (a_cons (e_call h_L_pick (a_cons (e_var 0) (a_cons (e_var 7) a_nil))) a_nil)))) (e_sl (e_var 5) (o_part (e_op o_add (e_var 6) (e_ca c_int (a_cons (e_op o_lt (e_var 3) e_int) a_nil)))) o_none))) (e_var 4)) d_nx)
  (d_seq (d_if (e_test (e_op o_eq (e_var 3) e_int)) (d_setL (e_join e_str (e_op o_add (e_sl (e_var 5) o_none (o_part (e_var 6))) (e_sl (e_var 5) (o_part (e_op o_add (e_var 6) e_int)) o_none))) (e_var 4)) d_nx)
  (d_seq (d_if (e_test (e_op o_eq (e_var 3) e_int)) (d_setL (e_join e_str (e_op o_add (e_sl (e_var 5) o_none (o_part (e_op o_add (e_var 6) e_int))) (e_sl (e_var 5) (o_part (e_var 6)) o_none))) (e_var 4)) d_nx)
  (d_free (d_seq (d_if (e_test (e_op o_eq (e_var 3) e_int)) (d_asg (e_op o_add (e_sl (e_var 2) o_none (o_part (e_var 4))) (e_sl (e_var 2) (o_part (e_op o_add (e_var 4) e_int)) o_none)) (g_name (vs := [2]) (by decide))) d_nx)
  (d_ret (e_if (e_test (e_op o_lt (e_var 3) e_int)) (e_join e_str (e_var 2)) (e_op o_add (e_var 1) (e_call h_L_pick (a_cons (e_var 0) (a_cons (e_new (n_lst (a_cons e_str (a_cons e_str (a_cons e_str (a_cons e_str (a_cons e_str a_nil))))))) a_nil)))))))))))))))))
theorem SP_L_bent {S : Type} {C : Cfg S} {K : PySem.W.Frag} {A : Ad} {mm_L_draw : List D → M S D} (h_L_draw : SpD C (sp_L_draw K A) mm_L_draw) {mm_L_pick : List D → M S D} (h_L_pick : SpD C (sp_L_pick K A) mm_L_pick) : SpD C (sp_L_bent K A) (runD 8 2 (b_L_bent K A mm_L_draw mm_L_pick)) := sp_run (N := N_L_bent) (by decide) (S_L_bent h_L_draw h_L_pick)
/-- _law_heard -/
abbrev N_L_heard : List Str := ["_law_ask", "_law_caught", "_law_found", "error", "_law_some"]
def rr_L_heard (K : PySem.W.Frag) (A : Ad) (E : XK) : TS :=
  (tSeq (sIf (tTs (tOp mIsN (tV 1) (tC .non))) (tRet (tLst (tCons (tV 2) tNil))) tNext)
  (tSeq (tAsg (tLst tNil) (gName 4))
  (tSeq (sIf (tTs (tCB (mIkx K) (tCons (tV 1) (tCons (tC (.ref A.c_BadText)) tNil)))) (tDrop (tBM K "list" rAppend (tV 4) (tCons (tTup (tCons (tC (.str "text")) (tCons (tCB mRepr (tCons (tXo K "line" (tV 1)) tNil)) (tCons (tCB mRepr (tCons (tXo K "word" (tV 1)) tNil)) tNil)))) tNil))) tNext)
  (tRet (tIf' (tAn (tTs (tOp (mEq K) (tCB mLen (tCons (tV 4) tNil)) (tC (.int 1)))) (tTs (tCB (mIkx K) (tCons (tV 1) (tCons (tC (.ty "ValueError")) tNil))))) (tOp mIx (tV 4) (tC (.int 0))) (tTup (tCons (tC (.str "odd")) tNil)))))))
def rh_L_heard (K : PySem.W.Frag) (A : Ad) : Addr → Addr → Str → (XK → Hp → VK → Prop) → TS := rdHear K (.ref A.c_ShelfError) 1 2 3 (rr_L_heard K A (fun _ _ _ => False))
noncomputable def b_L_heard {S : Type} (K : PySem.W.Frag) (A : Ad) : Rho → M S Out :=
  (ySeq (yIf (xT (xOp dIsN (xV 1) (xC .non))) (yRet (xL (xLstN (xCons (xV 2) xNil)))) yNx)
  (ySeq (yAsgN (xLstN xNil) 4)
  (ySeq (yIf (xT (xCa (dIsx K) (xCons (xV 1) (xCons (xC (.adr A.c_BadText)) xNil)))) (yApp 4 (xTup (xCons (xC (.str "text")) (xCons (xCa dRepr (xCons (x1 (dXf K "line") (xV 1)) xNil)) (xCons (xCa dRepr (xCons (x1 (dXf K "word") (xV 1)) xNil)) xNil))))) yNx)
  (yFree 4 (yRet (xIf (xAnd (xT (xOp dEq (xCa dLen (xCons (xV 4) xNil)) (xC (.int 1)))) (xT (xCa (dIsx K) (xCons (xV 1) (xCons (xC (.ty "ValueError")) xNil))))) (xOp dIx (xV 4) (xC (.int 0))) (xTup (xCons (xC (.str "odd")) xNil))))))))
theorem S_L_heard {S : Type} {C : Cfg S} {K : PySem.W.Frag} {A : Ad} : StD C (fun _ => rr_L_heard K A (fun _ _ _ => False)) (b_L_heard K A) :=
  (d_seq (d_if (e_test (e_op o_isN (e_var 1) e_non)) (d_ret (e_new (n_lst (a_cons (e_var 2) a_nil)))) d_nx)
  (d_seq (d_asgN (n_lst a_nil))
  (d_seq (d_if (e_test (e_ca c_isx (a_cons (e_var 1) (a_cons e_adr a_nil)))) (d_app (e_tup (a_cons e_str (a_cons (e_ca c_repr (a_cons (e_xfld (e_var 1)) a_nil)) (a_cons (e_ca c_repr (a_cons (e_xfld (e_var 1)) a_nil)) a_nil))))) d_nx)
  (d_free (d_ret (e_if (e_and (e_test (e_op o_eq (e_ca c_len (a_cons (e_var 4) a_nil)) e_int)) (e_test (e_ca c_isx (a_cons (e_var 1) (a_cons e_ty a_nil))))) (e_op o_ix (e_var 4) e_int) (e_tup (a_cons e_str a_nil))))))))
/-- _law_pen -/
abbrev N_L_pen : List Str := ["_law_script"]
def rd_L_pen (K : PySem.W.Frag) (A : Ad) (E : XK) : TS :=
  (tRet (tLst (tCons (tCB mLst (tCons (L2.tSl (rSlG K) (tV 0) tNoPart (tPa (tC (.int 63)))) tNil)) (tCons (tC (.int 0)) (tCons (tC (.int 0)) tNil)))))
abbrev sp_L_pen (K : PySem.W.Frag) (A : Ad) : Sp := spR N_L_pen 1 (rd_L_pen K A)
/-- _law_is_name -/
abbrev N_L_is_name : List Str := ["_law_word", "_law_sign"]
def rd_L_is_name (K : PySem.W.Frag) (A : Ad) (E : XK) : TS :=
  (tRet (tAnV (tCh mLe mLe (tC (.int 1)) (tCB mLen (tCons (tV 0) tNil)) (tC (.int 8))) (tOp (mEq K) (tLkO (tLc (iOf (tV 0) (mW K)) (gName 1) (tTs (tOp (mNi K) (tV 1) (tC (.str "abcdefghijklmnopqrstuvwxyz")))) (tV 1) [1])) (tLst tNil))))
abbrev sp_L_is_name (K : PySem.W.Frag) (A : Ad) : Sp := spR N_L_is_name 1 (rd_L_is_name K A)
noncomputable def b_L_is_name (K : PySem.W.Frag) (A : Ad) : Rho → M Unit Out :=
  (yRet (xAndV (xCh dLe dLe (xC (.int 1)) (xCa dLen (xCons (xV 0) xNil)) (xC (.int 8))) (xOp dEq (xL (xLcV 0 (gV 1) (xT (xOp dNi2 (xV 1) (xC (.str "abcdefghijklmnopqrstuvwxyz")))) (xV 1) [1])) (xL (xLstN xNil)))))
theorem S_L_is_name {K : PySem.W.Frag} {A : Ad} : StD (pureC K) (fun E => rd_L_is_name K A E) (b_L_is_name K A) :=
  (d_ret (e_andV (e_ch o_le o_le e_int (e_ca c_len (a_cons (e_var 0) a_nil)) e_int) (e_op o_eq (e_new (n_lcV (g_name (by decide)) (e_test (e_op o_ni (e_var 1) e_str)) (e_var 1))) (e_new (n_lst a_nil)))))
noncomputable def m_L_is_name (K : PySem.W.Frag) (A : Ad) : List D → M Unit D := runD 2 1 (b_L_is_name K A)
theorem SP_L_is_name {K : PySem.W.Frag} {A : Ad} : SpD (pureC K) (sp_L_is_name K A) (m_L_is_name K A) := sp_run (N := N_L_is_name) (by decide) S_L_is_name
/-- _law_is_shelf -/
abbrev N_L_is_shelf : List Str := ["_law_word", "_law_plain"]
def rd_L_is_shelf (K : PySem.W.Frag) (A : Ad) (E : XK) : TS :=
  (tSeq (tAsg (tIf' (tTs (tOp (mIn K) (L2.tSl (mSl K) (tV 0) (tPa (tUn mNeg (tC (.int 1)))) tNoPart) (tTup (tCons (tC (.str "2")) (tCons (tC (.str "3")) (tCons (tC (.str "4")) tNil)))))) (L2.tSl (mSl K) (tV 0) tNoPart (tPa (tUn mNeg (tC (.int 1))))) (tV 0)) (gName 1))
  (tRet (tAnV (tCallF (sp_L_is_name K A) E (tCons (tV 1) tNil)) (tOp (mNeA K) (tV 1) (tC (.str "out"))))))
abbrev sp_L_is_shelf (K : PySem.W.Frag) (A : Ad) : Sp := spR N_L_is_shelf 1 (rd_L_is_shelf K A)
noncomputable def b_L_is_shelf (K : PySem.W.Frag) (A : Ad) : Rho → M Unit Out :=
  (ySeq (yAsg (xIf (xT (xOp dIn2 (xSl (xV 0) (xPa (xUn dNeg (xC (.int 1)))) xNo) (xTup (xCons (xC (.str "2")) (xCons (xC (.str "3")) (xCons (xC (.str "4")) xNil)))))) (xSl (xV 0) xNo (xPa (xUn dNeg (xC (.int 1))))) (xV 0)) (gV 1))
  (yRet (xAndV (xF (m_L_is_name K A) (xCons (xV 1) xNil)) (xOp neA (xV 1) (xC (.str "out"))))))
theorem S_L_is_shelf {K : PySem.W.Frag} {A : Ad} : StD (pureC K) (fun E => rd_L_is_shelf K A E) (b_L_is_shelf K A) :=
  (d_seq (d_asg (e_if (e_test (e_op o_in (e_sl (e_var 0) (o_part (e_un u_neg e_int)) o_none) (e_tup (a_cons e_str (a_cons e_str (a_cons e_str a_nil)))))) (e_sl (e_var 0) o_none (o_part (e_un u_neg e_int))) (e_var 0)) (g_name (vs := [1]) (by decide)))
  (d_ret (e_andV (e_call SP_L_is_name (a_cons (e_var 1) a_nil)) (e_op o_neA (e_var 1) e_str))))
noncomputable def m_L_is_shelf (K : PySem.W.Frag) (A : Ad) : List D → M Unit D := runD 2 1 (b_L_is_shelf K A)
theorem SP_L_is_shelf {K : PySem.W.Frag} {A : Ad} : SpD (pureC K) (sp_L_is_shelf K A) (m_L_is_shelf K A) := sp_run (N := N_L_is_shelf) (by decide) S_L_is_shelf
/-- _law_is_whole -/
abbrev N_L_is_whole : List Str := ["_law_word", "_law_rest", "_law_sign"]
def rd_L_is_whole (K : PySem.W.Frag) (A : Ad) (E : XK) : TS :=
  (tSeq (sIf (tTs (tOp (mEq K) (tV 0) (tC (.str "0")))) (tRet (tC (.bl true))) tNext)
  (tSeq (tAsg (tIf' (tTs (tOp (mEq K) (L2.tSl (mSl K) (tV 0) tNoPart (tPa (tC (.int 1)))) (tC (.str "-")))) (L2.tSl (mSl K) (tV 0) (tPa (tC (.int 1))) tNoPart) (tV 0)) (gName 1))
  (tSeq (sIf (tOr' (tNot (tTs (tCh mLe mLe (tC (.int 1)) (tCB mLen (tCons (tV 1) tNil)) (tC (.int 60))))) (tTs (tOp (mEq K) (tOp mIx (tV 1) (tC (.int 0))) (tC (.str "0"))))) (tRet (tC (.bl false))) tNext)
  (tRet (tOp (mEq K) (tLkO (tLc (iOf (tV 1) (mW K)) (gName 2) (tTs (tOp (mNi K) (tV 2) (tC (.str "0123456789")))) (tV 2) [2])) (tLst tNil))))))
abbrev sp_L_is_whole (K : PySem.W.Frag) (A : Ad) : Sp := spR N_L_is_whole 1 (rd_L_is_whole K A)
noncomputable def b_L_is_whole (K : PySem.W.Frag) (A : Ad) : Rho → M Unit Out :=
  (ySeq (yIf (xT (xOp dEq (xV 0) (xC (.str "0")))) (yRet (xC (.bl true))) yNx)
  (ySeq (yAsg (xIf (xT (xOp dEq (xSl (xV 0) xNo (xPa (xC (.int 1)))) (xC (.str "-")))) (xSl (xV 0) (xPa (xC (.int 1))) xNo) (xV 0)) (gV 1))
  (ySeq (yIf (xOr (xNot (xT (xCh dLe dLe (xC (.int 1)) (xCa dLen (xCons (xV 1) xNil)) (xC (.int 60))))) (xT (xOp dEq (xOp dIx (xV 1) (xC (.int 0))) (xC (.str "0"))))) (yRet (xC (.bl false))) yNx)
  (yRet (xOp dEq (xL (xLcV 1 (gV 2) (xT (xOp dNi2 (xV 2) (xC (.str "0123456789")))) (xV 2) [2])) (xL (xLstN xNil)))))))
theorem S_L_is_whole {K : PySem.W.Frag} {A : Ad} : StD (pureC K) (fun E => rd_L_is_whole K A E) (b_L_is_whole K A) :=
  (d_seq (d_if (e_test (e_op o_eq (e_var 0) e_str)) (d_ret e_bl) d_nx)
  (d_seq (d_asg (e_if (e_test (e_op o_eq (e_sl (e_var 0) o_none (o_part e_int)) e_str)) (e_sl (e_var 0) (o_part e_int) o_none) (e_var 0)) (g_name (vs := [1]) (by decide)))
  (d_seq (d_if (e_or (e_not (e_test (e_ch o_le o_le e_int (e_ca c_len (a_cons (e_var 1) a_nil)) e_int))) (e_test (e_op o_eq (e_op o_ix (e_var 1) e_int) e_str))) (d_ret e_bl) d_nx)
  (d_ret (e_op o_eq (e_new (n_lcV (g_name (by decide)) (e_test (e_op o_ni (e_var 2) e_str)) (e_var 2))) (e_new (n_lst a_nil)))))))
noncomputable def m_L_is_whole (K : PySem.W.Frag) (A : Ad) : List D → M Unit D := runD 3 1 (b_L_is_whole K A)
theorem SP_L_is_whole {K : PySem.W.Frag} {A : Ad} : SpD (pureC K) (sp_L_is_whole K A) (m_L_is_whole K A) := sp_run (N := N_L_is_whole) (by decide) S_L_is_whole
/-- _law_safe_due -/
abbrev N_L_safe_due : List Str := ["_law_text_so", "_law_lines", "_law_last", "_law_words", "_law_at", "_law_word"]
def rd_L_safe_due (K : PySem.W.Frag) (A : Ad) (E : XK) : TS :=
  (tSeq (tPar 1 2 (tCons (tM1 rSplit (tV 0) (tC (.str "\n"))) (tCons (tC (.str "")) tNil)))
  (tSeq (tAsg (tM1 rSplit (tOp mIx (tV 1) (tC (.int 0))) (tC (.str " "))) (gName 3))
  (tSeq (sIf (tTs (tOp (mEq K) (tOp mIx (tV 3) (tC (.int 0))) (tC (.str "-")))) (tRet (tIf' (tTs (tOp mGt (tCB mLen (tCons (tV 3) tNil)) (tC (.int 1)))) (tTup (tCons (tC (.int 0)) (tCons (tC (.int 1)) tNil))) (tIf' (tTs (tOp mGt (tCB mLen (tCons (tV 1) tNil)) (tC (.int 1)))) (tTup (tCons (tC (.int 1)) (tCons (tC (.int 0)) tNil))) (tC .non)))) tNext)
  (tSeq (sLkO (tFor (iEnum K (tCons (tV 3) tNil)) (gTp (gNum 2 (gCs (gName 4) (gCs (gName 5) gNl)))) (sIf (tTs (tOp (mEq K) (tOp mMod (tCB mIntT (tCons (tV 4) tNil)) (tC (.int 2))) (tC (.int 1)))) (sIf (tNot (tTs (tCallF (sp_L_is_whole K A) E (tCons (tV 5) tNil)))) (tRet (tTup (tCons (tC (.int 0)) (tCons (tV 4) tNil)))) tNext) (sIf (tOr' (tNot (tTs (tCallF (sp_L_is_shelf K A) E (tCons (tV 5) tNil)))) (tTs (tOp mLe (tV 5) (tV 2)))) (tRet (tTup (tCons (tC (.int 0)) (tCons (tV 4) tNil)))) (tAsg (tV 5) (gName 2))))))
  (tSeq (sIf (tTs (tOp (mEq K) (tOp mMod (tCB mIntT (tCons (tCB mLen (tCons (tV 3) tNil)) tNil)) (tC (.int 2))) (tC (.int 1)))) (tRet (tTup (tCons (tC (.int 0)) (tCons (tCB mLen (tCons (tV 3) tNil)) tNil)))) tNext)
  (tRet (tIf' (tTs (tOp mGt (tCB mLen (tCons (tV 1) tNil)) (tC (.int 1)))) (tTup (tCons (tC (.int 1)) (tCons (tC (.int 0)) tNil))) (tC .non))))))))
abbrev sp_L_safe_due (K : PySem.W.Frag) (A : Ad) : Sp := spR N_L_safe_due 1 (rd_L_safe_due K A)
noncomputable def fb_L_safe_due_1 (K : PySem.W.Frag) (A : Ad) : Rho → M Unit Out :=
  (yIf (xT (xOp dEq (xOp dMod (xCa dInt (xCons (xV 4) xNil)) (xC (.int 2))) (xC (.int 1)))) (yIf (xNot (xT (xF (m_L_is_whole K A) (xCons (xV 5) xNil)))) (yRet (xTup (xCons (xC (.int 0)) (xCons (xV 4) xNil)))) yNx) (yIf (xOr (xNot (xT (xF (m_L_is_shelf K A) (xCons (xV 5) xNil)))) (xT (xOp dLe (xV 5) (xV 2)))) (yRet (xTup (xCons (xC (.int 0)) (xCons (xV 4) xNil)))) (yAsg (xV 5) (gV 2))))
noncomputable def b_L_safe_due (K : PySem.W.Frag) (A : Ad) : Rho → M Unit Out :=
  (ySeq (yPar (xL (xSplit (xV 0) (xC (.str "\n")))) (xC (.str "")) 1 2)
  (ySeq (yAsg (xL (xSplit (xOp dIx (xV 1) (xC (.int 0))) (xC (.str " ")))) (gV 3))
  (ySeq (yIf (xT (xOp dEq (xOp dIx (xV 3) (xC (.int 0))) (xC (.str "-")))) (yRet (xIf (xT (xOp dGt (xCa dLen (xCons (xV 3) xNil)) (xC (.int 1)))) (xTup (xCons (xC (.int 0)) (xCons (xC (.int 1)) xNil))) (xIf (xT (xOp dGt (xCa dLen (xCons (xV 1) xNil)) (xC (.int 1)))) (xTup (xCons (xC (.int 1)) (xCons (xC (.int 0)) xNil))) (xC .non)))) yNx)
  (ySeq (yFor (xEn (xCons (xV 3) xNil)) (gVt 2 (gVc (gV 4) (gVc (gV 5) gVn))) (fb_L_safe_due_1 K A))
  (ySeq (yIf (xT (xOp dEq (xOp dMod (xCa dInt (xCons (xCa dLen (xCons (xV 3) xNil)) xNil)) (xC (.int 2))) (xC (.int 1)))) (yRet (xTup (xCons (xC (.int 0)) (xCons (xCa dLen (xCons (xV 3) xNil)) xNil)))) yNx)
  (yRet (xIf (xT (xOp dGt (xCa dLen (xCons (xV 1) xNil)) (xC (.int 1)))) (xTup (xCons (xC (.int 1)) (xCons (xC (.int 0)) xNil))) (xC .non))))))))
theorem S_L_safe_due {K : PySem.W.Frag} {A : Ad} : StD (pureC K) (fun E => rd_L_safe_due K A E) (b_L_safe_due K A) :=
  (d_seq (d_par (e_new (n_split (e_var 0) e_str)) e_str)
  (d_seq (d_asg (e_new (n_split (e_op o_ix (e_var 1) e_int) e_str)) (g_name (vs := [3]) (by decide)))
  (d_seq (d_if (e_test (e_op o_eq (e_op o_ix (e_var 3) e_int) e_str)) (d_ret (e_if (e_test (e_op o_gt (e_ca c_len (a_cons (e_var 3) a_nil)) e_int)) (e_tup (a_cons e_int (a_cons e_int a_nil))) (e_if (e_test (e_op o_gt (e_ca c_len (a_cons (e_var 1) a_nil)) e_int)) (e_tup (a_cons e_int (a_cons e_int a_nil))) e_non))) d_nx)
  (d_seq (d_lkO (d_for (vs := [0, 1, 2, 3, 4, 5]) (i_enum (a_cons (e_var 3) a_nil)) (g_tup (g_cons (g_name (by decide)) (g_cons (g_name (by decide)) g_nil))) (d_if (e_test (e_op o_eq (e_op o_mod (e_ca c_int (a_cons (e_var 4) a_nil)) e_int) e_int)) (d_if (e_not (e_test (e_call SP_L_is_whole (a_cons (e_var 5) a_nil)))) (d_ret (e_tup (a_cons e_int (a_cons (e_var 4) a_nil)))) d_nx) (d_if (e_or (e_not (e_test (e_call SP_L_is_shelf (a_cons (e_var 5) a_nil)))) (e_test (e_op o_le (e_var 5) (e_var 2)))) (d_ret (e_tup (a_cons e_int (a_cons (e_var 4) a_nil)))) (d_asg (e_var 5) (g_name (vs := [2]) (by decide)))))))
  (d_seq (d_if (e_test (e_op o_eq (e_op o_mod (e_ca c_int (a_cons (e_ca c_len (a_cons (e_var 3) a_nil)) a_nil)) e_int) e_int)) (d_ret (e_tup (a_cons e_int (a_cons (e_ca c_len (a_cons (e_var 3) a_nil)) a_nil)))) d_nx)
  (d_ret (e_if (e_test (e_op o_gt (e_ca c_len (a_cons (e_var 1) a_nil)) e_int)) (e_tup (a_cons e_int (a_cons e_int a_nil))) e_non)))))))
noncomputable def m_L_safe_due (K : PySem.W.Frag) (A : Ad) : List D → M Unit D := runD 6 1 (b_L_safe_due K A)
theorem SP_L_safe_due {K : PySem.W.Frag} {A : Ad} : SpD (pureC K) (sp_L_safe_due K A) (m_L_safe_due K A) := sp_run (N := N_L_safe_due) (by decide) S_L_safe_due
/-- _law_stuck_due -/
abbrev N_L_stuck_due : List Str := ["_law_text_so", "_law_lines", "_law_line", "_law_row", "_law_words", "_law_at", "_law_word"]
def rd_L_stuck_due (K : PySem.W.Frag) (A : Ad) (E : XK) : TS :=
  (tSeq (tAsg (tM1 rSplit (tV 0) (tC (.str "\n"))) (gName 1))
  (tSeq (sIf (tTs (tOp (mEq K) (tOp mIx (tM1 rSplit (tOp mIx (tV 1) (tC (.int 0))) (tC (.str " "))) (tC (.int 0))) (tC (.str "-")))) (tRet (tIf' (tTs (tOp (mNeA K) (tOp mIx (tV 1) (tC (.int 0))) (tC (.str "-")))) (tTup (tCons (tC (.int 0)) (tCons (tC (.int 1)) tNil))) (tIf' (tTs (tOp mGt (tCB mLen (tCons (tV 1) tNil)) (tC (.int 1)))) (tTup (tCons (tC (.int 1)) (tCons (tC (.int 0)) tNil))) (tC .non)))) tNext)
  (tSeq (sLkO (tFor (iEnum K (tCons (tV 1) tNil)) (gTp (gNum 2 (gCs (gName 2) (gCs (gName 3) gNl)))) (tSeq (tAsg (tM1 rSplit (tV 3) (tC (.str " "))) (gName 4))
  (tSeq (sLkO (tFor (iEnum K (tCons (tV 4) tNil)) (gTp (gNum 2 (gCs (gName 5) (gCs (gName 6) gNl)))) (sIf (tNot (tIfT (tTs (tOp (mEq K) (tV 5) (tC (.int 1)))) (tTs (tCallF (sp_L_is_name K A) E (tCons (tV 6) tNil))) (tTs (tCallF (sp_L_is_shelf K A) E (tCons (tV 6) tNil))))) (tRet (tTup (tCons (tV 2) (tCons (tV 5) tNil)))) tNext)))
  (sIf (tTs (tOp mLt (tCB mLen (tCons (tV 4) tNil)) (tC (.int 4)))) (tRet (tTup (tCons (tV 2) (tCons (tCB mLen (tCons (tV 4) tNil)) tNil)))) tNext)))))
  (tRet (tC .non)))))
abbrev sp_L_stuck_due (K : PySem.W.Frag) (A : Ad) : Sp := spR N_L_stuck_due 1 (rd_L_stuck_due K A)
noncomputable def fb_L_stuck_due_1 (K : PySem.W.Frag) (A : Ad) : Rho → M Unit Out :=
  (yIf (xNot (xIf (xT (xOp dEq (xV 5) (xC (.int 1)))) (xT (xF (m_L_is_name K A) (xCons (xV 6) xNil))) (xT (xF (m_L_is_shelf K A) (xCons (xV 6) xNil))))) (yRet (xTup (xCons (xV 2) (xCons (xV 5) xNil)))) yNx)
noncomputable def fb_L_stuck_due_2 (K : PySem.W.Frag) (A : Ad) : Rho → M Unit Out :=
  (ySeq (yAsg (xL (xSplit (xV 3) (xC (.str " ")))) (gV 4))
  (ySeq (yFor (xEn (xCons (xV 4) xNil)) (gVt 2 (gVc (gV 5) (gVc (gV 6) gVn))) (fb_L_stuck_due_1 K A))
  (yIf (xT (xOp dLt (xCa dLen (xCons (xV 4) xNil)) (xC (.int 4)))) (yRet (xTup (xCons (xV 2) (xCons (xCa dLen (xCons (xV 4) xNil)) xNil)))) yNx)))
noncomputable def b_L_stuck_due (K : PySem.W.Frag) (A : Ad) : Rho → M Unit Out :=
  (ySeq (yAsg (xL (xSplit (xV 0) (xC (.str "\n")))) (gV 1))
  (ySeq (yIf (xT (xOp dEq (xOp dIx (xL (xSplit (xOp dIx (xV 1) (xC (.int 0))) (xC (.str " ")))) (xC (.int 0))) (xC (.str "-")))) (yRet (xIf (xT (xOp neA (xOp dIx (xV 1) (xC (.int 0))) (xC (.str "-")))) (xTup (xCons (xC (.int 0)) (xCons (xC (.int 1)) xNil))) (xIf (xT (xOp dGt (xCa dLen (xCons (xV 1) xNil)) (xC (.int 1)))) (xTup (xCons (xC (.int 1)) (xCons (xC (.int 0)) xNil))) (xC .non)))) yNx)
  (ySeq (yFor (xEn (xCons (xV 1) xNil)) (gVt 2 (gVc (gV 2) (gVc (gV 3) gVn))) (fb_L_stuck_due_2 K A))
  (yRet (xC .non)))))
theorem S_L_stuck_due {K : PySem.W.Frag} {A : Ad} : StD (pureC K) (fun E => rd_L_stuck_due K A E) (b_L_stuck_due K A) :=
  (d_seq (d_asg (e_new (n_split (e_var 0) e_str)) (g_name (vs := [1]) (by decide)))
  (d_seq (d_if (e_test (e_op o_eq (e_op o_ix (e_new (n_split (e_op o_ix (e_var 1) e_int) e_str)) e_int) e_str)) (d_ret (e_if (e_test (e_op o_neA (e_op o_ix (e_var 1) e_int) e_str)) (e_tup (a_cons e_int (a_cons e_int a_nil))) (e_if (e_test (e_op o_gt (e_ca c_len (a_cons (e_var 1) a_nil)) e_int)) (e_tup (a_cons e_int (a_cons e_int a_nil))) e_non))) d_nx)
  (d_seq (d_lkO (d_for (vs := [0, 1, 2, 3, 4, 5, 6]) (i_enum (a_cons (e_var 1) a_nil)) (g_tup (g_cons (g_name (by decide)) (g_cons (g_name (by decide)) g_nil))) (d_seq (d_asg (e_new (n_split (e_var 3) e_str)) (g_name (vs := [4]) (by decide)))
  (d_seq (d_lkO (d_for (vs := [0, 1, 2, 3, 4, 5, 6]) (i_enum (a_cons (e_var 4) a_nil)) (g_tup (g_cons (g_name (by decide)) (g_cons (g_name (by decide)) g_nil))) (d_if (e_not (e_ifT (e_test (e_op o_eq (e_var 5) e_int)) (e_test (e_call SP_L_is_name (a_cons (e_var 6) a_nil))) (e_test (e_call SP_L_is_shelf (a_cons (e_var 6) a_nil))))) (d_ret (e_tup (a_cons (e_var 2) (a_cons (e_var 5) a_nil)))) d_nx)))
  (d_if (e_test (e_op o_lt (e_ca c_len (a_cons (e_var 4) a_nil)) e_int)) (d_ret (e_tup (a_cons (e_var 2) (a_cons (e_ca c_len (a_cons (e_var 4) a_nil)) a_nil)))) d_nx)))))
  (d_ret e_non))))
noncomputable def m_L_stuck_due (K : PySem.W.Frag) (A : Ad) : List D → M Unit D := runD 7 1 (b_L_stuck_due K A)
theorem SP_L_stuck_due {K : PySem.W.Frag} {A : Ad} : SpD (pureC K) (sp_L_stuck_due K A) (m_L_stuck_due K A) := sp_run (N := N_L_stuck_due) (by decide) S_L_stuck_due
/-- Safe.__init__ -/
abbrev N_SafeU_initU : List Str := ["self", "numbers"]
def rd_SafeU_initU (K : PySem.W.Frag) (A : Ad) (E : XK) : TS :=
  (sFld K (tV 0) (tV 1) "numbers")
abbrev sp_SafeU_initU (K : PySem.W.Frag) (A : Ad) : Sp := spR N_SafeU_initU 2 (rd_SafeU_initU K A)
noncomputable def b_SafeU_initU {S : Type} (K : PySem.W.Frag) (A : Ad) : Rho → M S Out :=
  (ySetF K 0 "numbers" (xV 1))
theorem S_SafeU_initU {S : Type} {C : Cfg S} {K : PySem.W.Frag} {A : Ad} : StD C (fun E => rd_SafeU_initU K A E) (b_SafeU_initU K A) :=
  (d_setF (e_var 1))
/-- is_name -/
abbrev N_is_name : List Str := ["value", "letter"]
def rd_is_name (K : PySem.W.Frag) (A : Ad) (E : XK) : TS :=
  (tSeq (sIf (tOr' (tNot (tTs (tCB (mIk K) (tCons (tV 0) (tCons (tC (.ty "str")) tNil))))) (tNot (tTs (tCh mLe mLe (tC (.int 1)) (tCB mLen (tCons (tV 0) tNil)) (tC (.int v_LONGEST_checks)))))) (tRet (tC (.bl false))) tNext)
  (tRet (tCB mAll (tCons (tLkO (tLc (iOf (tV 0) (mW K)) (gName 1) tYes (tOp (mIn K) (tV 1) (tC (.str "abcdefghijklmnopqrstuvwxyz"))) [1])) tNil))))
abbrev sp_is_name (K : PySem.W.Frag) (A : Ad) : Sp := spR N_is_name 1 (rd_is_name K A)
noncomputable def b_is_name (K : PySem.W.Frag) (A : Ad) : Rho → M Unit Out :=
  (ySeq (yIf (xOr (xNot (xT (xCa (dIsk K) (xCons (xV 0) (xCons (xC (.ty "str")) xNil))))) (xNot (xT (xCh dLe dLe (xC (.int 1)) (xCa dLen (xCons (xV 0) xNil)) (xC (.int v_LONGEST_checks)))))) (yRet (xC (.bl false))) yNx)
  (yRet (xCa dAll (xCons (xL (xLcV 0 (gV 1) (fun _ => M.ret true) (xOp dIn2 (xV 1) (xC (.str "abcdefghijklmnopqrstuvwxyz"))) [1])) xNil))))
theorem S_is_name {K : PySem.W.Frag} {A : Ad} : StD (pureC K) (fun E => rd_is_name K A E) (b_is_name K A) :=
  (d_seq (d_if (e_or (e_not (e_test (e_ca c_isi (a_cons (e_var 0) (a_cons e_ty a_nil))))) (e_not (e_test (e_ch o_le o_le e_int (e_ca c_len (a_cons (e_var 0) a_nil)) e_int)))) (d_ret e_bl) d_nx)
  (d_ret (e_ca c_all (a_cons (e_new (n_lcV (g_name (by decide)) yes_ev (e_op o_in (e_var 1) e_str))) a_nil))))
noncomputable def m_is_name (K : PySem.W.Frag) (A : Ad) : List D → M Unit D := runD 2 1 (b_is_name K A)
theorem SP_is_name {K : PySem.W.Frag} {A : Ad} : SpD (pureC K) (sp_is_name K A) (m_is_name K A) := sp_run (N := N_is_name) (by decide) S_is_name
/-- is_shelf -/
abbrev N_is_shelf : List Str := ["value", "word"]
def rd_is_shelf (K : PySem.W.Frag) (A : Ad) (E : XK) : TS :=
  (tSeq (sIf (tOr' (tNot (tTs (tCB (mIk K) (tCons (tV 0) (tCons (tC (.ty "str")) tNil))))) (tTs (tOp (mEq K) (tV 0) (tC (.str ""))))) (tRet (tC (.bl false))) tNext)
  (tSeq (tAsg (tIf' (tTs (tOp (mIn K) (tOp mIx (tV 0) (tUn mNeg (tC (.int 1)))) (tC (.str "234")))) (L2.tSl (mSl K) (tV 0) tNoPart (tPa (tUn mNeg (tC (.int 1))))) (tV 0)) (gName 1))
  (tRet (tAnV (tCallF (sp_is_name K A) E (tCons (tV 1) tNil)) (tOp (mNeA K) (tV 1) (tC (.str "out")))))))
abbrev sp_is_shelf (K : PySem.W.Frag) (A : Ad) : Sp := spR N_is_shelf 1 (rd_is_shelf K A)
noncomputable def b_is_shelf (K : PySem.W.Frag) (A : Ad) : Rho → M Unit Out :=
  (ySeq (yIf (xOr (xNot (xT (xCa (dIsk K) (xCons (xV 0) (xCons (xC (.ty "str")) xNil))))) (xT (xOp dEq (xV 0) (xC (.str ""))))) (yRet (xC (.bl false))) yNx)
  (ySeq (yAsg (xIf (xT (xOp dIn2 (xOp dIx (xV 0) (xUn dNeg (xC (.int 1)))) (xC (.str "234")))) (xSl (xV 0) xNo (xPa (xUn dNeg (xC (.int 1))))) (xV 0)) (gV 1))
  (yRet (xAndV (xF (m_is_name K A) (xCons (xV 1) xNil)) (xOp neA (xV 1) (xC (.str "out")))))))
theorem S_is_shelf {K : PySem.W.Frag} {A : Ad} : StD (pureC K) (fun E => rd_is_shelf K A E) (b_is_shelf K A) :=
  (d_seq (d_if (e_or (e_not (e_test (e_ca c_isi (a_cons (e_var 0) (a_cons e_ty a_nil))))) (e_test (e_op o_eq (e_var 0) e_str))) (d_ret e_bl) d_nx)
  (d_seq (d_asg (e_if (e_test (e_op o_in (e_op o_ix (e_var 0) (e_un u_neg e_int)) e_str)) (e_sl (e_var 0) o_none (o_part (e_un u_neg e_int))) (e_var 0)) (g_name (vs := [1]) (by decide)))
  (d_ret (e_andV (e_call SP_is_name (a_cons (e_var 1) a_nil)) (e_op o_neA (e_var 1) e_str)))))
noncomputable def m_is_shelf (K : PySem.W.Frag) (A : Ad) : List D → M Unit D := runD 2 1 (b_is_shelf K A)
theorem SP_is_shelf {K : PySem.W.Frag} {A : Ad} : SpD (pureC K) (sp_is_shelf K A) (m_is_shelf K A) := sp_run (N := N_is_shelf) (by decide) S_is_shelf
/-- is_figures -/
abbrev N_is_figures : List Str := ["word", "sign"]
def rd_is_figures (K : PySem.W.Frag) (A : Ad) (E : XK) : TS :=
  (tSeq (sIf (tOr' (tNot (tTs (tCh mLe mLe (tC (.int 1)) (tCB mLen (tCons (tV 0) tNil)) (tC (.int v_LONGEST_reader))))) (tNot (tTs (tCB mAll (tCons (tLkO (tLc (iOf (tV 0) (mW K)) (gName 1) tYes (tOp (mIn K) (tV 1) (tC (.str "0123456789"))) [1])) tNil))))) (tRet (tC (.bl false))) tNext)
  (tRet (tOrV' (tOp (mEq K) (tV 0) (tC (.str "0"))) (tOp (mNeA K) (tOp mIx (tV 0) (tC (.int 0))) (tC (.str "0"))))))
abbrev sp_is_figures (K : PySem.W.Frag) (A : Ad) : Sp := spR N_is_figures 1 (rd_is_figures K A)
noncomputable def b_is_figures (K : PySem.W.Frag) (A : Ad) : Rho → M Unit Out :=
  (ySeq (yIf (xOr (xNot (xT (xCh dLe dLe (xC (.int 1)) (xCa dLen (xCons (xV 0) xNil)) (xC (.int v_LONGEST_reader))))) (xNot (xT (xCa dAll (xCons (xL (xLcV 0 (gV 1) (fun _ => M.ret true) (xOp dIn2 (xV 1) (xC (.str "0123456789"))) [1])) xNil))))) (yRet (xC (.bl false))) yNx)
  (yRet (xOrV (xOp dEq (xV 0) (xC (.str "0"))) (xOp neA (xOp dIx (xV 0) (xC (.int 0))) (xC (.str "0"))))))
theorem S_is_figures {K : PySem.W.Frag} {A : Ad} : StD (pureC K) (fun E => rd_is_figures K A E) (b_is_figures K A) :=
  (d_seq (d_if (e_or (e_not (e_test (e_ch o_le o_le e_int (e_ca c_len (a_cons (e_var 0) a_nil)) e_int))) (e_not (e_test (e_ca c_all (a_cons (e_new (n_lcV (g_name (by decide)) yes_ev (e_op o_in (e_var 1) e_str))) a_nil))))) (d_ret e_bl) d_nx)
  (d_ret (e_orV (e_op o_eq (e_var 0) e_str) (e_op o_neA (e_op o_ix (e_var 0) e_int) e_str))))
noncomputable def m_is_figures (K : PySem.W.Frag) (A : Ad) : List D → M Unit D := runD 2 1 (b_is_figures K A)
theorem SP_is_figures {K : PySem.W.Frag} {A : Ad} : SpD (pureC K) (sp_is_figures K A) (m_is_figures K A) := sp_run (N := N_is_figures) (by decide) S_is_figures
/-- is_whole -/
abbrev N_is_whole : List Str := ["word"]
def rd_is_whole (K : PySem.W.Frag) (A : Ad) (E : XK) : TS :=
  (tRet (tOrV' (tCallF (sp_is_figures K A) E (tCons (tV 0) tNil)) (tAnV (tOp (mEq K) (L2.tSl (mSl K) (tV 0) tNoPart (tPa (tC (.int 1)))) (tC (.str "-"))) (tAnV (tOp (mNeA K) (tV 0) (tC (.str "-0"))) (tCallF (sp_is_figures K A) E (tCons (L2.tSl (mSl K) (tV 0) (tPa (tC (.int 1))) tNoPart) tNil))))))
abbrev sp_is_whole (K : PySem.W.Frag) (A : Ad) : Sp := spR N_is_whole 1 (rd_is_whole K A)
noncomputable def b_is_whole (K : PySem.W.Frag) (A : Ad) : Rho → M Unit Out :=
  (yRet (xOrV (xF (m_is_figures K A) (xCons (xV 0) xNil)) (xAndV (xOp dEq (xSl (xV 0) xNo (xPa (xC (.int 1)))) (xC (.str "-"))) (xAndV (xOp neA (xV 0) (xC (.str "-0"))) (xF (m_is_figures K A) (xCons (xSl (xV 0) (xPa (xC (.int 1))) xNo) xNil))))))
theorem S_is_whole {K : PySem.W.Frag} {A : Ad} : StD (pureC K) (fun E => rd_is_whole K A E) (b_is_whole K A) :=
  (d_ret (e_orV (e_call SP_is_figures (a_cons (e_var 0) a_nil)) (e_andV (e_op o_eq (e_sl (e_var 0) o_none (o_part e_int)) e_str) (e_andV (e_op o_neA (e_var 0) e_str) (e_call SP_is_figures (a_cons (e_sl (e_var 0) (o_part e_int) o_none) a_nil))))))
noncomputable def m_is_whole (K : PySem.W.Frag) (A : Ad) : List D → M Unit D := runD 1 1 (b_is_whole K A)
theorem SP_is_whole {K : PySem.W.Frag} {A : Ad} : SpD (pureC K) (sp_is_whole K A) (m_is_whole K A) := sp_run (N := N_is_whole) (by decide) S_is_whole
/-- need_string -/
abbrev N_need_string : List Str := ["text"]
def rd_need_string (K : PySem.W.Frag) (A : Ad) (E : XK) : TS :=
  (sIf (tNot (tTs (tCB (mIk K) (tCons (tV 0) (tCons (tC (.ty "str")) tNil))))) (fun D σ H => tMkS A.c_BadText ["line", "word"] (tCons (tC (.int 0)) (tCons (tC (.int 0)) tNil)) σ H fun cls d H' => E cls d H') tNext)
abbrev sp_need_string (K : PySem.W.Frag) (A : Ad) : Sp := spR N_need_string 1 (rd_need_string K A)
noncomputable def b_need_string (K : PySem.W.Frag) (A : Ad) : Rho → M Unit Out :=
  (yIf (xNot (xT (xCa (dIsk K) (xCons (xV 0) (xCons (xC (.ty "str")) xNil))))) (yRaise A.c_BadText ["line", "word"] (xCons (xC (.int 0)) (xCons (xC (.int 0)) xNil))) yNx)
theorem S_need_string {K : PySem.W.Frag} {A : Ad} : StD (pureC K) (fun E => rd_need_string K A E) (b_need_string K A) :=
  (d_if (e_not (e_test (e_ca c_isi (a_cons (e_var 0) (a_cons e_ty a_nil))))) (d_raise (a_cons e_int (a_cons e_int a_nil))) d_nx)
noncomputable def m_need_string (K : PySem.W.Frag) (A : Ad) : List D → M Unit D := runD 1 1 (b_need_string K A)
theorem SP_need_string {K : PySem.W.Frag} {A : Ad} : SpD (pureC K) (sp_need_string K A) (m_need_string K A) := sp_run (N := N_need_string) (by decide) S_need_string
/-- words_of_line -/
abbrev N_words_of_line : List Str := ["line", "row", "words"]
def rd_words_of_line (K : PySem.W.Frag) (A : Ad) (E : XK) : TS :=
  (tSeq (tAsg (tM1 rSplit (tV 1) (tC (.str " "))) (gName 2))
  (tSeq (sIf (tAn (tTs (tOp (mEq K) (tOp mIx (tV 2) (tC (.int 0))) (tC (.str "-")))) (tTs (tOp mGt (tCB mLen (tCons (tV 2) tNil)) (tC (.int 1))))) (fun D σ H => tMkS A.c_BadText ["line", "word"] (tCons (tV 0) (tCons (tC (.int 1)) tNil)) σ H fun cls d H' => E cls d H') tNext)
  (tRet (tIf' (tTs (tOp (mNeA K) (tV 1) (tC (.str "-")))) (tV 2) (tLst tNil)))))
abbrev sp_words_of_line (K : PySem.W.Frag) (A : Ad) : Sp := spR N_words_of_line 2 (rd_words_of_line K A)
noncomputable def b_words_of_line (K : PySem.W.Frag) (A : Ad) : Rho → M Unit Out :=
  (ySeq (yAsg (xL (xSplit (xV 1) (xC (.str " ")))) (gV 2))
  (ySeq (yIf (xAnd (xT (xOp dEq (xOp dIx (xV 2) (xC (.int 0))) (xC (.str "-")))) (xT (xOp dGt (xCa dLen (xCons (xV 2) xNil)) (xC (.int 1))))) (yRaise A.c_BadText ["line", "word"] (xCons (xV 0) (xCons (xC (.int 1)) xNil))) yNx)
  (yRet (xIf (xT (xOp neA (xV 1) (xC (.str "-")))) (xV 2) (xL (xLstN xNil))))))
theorem S_words_of_line {K : PySem.W.Frag} {A : Ad} : StD (pureC K) (fun E => rd_words_of_line K A E) (b_words_of_line K A) :=
  (d_seq (d_asg (e_new (n_split (e_var 1) e_str)) (g_name (vs := [2]) (by decide)))
  (d_seq (d_if (e_and (e_test (e_op o_eq (e_op o_ix (e_var 2) e_int) e_str)) (e_test (e_op o_gt (e_ca c_len (a_cons (e_var 2) a_nil)) e_int))) (d_raise (a_cons (e_var 0) (a_cons e_int a_nil))) d_nx)
  (d_ret (e_if (e_test (e_op o_neA (e_var 1) e_str)) (e_var 2) (e_new (n_lst a_nil))))))
noncomputable def m_words_of_line (K : PySem.W.Frag) (A : Ad) : List D → M Unit D := runD 3 2 (b_words_of_line K A)
theorem SP_words_of_line {K : PySem.W.Frag} {A : Ad} : SpD (pureC K) (sp_words_of_line K A) (m_words_of_line K A) := sp_run (N := N_words_of_line) (by decide) S_words_of_line
/-- read_safe -/
abbrev N_read_safe : List Str := ["text", "rows", "words", "found", "at", "word", "is_right"]
def rd_read_safe (K : PySem.W.Frag) (A : Ad) (E : XK) : TS :=
  (tSeq (tDrop (tCallF (sp_need_string K A) E (tCons (tV 0) tNil)))
  (tSeq (tAsg (tM1 rSplit (tV 0) (tC (.str "\n"))) (gName 1))
  (tSeq (tPar 2 3 (tCons (tCallF (sp_words_of_line K A) E (tCons (tC (.int 0)) (tCons (tOp mIx (tV 1) (tC (.int 0))) tNil))) (tCons tDNewK tNil)))
  (tSeq (sLkO (tFor (iEnum K (tCons (tV 2) tNil)) (gTp (gNum 2 (gCs (gName 4) (gCs (gName 5) gNl)))) (tSeq (tAsg (tIf' (tTs (tOp (mEq K) (tOp mMod (tV 4) (tC (.int 2))) (tC (.int 1)))) (tCallF (sp_is_whole K A) E (tCons (tV 5) tNil)) (tAnV (tCallF (sp_is_shelf K A) E (tCons (tV 5) tNil)) (tOrV' (tOp (mEq K) (tV 4) (tC (.int 0))) (tOp mGt (tV 5) (tOp mIx (tV 2) (tOp mSub (tV 4) (tC (.int 2)))))))) (gName 6))
  (tSeq (sIf (tNot (tTs (tV 6))) (fun D σ H => tMkS A.c_BadText ["line", "word"] (tCons (tC (.int 0)) (tCons (tV 4) tNil)) σ H fun cls d H' => E cls d H') tNext)
  (sIf (tTs (tOp (mEq K) (tOp mMod (tV 4) (tC (.int 2))) (tC (.int 1)))) (sDPut (tV 3) (tOp mIx (tV 2) (tOp mSub (tV 4) (tC (.int 1)))) (tCB mIntT (tCons (tV 5) tNil))) tNext)))))
  (tSeq (sIf (tTs (tOp (mEq K) (tOp mMod (tCB mLen (tCons (tV 2) tNil)) (tC (.int 2))) (tC (.int 1)))) (fun D σ H => tMkS A.c_BadText ["line", "word"] (tCons (tC (.int 0)) (tCons (tCB mLen (tCons (tV 2) tNil)) tNil)) σ H fun cls d H' => E cls d H') tNext)
  (tSeq (sIf (tTs (tOp mGt (tCB mLen (tCons (tV 1) tNil)) (tC (.int 1)))) (fun D σ H => tMkS A.c_BadText ["line", "word"] (tCons (tC (.int 1)) (tCons (tC (.int 0)) tNil)) σ H fun cls d H' => E cls d H') tNext)
  (tRet (StX.tMakeR A.c_Safe (sp_SafeU_initU K A) E (tCons (tV 3) tNil)))))))))
abbrev sp_read_safe (K : PySem.W.Frag) (A : Ad) : Sp := spR N_read_safe 1 (rd_read_safe K A)
noncomputable def fb_read_safe_1 (K : PySem.W.Frag) (A : Ad) : Rho → M Unit Out :=
  (ySeq (yAsg (xIf (xT (xOp dEq (xOp dMod (xV 4) (xC (.int 2))) (xC (.int 1)))) (xF (m_is_whole K A) (xCons (xV 5) xNil)) (xAndV (xF (m_is_shelf K A) (xCons (xV 5) xNil)) (xOrV (xOp dEq (xV 4) (xC (.int 0))) (xOp dGt (xV 5) (xOp dIx (xV 2) (xOp dSub (xV 4) (xC (.int 2)))))))) (gV 6))
  (ySeq (yIf (xNot (xT (xV 6))) (yRaise A.c_BadText ["line", "word"] (xCons (xC (.int 0)) (xCons (xV 4) xNil))) yNx)
  (yIf (xT (xOp dEq (xOp dMod (xV 4) (xC (.int 2))) (xC (.int 1)))) (ySetK 3 (xCa dInt (xCons (xV 5) xNil)) (xOp dIx (xV 2) (xOp dSub (xV 4) (xC (.int 1))))) yNx)))
noncomputable def b_read_safe (K : PySem.W.Frag) (A : Ad) : Rho → M Unit Out :=
  (ySeq (yDrop (xF (m_need_string K A) (xCons (xV 0) xNil)))
  (ySeq (yAsg (xL (xSplit (xV 0) (xC (.str "\n")))) (gV 1))
  (ySeq (yParK (xF (m_words_of_line K A) (xCons (xC (.int 0)) (xCons (xOp dIx (xV 1) (xC (.int 0))) xNil))) 2 3)
  (ySeq (yFor (xEn (xCons (xV 2) xNil)) (gVt 2 (gVc (gV 4) (gVc (gV 5) gVn))) (fb_read_safe_1 K A))
  (yFree 3 (ySeq (yIf (xT (xOp dEq (xOp dMod (xCa dLen (xCons (xV 2) xNil)) (xC (.int 2))) (xC (.int 1)))) (yRaise A.c_BadText ["line", "word"] (xCons (xC (.int 0)) (xCons (xCa dLen (xCons (xV 2) xNil)) xNil))) yNx)
  (ySeq (yIf (xT (xOp dGt (xCa dLen (xCons (xV 1) xNil)) (xC (.int 1)))) (yRaise A.c_BadText ["line", "word"] (xCons (xC (.int 1)) (xCons (xC (.int 0)) xNil))) yNx)
  (yRet (xF (runI A.c_Safe 1 1 (b_SafeU_initU K A)) (xCons (xV 3) xNil))))))))))
theorem S_read_safe {K : PySem.W.Frag} {A : Ad} : StD (pureC K) (fun E => rd_read_safe K A E) (b_read_safe K A) :=
  (d_seq (d_drop (e_call SP_need_string (a_cons (e_var 0) a_nil)))
  (d_seq (d_asg (e_new (n_split (e_var 0) e_str)) (g_name (vs := [1]) (by decide)))
  (d_seq (d_parK (e_call SP_words_of_line (a_cons e_int (a_cons (e_op o_ix (e_var 1) e_int) a_nil))))
  (d_seq (d_lkO (d_for (vs := [0, 1, 2, 3, 4, 5, 6]) (i_enum (a_cons (e_var 2) a_nil)) (g_tup (g_cons (g_name (by decide)) (g_cons (g_name (by decide)) g_nil))) (d_seq (d_asg (e_if (e_test (e_op o_eq (e_op o_mod (e_var 4) e_int) e_int)) (e_call SP_is_whole (a_cons (e_var 5) a_nil)) (e_andV (e_call SP_is_shelf (a_cons (e_var 5) a_nil)) (e_orV (e_op o_eq (e_var 4) e_int) (e_op o_gt (e_var 5) (e_op o_ix (e_var 2) (e_op o_sub (e_var 4) e_int)))))) (g_name (vs := [6]) (by decide)))
  (d_seq (d_if (e_not (e_test (e_var 6))) (d_raise (a_cons e_int (a_cons (e_var 4) a_nil))) d_nx)
  (d_if (e_test (e_op o_eq (e_op o_mod (e_var 4) e_int) e_int)) (d_setK (e_ca c_int (a_cons (e_var 5) a_nil)) (e_op o_ix (e_var 2) (e_op o_sub (e_var 4) e_int))) d_nx)))))
  (d_free (d_seq (d_if (e_test (e_op o_eq (e_op o_mod (e_ca c_len (a_cons (e_var 2) a_nil)) e_int) e_int)) (d_raise (a_cons e_int (a_cons (e_ca c_len (a_cons (e_var 2) a_nil)) a_nil))) d_nx)
  (d_seq (d_if (e_test (e_op o_gt (e_ca c_len (a_cons (e_var 1) a_nil)) e_int)) (d_raise (a_cons e_int (a_cons e_int a_nil))) d_nx)
  (d_ret (e_make rfl (by decide) S_SafeU_initU (a_cons (e_var 3) a_nil))))))))))
noncomputable def m_read_safe (K : PySem.W.Frag) (A : Ad) : List D → M Unit D := runD 7 1 (b_read_safe K A)
theorem SP_read_safe {K : PySem.W.Frag} {A : Ad} : SpD (pureC K) (sp_read_safe K A) (m_read_safe K A) := sp_run (N := N_read_safe) (by decide) S_read_safe
/-- Fill.__init__ -/
abbrev N_FillU_initU : List Str := ["self", "shelf", "flow", "way", "want"]
def rd_FillU_initU (K : PySem.W.Frag) (A : Ad) (E : XK) : TS :=
  (tSeq (sFld K (tV 0) (tV 1) "shelf")
  (tSeq (sFld K (tV 0) (tV 2) "flow")
  (tSeq (sFld K (tV 0) (tV 3) "way")
  (sFld K (tV 0) (tV 4) "want"))))
abbrev sp_FillU_initU (K : PySem.W.Frag) (A : Ad) : Sp := spR N_FillU_initU 5 (rd_FillU_initU K A)
noncomputable def b_FillU_initU {S : Type} (K : PySem.W.Frag) (A : Ad) : Rho → M S Out :=
  (ySeq (ySetF K 0 "shelf" (xV 1))
  (ySeq (ySetF K 0 "flow" (xV 2))
  (ySeq (ySetF K 0 "way" (xV 3))
  (ySetF K 0 "want" (xV 4)))))
theorem S_FillU_initU {S : Type} {C : Cfg S} {K : PySem.W.Frag} {A : Ad} : StD C (fun E => rd_FillU_initU K A E) (b_FillU_initU K A) :=
  (d_seq (d_setF (e_var 1))
  (d_seq (d_setF (e_var 2))
  (d_seq (d_setF (e_var 3))
  (d_setF (e_var 4)))))
/-- read_fill -/
abbrev N_read_fill : List Str := ["line", "words", "at", "word"]
def rd_read_fill (K : PySem.W.Frag) (A : Ad) (E : XK) : TS :=
  (tSeq (sLkO (tFor (iEnum K (tCons (tV 1) tNil)) (gTp (gNum 2 (gCs (gName 2) (gCs (gName 3) gNl)))) (sIf (tNot (tIfT (tTs (tOp (mEq K) (tV 2) (tC (.int 1)))) (tTs (tCallF (sp_is_name K A) E (tCons (tV 3) tNil))) (tTs (tCallF (sp_is_shelf K A) E (tCons (tV 3) tNil))))) (fun D σ H => tMkS A.c_BadText ["line", "word"] (tCons (tV 0) (tCons (tV 2) tNil)) σ H fun cls d H' => E cls d H') tNext)))
  (tSeq (sIf (tTs (tOp mLt (tCB mLen (tCons (tV 1) tNil)) (tC (.int 4)))) (fun D σ H => tMkS A.c_BadText ["line", "word"] (tCons (tV 0) (tCons (tCB mLen (tCons (tV 1) tNil)) tNil)) σ H fun cls d H' => E cls d H') tNext)
  (tRet (StX.tMakeR A.c_Fill (sp_FillU_initU K A) E (tCons (tOp mIx (tV 1) (tC (.int 0))) (tCons (tOp mIx (tV 1) (tC (.int 1))) (tCons (tCB mTup (tCons (L2.tSl (mSl K) (tV 1) (tPa (tC (.int 3))) tNoPart) tNil)) (tCons (tOp mIx (tV 1) (tC (.int 2))) tNil))))))))
abbrev sp_read_fill (K : PySem.W.Frag) (A : Ad) : Sp := spR N_read_fill 2 (rd_read_fill K A)
noncomputable def fb_read_fill_1 (K : PySem.W.Frag) (A : Ad) : Rho → M Unit Out :=
  (yIf (xNot (xIf (xT (xOp dEq (xV 2) (xC (.int 1)))) (xT (xF (m_is_name K A) (xCons (xV 3) xNil))) (xT (xF (m_is_shelf K A) (xCons (xV 3) xNil))))) (yRaise A.c_BadText ["line", "word"] (xCons (xV 0) (xCons (xV 2) xNil))) yNx)
noncomputable def b_read_fill (K : PySem.W.Frag) (A : Ad) : Rho → M Unit Out :=
  (ySeq (yFor (xEn (xCons (xV 1) xNil)) (gVt 2 (gVc (gV 2) (gVc (gV 3) gVn))) (fb_read_fill_1 K A))
  (ySeq (yIf (xT (xOp dLt (xCa dLen (xCons (xV 1) xNil)) (xC (.int 4)))) (yRaise A.c_BadText ["line", "word"] (xCons (xV 0) (xCons (xCa dLen (xCons (xV 1) xNil)) xNil))) yNx)
  (yRet (xF (runI A.c_Fill 4 4 (b_FillU_initU K A)) (xCons (xOp dIx (xV 1) (xC (.int 0))) (xCons (xOp dIx (xV 1) (xC (.int 1))) (xCons (xCa dTup (xCons (xSl (xV 1) (xPa (xC (.int 3))) xNo) xNil)) (xCons (xOp dIx (xV 1) (xC (.int 2))) xNil))))))))
theorem S_read_fill {K : PySem.W.Frag} {A : Ad} : StD (pureC K) (fun E => rd_read_fill K A E) (b_read_fill K A) :=
  (d_seq (d_lkO (d_for (vs := [0, 1, 2, 3]) (i_enum (a_cons (e_var 1) a_nil)) (g_tup (g_cons (g_name (by decide)) (g_cons (g_name (by decide)) g_nil))) (d_if (e_not (e_ifT (e_test (e_op o_eq (e_var 2) e_int)) (e_test (e_call SP_is_name (a_cons (e_var 3) a_nil))) (e_test (e_call SP_is_shelf (a_cons (e_var 3) a_nil))))) (d_raise (a_cons (e_var 0) (a_cons (e_var 2) a_nil))) d_nx)))
  (d_seq (d_if (e_test (e_op o_lt (e_ca c_len (a_cons (e_var 1) a_nil)) e_int)) (d_raise (a_cons (e_var 0) (a_cons (e_ca c_len (a_cons (e_var 1) a_nil)) a_nil))) d_nx)
  (d_ret (e_make rfl (by decide) S_FillU_initU (a_cons (e_op o_ix (e_var 1) e_int) (a_cons (e_op o_ix (e_var 1) e_int) (a_cons (e_ca c_tup (a_cons (e_sl (e_var 1) (o_part e_int) o_none) a_nil)) (a_cons (e_op o_ix (e_var 1) e_int) a_nil))))))))
noncomputable def m_read_fill (K : PySem.W.Frag) (A : Ad) : List D → M Unit D := runD 4 2 (b_read_fill K A)
theorem SP_read_fill {K : PySem.W.Frag} {A : Ad} : SpD (pureC K) (sp_read_fill K A) (m_read_fill K A) := sp_run (N := N_read_fill) (by decide) S_read_fill
/-- read_stuck -/
abbrev N_read_stuck : List Str := ["text", "rows", "line", "row"]
def rd_read_stuck (K : PySem.W.Frag) (A : Ad) (E : XK) : TS :=
  (tSeq (tDrop (tCallF (sp_need_string K A) E (tCons (tV 0) tNil)))
  (tSeq (tAsg (tM1 rSplit (tV 0) (tC (.str "\n"))) (gName 1))
  (tSeq (sIf (tTs (tOp (mEq K) (tCallF (sp_words_of_line K A) E (tCons (tC (.int 0)) (tCons (tOp mIx (tV 1) (tC (.int 0))) tNil))) (tLst tNil))) (tSeq (sIf (tTs (tOp mGt (tCB mLen (tCons (tV 1) tNil)) (tC (.int 1)))) (fun D σ H => tMkS A.c_BadText ["line", "word"] (tCons (tC (.int 1)) (tCons (tC (.int 0)) tNil)) σ H fun cls d H' => E cls d H') tNext)
  (tRet (StX.tMakeR A.c_Stuck (sp_StuckU_initU K A) E (tCons (tTup tNil) tNil)))) tNext)
  (tRet (StX.tMakeR A.c_Stuck (sp_StuckU_initU K A) E (tCons (tCB mTup (tCons (tLkO (tLc (iEnum K (tCons (tV 1) tNil)) (gTp (gNum 2 (gCs (gName 2) (gCs (gName 3) gNl)))) tYes (tCallF (sp_read_fill K A) E (tCons (tV 2) (tCons (tM1 rSplit (tV 3) (tC (.str " "))) tNil))) [2, 3])) tNil)) tNil))))))
abbrev sp_read_stuck (K : PySem.W.Frag) (A : Ad) : Sp := spR N_read_stuck 1 (rd_read_stuck K A)
noncomputable def b_read_stuck (K : PySem.W.Frag) (A : Ad) : Rho → M Unit Out :=
  (ySeq (yDrop (xF (m_need_string K A) (xCons (xV 0) xNil)))
  (ySeq (yAsg (xL (xSplit (xV 0) (xC (.str "\n")))) (gV 1))
  (ySeq (yIf (xT (xOp dEq (xF (m_words_of_line K A) (xCons (xC (.int 0)) (xCons (xOp dIx (xV 1) (xC (.int 0))) xNil))) (xL (xLstN xNil)))) (ySeq (yIf (xT (xOp dGt (xCa dLen (xCons (xV 1) xNil)) (xC (.int 1)))) (yRaise A.c_BadText ["line", "word"] (xCons (xC (.int 1)) (xCons (xC (.int 0)) xNil))) yNx)
  (yRet (xF (runI A.c_Stuck 1 1 (b_StuckU_initU K A)) (xCons (xTup xNil) xNil)))) yNx)
  (yRet (xF (runI A.c_Stuck 1 1 (b_StuckU_initU K A)) (xCons (xCa dTup (xCons (xL (xLc (xEn (xCons (xV 1) xNil)) (gVt 2 (gVc (gV 2) (gVc (gV 3) gVn))) (fun _ => M.ret true) (xF (m_read_fill K A) (xCons (xV 2) (xCons (xL (xSplit (xV 3) (xC (.str " ")))) xNil))) [2, 3])) xNil)) xNil))))))
theorem S_read_stuck {K : PySem.W.Frag} {A : Ad} : StD (pureC K) (fun E => rd_read_stuck K A E) (b_read_stuck K A) :=
  (d_seq (d_drop (e_call SP_need_string (a_cons (e_var 0) a_nil)))
  (d_seq (d_asg (e_new (n_split (e_var 0) e_str)) (g_name (vs := [1]) (by decide)))
  (d_seq (d_if (e_test (e_op o_eq (e_call SP_words_of_line (a_cons e_int (a_cons (e_op o_ix (e_var 1) e_int) a_nil))) (e_new (n_lst a_nil)))) (d_seq (d_if (e_test (e_op o_gt (e_ca c_len (a_cons (e_var 1) a_nil)) e_int)) (d_raise (a_cons e_int (a_cons e_int a_nil))) d_nx)
  (d_ret (e_make rfl (by decide) S_StuckU_initU (a_cons (e_tup a_nil) a_nil)))) d_nx)
  (d_ret (e_make rfl (by decide) S_StuckU_initU (a_cons (e_ca c_tup (a_cons (e_new (n_lkO (lc_core2 (i_enum (a_cons (e_var 1) a_nil)) (g_tup (g_cons (g_name (by decide)) (g_cons (g_name (by decide)) g_nil))) yes_ev (e_call SP_read_fill (a_cons (e_var 2) (a_cons (e_new (n_split (e_var 3) e_str)) a_nil)))))) a_nil)) a_nil))))))
noncomputable def m_read_stuck (K : PySem.W.Frag) (A : Ad) : List D → M Unit D := runD 4 1 (b_read_stuck K A)
theorem SP_read_stuck {K : PySem.W.Frag} {A : Ad} : SpD (pureC K) (sp_read_stuck K A) (m_read_stuck K A) := sp_run (N := N_read_stuck) (by decide) S_read_stuck
/-- is_integer -/
abbrev N_is_integer : List Str := ["value"]
def rd_is_integer (K : PySem.W.Frag) (A : Ad) (E : XK) : TS :=
  (tRet (tAnV (tCB (mIk K) (tCons (tV 0) (tCons (tC (.ty "int")) tNil))) (tNoV (tCB (mIk K) (tCons (tV 0) (tCons (tC (.ty "bool")) tNil))))))
abbrev sp_is_integer (K : PySem.W.Frag) (A : Ad) : Sp := spR N_is_integer 1 (rd_is_integer K A)
noncomputable def b_is_integer (K : PySem.W.Frag) (A : Ad) : Rho → M Unit Out :=
  (yRet (xAndV (xCa (dIsk K) (xCons (xV 0) (xCons (xC (.ty "int")) xNil))) (xNotV (xCa (dIsk K) (xCons (xV 0) (xCons (xC (.ty "bool")) xNil))))))
theorem S_is_integer {K : PySem.W.Frag} {A : Ad} : StD (pureC K) (fun E => rd_is_integer K A E) (b_is_integer K A) :=
  (d_ret (e_andV (e_ca c_isi (a_cons (e_var 0) (a_cons e_ty a_nil))) (e_notV (e_ca c_isi (a_cons (e_var 0) (a_cons e_ty a_nil))))))
noncomputable def m_is_integer (K : PySem.W.Frag) (A : Ad) : List D → M Unit D := runD 1 1 (b_is_integer K A)
theorem SP_is_integer {K : PySem.W.Frag} {A : Ad} : SpD (pureC K) (sp_is_integer K A) (m_is_integer K A) := sp_run (N := N_is_integer) (by decide) S_is_integer
/-- is_numbers -/
abbrev N_is_numbers : List Str := ["numbers", "one"]
def rd_is_numbers (K : PySem.W.Frag) (A : Ad) (E : XK) : TS :=
  (tSeq (sIf (tNot (tTs (tCB (mIk K) (tCons (tV 0) (tCons (tC (.ty "dict")) tNil))))) (tRet (tC (.bl false))) tNext)
  (tRet (tCB mAll (tCons (tLkO (tLc (iOf (tV 0) (mW K)) (gName 1) tYes (tAnV (tCallF (sp_is_shelf K A) E (tCons (tV 1) tNil)) (tAnV (tCallF (sp_is_integer K A) E (tCons (tOp mIx (tV 0) (tV 1)) tNil)) (tOp mLt (tCB mAbs (tCons (tOp mIx (tV 0) (tV 1)) tNil)) (tC (.int v_GREATEST))))) [1])) tNil))))
abbrev sp_is_numbers (K : PySem.W.Frag) (A : Ad) : Sp := spR N_is_numbers 1 (rd_is_numbers K A)
noncomputable def b_is_numbers (K : PySem.W.Frag) (A : Ad) : Rho → M Unit Out :=
  (ySeq (yIf (xNot (xT (xCa (dIsk K) (xCons (xV 0) (xCons (xC (.ty "dict")) xNil))))) (yRet (xC (.bl false))) yNx)
  (yRet (xCa dAll (xCons (xL (xLcV 0 (gV 1) (fun _ => M.ret true) (xAndV (xF (m_is_shelf K A) (xCons (xV 1) xNil)) (xAndV (xF (m_is_integer K A) (xCons (xOp dIx (xV 0) (xV 1)) xNil)) (xOp dLt (xCa dAbs (xCons (xOp dIx (xV 0) (xV 1)) xNil)) (xC (.int v_GREATEST))))) [1])) xNil))))
theorem S_is_numbers {K : PySem.W.Frag} {A : Ad} : StD (pureC K) (fun E => rd_is_numbers K A E) (b_is_numbers K A) :=
  (d_seq (d_if (e_not (e_test (e_ca c_isi (a_cons (e_var 0) (a_cons e_ty a_nil))))) (d_ret e_bl) d_nx)
  (d_ret (e_ca c_all (a_cons (e_new (n_lcV (g_name (by decide)) yes_ev (e_andV (e_call SP_is_shelf (a_cons (e_var 1) a_nil)) (e_andV (e_call SP_is_integer (a_cons (e_op o_ix (e_var 0) (e_var 1)) a_nil)) (e_op o_lt (e_ca c_abs (a_cons (e_op o_ix (e_var 0) (e_var 1)) a_nil)) e_int))))) a_nil))))
noncomputable def m_is_numbers (K : PySem.W.Frag) (A : Ad) : List D → M Unit D := runD 2 1 (b_is_numbers K A)
theorem SP_is_numbers {K : PySem.W.Frag} {A : Ad} : SpD (pureC K) (sp_is_numbers K A) (m_is_numbers K A) := sp_run (N := N_is_numbers) (by decide) S_is_numbers
/-- pairs_text -/
abbrev N_pairs_text : List Str := ["told", "shelf", "one"]
def rd_pairs_text (K : PySem.W.Frag) (A : Ad) (E : XK) : TS :=
  (tRet (tIf' (tTs (tOp (mNeA K) (tV 0) tDNewK)) (tM1 (rJoin K) (tC (.str " ")) (tLkO (tLc (iOf (tCB (rSortedS K) (tCons (tLkO (tLc (iOf (tV 0) (mW K)) (gName 2) tYes (tCB mStr (tCons (tV 2) tNil)) [2])) tNil)) (mW K)) (gName 1) tYes (fun σ H Q => tJs [(tFmt (tV 1)), (tC (.str " ")), (tFmt (tOp mIx (tV 0) (tV 1)))] Str.empty σ H fun out H1 => Q (.str out) H1) [1]))) (tC (.str "-"))))
abbrev sp_pairs_text (K : PySem.W.Frag) (A : Ad) : Sp := spR N_pairs_text 1 (rd_pairs_text K A)
noncomputable def b_pairs_text (K : PySem.W.Frag) (A : Ad) : Rho → M Unit Out :=
  (yRet (xIf (xT (xOp neA (xV 0) (xC (.dct [])))) (xM1 joinD (xC (.str " ")) (xL (xLc (xIt (xCa dSorted (xCons (xL (xLcV 0 (gV 2) (fun _ => M.ret true) (xCa dStr (xCons (xV 2) xNil)) [2])) xNil))) (gV 1) (fun _ => M.ret true) (joinR [(xFmt (xV 1)), (xC (.str " ")), (xFmt (xOp dIx (xV 0) (xV 1)))] Str.empty) [1]))) (xC (.str "-"))))
theorem S_pairs_text {K : PySem.W.Frag} {A : Ad} : StD (pureC K) (fun E => rd_pairs_text K A E) (b_pairs_text K A) :=
  (d_ret (e_if (e_test (e_op o_neA (e_var 0) e_dnew)) (e_join e_str (e_new (n_lkO (lc_core2 (i_of (e_ca c_sorted (a_cons (e_new (n_lcV (g_name (by decide)) yes_ev (e_ca c_str (a_cons (e_var 2) a_nil)))) a_nil))) (g_name (by decide)) yes_ev (j_run (ts := [fun E => (tFmt (tV 1)), fun E => (tC (.str " ")), fun E => (tFmt (tOp mIx (tV 0) (tV 1)))]) (EvJ.cons (e_fmt (e_var 1)) (EvJ.cons e_str (EvJ.cons (e_fmt (e_op o_ix (e_var 0) (e_var 1))) EvJ.nil))) Str.empty))))) e_str))
noncomputable def m_pairs_text (K : PySem.W.Frag) (A : Ad) : List D → M Unit D := runD 3 1 (b_pairs_text K A)
theorem SP_pairs_text {K : PySem.W.Frag} {A : Ad} : SpD (pureC K) (sp_pairs_text K A) (m_pairs_text K A) := sp_run (N := N_pairs_text) (by decide) S_pairs_text
/-- write_safe -/
abbrev N_write_safe : List Str := ["safe"]
def rd_write_safe (K : PySem.W.Frag) (A : Ad) (E : XK) : TS :=
  (tSeq (sIf (tOr' (tNot (tTs (tCB (mIk K) (tCons (tV 0) (tCons (tC (.ref A.c_Safe)) tNil))))) (tNot (tTs (tCallF (sp_is_numbers K A) E (tCons (tFd K (tV 0) "numbers") tNil))))) (fun D σ H => tMkS A.c_BadPaper ["part"] (tCons (tC (.str "safe")) tNil) σ H fun cls d H' => E cls d H') tNext)
  (tRet (tCallF (sp_pairs_text K A) E (tCons (tFd K (tV 0) "numbers") tNil))))
abbrev sp_write_safe (K : PySem.W.Frag) (A : Ad) : Sp := spR N_write_safe 1 (rd_write_safe K A)
noncomputable def b_write_safe (K : PySem.W.Frag) (A : Ad) : Rho → M Unit Out :=
  (ySeq (yIf (xOr (xNot (xT (xCa (dIsk K) (xCons (xV 0) (xCons (xC (.adr A.c_Safe)) xNil))))) (xNot (xT (xF (m_is_numbers K A) (xCons (x1 (dFd K "numbers") (xV 0)) xNil))))) (yRaise A.c_BadPaper ["part"] (xCons (xC (.str "safe")) xNil)) yNx)
  (yRet (xF (m_pairs_text K A) (xCons (x1 (dFd K "numbers") (xV 0)) xNil))))
theorem S_write_safe {K : PySem.W.Frag} {A : Ad} : StD (pureC K) (fun E => rd_write_safe K A E) (b_write_safe K A) :=
  (d_seq (d_if (e_or (e_not (e_test (e_ca c_isi (a_cons (e_var 0) (a_cons e_adr a_nil))))) (e_not (e_test (e_call SP_is_numbers (a_cons (e_fld (e_var 0)) a_nil))))) (d_raise (a_cons e_str a_nil)) d_nx)
  (d_ret (e_call SP_pairs_text (a_cons (e_fld (e_var 0)) a_nil))))
noncomputable def m_write_safe (K : PySem.W.Frag) (A : Ad) : List D → M Unit D := runD 1 1 (b_write_safe K A)
theorem SP_write_safe {K : PySem.W.Frag} {A : Ad} : SpD (pureC K) (sp_write_safe K A) (m_write_safe K A) := sp_run (N := N_write_safe) (by decide) S_write_safe
/-- is_fill -/
abbrev N_is_fill : List Str := ["fill", "shelf"]
def rd_is_fill (K : PySem.W.Frag) (A : Ad) (E : XK) : TS :=
  (tSeq (sIf (tOr' (tNot (tTs (tCB (mIk K) (tCons (tV 0) (tCons (tC (.ref A.c_Fill)) tNil))))) (tOr' (tNot (tTs (tCallF (sp_is_shelf K A) E (tCons (tFd K (tV 0) "shelf") tNil)))) (tOr' (tNot (tTs (tCallF (sp_is_name K A) E (tCons (tFd K (tV 0) "flow") tNil)))) (tNot (tTs (tCallF (sp_is_shelf K A) E (tCons (tFd K (tV 0) "want") tNil))))))) (tRet (tC (.bl false))) tNext)
  (tRet (tAnV (tCB (mIk K) (tCons (tFd K (tV 0) "way") (tCons (tC (.ty "tuple")) tNil))) (tAnV (tOp (mNeA K) (tFd K (tV 0) "way") (tTup tNil)) (tCB mAll (tCons (tLkO (tLc (iOf (tFd K (tV 0) "way") (mW K)) (gName 1) tYes (tCallF (sp_is_shelf K A) E (tCons (tV 1) tNil)) [1])) tNil))))))
abbrev sp_is_fill (K : PySem.W.Frag) (A : Ad) : Sp := spR N_is_fill 1 (rd_is_fill K A)
noncomputable def b_is_fill (K : PySem.W.Frag) (A : Ad) : Rho → M Unit Out :=
  (ySeq (yIf (xOr (xNot (xT (xCa (dIsk K) (xCons (xV 0) (xCons (xC (.adr A.c_Fill)) xNil))))) (xOr (xNot (xT (xF (m_is_shelf K A) (xCons (x1 (dFd K "shelf") (xV 0)) xNil)))) (xOr (xNot (xT (xF (m_is_name K A) (xCons (x1 (dFd K "flow") (xV 0)) xNil)))) (xNot (xT (xF (m_is_shelf K A) (xCons (x1 (dFd K "want") (xV 0)) xNil))))))) (yRet (xC (.bl false))) yNx)
  (yRet (xAndV (xCa (dIsk K) (xCons (x1 (dFd K "way") (xV 0)) (xCons (xC (.ty "tuple")) xNil))) (xAndV (xOp neA (x1 (dFd K "way") (xV 0)) (xTup xNil)) (xCa dAll (xCons (xL (xLc (xIt (x1 (dFd K "way") (xV 0))) (gV 1) (fun _ => M.ret true) (xF (m_is_shelf K A) (xCons (xV 1) xNil)) [1])) xNil))))))
theorem S_is_fill {K : PySem.W.Frag} {A : Ad} : StD (pureC K) (fun E => rd_is_fill K A E) (b_is_fill K A) :=
  (d_seq (d_if (e_or (e_not (e_test (e_ca c_isi (a_cons (e_var 0) (a_cons e_adr a_nil))))) (e_or (e_not (e_test (e_call SP_is_shelf (a_cons (e_fld (e_var 0)) a_nil)))) (e_or (e_not (e_test (e_call SP_is_name (a_cons (e_fld (e_var 0)) a_nil)))) (e_not (e_test (e_call SP_is_shelf (a_cons (e_fld (e_var 0)) a_nil))))))) (d_ret e_bl) d_nx)
  (d_ret (e_andV (e_ca c_isi (a_cons (e_fld (e_var 0)) (a_cons e_ty a_nil))) (e_andV (e_op o_neA (e_fld (e_var 0)) (e_tup a_nil)) (e_ca c_all (a_cons (e_new (n_lkO (lc_core2 (i_of (e_fld (e_var 0))) (g_name (by decide)) yes_ev (e_call SP_is_shelf (a_cons (e_var 1) a_nil))))) a_nil))))))
noncomputable def m_is_fill (K : PySem.W.Frag) (A : Ad) : List D → M Unit D := runD 2 1 (b_is_fill K A)
theorem SP_is_fill {K : PySem.W.Frag} {A : Ad} : SpD (pureC K) (sp_is_fill K A) (m_is_fill K A) := sp_run (N := N_is_fill) (by decide) S_is_fill
/-- write_stuck -/
abbrev N_write_stuck : List Str := ["stuck", "rows", "fill"]
def rd_write_stuck (K : PySem.W.Frag) (A : Ad) (E : XK) : TS :=
  (tSeq (sIf (tOr' (tNot (tTs (tCB (mIk K) (tCons (tV 0) (tCons (tC (.ref A.c_Stuck)) tNil))))) (tNot (tTs (tCB (mIk K) (tCons (tFd K (tV 0) "fills") (tCons (tC (.ty "tuple")) tNil)))))) (fun D σ H => tMkS A.c_BadPaper ["part"] (tCons (tC (.str "stuck")) tNil) σ H fun cls d H' => E cls d H') tNext)
  (tSeq (sIf (tNot (tTs (tCB mAll (tCons (tLkO (tLc (iOf (tFd K (tV 0) "fills") (mW K)) (gName 2) tYes (tCallF (sp_is_fill K A) E (tCons (tV 2) tNil)) [2])) tNil)))) (fun D σ H => tMkS A.c_BadPaper ["part"] (tCons (tC (.str "stuck")) tNil) σ H fun cls d H' => E cls d H') tNext)
  (tSeq (tAsg (tLc (iOf (tFd K (tV 0) "fills") (mW K)) (gName 2) tYes (tM1 (rJoin K) (tC (.str " ")) (tTup (tCons (tFd K (tV 2) "shelf") (tCons (tFd K (tV 2) "flow") (tCons (tFd K (tV 2) "want") (StX.tStar K (tFd K (tV 2) "way") tNil)))))) [2]) (gName 1))
  (tRet (tIf' (tTs (tOp (mNeA K) (tV 1) (tLst tNil))) (tM1 (rJoin K) (tC (.str "\n")) (tV 1)) (tC (.str "-")))))))
abbrev sp_write_stuck (K : PySem.W.Frag) (A : Ad) : Sp := spR N_write_stuck 1 (rd_write_stuck K A)
noncomputable def b_write_stuck (K : PySem.W.Frag) (A : Ad) : Rho → M Unit Out :=
  (ySeq (yIf (xOr (xNot (xT (xCa (dIsk K) (xCons (xV 0) (xCons (xC (.adr A.c_Stuck)) xNil))))) (xNot (xT (xCa (dIsk K) (xCons (x1 (dFd K "fills") (xV 0)) (xCons (xC (.ty "tuple")) xNil)))))) (yRaise A.c_BadPaper ["part"] (xCons (xC (.str "stuck")) xNil)) yNx)
  (ySeq (yIf (xNot (xT (xCa dAll (xCons (xL (xLc (xIt (x1 (dFd K "fills") (xV 0))) (gV 2) (fun _ => M.ret true) (xF (m_is_fill K A) (xCons (xV 2) xNil)) [2])) xNil)))) (yRaise A.c_BadPaper ["part"] (xCons (xC (.str "stuck")) xNil)) yNx)
  (ySeq (yAsg (xL (xLc (xIt (x1 (dFd K "fills") (xV 0))) (gV 2) (fun _ => M.ret true) (xM1 joinD (xC (.str " ")) (xTup (xCons (x1 (dFd K "shelf") (xV 2)) (xCons (x1 (dFd K "flow") (xV 2)) (xCons (x1 (dFd K "want") (xV 2)) (xStar (x1 (dFd K "way") (xV 2)) xNil)))))) [2])) (gV 1))
  (yRet (xIf (xT (xOp neA (xV 1) (xL (xLstN xNil)))) (xM1 joinD (xC (.str "\n")) (xV 1)) (xC (.str "-")))))))
theorem S_write_stuck {K : PySem.W.Frag} {A : Ad} : StD (pureC K) (fun E => rd_write_stuck K A E) (b_write_stuck K A) :=
  (d_seq (d_if (e_or (e_not (e_test (e_ca c_isi (a_cons (e_var 0) (a_cons e_adr a_nil))))) (e_not (e_test (e_ca c_isi (a_cons (e_fld (e_var 0)) (a_cons e_ty a_nil)))))) (d_raise (a_cons e_str a_nil)) d_nx)
  (d_seq (d_if (e_not (e_test (e_ca c_all (a_cons (e_new (n_lkO (lc_core2 (i_of (e_fld (e_var 0))) (g_name (by decide)) yes_ev (e_call SP_is_fill (a_cons (e_var 2) a_nil))))) a_nil)))) (d_raise (a_cons e_str a_nil)) d_nx)
  (d_seq (d_asg (e_new (lc_core2 (i_of (e_fld (e_var 0))) (g_name (by decide)) yes_ev (e_join e_str (e_tup (a_cons (e_fld (e_var 2)) (a_cons (e_fld (e_var 2)) (a_cons (e_fld (e_var 2)) (a_star (e_fld (e_var 2)) a_nil)))))))) (g_name (vs := [1]) (by decide)))
  (d_ret (e_if (e_test (e_op o_neA (e_var 1) (e_new (n_lst a_nil)))) (e_join e_str (e_var 1)) e_str)))))
noncomputable def m_write_stuck (K : PySem.W.Frag) (A : Ad) : List D → M Unit D := runD 3 1 (b_write_stuck K A)
theorem SP_write_stuck {K : PySem.W.Frag} {A : Ad} : SpD (pureC K) (sp_write_stuck K A) (m_write_stuck K A) := sp_run (N := N_write_stuck) (by decide) S_write_stuck
/-- _law_right -/
abbrev N_L_right : List Str := ["_law_text_so", "_law_safe_due_here", "_law_stuck_due_here", "_law_heard_here", "_law_told", "_law_due"]
def rd_L_right (K : PySem.W.Frag) (A : Ad) (E : XK) : TS :=
  (tSeq (tPar 1 2 (tCons (tCallF (sp_L_safe_due K A) E (tCons (tV 0) tNil)) (tCons (tCallF (sp_L_stuck_due K A) E (tCons (tV 0) tNil)) tNil)))
  (tSeq (tAsg (tLst (tCons (tHear A.tabs (("_law_right" ++ ".<locals>.") ++ "<lambda>") N_L_heard (rh_L_heard K A) (fun E => (tCallF (sp_write_safe K A) E (tCons (tCallF (sp_read_safe K A) E (tCons (tV 0) tNil)) tNil)))) tNil)) (gName 3))
  (tSeq (tDrop (tBM K "list" rAppend (tV 3) (tCons (tHear A.tabs (("_law_right" ++ ".<locals>.") ++ "<lambda>") N_L_heard (rh_L_heard K A) (fun E => (tCallF (sp_write_stuck K A) E (tCons (tCallF (sp_read_stuck K A) E (tCons (tV 0) tNil)) tNil)))) tNil)))
  (tSeq (sLkO (tFor (iOf (tLst (tCons (tTup (tCons (tOp mIx (tV 3) (tC (.int 0))) (tCons (tV 1) tNil))) (tCons (tTup (tCons (tOp mIx (tV 3) (tC (.int 1))) (tCons (tV 2) tNil))) tNil))) (mW K)) (gTp (gNum 2 (gCs (gName 4) (gCs (gName 5) gNl)))) (sIf (tTs (tOp (mNeA K) (tV 4) (tIf' (tTs (tOp mIsN (tV 5) (tC .non))) (tLst (tCons (tV 0) tNil)) (tTup (tCons (tC (.str "text")) (tCons (tCB mRepr (tCons (tOp mIx (tV 5) (tC (.int 0))) tNil)) (tCons (tCB mRepr (tCons (tOp mIx (tV 5) (tC (.int 1))) tNil)) tNil))))))) (tRet (tC (.bl false))) tNext)))
  (tRet (tC (.bl true)))))))
abbrev sp_L_right (K : PySem.W.Frag) (A : Ad) : Sp := spR N_L_right 1 (rd_L_right K A)
noncomputable def fb_L_right_1 {S : Type} (K : PySem.W.Frag) (A : Ad) : Rho → M S Out :=
  (yIf (xT (xOp neA (xV 4) (xIf (xT (xOp dIsN (xV 5) (xC .non))) (xL (xLstN (xCons (xV 0) xNil))) (xTup (xCons (xC (.str "text")) (xCons (xCa dRepr (xCons (xOp dIx (xV 5) (xC (.int 0))) xNil)) (xCons (xCa dRepr (xCons (xOp dIx (xV 5) (xC (.int 1))) xNil)) xNil))))))) (yRet (xC (.bl false))) yNx)
noncomputable def b_L_right {S : Type} (K : PySem.W.Frag) (A : Ad) : Rho → M S Out :=
  (ySeq (yPar (xF (up (m_L_safe_due K A)) (xCons (xV 0) xNil)) (xF (up (m_L_stuck_due K A)) (xCons (xV 0) xNil)) 1 2)
  (ySeq (yAsgN (xLstN (xCons (xHear K (.ref A.c_ShelfError) 5 1 2 3 (xF (up (m_write_safe K A)) (xCons (xF (up (m_read_safe K A)) (xCons (xV 0) xNil)) xNil)) (b_L_heard K A)) xNil)) 3)
  (ySeq (yApp 3 (xHear K (.ref A.c_ShelfError) 5 1 2 3 (xF (up (m_write_stuck K A)) (xCons (xF (up (m_read_stuck K A)) (xCons (xV 0) xNil)) xNil)) (b_L_heard K A)))
  (yFree 3 (ySeq (yFor (xIt (xL (xLstN (xCons (xTup (xCons (xOp dIx (xV 3) (xC (.int 0))) (xCons (xV 1) xNil))) (xCons (xTup (xCons (xOp dIx (xV 3) (xC (.int 1))) (xCons (xV 2) xNil))) xNil))))) (gVt 2 (gVc (gV 4) (gVc (gV 5) gVn))) (fb_L_right_1 K A))
  (yRet (xC (.bl true))))))))
theorem S_L_right {S : Type} {C : Cfg S} {K : PySem.W.Frag} {A : Ad} (hT : ∀ s H, C.I s H → LamX.Tabs A.tabs H) (hL : ∀ s H H1 cl, C.I s H → LamTo A.tabs (("_law_right" ++ ".<locals>.") ++ "<lambda>") H H1 cl → C.I s H1 ∧ Ext C.keep H H1) : StD C (fun E => rd_L_right K A E) (b_L_right K A) :=
  (d_seq (d_par (e_call SP_L_safe_due.up (a_cons (e_var 0) a_nil)) (e_call SP_L_stuck_due.up (a_cons (e_var 0) a_nil)))
  (d_seq (d_asgN (n_lst (a_cons (e_hear hT hL rfl (by decide) (by decide) (by decide) (by decide) (by decide) (by decide) (e_call SP_write_safe.up (a_cons (e_call SP_read_safe.up (a_cons (e_var 0) a_nil)) a_nil)) (S_L_heard (C := C))) a_nil)))
  (d_seq (d_app (e_hear hT hL rfl (by decide) (by decide) (by decide) (by decide) (by decide) (by decide) (e_call SP_write_stuck.up (a_cons (e_call SP_read_stuck.up (a_cons (e_var 0) a_nil)) a_nil)) (S_L_heard (C := C))))
  (d_free (d_seq (d_lkO (d_for (vs := [0, 1, 2, 3, 4, 5]) (i_of (e_new (n_lst (a_cons (e_tup (a_cons (e_op o_ix (e_var 3) e_int) (a_cons (e_var 1) a_nil))) (a_cons (e_tup (a_cons (e_op o_ix (e_var 3) e_int) (a_cons (e_var 2) a_nil))) a_nil))))) (g_tup (g_cons (g_name (by decide)) (g_cons (g_name (by decide)) g_nil))) (d_if (e_test (e_op o_neA (e_var 4) (e_if (e_test (e_op o_isN (e_var 5) e_non)) (e_new (n_lst (a_cons (e_var 0) a_nil))) (e_tup (a_cons e_str (a_cons (e_ca c_repr (a_cons (e_op o_ix (e_var 5) e_int) a_nil)) (a_cons (e_ca c_repr (a_cons (e_op o_ix (e_var 5) e_int) a_nil)) a_nil))))))) (d_ret e_bl) d_nx)))
  (d_ret e_bl))))))
theorem SP_L_right {S : Type} {C : Cfg S} {K : PySem.W.Frag} {A : Ad} (hT : ∀ s H, C.I s H → LamX.Tabs A.tabs H) (hL : ∀ s H H1 cl, C.I s H → LamTo A.tabs (("_law_right" ++ ".<locals>.") ++ "<lambda>") H H1 cl → C.I s H1 ∧ Ext C.keep H H1) : SpD C (sp_L_right K A) (runD 6 1 (b_L_right K A)) := sp_run (N := N_L_right) (by decide) (S_L_right hT hL)
/-- law -/
def rt_law (K : PySem.W.Frag) (A : Ad) (E : XK) : TS :=
  (tSeq (tAsg (tLst (tCons (tC (.str "-")) (tCons (tC (.str "a 0 b 1 c2 -7")) (tCons (tC (.str "a p b a")) (tCons (tC (.str "c r a c\na p b a\nb q c b")) (tCons (tC (.str "a s c e b a\nb2 zzzzzzzz a b2")) tNil)))))) (gName 2))
  (tSeq (tAsg (tOp (mAdd K) (tV 2) (tLst (tCons (tC (.str "outs 5")) (tCons (tC (.str "m 1")) tNil)))) (gName 2))
  (tSeq (sLkO (tFor (iRng1 (tCons (tC (.int 10)) tNil)) (gName 3) (tSeq (tAsg (tCallF (sp_L_pick K A) E (tCons (tV 1) (tCons (tV 2) tNil))) (gName 4))
  (tSeq (sIf (tNot (tTs (tCallF (sp_L_right K A) E (tCons (tV 4) tNil)))) (tRet (tC (.bl false))) tNext)
  (tSeq (sLkO (tFor (iRng1 (tCons (tC (.int 3)) tNil)) (gName 5) (tSeq (tAsg (tCallF (sp_L_bent K A) E (tCons (tV 1) (tCons (tV 4) tNil))) (gName 4))
  (sIf (tNot (tTs (tCallF (sp_L_right K A) E (tCons (tV 4) tNil)))) (tRet (tC (.bl false))) tNext))))
  (tSeq (tAsg (tCallF (sp_L_pick K A) E (tCons (tV 1) (tCons (tLst (tCons (tC .non) (tCons (tC (.int 0)) (tCons (tC (.bl true)) (tCons (tLst (tCons (tC (.str "a 0")) tNil)) (tCons (tTup (tCons (tC (.str "a")) (tCons (tC (.int 0)) tNil))) (tCons tDNewK (tCons (StX.tMakeR A.c_Stuck (sp_StuckU_initU K A) E (tCons (tTup tNil) tNil)) tNil)))))))) tNil))) (gName 7))
  (tSeq (tAsg (tLst (tCons (tHear A.tabs (("law" ++ ".<locals>.") ++ "<lambda>") N_L_heard (rh_L_heard K A) (fun E => (tCallF (sp_read_safe K A) E (tCons (tV 7) tNil)))) tNil)) (gName 6))
  (tSeq (tDrop (tBM K "list" rAppend (tV 6) (tCons (tHear A.tabs (("law" ++ ".<locals>.") ++ "<lambda>") N_L_heard (rh_L_heard K A) (fun E => (tCallF (sp_read_stuck K A) E (tCons (tV 7) tNil)))) tNil)))
  (sIf (tTs (tOp (mNeA K) (tV 6) (tOp mMul (tLst (tCons (tTup (tCons (tC (.str "text")) (tCons (tC (.str "0")) (tCons (tC (.str "0")) tNil)))) tNil)) (tC (.int 2))))) (tRet (tC (.bl false))) tNext)))))))))
  (tSeq (tAsg (tLst (tCons (tC (.str "")) (tCons (tC (.str "a 0 a 1")) (tCons (tC (.str "b 0 a 1")) (tCons (tC (.str "a p b a\n")) (tCons (tC (.str "a p b")) (tCons (tC (.str "a 0 b")) (tCons (tC (.str "-\n-")) (tCons (tC (.str "- ")) (tCons (tC (.str "- a")) (tCons (tC (.str "-\na 0")) (tCons (tC (.str "a 0\nb 1")) (tCons (tC (.str "a 0\n")) tNil))))))))))))) (gName 2))
  (tRet (tOp (mEq K) (tLkO (tLc (iOf (tV 2) (mW K)) (gName 4) (tNot (tTs (tCallF (sp_L_right K A) (fun _ _ _ => False) (tCons (tV 4) tNil)))) (tV 4) [4])) (tLst tNil)))))))
abbrev N_law : List Str := ["_law_script", "_law_pen_here", "_law_some", "_law_turn", "_law_text_so", "_law_again", "_law_heard_here", "_law_odd"]
def rd_law (K : PySem.W.Frag) (A : Ad) (E : XK) : TS :=
  (tSeq (tAsg (tCallF (sp_L_pen K A) E (tCons (tV 0) tNil)) (gName 1)) (rt_law K A E))
abbrev sp_law (K : PySem.W.Frag) (A : Ad) : Sp := spR N_law 1 (rd_law K A)
noncomputable def fb_law_1 {S : Type} (K : PySem.W.Frag) (A : Ad) (mm_L_bent : List D → M S D) (mm_L_pen : List D → M S D) (mm_L_pick : List D → M S D) (mm_L_right : List D → M S D) : Rho → M S Out :=
  (ySeq (yAsg (xF mm_L_bent (xCons (xV 1) (xCons (xV 4) xNil))) (gV 4))
  (yIf (xNot (xT (xF mm_L_right (xCons (xV 4) xNil)))) (yRet (xC (.bl false))) yNx))
noncomputable def fb_law_2 {S : Type} (K : PySem.W.Frag) (A : Ad) (mm_L_bent : List D → M S D) (mm_L_pen : List D → M S D) (mm_L_pick : List D → M S D) (mm_L_right : List D → M S D) : Rho → M S Out :=
  (ySeq (yAsg (xF mm_L_pick (xCons (xV 1) (xCons (xV 2) xNil))) (gV 4))
  (ySeq (yIf (xNot (xT (xF mm_L_right (xCons (xV 4) xNil)))) (yRet (xC (.bl false))) yNx)
  (ySeq (yFor (xR1 (xCons (xC (.int 3)) xNil)) (gV 5) (fb_law_1 K A mm_L_bent mm_L_pen mm_L_pick mm_L_right))
  (ySeq (yAsg (xF mm_L_pick (xCons (xV 1) (xCons (xL (xLstN (xCons (xC .non) (xCons (xC (.int 0)) (xCons (xC (.bl true)) (xCons (xL (xLstN (xCons (xC (.str "a 0")) xNil))) (xCons (xTup (xCons (xC (.str "a")) (xCons (xC (.int 0)) xNil))) (xCons (xC (.dct [])) (xCons (xF (runI A.c_Stuck 1 1 (b_StuckU_initU K A)) (xCons (xTup xNil) xNil)) xNil))))))))) xNil))) (gV 7))
  (ySeq (yAsgN (xLstN (xCons (xHear K (.ref A.c_ShelfError) 5 1 2 3 (xF (up (m_read_safe K A)) (xCons (xV 7) xNil)) (b_L_heard K A)) xNil)) 6)
  (ySeq (yApp 6 (xHear K (.ref A.c_ShelfError) 5 1 2 3 (xF (up (m_read_stuck K A)) (xCons (xV 7) xNil)) (b_L_heard K A)))
  (yFree 6 (yIf (xT (xOp neA (xV 6) (xOp dMul (xL (xLstN (xCons (xTup (xCons (xC (.str "text")) (xCons (xC (.str "0")) (xCons (xC (.str "0")) xNil)))) xNil))) (xC (.int 2))))) (yRet (xC (.bl false))) yNx))))))))
noncomputable def b_law {S : Type} (K : PySem.W.Frag) (A : Ad) (mm_L_bent : List D → M S D) (mm_L_pen : List D → M S D) (mm_L_pick : List D → M S D) (mm_L_right : List D → M S D) : Rho → M S Out :=
  (ySeq (yAsg (xL (xLstN (xCons (xC (.str "-")) (xCons (xC (.str "a 0 b 1 c2 -7")) (xCons (xC (.str "a p b a")) (xCons (xC (.str "c r a c\na p b a\nb q c b")) (xCons (xC (.str "a s c e b a\nb2 zzzzzzzz a b2")) xNil))))))) (gV 2))
  (ySeq (yAsg (xOp dAdd (xV 2) (xL (xLstN (xCons (xC (.str "outs 5")) (xCons (xC (.str "m 1")) xNil))))) (gV 2))
  (ySeq (yFor (xR1 (xCons (xC (.int 10)) xNil)) (gV 3) (fb_law_2 K A mm_L_bent mm_L_pen mm_L_pick mm_L_right))
  (ySeq (yAsg (xL (xLstN (xCons (xC (.str "")) (xCons (xC (.str "a 0 a 1")) (xCons (xC (.str "b 0 a 1")) (xCons (xC (.str "a p b a\n")) (xCons (xC (.str "a p b")) (xCons (xC (.str "a 0 b")) (xCons (xC (.str "-\n-")) (xCons (xC (.str "- ")) (xCons (xC (.str "- a")) (xCons (xC (.str "-\na 0")) (xCons (xC (.str "a 0\nb 1")) (xCons (xC (.str "a 0\n")) xNil)))))))))))))) (gV 2))
  (yRet (xOp dEq (xL (xLcV 2 (gV 4) (xNot (xT (xF0 mm_L_right (xCons (xV 4) xNil)))) (xV 4) [4])) (xL (xLstN xNil))))))))
theorem S_law {S : Type} {C : Cfg S} {K : PySem.W.Frag} {A : Ad} {mm_L_bent : List D → M S D} (h_L_bent : SpD C (sp_L_bent K A) mm_L_bent) {mm_L_pen : List D → M S D} (h_L_pen : SpD C (sp_L_pen K A) mm_L_pen) {mm_L_pick : List D → M S D} (h_L_pick : SpD C (sp_L_pick K A) mm_L_pick) {mm_L_right : List D → M S D} (h_L_right : SpD C (sp_L_right K A) mm_L_right) (hT : ∀ s H, C.I s H → LamX.Tabs A.tabs H) (hL : ∀ s H H1 cl, C.I s H → LamTo A.tabs (("law" ++ ".<locals>.") ++ "<lambda>") H H1 cl → C.I s H1 ∧ Ext C.keep H H1) : StD C (fun E => rt_law K A E) (b_law K A mm_L_bent mm_L_pen mm_L_pick mm_L_right) :=
  (d_seq (d_asg (e_new (n_lst (a_cons e_str (a_cons e_str (a_cons e_str (a_cons e_str (a_cons e_str a_nil))))))) (g_name (vs := [2]) (by decide)))
  (d_seq (d_asg (e_op o_add (e_var 2) (e_new (n_lst (a_cons e_str (a_cons e_str a_nil))))) (g_name (vs := [2]) (by decide)))
  (d_seq (d_lkO (d_for (vs := [0, 1, 2, 3, 4, 5, 6, 7]) (i_rng1 (a_cons e_int a_nil)) (g_name (by decide)) (d_seq (d_asg (e_call h_L_pick (a_cons (e_var 1) (a_cons (e_var 2) a_nil))) (g_name (vs := [4]) (by decide)))
  (d_seq (d_if (e_not (e_test (e_call h_L_right (a_cons (e_var 4) a_nil)))) (d_ret e_bl) d_nx)
  (d_seq (d_lkO (d_for (vs := [0, 1, 2, 3, 4, 5, 6, 7]) (i_rng1 (a_cons e_int a_nil)) (g_name (by decide)) (d_seq (d_asg (e_call h_L_bent (a_cons (e_var 1) (a_cons (e_var 4) a_nil))) (g_name (vs := [4]) (by decide)))
  (d_if (e_not (e_test (e_call h_L_right (a_cons (e_var 4) a_nil)))) (d_ret e_bl) d_nx))))
  (d_seq (d_asg (e_call h_L_pick (a_cons (e_var 1) (a_cons (e_new (n_lst (a_cons e_non (a_cons e_int (a_cons e_bl (a_cons (e_new (n_lst (a_cons e_str a_nil))) (a_cons (e_tup (a_cons e_str (a_cons e_int a_nil))) (a_cons e_dnew (a_cons (e_make rfl (by decide) S_StuckU_initU (a_cons (e_tup a_nil) a_nil)) a_nil))))))))) a_nil))) (g_name (vs := [7]) (by decide)))
  (d_seq (d_asgN (n_lst (a_cons (e_hear hT hL rfl (by decide) (by decide) (by decide) (by decide) (by decide) (by decide) (e_call SP_read_safe.up (a_cons (e_var 7) a_nil)) (S_L_heard (C := C))) a_nil)))
  (d_seq (d_app (e_hear hT hL rfl (by decide) (by decide) (by decide) (by decide) (by decide) (by decide) (e_call SP_read_stuck.up (a_cons (e_var 7) a_nil)) (S_L_heard (C := C))))
  (d_free (d_if (e_test (e_op o_neA (e_var 6) (e_op o_mul (e_new (n_lst (a_cons (e_tup (a_cons e_str (a_cons e_str (a_cons e_str a_nil)))) a_nil))) e_int))) (d_ret e_bl) d_nx))))))))))
  (d_seq (d_asg (e_new (n_lst (a_cons e_str (a_cons e_str (a_cons e_str (a_cons e_str (a_cons e_str (a_cons e_str (a_cons e_str (a_cons e_str (a_cons e_str (a_cons e_str (a_cons e_str (a_cons e_str a_nil)))))))))))))) (g_name (vs := [2]) (by decide)))
  (d_ret (e_op o_eq (e_new (n_lcV (g_name (by decide)) (e_not (e_test (e_call0 h_L_right (a_cons (e_var 4) a_nil)))) (e_var 4))) (e_new (n_lst a_nil))))))))
end Rk94

namespace Rk94
open PySem PySem.Spec PyProof.Rows L2 Fs
abbrev PROG : Program := PySem.Challenge.pw_fullshelves_k94_spoilt_texts_of_papers
def top (i : Nat) : Stmt := PROG.main.body.getD i (.Pass ⟨0, 0, 0, 0⟩)
abbrev st_StuckU_initU : Stmt := inClass (top 16) 0
abbrev st_L_draw : Stmt := top 36
abbrev st_L_pick : Stmt := top 37
abbrev st_L_bent : Stmt := top 44
abbrev st_L_heard : Stmt := top 38
abbrev st_L_pen : Stmt := top 35
abbrev st_L_is_name : Stmt := top 39
abbrev st_L_is_shelf : Stmt := top 40
abbrev st_L_is_whole : Stmt := top 41
abbrev st_L_safe_due : Stmt := top 42
abbrev st_L_stuck_due : Stmt := top 43
abbrev st_SafeU_initU : Stmt := inClass (top 14) 0
abbrev st_is_name : Stmt := top 9
abbrev st_is_shelf : Stmt := top 10
abbrev st_is_figures : Stmt := top 20
abbrev st_is_whole : Stmt := top 21
abbrev st_need_string : Stmt := top 22
abbrev st_words_of_line : Stmt := top 23
abbrev st_read_safe : Stmt := top 24
abbrev st_FillU_initU : Stmt := inClass (top 15) 0
abbrev st_read_fill : Stmt := top 25
abbrev st_read_stuck : Stmt := top 26
abbrev st_is_integer : Stmt := top 8
abbrev st_is_numbers : Stmt := top 29
abbrev st_pairs_text : Stmt := top 31
abbrev st_write_safe : Stmt := top 32
abbrev st_is_fill : Stmt := top 30
abbrev st_write_stuck : Stmt := top 33
abbrev st_L_right : Stmt := top 45
abbrev st_law : Stmt := top 46
structure Txt (K : PySem.W.Frag) (mg : Str → Option Value) (A : Ad) : Prop where
  n_ValueError : mg "ValueError" = none
  n_abs : mg "abs" = none
  n_all : mg "all" = none
  n_bool : mg "bool" = none
  n_dict : mg "dict" = none
  n_enumerate : mg "enumerate" = none
  n_int : mg "int" = none
  n_isinstance : mg "isinstance" = none
  n_len : mg "len" = none
  n_list : mg "list" = none
  n_range : mg "range" = none
  n_repr : mg "repr" = none
  n_sorted : mg "sorted" = none
  n_str : mg "str" = none
  n_tuple : mg "tuple" = none
  c_FIGURES : ∃ u, mg "FIGURES" = some (.str "0123456789" u)
  c_GREATEST : ∃ u, mg "GREATEST" = some (.int v_GREATEST u)
  c_LANES : ∃ u, mg "LANES" = some (.str "234" u)
  c_LETTERS : ∃ u, mg "LETTERS" = some (.str "abcdefghijklmnopqrstuvwxyz" u)
  c_LONGEST_checks : ∃ u, mg "LONGEST_checks" = some (.int v_LONGEST_checks u)
  c_LONGEST_reader : ∃ u, mg "LONGEST_reader" = some (.int v_LONGEST_reader u)
  F_StuckU_initU : ∃ fd, Fun K "__init__" "Stuck.__init__" st_StuckU_initU A.f_StuckU_initU fd
  F_L_draw : ∃ fd, Fun K "_law_draw" "_law_draw" st_L_draw A.f_L_draw fd
  g_L_draw : mg "_law_draw" = some (.ref A.f_L_draw)
  k_L_draw : PySem.W.keepIn K (.ref A.f_L_draw) = true
  F_L_pick : ∃ fd, Fun K "_law_pick" "_law_pick" st_L_pick A.f_L_pick fd
  g_L_pick : mg "_law_pick" = some (.ref A.f_L_pick)
  k_L_pick : PySem.W.keepIn K (.ref A.f_L_pick) = true
  F_L_bent : ∃ fd, Fun K "_law_bent" "_law_bent" st_L_bent A.f_L_bent fd
  g_L_bent : mg "_law_bent" = some (.ref A.f_L_bent)
  k_L_bent : PySem.W.keepIn K (.ref A.f_L_bent) = true
  F_L_heard : Fun K "_law_heard" "_law_heard" st_L_heard A.f_L_heard A.d_L_heard
  b_L_heard : L2.Binds K A.d_L_heard ["_law_ask"] []
  g_L_heard : mg "_law_heard" = some (.ref A.f_L_heard)
  k_L_heard : PySem.W.keepIn K (.ref A.f_L_heard) = true
  F_L_pen : ∃ fd, Fun K "_law_pen" "_law_pen" st_L_pen A.f_L_pen fd
  g_L_pen : mg "_law_pen" = some (.ref A.f_L_pen)
  k_L_pen : PySem.W.keepIn K (.ref A.f_L_pen) = true
  F_L_is_name : ∃ fd, Fun K "_law_is_name" "_law_is_name" st_L_is_name A.f_L_is_name fd
  g_L_is_name : mg "_law_is_name" = some (.ref A.f_L_is_name)
  k_L_is_name : PySem.W.keepIn K (.ref A.f_L_is_name) = true
  F_L_is_shelf : ∃ fd, Fun K "_law_is_shelf" "_law_is_shelf" st_L_is_shelf A.f_L_is_shelf fd
  g_L_is_shelf : mg "_law_is_shelf" = some (.ref A.f_L_is_shelf)
  k_L_is_shelf : PySem.W.keepIn K (.ref A.f_L_is_shelf) = true
  F_L_is_whole : ∃ fd, Fun K "_law_is_whole" "_law_is_whole" st_L_is_whole A.f_L_is_whole fd
  g_L_is_whole : mg "_law_is_whole" = some (.ref A.f_L_is_whole)
  k_L_is_whole : PySem.W.keepIn K (.ref A.f_L_is_whole) = true
  F_L_safe_due : ∃ fd, Fun K "_law_safe_due" "_law_safe_due" st_L_safe_due A.f_L_safe_due fd
  g_L_safe_due : mg "_law_safe_due" = some (.ref A.f_L_safe_due)
  k_L_safe_due : PySem.W.keepIn K (.ref A.f_L_safe_due) = true
  F_L_stuck_due : ∃ fd, Fun K "_law_stuck_due" "_law_stuck_due" st_L_stuck_due A.f_L_stuck_due fd
  g_L_stuck_due : mg "_law_stuck_due" = some (.ref A.f_L_stuck_due)
  k_L_stuck_due : PySem.W.keepIn K (.ref A.f_L_stuck_due) = true
  F_SafeU_initU : ∃ fd, Fun K "__init__" "Safe.__init__" st_SafeU_initU A.f_SafeU_initU fd
  F_is_name : ∃ fd, Fun K "is_name" "is_name" st_is_name A.f_is_name fd
  g_is_name : mg "is_name" = some (.ref A.f_is_name)
  k_is_name : PySem.W.keepIn K (.ref A.f_is_name) = true
  F_is_shelf : ∃ fd, Fun K "is_shelf" "is_shelf" st_is_shelf A.f_is_shelf fd
  g_is_shelf : mg "is_shelf" = some (.ref A.f_is_shelf)
  k_is_shelf : PySem.W.keepIn K (.ref A.f_is_shelf) = true
  F_is_figures : ∃ fd, Fun K "is_figures" "is_figures" st_is_figures A.f_is_figures fd
  g_is_figures : mg "is_figures" = some (.ref A.f_is_figures)
  k_is_figures : PySem.W.keepIn K (.ref A.f_is_figures) = true
  F_is_whole : ∃ fd, Fun K "is_whole" "is_whole" st_is_whole A.f_is_whole fd
  g_is_whole : mg "is_whole" = some (.ref A.f_is_whole)
  k_is_whole : PySem.W.keepIn K (.ref A.f_is_whole) = true
  F_need_string : ∃ fd, Fun K "need_string" "need_string" st_need_string A.f_need_string fd
  g_need_string : mg "need_string" = some (.ref A.f_need_string)
  k_need_string : PySem.W.keepIn K (.ref A.f_need_string) = true
  F_words_of_line : ∃ fd, Fun K "words_of_line" "words_of_line" st_words_of_line A.f_words_of_line fd
  g_words_of_line : mg "words_of_line" = some (.ref A.f_words_of_line)
  k_words_of_line : PySem.W.keepIn K (.ref A.f_words_of_line) = true
  F_read_safe : ∃ fd, Fun K "read_safe" "read_safe" st_read_safe A.f_read_safe fd
  g_read_safe : mg "read_safe" = some (.ref A.f_read_safe)
  k_read_safe : PySem.W.keepIn K (.ref A.f_read_safe) = true
  F_FillU_initU : ∃ fd, Fun K "__init__" "Fill.__init__" st_FillU_initU A.f_FillU_initU fd
  F_read_fill : ∃ fd, Fun K "read_fill" "read_fill" st_read_fill A.f_read_fill fd
  g_read_fill : mg "read_fill" = some (.ref A.f_read_fill)
  k_read_fill : PySem.W.keepIn K (.ref A.f_read_fill) = true
  F_read_stuck : ∃ fd, Fun K "read_stuck" "read_stuck" st_read_stuck A.f_read_stuck fd
  g_read_stuck : mg "read_stuck" = some (.ref A.f_read_stuck)
  k_read_stuck : PySem.W.keepIn K (.ref A.f_read_stuck) = true
  F_is_integer : ∃ fd, Fun K "is_integer" "is_integer" st_is_integer A.f_is_integer fd
  g_is_integer : mg "is_integer" = some (.ref A.f_is_integer)
  k_is_integer : PySem.W.keepIn K (.ref A.f_is_integer) = true
  F_is_numbers : ∃ fd, Fun K "is_numbers" "is_numbers" st_is_numbers A.f_is_numbers fd
  g_is_numbers : mg "is_numbers" = some (.ref A.f_is_numbers)
  k_is_numbers : PySem.W.keepIn K (.ref A.f_is_numbers) = true
  F_pairs_text : ∃ fd, Fun K "pairs_text" "pairs_text" st_pairs_text A.f_pairs_text fd
  g_pairs_text : mg "pairs_text" = some (.ref A.f_pairs_text)
  k_pairs_text : PySem.W.keepIn K (.ref A.f_pairs_text) = true
  F_write_safe : ∃ fd, Fun K "write_safe" "write_safe" st_write_safe A.f_write_safe fd
  g_write_safe : mg "write_safe" = some (.ref A.f_write_safe)
  k_write_safe : PySem.W.keepIn K (.ref A.f_write_safe) = true
  F_is_fill : ∃ fd, Fun K "is_fill" "is_fill" st_is_fill A.f_is_fill fd
  g_is_fill : mg "is_fill" = some (.ref A.f_is_fill)
  k_is_fill : PySem.W.keepIn K (.ref A.f_is_fill) = true
  F_write_stuck : ∃ fd, Fun K "write_stuck" "write_stuck" st_write_stuck A.f_write_stuck fd
  g_write_stuck : mg "write_stuck" = some (.ref A.f_write_stuck)
  k_write_stuck : PySem.W.keepIn K (.ref A.f_write_stuck) = true
  FC_L_right : ∃ fd, Fun K "_law_right" "_law_right" st_L_right A.f_L_right fd ∧ fd.code = .ref A.cd_L_right
  g_L_right : mg "_law_right" = some (.ref A.f_L_right)
  k_L_right : PySem.W.keepIn K (.ref A.f_L_right) = true
  FC_law : ∃ fd, Fun K "law" "law" st_law A.f_law fd ∧ fd.code = .ref A.cd_law
  g_law : mg "law" = some (.ref A.f_law)
  k_law : PySem.W.keepIn K (.ref A.f_law) = true
  g_BadPaper : mg "BadPaper" = some (.ref A.c_BadPaper)
  g_BadText : mg "BadText" = some (.ref A.c_BadText)
  g_Fill : mg "Fill" = some (.ref A.c_Fill)
  g_Safe : mg "Safe" = some (.ref A.c_Safe)
  g_ShelfError : mg "ShelfError" = some (.ref A.c_ShelfError)
  g_Stuck : mg "Stuck" = some (.ref A.c_Stuck)
  k_Fill : Mk K A.c_Fill A.f_FillU_initU
  k_Safe : Mk K A.c_Safe A.f_SafeU_initU
  k_Stuck : Mk K A.c_Stuck A.f_StuckU_initU
  x_BadPaper : SxTxt PROG K mg A.c_BadPaper A.i_BadPaper ["part"]
  x_BadText : SxTxt PROG K mg A.c_BadText A.i_BadText ["line", "word"]
section
variable {w : World} {K : PySem.W.Frag} {mg : Str → Option Value} {base : Heap} {A : Ad}
theorem sc_StuckU_initU : FnScope N_StuckU_initU ["self", "fills"] (defScope st_StuckU_initU) := ⟨rfl, rfl, rfl, by decide +kernel, rfl, by decide +kernel, by decide +kernel⟩
theorem G_StuckU_initU (T : Txt K mg A) : FnR PROG w K mg base (L2.CX PROG w) 1 A.f_StuckU_initU (sp_StuckU_initU K A) := by
  obtain ⟨fd, F⟩ := T.F_StuckU_initU
  refine fnr_of F sc_StuckU_initU (F.binds (ps := ["self", "fills"]) fun _ _ _ _ _ _ us hl => match us, hl with | [_, _], _ => rfl) (fun cdv Ar outer s H E hr => ?_)
  exact (pss_one (ps_fld (pvx 0) (pvx 1) rfl))
theorem sc_L_draw : FnScope N_L_draw ["_law_pen_here", "_law_many"] (defScope st_L_draw) := ⟨rfl, rfl, rfl, by decide +kernel, rfl, by decide +kernel, by decide +kernel⟩
theorem G_L_draw (T : Txt K mg A) : FnR PROG w K mg base (L2.CX PROG w) 1 A.f_L_draw (sp_L_draw K A) := by
  obtain ⟨fd, F⟩ := T.F_L_draw
  refine fnr_of F sc_L_draw (F.binds (ps := ["_law_pen_here", "_law_many"]) fun _ _ _ _ _ _ us hl => match us, hl with | [_, _], _ => rfl) (fun cdv Ar outer s H E hr => ?_)
  exact (pss_cons (psif (ptcmp op_mGt (pe_ix (ix_m (u1 hr)) (pvx 0) pe_int (fun _ _ => rfl)) pe_int (nomark _)) (pss_cons (ps_set (i := 2) sc_L_draw.nd rfl (by first | exact Or.inl rfl | exact Or.inr rfl) (pe_op op_mMod (pe_callTy call_mIntT (by rfl) T.n_int (by decide +kernel) (pa_cons (pe_ix (ix_m (u1 hr)) (pvx 0) pe_int (fun _ _ => rfl)) pa_nil)) (pvx 1)))
  (pss_cons (ps_asg (pe_op op_mFdv (pe_callTy call_mIntT (by rfl) T.n_int (by decide +kernel) (pa_cons (pe_ix (ix_m (u1 hr)) (pvx 0) pe_int (fun _ _ => rfl)) pa_nil)) (pvx 1)) (pg_sub (pvx 0) pe_int set_list))
  (pss_one (ps_ret (pvx 2))))) pss_nil)
  (pss_cons (ps_set (i := 3) sc_L_draw.nd rfl (by first | exact Or.inl rfl | exact Or.inr rfl) (pe_ix (ix_m (u1 hr)) (pvx 0) pe_int (fun _ _ => rfl)))
  (pss_cons (ps_asg (pe_op op_mAdd (pvx 3) pe_int) (pg_sub (pvx 0) pe_int set_list))
  (pss_cons (ps_set (i := 4) sc_L_draw.nd rfl (by first | exact Or.inl rfl | exact Or.inr rfl) (pe_op op_mAdd (pe_op op_mMul pe_int (pvx 3)) pe_int))
  (pss_cons (psif (ptcmp (op_mNeA (u64 hr)) (pe_ix (ix_m (u1 hr)) (pvx 0) pe_int (fun _ _ => rfl)) (pe_lst pa_nil) (nomark _)) (pss_one (ps_set (i := 4) sc_L_draw.nd rfl (by first | exact Or.inl rfl | exact Or.inr rfl) (pe_ix (ix_m (u1 hr)) (pe_ix (ix_m (u1 hr)) (pvx 0) pe_int (fun _ _ => rfl)) (pe_op op_mMod (pe_callTy call_mIntT (by rfl) T.n_int (by decide +kernel) (pa_cons (pvx 3) pa_nil)) (pe_callB call_mLen (by rfl) T.n_len (by decide +kernel) (pa_cons (pe_ix (ix_m (u1 hr)) (pvx 0) pe_int (fun _ _ => rfl)) pa_nil))) (fun _ _ => rfl)))) pss_nil)
  (pss_cons (psif (PW.pt (pwand (ptcmp op_mLt (pvx 3) (pe_callB call_mLen (by rfl) T.n_len (by decide +kernel) (pa_cons (pe_ix (ix_m (u1 hr)) (pvx 0) pe_int (fun _ _ => rfl)) pa_nil)) (nomark _)) (pw_and1 (ptcmp op_mGe (pe_callB call_mAbs (by rfl) T.n_abs (by decide +kernel) (pa_cons (pvx 4) pa_nil)) (pe_op op_mPow pe_int pe_int) (nomark _))))) (pss_cons (ps_set (i := 5) sc_L_draw.nd rfl (by first | exact Or.inl rfl | exact Or.inr rfl) (pe_op op_mAdd (pe_op op_mMul pe_int (pe_op op_mSub (pe_callB call_mAbs (by rfl) T.n_abs (by decide +kernel) (pa_cons (pvx 4) pa_nil)) (pe_op op_mPow pe_int pe_int))) (pe_callTy call_mIntT (by rfl) T.n_int (by decide +kernel) (pa_cons (pe_cmpR op_mLt (pvx 4) pe_int (nomark _)) pa_nil))))
  (pss_cons (ps_asg (pe_op op_mFdv (pe_callTy call_mIntT (by rfl) T.n_int (by decide +kernel) (pa_cons (pvx 5) pa_nil)) (pvx 1)) (pg_sub (pvx 0) pe_int set_list))
  (pss_one (ps_ret (pe_op op_mMod (pe_callTy call_mIntT (by rfl) T.n_int (by decide +kernel) (pa_cons (pvx 5) pa_nil)) (pvx 1)))))) pss_nil)
  (pss_cons (ps_set (i := 6) sc_L_draw.nd rfl (by first | exact Or.inl rfl | exact Or.inr rfl) (pe_op op_mMod (pe_callTy call_mIntT (by rfl) T.n_int (by decide +kernel) (pa_cons (pe_op op_mPow (pe_op op_mAdd (pe_op op_mAdd (pe_op op_mMod (pe_callTy call_mIntT (by rfl) T.n_int (by decide +kernel) (pa_cons (pvx 4) pa_nil)) pe_int) (pe_op op_mMul pe_int (pvx 3))) pe_int) pe_int) pa_nil)) pe_int))
  (pss_cons (ps_set (i := 6) sc_L_draw.nd rfl (by first | exact Or.inl rfl | exact Or.inr rfl) (pe_op op_mMod (pe_callTy call_mIntT (by rfl) T.n_int (by decide +kernel) (pa_cons (pe_op op_mPow (pe_op op_mAdd (pe_op op_mAdd (pe_op op_mMul (pvx 6) (pe_op op_mAdd (pe_op op_mMul pe_int (pvx 3)) pe_int)) (pe_op op_mMul (pe_op op_mMul pe_int (pvx 3)) (pvx 3))) pe_int) pe_int) pa_nil)) pe_int))
  (pss_one (ps_ret (pe_op op_mMod (pe_callTy call_mIntT (by rfl) T.n_int (by decide +kernel) (pa_cons (pe_op op_mFdv (pvx 6) pe_int) pa_nil)) (pvx 1))))))))))))
theorem sc_L_pick : FnScope N_L_pick ["_law_pen_here", "_law_some"] (defScope st_L_pick) := ⟨rfl, rfl, rfl, by decide +kernel, rfl, by decide +kernel, by decide +kernel⟩
theorem G_L_pick (T : Txt K mg A) : FnR PROG w K mg base (L2.CX PROG w) 2 A.f_L_pick (sp_L_pick K A) := by
  obtain ⟨fd, F⟩ := T.F_L_pick
  refine fnr_of F sc_L_pick (F.binds (ps := ["_law_pen_here", "_law_some"]) fun _ _ _ _ _ _ us hl => match us, hl with | [_, _], _ => rfl) (fun cdv Ar outer s H E hr => ?_)
  exact (pss_one (ps_ret (pe_ix (ix_m (u1 hr)) (pvx 1) (pe_callF (G_L_draw T) hr (by decide) T.g_L_draw T.k_L_draw (passE (takes_of rfl rfl rfl rfl) (fun _ _ _ _ h => h)) (pa_cons (pvx 0) (pa_cons (pe_callB call_mLen (by rfl) T.n_len (by decide +kernel) (pa_cons (pvx 1) pa_nil)) pa_nil))) (fun _ _ => rfl))))
theorem sc_L_bent : FnScope N_L_bent ["_law_pen_here", "_law_text_so"] (defScope st_L_bent) := ⟨rfl, rfl, rfl, by decide +kernel, rfl, by decide +kernel, by decide +kernel⟩
theorem G_L_bent (T : Txt K mg A) : FnR PROG w K mg base (L2.CX PROG w) 3 A.f_L_bent (sp_L_bent K A) := by
  obtain ⟨fd, F⟩ := T.F_L_bent
  refine fnr_of F sc_L_bent (F.binds (ps := ["_law_pen_here", "_law_text_so"]) fun _ _ _ _ _ _ us hl => match us, hl with | [_, _], _ => rfl) (fun cdv Ar outer s H E hr => ?_)
  exact (pss_cons (ps_par rfl sc_L_bent.nd rfl rfl (by decide) rfl rfl (pa_cons (pe_split (pvx 1) pe_str) (pa_cons (pe_callF (G_L_draw T) hr (by decide) T.g_L_draw T.k_L_draw (passE (takes_of rfl rfl rfl rfl) (fun _ _ _ _ h => h)) (pa_cons (pvx 0) (pa_cons pe_int pa_nil))) pa_nil)) (by rfl))
  (pss_cons (ps_set (i := 4) sc_L_bent.nd rfl (by first | exact Or.inl rfl | exact Or.inr rfl) (pe_callF (G_L_draw T) hr (by decide) T.g_L_draw T.k_L_draw (passE (takes_of rfl rfl rfl rfl) (fun _ _ _ _ h => h)) (pa_cons (pvx 0) (pa_cons (pe_callB call_mLen (by rfl) T.n_len (by decide +kernel) (pa_cons (pvx 2) pa_nil)) pa_nil))))
  (pss_cons (ps_set (i := 5) sc_L_bent.nd rfl (by first | exact Or.inl rfl | exact Or.inr rfl) (pe_split (pe_ix (ix_m (u1 hr)) (pvx 2) (pvx 4) (fun _ _ => rfl)) pe_str))
  (pss_cons (ps_set (i := 6) sc_L_bent.nd rfl (by first | exact Or.inl rfl | exact Or.inr rfl) (pe_callF (G_L_draw T) hr (by decide) T.g_L_draw T.k_L_draw (passE (takes_of rfl rfl rfl rfl) (fun _ _ _ _ h => h)) (pa_cons (pvx 0) (pa_cons (pe_callB call_mLen (by rfl) T.n_len (by decide +kernel) (pa_cons (pvx 5) pa_nil)) pa_nil))))
  (pss_cons (ps_set (i := 7) sc_L_bent.nd rfl (by first | exact Or.inl rfl | exact Or.inr rfl) (pe_lst (pa_cons pe_str (pa_cons pe_str (pa_cons pe_str (pa_cons pe_str (pa_cons pe_str (pa_cons pe_str (pa_cons pe_str (pa_cons pe_str (pa_cons pe_str (pa_cons pe_str (pa_cons pe_str (pa_cons pe_str (pa_cons pe_str (pa_cons pe_str (pa_cons (pe_op op_mRepS pe_str pe_int) pa_nil)))))))))))))))))
  (pss_cons (ps_set (i := 7) sc_L_bent.nd rfl (by first | exact Or.inl rfl | exact Or.inr rfl) (pe_op op_mAdd (pvx 7) (pe_lst (pa_cons (pe_op op_mAdd pe_str (pe_op op_mRepS pe_str pe_int)) (pa_cons (pe_op op_mAdd pe_str (pe_op op_mRepS pe_str pe_int)) (pa_cons pe_str (pa_cons pe_str (pa_cons pe_str (pa_cons pe_str (pa_cons pe_str (pa_cons pe_str (pa_cons pe_str pa_nil))))))))))))
  (pss_cons (psif (ptcmp op_mLt (pvx 3) pe_int (nomark _)) (pss_one (ps_asg (pe_join pe_str (pe_op op_mAdd (pe_op op_mAdd (pe_slice sl_m (pvx 5) po_none (posome (pvx 6))) (pe_lst (pa_cons (pe_callF (G_L_pick T) hr (by decide) T.g_L_pick T.k_L_pick (passE (takes_of rfl rfl rfl rfl) (fun _ _ _ _ h => h)) (pa_cons (pvx 0) (pa_cons (pvx 7) pa_nil))) pa_nil))) (pe_slice sl_m (pvx 5) (posome (pe_op op_mAdd (pvx 6) (pe_callTy call_mIntT (by rfl) T.n_int (by decide +kernel) (pa_cons (pe_cmpR op_mLt (pvx 3) pe_int (nomark _)) pa_nil)))) po_none))) (pg_sub (pvx 2) (pvx 4) set_list))) pss_nil)
  (pss_cons (psif (ptcmp (op_mEq (u64 hr)) (pvx 3) pe_int (nomark _)) (pss_one (ps_asg (pe_join pe_str (pe_op op_mAdd (pe_slice sl_m (pvx 5) po_none (posome (pvx 6))) (pe_slice sl_m (pvx 5) (posome (pe_op op_mAdd (pvx 6) pe_int)) po_none))) (pg_sub (pvx 2) (pvx 4) set_list))) pss_nil)
  (pss_cons (psif (ptcmp (op_mEq (u64 hr)) (pvx 3) pe_int (nomark _)) (pss_one (ps_asg (pe_join pe_str (pe_op op_mAdd (pe_slice sl_m (pvx 5) po_none (posome (pe_op op_mAdd (pvx 6) pe_int))) (pe_slice sl_m (pvx 5) (posome (pvx 6)) po_none))) (pg_sub (pvx 2) (pvx 4) set_list))) pss_nil)
  (pss_cons (psif (ptcmp (op_mEq (u64 hr)) (pvx 3) pe_int (nomark _)) (pss_one (ps_set (i := 2) sc_L_bent.nd rfl (by first | exact Or.inl rfl | exact Or.inr rfl) (pe_op op_mAdd (pe_slice sl_m (pvx 2) po_none (posome (pvx 4))) (pe_slice sl_m (pvx 2) (posome (pe_op op_mAdd (pvx 4) pe_int)) po_none)))) pss_nil)
  (pss_one (ps_ret (peif (ptcmp op_mLt (pvx 3) pe_int (nomark _)) (pe_join pe_str (pvx 2)) (pe_op op_mAdd (pvx 1) (pe_callF (G_L_pick T) hr (by decide) T.g_L_pick T.k_L_pick (passE (takes_of rfl rfl rfl rfl) (fun _ _ _ _ h => h)) (pa_cons (pvx 0) (pa_cons (pe_lst (pa_cons pe_str (pa_cons pe_str (pa_cons pe_str (pa_cons pe_str (pa_cons pe_str pa_nil)))))) pa_nil)))))))))))))))))
theorem sc_L_heard : FnScope N_L_heard ["_law_ask"] (defScope st_L_heard) := ⟨rfl, rfl, rfl, by decide +kernel, rfl, by decide +kernel, by decide +kernel⟩
theorem GH_L_heard (X : Cx) (T : Txt X.K X.mg A) (cdg : Value) {k : Nat} : Hears X k N_L_heard "_law_heard" (defScope st_L_heard) A.f_L_heard cdg (defBody st_L_heard) "_law_ask" (rh_L_heard X.K A) := by
  intro f cl q tl s H hr act
  refine pss_cons (t := nonTwo 1 2) (u := tSeq (sTry X.K (.ref A.c_ShelfError) 1 2 3 f cl q tl) (rr_L_heard X.K A (fun _ _ _ => False))) ?_ (pss_cons (t := sTry X.K (.ref A.c_ShelfError) 1 2 3 f cl q tl) (u := rr_L_heard X.K A (fun _ _ _ => False)) ?_ ?_)
  · exact ps_asg (pe_tup (pa_cons pe_non (pa_cons pe_non pa_nil))) (pgtup rfl (pgcons (pg_name (i := 1) sc_L_heard.nd rfl (by first | exact Or.inl rfl | exact Or.inr rfl)) (pgcons (pg_name (i := 2) sc_L_heard.nd rfl (by first | exact Or.inl rfl | exact Or.inr rfl)) pgnil)))
  · exact ps_try_keep (X := (hearCx X N_L_heard "_law_heard" (defScope st_L_heard) A.f_L_heard cdg s H).nox) (tb := fun W => tAsg (tAct f cl q tl W) (gName 2)) (ts := fun a cls d => tAsg (tV 3) (gName 1)) rfl rfl rfl sc_L_heard.nd rfl rfl ⟨rfl, by decide, .inl T.g_ShelfError⟩ takes0 (fun W pn xe tk _ => pss_one (ps_set (i := 2) sc_L_heard.nd rfl (by first | exact Or.inl rfl | exact Or.inr rfl) (act W pn xe _ _ tk))) (fun a oe cls d pn _ _ => pss_one (ps_set (i := 1) sc_L_heard.nd rfl (by first | exact Or.inl rfl | exact Or.inr rfl) (pvx 3)))
  · exact (pss_cons (psif (ptcmp op_mIsN (pvx 1) pe_non (nomark _)) (pss_one (ps_ret (pe_lst (pa_cons (pvx 2) pa_nil)))) pss_nil)
  (pss_cons (ps_set (i := 4) sc_L_heard.nd rfl (by first | exact Or.inl rfl | exact Or.inr rfl) (pe_lst pa_nil))
  (pss_cons (psif (ptv (pe_callB call_mIkx (by rfl) T.n_isinstance (by decide +kernel) (pa_cons (pvx 1) (pa_cons (pe_gr T.g_BadText) pa_nil)))) (pss_one (ps_expr (pe_bm PySem.F.plainAttrs_list PySem.F.slot_list_append PySem.F.type_list_append mt_append (pvx 4) (pa_cons (pe_tup (pa_cons pe_str (pa_cons (pe_callB call_mRepr (by rfl) T.n_repr (by decide +kernel) (pa_cons (pe_xo (pvx 1) rfl) pa_nil)) (pa_cons (pe_callB call_mRepr (by rfl) T.n_repr (by decide +kernel) (pa_cons (pe_xo (pvx 1) rfl) pa_nil)) pa_nil)))) pa_nil)))) pss_nil)
  (pss_one (ps_ret (peif (PW.pt (pwand (ptcmp (op_mEq (u64 hr)) (pe_callB call_mLen (by rfl) T.n_len (by decide +kernel) (pa_cons (pvx 4) pa_nil)) pe_int (nomark _)) (pw_and1 (ptv (pe_callB call_mIkx (by rfl) T.n_isinstance (by decide +kernel) (pa_cons (pvx 1) (pa_cons (pe_gt T.n_ValueError) pa_nil))))))) (pe_ix (ix_m (u1 hr)) (pvx 4) pe_int (fun _ _ => rfl)) (pe_tup (pa_cons pe_str pa_nil))))))))
theorem sc_L_pen : FnScope N_L_pen ["_law_script"] (defScope st_L_pen) := ⟨rfl, rfl, rfl, by decide +kernel, rfl, by decide +kernel, by decide +kernel⟩
theorem G_L_pen (T : Txt K mg A) : FnR PROG w K mg base (L2.CX PROG w) 1 A.f_L_pen (sp_L_pen K A) := by
  obtain ⟨fd, F⟩ := T.F_L_pen
  refine fnr_of F sc_L_pen (F.binds (ps := ["_law_script"]) fun _ _ _ _ _ _ us hl => match us, hl with | [_], _ => rfl) (fun cdv Ar outer s H E hr => ?_)
  exact (pss_one (ps_ret (pe_lst (pa_cons (pe_callTy call_mLst (by rfl) T.n_list (by decide +kernel) (pa_cons (pe_slice sl_any (pvx 0) po_none (posome pe_int)) pa_nil)) (pa_cons pe_int (pa_cons pe_int pa_nil))))))
theorem sc_L_is_name : FnScope N_L_is_name ["_law_word"] (defScope st_L_is_name) := ⟨rfl, rfl, rfl, by decide +kernel, rfl, by decide +kernel, by decide +kernel⟩
theorem G_L_is_name (T : Txt K mg A) : FnR PROG w K mg base (L2.CX PROG w) 1 A.f_L_is_name (sp_L_is_name K A) := by
  obtain ⟨fd, F⟩ := T.F_L_is_name
  refine fnr_of F sc_L_is_name (F.binds (ps := ["_law_word"]) fun _ _ _ _ _ _ us hl => match us, hl with | [_], _ => rfl) (fun cdv Ar outer s H E hr => ?_)
  exact (pss_one (ps_ret (peand (pech op_mLe op_mLe pe_int (pe_callB call_mLen (by rfl) T.n_len (by decide +kernel) (pa_cons (pvx 0) pa_nil)) pe_int) (pe_one (pe_cmpR (op_mEq (u64 hr)) (pe_lkO (pe_lc (own := [("_law_sign", 1)]) rfl sc_L_is_name.nd (pi_of piv_m (pvx 0)) (blkOk_by (N := N_L_is_name) (sc := defScope st_L_is_name) (by decide +kernel)) (fun _ _ _ _ _ => (pg_name (i := 1) sc_L_is_name.nd rfl (by first | exact Or.inl rfl | exact Or.inr rfl))) (fun _ _ _ _ _ => (pts_one (ptcmp (op_mNi (u65 hr)) (pvx 1) pe_str (by rfl)))) (fun _ _ _ _ _ => (pvx 1)))) (pe_lst pa_nil) (nomark _))))))
theorem sc_L_is_shelf : FnScope N_L_is_shelf ["_law_word"] (defScope st_L_is_shelf) := ⟨rfl, rfl, rfl, by decide +kernel, rfl, by decide +kernel, by decide +kernel⟩
theorem G_L_is_shelf (T : Txt K mg A) : FnR PROG w K mg base (L2.CX PROG w) 2 A.f_L_is_shelf (sp_L_is_shelf K A) := by
  obtain ⟨fd, F⟩ := T.F_L_is_shelf
  refine fnr_of F sc_L_is_shelf (F.binds (ps := ["_law_word"]) fun _ _ _ _ _ _ us hl => match us, hl with | [_], _ => rfl) (fun cdv Ar outer s H E hr => ?_)
  exact (pss_cons (ps_set (i := 1) sc_L_is_shelf.nd rfl (by first | exact Or.inl rfl | exact Or.inr rfl) (peif (ptcmp (op_mIn (u65 hr)) (pe_slice sl_m (pvx 0) (posome (pe_un un_mNeg pe_int)) po_none) (pe_tup (pa_cons pe_str (pa_cons pe_str (pa_cons pe_str pa_nil)))) (by rfl)) (pe_slice sl_m (pvx 0) po_none (posome (pe_un un_mNeg pe_int))) (pvx 0)))
  (pss_one (ps_ret (peand (pe_callF (G_L_is_name T) hr (by decide) T.g_L_is_name T.k_L_is_name (passE (takes_of rfl rfl rfl rfl) (fun _ _ _ _ h => h)) (pa_cons (pvx 1) pa_nil)) (pe_one (pe_cmpR (op_mNeA (u64 hr)) (pvx 1) pe_str (nomark _)))))))
theorem sc_L_is_whole : FnScope N_L_is_whole ["_law_word"] (defScope st_L_is_whole) := ⟨rfl, rfl, rfl, by decide +kernel, rfl, by decide +kernel, by decide +kernel⟩
theorem G_L_is_whole (T : Txt K mg A) : FnR PROG w K mg base (L2.CX PROG w) 1 A.f_L_is_whole (sp_L_is_whole K A) := by
  obtain ⟨fd, F⟩ := T.F_L_is_whole
  refine fnr_of F sc_L_is_whole (F.binds (ps := ["_law_word"]) fun _ _ _ _ _ _ us hl => match us, hl with | [_], _ => rfl) (fun cdv Ar outer s H E hr => ?_)
  exact (pss_cons (psif (ptcmp (op_mEq (u64 hr)) (pvx 0) pe_str (nomark _)) (pss_one (ps_ret pe_bl)) pss_nil)
  (pss_cons (ps_set (i := 1) sc_L_is_whole.nd rfl (by first | exact Or.inl rfl | exact Or.inr rfl) (peif (ptcmp (op_mEq (u64 hr)) (pe_slice sl_m (pvx 0) po_none (posome pe_int)) pe_str (nomark _)) (pe_slice sl_m (pvx 0) (posome pe_int) po_none) (pvx 0)))
  (pss_cons (psif (PW.pt (pwor (pt_not (ptch op_mLe op_mLe pe_int (pe_callB call_mLen (by rfl) T.n_len (by decide +kernel) (pa_cons (pvx 1) pa_nil)) pe_int)) (pw_or1 (ptcmp (op_mEq (u64 hr)) (pe_ix (ix_m (u1 hr)) (pvx 1) pe_int (fun _ _ => rfl)) pe_str (nomark _))))) (pss_one (ps_ret pe_bl)) pss_nil)
  (pss_one (ps_ret (pe_cmpR (op_mEq (u64 hr)) (pe_lkO (pe_lc (own := [("_law_sign", 2)]) rfl sc_L_is_whole.nd (pi_of piv_m (pvx 1)) (blkOk_by (N := N_L_is_whole) (sc := defScope st_L_is_whole) (by decide +kernel)) (fun _ _ _ _ _ => (pg_name (i := 2) sc_L_is_whole.nd rfl (by first | exact Or.inl rfl | exact Or.inr rfl))) (fun _ _ _ _ _ => (pts_one (ptcmp (op_mNi (u65 hr)) (pvx 2) pe_str (by rfl)))) (fun _ _ _ _ _ => (pvx 2)))) (pe_lst pa_nil) (nomark _)))))))
theorem sc_L_safe_due : FnScope N_L_safe_due ["_law_text_so"] (defScope st_L_safe_due) := ⟨rfl, rfl, rfl, by decide +kernel, rfl, by decide +kernel, by decide +kernel⟩
theorem G_L_safe_due (T : Txt K mg A) : FnR PROG w K mg base (L2.CX PROG w) 3 A.f_L_safe_due (sp_L_safe_due K A) := by
  obtain ⟨fd, F⟩ := T.F_L_safe_due
  refine fnr_of F sc_L_safe_due (F.binds (ps := ["_law_text_so"]) fun _ _ _ _ _ _ us hl => match us, hl with | [_], _ => rfl) (fun cdv Ar outer s H E hr => ?_)
  exact (pss_cons (ps_par rfl sc_L_safe_due.nd rfl rfl (by decide) rfl rfl (pa_cons (pe_split (pvx 0) pe_str) (pa_cons pe_str pa_nil)) (by rfl))
  (pss_cons (ps_set (i := 3) sc_L_safe_due.nd rfl (by first | exact Or.inl rfl | exact Or.inr rfl) (pe_split (pe_ix (ix_m (u1 hr)) (pvx 1) pe_int (fun _ _ => rfl)) pe_str))
  (pss_cons (psif (ptcmp (op_mEq (u64 hr)) (pe_ix (ix_m (u1 hr)) (pvx 3) pe_int (fun _ _ => rfl)) pe_str (nomark _)) (pss_one (ps_ret (peif (ptcmp op_mGt (pe_callB call_mLen (by rfl) T.n_len (by decide +kernel) (pa_cons (pvx 3) pa_nil)) pe_int (nomark _)) (pe_tup (pa_cons pe_int (pa_cons pe_int pa_nil))) (peif (ptcmp op_mGt (pe_callB call_mLen (by rfl) T.n_len (by decide +kernel) (pa_cons (pvx 1) pa_nil)) pe_int (nomark _)) (pe_tup (pa_cons pe_int (pa_cons pe_int pa_nil))) pe_non)))) pss_nil)
  (pss_cons (ps_lkO (ps_for (passes_of rfl) rfl (pi_enum rfl T.n_enumerate (pa_cons (pvx 3) pa_nil)) (pgtup rfl (pgcons (pg_name (i := 4) sc_L_safe_due.nd rfl (by first | exact Or.inl rfl | exact Or.inr rfl)) (pgcons (pg_name (i := 5) sc_L_safe_due.nd rfl (by first | exact Or.inl rfl | exact Or.inr rfl)) pgnil))) (pss_one (psif (ptcmp (op_mEq (u64 hr)) (pe_op op_mMod (pe_callTy call_mIntT (by rfl) T.n_int (by decide +kernel) (pa_cons (pvx 4) pa_nil)) pe_int) pe_int (nomark _)) (pss_one (psif (pt_not (ptv (pe_callF (G_L_is_whole T) hr (by decide) T.g_L_is_whole T.k_L_is_whole (passE (takes_of rfl rfl rfl rfl) (fun _ _ _ _ h => h)) (pa_cons (pvx 5) pa_nil)))) (pss_one (ps_ret (pe_tup (pa_cons pe_int (pa_cons (pvx 4) pa_nil))))) pss_nil)) (pss_one (psif (PW.pt (pwor (pt_not (ptv (pe_callF (G_L_is_shelf T) hr (by decide) T.g_L_is_shelf T.k_L_is_shelf (passE (takes_of rfl rfl rfl rfl) (fun _ _ _ _ h => h)) (pa_cons (pvx 5) pa_nil)))) (pw_or1 (ptcmp op_mLe (pvx 5) (pvx 2) (nomark _))))) (pss_one (ps_ret (pe_tup (pa_cons pe_int (pa_cons (pvx 4) pa_nil))))) (pss_one (ps_set (i := 2) sc_L_safe_due.nd rfl (by first | exact Or.inl rfl | exact Or.inr rfl) (pvx 5)))))))))
  (pss_cons (psif (ptcmp (op_mEq (u64 hr)) (pe_op op_mMod (pe_callTy call_mIntT (by rfl) T.n_int (by decide +kernel) (pa_cons (pe_callB call_mLen (by rfl) T.n_len (by decide +kernel) (pa_cons (pvx 3) pa_nil)) pa_nil)) pe_int) pe_int (nomark _)) (pss_one (ps_ret (pe_tup (pa_cons pe_int (pa_cons (pe_callB call_mLen (by rfl) T.n_len (by decide +kernel) (pa_cons (pvx 3) pa_nil)) pa_nil))))) pss_nil)
  (pss_one (ps_ret (peif (ptcmp op_mGt (pe_callB call_mLen (by rfl) T.n_len (by decide +kernel) (pa_cons (pvx 1) pa_nil)) pe_int (nomark _)) (pe_tup (pa_cons pe_int (pa_cons pe_int pa_nil))) pe_non))))))))
theorem sc_L_stuck_due : FnScope N_L_stuck_due ["_law_text_so"] (defScope st_L_stuck_due) := ⟨rfl, rfl, rfl, by decide +kernel, rfl, by decide +kernel, by decide +kernel⟩
theorem G_L_stuck_due (T : Txt K mg A) : FnR PROG w K mg base (L2.CX PROG w) 3 A.f_L_stuck_due (sp_L_stuck_due K A) := by
  obtain ⟨fd, F⟩ := T.F_L_stuck_due
  refine fnr_of F sc_L_stuck_due (F.binds (ps := ["_law_text_so"]) fun _ _ _ _ _ _ us hl => match us, hl with | [_], _ => rfl) (fun cdv Ar outer s H E hr => ?_)
  exact (pss_cons (ps_set (i := 1) sc_L_stuck_due.nd rfl (by first | exact Or.inl rfl | exact Or.inr rfl) (pe_split (pvx 0) pe_str))
  (pss_cons (psif (ptcmp (op_mEq (u64 hr)) (pe_ix (ix_m (u1 hr)) (pe_split (pe_ix (ix_m (u1 hr)) (pvx 1) pe_int (fun _ _ => rfl)) pe_str) pe_int (fun _ _ => rfl)) pe_str (nomark _)) (pss_one (ps_ret (peif (ptcmp (op_mNeA (u64 hr)) (pe_ix (ix_m (u1 hr)) (pvx 1) pe_int (fun _ _ => rfl)) pe_str (nomark _)) (pe_tup (pa_cons pe_int (pa_cons pe_int pa_nil))) (peif (ptcmp op_mGt (pe_callB call_mLen (by rfl) T.n_len (by decide +kernel) (pa_cons (pvx 1) pa_nil)) pe_int (nomark _)) (pe_tup (pa_cons pe_int (pa_cons pe_int pa_nil))) pe_non)))) pss_nil)
  (pss_cons (ps_lkO (ps_for (passes_of rfl) rfl (pi_enum rfl T.n_enumerate (pa_cons (pvx 1) pa_nil)) (pgtup rfl (pgcons (pg_name (i := 2) sc_L_stuck_due.nd rfl (by first | exact Or.inl rfl | exact Or.inr rfl)) (pgcons (pg_name (i := 3) sc_L_stuck_due.nd rfl (by first | exact Or.inl rfl | exact Or.inr rfl)) pgnil))) (pss_cons (ps_set (i := 4) sc_L_stuck_due.nd rfl (by first | exact Or.inl rfl | exact Or.inr rfl) (pe_split (pvx 3) pe_str))
  (pss_cons (ps_lkO (ps_for (passes_of rfl) rfl (pi_enum rfl T.n_enumerate (pa_cons (pvx 4) pa_nil)) (pgtup rfl (pgcons (pg_name (i := 5) sc_L_stuck_due.nd rfl (by first | exact Or.inl rfl | exact Or.inr rfl)) (pgcons (pg_name (i := 6) sc_L_stuck_due.nd rfl (by first | exact Or.inl rfl | exact Or.inr rfl)) pgnil))) (pss_one (psif (pt_not (pt_ifE (ptcmp (op_mEq (u64 hr)) (pvx 5) pe_int (nomark _)) (ptv (pe_callF (G_L_is_name T) hr (by decide) T.g_L_is_name T.k_L_is_name (passE (takes_of rfl rfl rfl rfl) (fun _ _ _ _ h => h)) (pa_cons (pvx 6) pa_nil))) (ptv (pe_callF (G_L_is_shelf T) hr (by decide) T.g_L_is_shelf T.k_L_is_shelf (passE (takes_of rfl rfl rfl rfl) (fun _ _ _ _ h => h)) (pa_cons (pvx 6) pa_nil))))) (pss_one (ps_ret (pe_tup (pa_cons (pvx 2) (pa_cons (pvx 5) pa_nil))))) pss_nil))))
  (pss_one (psif (ptcmp op_mLt (pe_callB call_mLen (by rfl) T.n_len (by decide +kernel) (pa_cons (pvx 4) pa_nil)) pe_int (nomark _)) (pss_one (ps_ret (pe_tup (pa_cons (pvx 2) (pa_cons (pe_callB call_mLen (by rfl) T.n_len (by decide +kernel) (pa_cons (pvx 4) pa_nil)) pa_nil))))) pss_nil))))))
  (pss_one (ps_ret pe_non)))))
theorem sc_SafeU_initU : FnScope N_SafeU_initU ["self", "numbers"] (defScope st_SafeU_initU) := ⟨rfl, rfl, rfl, by decide +kernel, rfl, by decide +kernel, by decide +kernel⟩
theorem G_SafeU_initU (T : Txt K mg A) : FnR PROG w K mg base (L2.CX PROG w) 1 A.f_SafeU_initU (sp_SafeU_initU K A) := by
  obtain ⟨fd, F⟩ := T.F_SafeU_initU
  refine fnr_of F sc_SafeU_initU (F.binds (ps := ["self", "numbers"]) fun _ _ _ _ _ _ us hl => match us, hl with | [_, _], _ => rfl) (fun cdv Ar outer s H E hr => ?_)
  exact (pss_one (ps_fld (pvx 0) (pvx 1) rfl))
theorem sc_is_name : FnScope N_is_name ["value"] (defScope st_is_name) := ⟨rfl, rfl, rfl, by decide +kernel, rfl, by decide +kernel, by decide +kernel⟩
theorem G_is_name (T : Txt K mg A) : FnR PROG w K mg base (L2.CX PROG w) 1 A.f_is_name (sp_is_name K A) := by
  obtain ⟨fd, F⟩ := T.F_is_name
  refine fnr_of F sc_is_name (F.binds (ps := ["value"]) fun _ _ _ _ _ _ us hl => match us, hl with | [_], _ => rfl) (fun cdv Ar outer s H E hr => ?_)
  exact (pss_cons (psif (PW.pt (pwor (pt_not (ptv (pe_callB call_mIk (by rfl) T.n_isinstance (by decide +kernel) (pa_cons (pvx 0) (pa_cons (pe_gt T.n_str) pa_nil))))) (pw_or1 (pt_not (ptch op_mLe op_mLe pe_int (pe_callB call_mLen (by rfl) T.n_len (by decide +kernel) (pa_cons (pvx 0) pa_nil)) (pe_gi T.c_LONGEST_checks)))))) (pss_one (ps_ret pe_bl)) pss_nil)
  (pss_one (ps_ret (pe_callB (call_mAll rfl) (by rfl) T.n_all (by decide +kernel) (pa_cons (pe_lkO (pe_lc (own := [("letter", 1)]) rfl sc_is_name.nd (pi_of piv_m (pvx 0)) (blkOk_by (N := N_is_name) (sc := defScope st_is_name) (by decide +kernel)) (fun _ _ _ _ _ => (pg_name (i := 1) sc_is_name.nd rfl (by first | exact Or.inl rfl | exact Or.inr rfl))) (fun _ _ _ _ _ => pts_nil) (fun _ _ _ _ _ => (pe_cmpR (op_mIn (u65 hr)) (pvx 1) (pe_gs T.c_LETTERS) (by rfl))))) pa_nil)))))
theorem sc_is_shelf : FnScope N_is_shelf ["value"] (defScope st_is_shelf) := ⟨rfl, rfl, rfl, by decide +kernel, rfl, by decide +kernel, by decide +kernel⟩
theorem G_is_shelf (T : Txt K mg A) : FnR PROG w K mg base (L2.CX PROG w) 2 A.f_is_shelf (sp_is_shelf K A) := by
  obtain ⟨fd, F⟩ := T.F_is_shelf
  refine fnr_of F sc_is_shelf (F.binds (ps := ["value"]) fun _ _ _ _ _ _ us hl => match us, hl with | [_], _ => rfl) (fun cdv Ar outer s H E hr => ?_)
  exact (pss_cons (psif (PW.pt (pwor (pt_not (ptv (pe_callB call_mIk (by rfl) T.n_isinstance (by decide +kernel) (pa_cons (pvx 0) (pa_cons (pe_gt T.n_str) pa_nil))))) (pw_or1 (ptcmp (op_mEq (u64 hr)) (pvx 0) pe_str (nomark _))))) (pss_one (ps_ret pe_bl)) pss_nil)
  (pss_cons (ps_set (i := 1) sc_is_shelf.nd rfl (by first | exact Or.inl rfl | exact Or.inr rfl) (peif (ptcmp (op_mIn (u65 hr)) (pe_ix (ix_m (u1 hr)) (pvx 0) (pe_un un_mNeg pe_int) (fun _ _ => rfl)) (pe_gs T.c_LANES) (by rfl)) (pe_slice sl_m (pvx 0) po_none (posome (pe_un un_mNeg pe_int))) (pvx 0)))
  (pss_one (ps_ret (peand (pe_callF (G_is_name T) hr (by decide) T.g_is_name T.k_is_name (passE (takes_of rfl rfl rfl rfl) (fun _ _ _ _ h => h)) (pa_cons (pvx 1) pa_nil)) (pe_one (pe_cmpR (op_mNeA (u64 hr)) (pvx 1) pe_str (nomark _))))))))
theorem sc_is_figures : FnScope N_is_figures ["word"] (defScope st_is_figures) := ⟨rfl, rfl, rfl, by decide +kernel, rfl, by decide +kernel, by decide +kernel⟩
theorem G_is_figures (T : Txt K mg A) : FnR PROG w K mg base (L2.CX PROG w) 1 A.f_is_figures (sp_is_figures K A) := by
  obtain ⟨fd, F⟩ := T.F_is_figures
  refine fnr_of F sc_is_figures (F.binds (ps := ["word"]) fun _ _ _ _ _ _ us hl => match us, hl with | [_], _ => rfl) (fun cdv Ar outer s H E hr => ?_)
  exact (pss_cons (psif (PW.pt (pwor (pt_not (ptch op_mLe op_mLe pe_int (pe_callB call_mLen (by rfl) T.n_len (by decide +kernel) (pa_cons (pvx 0) pa_nil)) (pe_gi T.c_LONGEST_reader))) (pw_or1 (pt_not (ptv (pe_callB (call_mAll rfl) (by rfl) T.n_all (by decide +kernel) (pa_cons (pe_lkO (pe_lc (own := [("sign", 1)]) rfl sc_is_figures.nd (pi_of piv_m (pvx 0)) (blkOk_by (N := N_is_figures) (sc := defScope st_is_figures) (by decide +kernel)) (fun _ _ _ _ _ => (pg_name (i := 1) sc_is_figures.nd rfl (by first | exact Or.inl rfl | exact Or.inr rfl))) (fun _ _ _ _ _ => pts_nil) (fun _ _ _ _ _ => (pe_cmpR (op_mIn (u65 hr)) (pvx 1) (pe_gs T.c_FIGURES) (by rfl))))) pa_nil))))))) (pss_one (ps_ret pe_bl)) pss_nil)
  (pss_one (ps_ret (peor (pe_cmpR (op_mEq (u64 hr)) (pvx 0) pe_str (nomark _)) (pe_one (pe_cmpR (op_mNeA (u64 hr)) (pe_ix (ix_m (u1 hr)) (pvx 0) pe_int (fun _ _ => rfl)) pe_str (nomark _)))))))
theorem sc_is_whole : FnScope N_is_whole ["word"] (defScope st_is_whole) := ⟨rfl, rfl, rfl, by decide +kernel, rfl, by decide +kernel, by decide +kernel⟩
theorem G_is_whole (T : Txt K mg A) : FnR PROG w K mg base (L2.CX PROG w) 2 A.f_is_whole (sp_is_whole K A) := by
  obtain ⟨fd, F⟩ := T.F_is_whole
  refine fnr_of F sc_is_whole (F.binds (ps := ["word"]) fun _ _ _ _ _ _ us hl => match us, hl with | [_], _ => rfl) (fun cdv Ar outer s H E hr => ?_)
  exact (pss_one (ps_ret (peor (pe_callF (G_is_figures T) hr (by decide) T.g_is_figures T.k_is_figures (passE (takes_of rfl rfl rfl rfl) (fun _ _ _ _ h => h)) (pa_cons (pvx 0) pa_nil)) (pe_one (peand (pe_cmpR (op_mEq (u64 hr)) (pe_slice sl_m (pvx 0) po_none (posome pe_int)) pe_str (nomark _)) (peand (pe_cmpR (op_mNeA (u64 hr)) (pvx 0) pe_str (nomark _)) (pe_one (pe_callF (G_is_figures T) hr (by decide) T.g_is_figures T.k_is_figures (passE (takes_of rfl rfl rfl rfl) (fun _ _ _ _ h => h)) (pa_cons (pe_slice sl_m (pvx 0) (posome pe_int) po_none) pa_nil)))))))))
theorem sc_need_string : FnScope N_need_string ["text"] (defScope st_need_string) := ⟨rfl, rfl, rfl, by decide +kernel, rfl, by decide +kernel, by decide +kernel⟩
theorem G_need_string (T : Txt K mg A) : FnR PROG w K mg base (L2.CX PROG w) 1 A.f_need_string (sp_need_string K A) := by
  obtain ⟨fd, F⟩ := T.F_need_string
  refine fnr_of F sc_need_string (F.binds (ps := ["text"]) fun _ _ _ _ _ _ us hl => match us, hl with | [_], _ => rfl) (fun cdv Ar outer s H E hr => ?_)
  exact (pss_one (psif (pt_not (ptv (pe_callB call_mIk (by rfl) T.n_isinstance (by decide +kernel) (pa_cons (pvx 0) (pa_cons (pe_gt T.n_str) pa_nil))))) (pss_one (ps_raise rfl (takes_of rfl rfl rfl rfl) (pmk_sx T.x_BadText T.g_BadText hr (by decide) (by decide) (pa_cons pe_int (pa_cons pe_int pa_nil))))) pss_nil))
theorem sc_words_of_line : FnScope N_words_of_line ["line", "row"] (defScope st_words_of_line) := ⟨rfl, rfl, rfl, by decide +kernel, rfl, by decide +kernel, by decide +kernel⟩
theorem G_words_of_line (T : Txt K mg A) : FnR PROG w K mg base (L2.CX PROG w) 1 A.f_words_of_line (sp_words_of_line K A) := by
  obtain ⟨fd, F⟩ := T.F_words_of_line
  refine fnr_of F sc_words_of_line (F.binds (ps := ["line", "row"]) fun _ _ _ _ _ _ us hl => match us, hl with | [_, _], _ => rfl) (fun cdv Ar outer s H E hr => ?_)
  exact (pss_cons (ps_set (i := 2) sc_words_of_line.nd rfl (by first | exact Or.inl rfl | exact Or.inr rfl) (pe_split (pvx 1) pe_str))
  (pss_cons (psif (PW.pt (pwand (ptcmp (op_mEq (u64 hr)) (pe_ix (ix_m (u1 hr)) (pvx 2) pe_int (fun _ _ => rfl)) pe_str (nomark _)) (pw_and1 (ptcmp op_mGt (pe_callB call_mLen (by rfl) T.n_len (by decide +kernel) (pa_cons (pvx 2) pa_nil)) pe_int (nomark _))))) (pss_one (ps_raise rfl (takes_of rfl rfl rfl rfl) (pmk_sx T.x_BadText T.g_BadText hr (by decide) (by decide) (pa_cons (pvx 0) (pa_cons pe_int pa_nil))))) pss_nil)
  (pss_one (ps_ret (peif (ptcmp (op_mNeA (u64 hr)) (pvx 1) pe_str (nomark _)) (pvx 2) (pe_lst pa_nil))))))
theorem sc_read_safe : FnScope N_read_safe ["text"] (defScope st_read_safe) := ⟨rfl, rfl, rfl, by decide +kernel, rfl, by decide +kernel, by decide +kernel⟩
theorem G_read_safe (T : Txt K mg A) : FnR PROG w K mg base (L2.CX PROG w) 3 A.f_read_safe (sp_read_safe K A) := by
  obtain ⟨fd, F⟩ := T.F_read_safe
  refine fnr_of F sc_read_safe (F.binds (ps := ["text"]) fun _ _ _ _ _ _ us hl => match us, hl with | [_], _ => rfl) (fun cdv Ar outer s H E hr => ?_)
  exact (pss_cons (ps_expr (pe_callF (G_need_string T) hr (by decide) T.g_need_string T.k_need_string (passE (takes_of rfl rfl rfl rfl) (fun _ _ _ _ h => h)) (pa_cons (pvx 0) pa_nil)))
  (pss_cons (ps_set (i := 1) sc_read_safe.nd rfl (by first | exact Or.inl rfl | exact Or.inr rfl) (pe_split (pvx 0) pe_str))
  (pss_cons (ps_par rfl sc_read_safe.nd rfl rfl (by decide) rfl rfl (pa_cons (pe_callF (G_words_of_line T) hr (by decide) T.g_words_of_line T.k_words_of_line (passE (takes_of rfl rfl rfl rfl) (fun _ _ _ _ h => h)) (pa_cons pe_int (pa_cons (pe_ix (ix_m (u1 hr)) (pvx 1) pe_int (fun _ _ => rfl)) pa_nil))) (pa_cons pe_dnewK pa_nil)) (by rfl))
  (pss_cons (ps_lkO (ps_for (passes_of rfl) rfl (pi_enum rfl T.n_enumerate (pa_cons (pvx 2) pa_nil)) (pgtup rfl (pgcons (pg_name (i := 4) sc_read_safe.nd rfl (by first | exact Or.inl rfl | exact Or.inr rfl)) (pgcons (pg_name (i := 5) sc_read_safe.nd rfl (by first | exact Or.inl rfl | exact Or.inr rfl)) pgnil))) (pss_cons (ps_set (i := 6) sc_read_safe.nd rfl (by first | exact Or.inl rfl | exact Or.inr rfl) (peif (ptcmp (op_mEq (u64 hr)) (pe_op op_mMod (pvx 4) pe_int) pe_int (nomark _)) (pe_callF (G_is_whole T) hr (by decide) T.g_is_whole T.k_is_whole (passE (takes_of rfl rfl rfl rfl) (fun _ _ _ _ h => h)) (pa_cons (pvx 5) pa_nil)) (peand (pe_callF (G_is_shelf T) hr (by decide) T.g_is_shelf T.k_is_shelf (passE (takes_of rfl rfl rfl rfl) (fun _ _ _ _ h => h)) (pa_cons (pvx 5) pa_nil)) (pe_one (peor (pe_cmpR (op_mEq (u64 hr)) (pvx 4) pe_int (nomark _)) (pe_one (pe_cmpR op_mGt (pvx 5) (pe_ix (ix_m (u1 hr)) (pvx 2) (pe_op op_mSub (pvx 4) pe_int) (fun _ _ => rfl)) (nomark _))))))))
  (pss_cons (psif (pt_not (ptv (pvx 6))) (pss_one (ps_raise rfl (takes_of rfl rfl rfl rfl) (pmk_sx T.x_BadText T.g_BadText hr (by decide) (by decide) (pa_cons pe_int (pa_cons (pvx 4) pa_nil))))) pss_nil)
  (pss_one (psif (ptcmp (op_mEq (u64 hr)) (pe_op op_mMod (pvx 4) pe_int) pe_int (nomark _)) (pss_one (ps_dput (u1 hr) (pvx 3) (pe_ix (ix_m (u1 hr)) (pvx 2) (pe_op op_mSub (pvx 4) pe_int) (fun _ _ => rfl)) (pe_callTy call_mIntT (by rfl) T.n_int (by decide +kernel) (pa_cons (pvx 5) pa_nil)) rfl)) pss_nil))))))
  (pss_cons (psif (ptcmp (op_mEq (u64 hr)) (pe_op op_mMod (pe_callB call_mLen (by rfl) T.n_len (by decide +kernel) (pa_cons (pvx 2) pa_nil)) pe_int) pe_int (nomark _)) (pss_one (ps_raise rfl (takes_of rfl rfl rfl rfl) (pmk_sx T.x_BadText T.g_BadText hr (by decide) (by decide) (pa_cons pe_int (pa_cons (pe_callB call_mLen (by rfl) T.n_len (by decide +kernel) (pa_cons (pvx 2) pa_nil)) pa_nil))))) pss_nil)
  (pss_cons (psif (ptcmp op_mGt (pe_callB call_mLen (by rfl) T.n_len (by decide +kernel) (pa_cons (pvx 1) pa_nil)) pe_int (nomark _)) (pss_one (ps_raise rfl (takes_of rfl rfl rfl rfl) (pmk_sx T.x_BadText T.g_BadText hr (by decide) (by decide) (pa_cons pe_int (pa_cons pe_int pa_nil))))) pss_nil)
  (pss_one (ps_ret (StX.pe_makeR T.k_Safe (G_SafeU_initU T) (Room.mono hr (by decide)) rfl T.g_Safe (passE (takes_of rfl rfl rfl rfl) (fun _ _ _ _ h => h)) (pa_cons (pvx 3) pa_nil))))))))))
theorem sc_FillU_initU : FnScope N_FillU_initU ["self", "shelf", "flow", "way", "want"] (defScope st_FillU_initU) := ⟨rfl, rfl, rfl, by decide +kernel, rfl, by decide +kernel, by decide +kernel⟩
theorem G_FillU_initU (T : Txt K mg A) : FnR PROG w K mg base (L2.CX PROG w) 1 A.f_FillU_initU (sp_FillU_initU K A) := by
  obtain ⟨fd, F⟩ := T.F_FillU_initU
  refine fnr_of F sc_FillU_initU (F.binds (ps := ["self", "shelf", "flow", "way", "want"]) fun _ _ _ _ _ _ us hl => match us, hl with | [_, _, _, _, _], _ => rfl) (fun cdv Ar outer s H E hr => ?_)
  exact (pss_cons (ps_fld (pvx 0) (pvx 1) rfl)
  (pss_cons (ps_fld (pvx 0) (pvx 2) rfl)
  (pss_cons (ps_fld (pvx 0) (pvx 3) rfl)
  (pss_one (ps_fld (pvx 0) (pvx 4) rfl)))))
theorem sc_read_fill : FnScope N_read_fill ["line", "words"] (defScope st_read_fill) := ⟨rfl, rfl, rfl, by decide +kernel, rfl, by decide +kernel, by decide +kernel⟩
theorem G_read_fill (T : Txt K mg A) : FnR PROG w K mg base (L2.CX PROG w) 3 A.f_read_fill (sp_read_fill K A) := by
  obtain ⟨fd, F⟩ := T.F_read_fill
  refine fnr_of F sc_read_fill (F.binds (ps := ["line", "words"]) fun _ _ _ _ _ _ us hl => match us, hl with | [_, _], _ => rfl) (fun cdv Ar outer s H E hr => ?_)
  exact (pss_cons (ps_lkO (ps_for (passes_of rfl) rfl (pi_enum rfl T.n_enumerate (pa_cons (pvx 1) pa_nil)) (pgtup rfl (pgcons (pg_name (i := 2) sc_read_fill.nd rfl (by first | exact Or.inl rfl | exact Or.inr rfl)) (pgcons (pg_name (i := 3) sc_read_fill.nd rfl (by first | exact Or.inl rfl | exact Or.inr rfl)) pgnil))) (pss_one (psif (pt_not (pt_ifE (ptcmp (op_mEq (u64 hr)) (pvx 2) pe_int (nomark _)) (ptv (pe_callF (G_is_name T) hr (by decide) T.g_is_name T.k_is_name (passE (takes_of rfl rfl rfl rfl) (fun _ _ _ _ h => h)) (pa_cons (pvx 3) pa_nil))) (ptv (pe_callF (G_is_shelf T) hr (by decide) T.g_is_shelf T.k_is_shelf (passE (takes_of rfl rfl rfl rfl) (fun _ _ _ _ h => h)) (pa_cons (pvx 3) pa_nil))))) (pss_one (ps_raise rfl (takes_of rfl rfl rfl rfl) (pmk_sx T.x_BadText T.g_BadText hr (by decide) (by decide) (pa_cons (pvx 0) (pa_cons (pvx 2) pa_nil))))) pss_nil))))
  (pss_cons (psif (ptcmp op_mLt (pe_callB call_mLen (by rfl) T.n_len (by decide +kernel) (pa_cons (pvx 1) pa_nil)) pe_int (nomark _)) (pss_one (ps_raise rfl (takes_of rfl rfl rfl rfl) (pmk_sx T.x_BadText T.g_BadText hr (by decide) (by decide) (pa_cons (pvx 0) (pa_cons (pe_callB call_mLen (by rfl) T.n_len (by decide +kernel) (pa_cons (pvx 1) pa_nil)) pa_nil))))) pss_nil)
  (pss_one (ps_ret (StX.pe_makeR T.k_Fill (G_FillU_initU T) (Room.mono hr (by decide)) rfl T.g_Fill (passE (takes_of rfl rfl rfl rfl) (fun _ _ _ _ h => h)) (pa_cons (pe_ix (ix_m (u1 hr)) (pvx 1) pe_int (fun _ _ => rfl)) (pa_cons (pe_ix (ix_m (u1 hr)) (pvx 1) pe_int (fun _ _ => rfl)) (pa_cons (pe_callTy call_mTup (by rfl) T.n_tuple (by decide +kernel) (pa_cons (pe_slice sl_m (pvx 1) (posome pe_int) po_none) pa_nil)) (pa_cons (pe_ix (ix_m (u1 hr)) (pvx 1) pe_int (fun _ _ => rfl)) pa_nil)))))))))
theorem sc_read_stuck : FnScope N_read_stuck ["text"] (defScope st_read_stuck) := ⟨rfl, rfl, rfl, by decide +kernel, rfl, by decide +kernel, by decide +kernel⟩
theorem G_read_stuck (T : Txt K mg A) : FnR PROG w K mg base (L2.CX PROG w) 4 A.f_read_stuck (sp_read_stuck K A) := by
  obtain ⟨fd, F⟩ := T.F_read_stuck
  refine fnr_of F sc_read_stuck (F.binds (ps := ["text"]) fun _ _ _ _ _ _ us hl => match us, hl with | [_], _ => rfl) (fun cdv Ar outer s H E hr => ?_)
  exact (pss_cons (ps_expr (pe_callF (G_need_string T) hr (by decide) T.g_need_string T.k_need_string (passE (takes_of rfl rfl rfl rfl) (fun _ _ _ _ h => h)) (pa_cons (pvx 0) pa_nil)))
  (pss_cons (ps_set (i := 1) sc_read_stuck.nd rfl (by first | exact Or.inl rfl | exact Or.inr rfl) (pe_split (pvx 0) pe_str))
  (pss_cons (psif (ptcmp (op_mEq (u64 hr)) (pe_callF (G_words_of_line T) hr (by decide) T.g_words_of_line T.k_words_of_line (passE (takes_of rfl rfl rfl rfl) (fun _ _ _ _ h => h)) (pa_cons pe_int (pa_cons (pe_ix (ix_m (u1 hr)) (pvx 1) pe_int (fun _ _ => rfl)) pa_nil))) (pe_lst pa_nil) (nomark _)) (pss_cons (psif (ptcmp op_mGt (pe_callB call_mLen (by rfl) T.n_len (by decide +kernel) (pa_cons (pvx 1) pa_nil)) pe_int (nomark _)) (pss_one (ps_raise rfl (takes_of rfl rfl rfl rfl) (pmk_sx T.x_BadText T.g_BadText hr (by decide) (by decide) (pa_cons pe_int (pa_cons pe_int pa_nil))))) pss_nil)
  (pss_one (ps_ret (StX.pe_makeR T.k_Stuck (G_StuckU_initU T) (Room.mono hr (by decide)) rfl T.g_Stuck (passE (takes_of rfl rfl rfl rfl) (fun _ _ _ _ h => h)) (pa_cons (pe_tup pa_nil) pa_nil))))) pss_nil)
  (pss_one (ps_ret (StX.pe_makeR T.k_Stuck (G_StuckU_initU T) (Room.mono hr (by decide)) rfl T.g_Stuck (passE (takes_of rfl rfl rfl rfl) (fun _ _ _ _ h => h)) (pa_cons (pe_callTy call_mTup (by rfl) T.n_tuple (by decide +kernel) (pa_cons (pe_lkO (pe_lcR (EB := E) (own := [("line", 2), ("row", 3)]) rfl rfl (takes_of rfl rfl rfl rfl) rfl sc_read_stuck.nd (pi_enum rfl T.n_enumerate (pa_cons (pvx 1) pa_nil)) (blkOk_by (N := N_read_stuck) (sc := defScope st_read_stuck) (by decide +kernel)) (fun _ _ _ _ _ _ => (pgtup rfl (pgcons (pg_name (i := 2) sc_read_stuck.nd rfl (by first | exact Or.inl rfl | exact Or.inr rfl)) (pgcons (pg_name (i := 3) sc_read_stuck.nd rfl (by first | exact Or.inl rfl | exact Or.inr rfl)) pgnil)))) (fun _ _ _ _ _ _ => pts_nil) (fun _ _ _ _ _ _ hp => (pe_callF (G_read_fill T) hr (by decide) T.g_read_fill T.k_read_fill hp (pa_cons (pvx 2) (pa_cons (pe_split (pvx 3) pe_str) pa_nil)))))) pa_nil)) pa_nil)))))))
theorem sc_is_integer : FnScope N_is_integer ["value"] (defScope st_is_integer) := ⟨rfl, rfl, rfl, by decide +kernel, rfl, by decide +kernel, by decide +kernel⟩
theorem G_is_integer (T : Txt K mg A) : FnR PROG w K mg base (L2.CX PROG w) 1 A.f_is_integer (sp_is_integer K A) := by
  obtain ⟨fd, F⟩ := T.F_is_integer
  refine fnr_of F sc_is_integer (F.binds (ps := ["value"]) fun _ _ _ _ _ _ us hl => match us, hl with | [_], _ => rfl) (fun cdv Ar outer s H E hr => ?_)
  exact (pss_one (ps_ret (peand (pe_callB call_mIk (by rfl) T.n_isinstance (by decide +kernel) (pa_cons (pvx 0) (pa_cons (pe_gt T.n_int) pa_nil))) (pe_one (penot (pe_callB call_mIk (by rfl) T.n_isinstance (by decide +kernel) (pa_cons (pvx 0) (pa_cons (pe_gt T.n_bool) pa_nil))))))))
theorem sc_is_numbers : FnScope N_is_numbers ["numbers"] (defScope st_is_numbers) := ⟨rfl, rfl, rfl, by decide +kernel, rfl, by decide +kernel, by decide +kernel⟩
theorem G_is_numbers (T : Txt K mg A) : FnR PROG w K mg base (L2.CX PROG w) 3 A.f_is_numbers (sp_is_numbers K A) := by
  obtain ⟨fd, F⟩ := T.F_is_numbers
  refine fnr_of F sc_is_numbers (F.binds (ps := ["numbers"]) fun _ _ _ _ _ _ us hl => match us, hl with | [_], _ => rfl) (fun cdv Ar outer s H E hr => ?_)
  exact (pss_cons (psif (pt_not (ptv (pe_callB call_mIk (by rfl) T.n_isinstance (by decide +kernel) (pa_cons (pvx 0) (pa_cons (pe_gt T.n_dict) pa_nil))))) (pss_one (ps_ret pe_bl)) pss_nil)
  (pss_one (ps_ret (pe_callB (call_mAll rfl) (by rfl) T.n_all (by decide +kernel) (pa_cons (pe_lkO (pe_lcR (EB := E) (own := [("one", 1)]) rfl rfl (takes_of rfl rfl rfl rfl) rfl sc_is_numbers.nd (pi_of piv_m (pvx 0)) (blkOk_by (N := N_is_numbers) (sc := defScope st_is_numbers) (by decide +kernel)) (fun _ _ _ _ _ _ => (pg_name (i := 1) sc_is_numbers.nd rfl (by first | exact Or.inl rfl | exact Or.inr rfl))) (fun _ _ _ _ _ _ => pts_nil) (fun _ _ _ _ _ _ hp => (peand (pe_callF (G_is_shelf T) hr (by decide) T.g_is_shelf T.k_is_shelf hp (pa_cons (pvx 1) pa_nil)) (peand (pe_callF (G_is_integer T) hr (by decide) T.g_is_integer T.k_is_integer hp (pa_cons (pe_ix (ix_m (u1 hr)) (pvx 0) (pvx 1) (fun _ _ => rfl)) pa_nil)) (pe_one (pe_cmpR op_mLt (pe_callB call_mAbs (by rfl) T.n_abs (by decide +kernel) (pa_cons (pe_ix (ix_m (u1 hr)) (pvx 0) (pvx 1) (fun _ _ => rfl)) pa_nil)) (pe_gi T.c_GREATEST) (nomark _)))))))) pa_nil)))))
theorem sc_pairs_text : FnScope N_pairs_text ["told"] (defScope st_pairs_text) := ⟨rfl, rfl, rfl, by decide +kernel, rfl, by decide +kernel, by decide +kernel⟩
theorem G_pairs_text (T : Txt K mg A) : FnR PROG w K mg base (L2.CX PROG w) 1 A.f_pairs_text (sp_pairs_text K A) := by
  obtain ⟨fd, F⟩ := T.F_pairs_text
  refine fnr_of F sc_pairs_text (F.binds (ps := ["told"]) fun _ _ _ _ _ _ us hl => match us, hl with | [_], _ => rfl) (fun cdv Ar outer s H E hr => ?_)
  exact (pss_one (ps_ret (peif (ptcmp (op_mNeA (u64 hr)) (pvx 0) pe_dnewK (nomark _)) (pe_join pe_str (pe_lkO (pe_lc (own := [("shelf", 1)]) rfl sc_pairs_text.nd (pi_of piv_m (pe_callB cr_sortedS (by rfl) T.n_sorted (by decide +kernel) (pa_cons (pe_lkO (pe_lc (own := [("one", 2)]) rfl sc_pairs_text.nd (pi_of piv_m (pvx 0)) (blkOk_by (N := N_pairs_text) (sc := defScope st_pairs_text) (by decide +kernel)) (fun _ _ _ _ _ => (pg_name (i := 2) sc_pairs_text.nd rfl (by first | exact Or.inl rfl | exact Or.inr rfl))) (fun _ _ _ _ _ => pts_nil) (fun _ _ _ _ _ => (pe_callTy call_mStr (by rfl) T.n_str (by decide +kernel) (pa_cons (pvx 2) pa_nil))))) pa_nil))) (blkOk_by (N := N_pairs_text) (sc := defScope st_pairs_text) (by decide +kernel)) (fun _ _ _ _ _ => (pg_name (i := 1) sc_pairs_text.nd rfl (by first | exact Or.inl rfl | exact Or.inr rfl))) (fun _ _ _ _ _ => pts_nil) (fun _ _ _ _ _ => (pe_joined (PJ.cons (pe_fmt (pvx 1)) (PJ.cons pe_str (PJ.cons (pe_fmt (pe_ix (ix_m (u1 hr)) (pvx 0) (pvx 1) (fun _ _ => rfl))) PJ.nil)))))))) pe_str)))
theorem sc_write_safe : FnScope N_write_safe ["safe"] (defScope st_write_safe) := ⟨rfl, rfl, rfl, by decide +kernel, rfl, by decide +kernel, by decide +kernel⟩
theorem G_write_safe (T : Txt K mg A) : FnR PROG w K mg base (L2.CX PROG w) 4 A.f_write_safe (sp_write_safe K A) := by
  obtain ⟨fd, F⟩ := T.F_write_safe
  refine fnr_of F sc_write_safe (F.binds (ps := ["safe"]) fun _ _ _ _ _ _ us hl => match us, hl with | [_], _ => rfl) (fun cdv Ar outer s H E hr => ?_)
  exact (pss_cons (psif (PW.pt (pwor (pt_not (ptv (pe_callB call_mIk (by rfl) T.n_isinstance (by decide +kernel) (pa_cons (pvx 0) (pa_cons (pe_gr T.g_Safe) pa_nil))))) (pw_or1 (pt_not (ptv (pe_callF (G_is_numbers T) hr (by decide) T.g_is_numbers T.k_is_numbers (passE (takes_of rfl rfl rfl rfl) (fun _ _ _ _ h => h)) (pa_cons (pefld (pvx 0) rfl) pa_nil))))))) (pss_one (ps_raise rfl (takes_of rfl rfl rfl rfl) (pmk_sx T.x_BadPaper T.g_BadPaper hr (by decide) (by decide) (pa_cons pe_str pa_nil)))) pss_nil)
  (pss_one (ps_ret (pe_callF (G_pairs_text T) hr (by decide) T.g_pairs_text T.k_pairs_text (passE (takes_of rfl rfl rfl rfl) (fun _ _ _ _ h => h)) (pa_cons (pefld (pvx 0) rfl) pa_nil)))))
theorem sc_is_fill : FnScope N_is_fill ["fill"] (defScope st_is_fill) := ⟨rfl, rfl, rfl, by decide +kernel, rfl, by decide +kernel, by decide +kernel⟩
theorem G_is_fill (T : Txt K mg A) : FnR PROG w K mg base (L2.CX PROG w) 3 A.f_is_fill (sp_is_fill K A) := by
  obtain ⟨fd, F⟩ := T.F_is_fill
  refine fnr_of F sc_is_fill (F.binds (ps := ["fill"]) fun _ _ _ _ _ _ us hl => match us, hl with | [_], _ => rfl) (fun cdv Ar outer s H E hr => ?_)
  exact (pss_cons (psif (PW.pt (pwor (pt_not (ptv (pe_callB call_mIk (by rfl) T.n_isinstance (by decide +kernel) (pa_cons (pvx 0) (pa_cons (pe_gr T.g_Fill) pa_nil))))) (pwor (pt_not (ptv (pe_callF (G_is_shelf T) hr (by decide) T.g_is_shelf T.k_is_shelf (passE (takes_of rfl rfl rfl rfl) (fun _ _ _ _ h => h)) (pa_cons (pefld (pvx 0) rfl) pa_nil)))) (pwor (pt_not (ptv (pe_callF (G_is_name T) hr (by decide) T.g_is_name T.k_is_name (passE (takes_of rfl rfl rfl rfl) (fun _ _ _ _ h => h)) (pa_cons (pefld (pvx 0) rfl) pa_nil)))) (pw_or1 (pt_not (ptv (pe_callF (G_is_shelf T) hr (by decide) T.g_is_shelf T.k_is_shelf (passE (takes_of rfl rfl rfl rfl) (fun _ _ _ _ h => h)) (pa_cons (pefld (pvx 0) rfl) pa_nil))))))))) (pss_one (ps_ret pe_bl)) pss_nil)
  (pss_one (ps_ret (peand (pe_callB call_mIk (by rfl) T.n_isinstance (by decide +kernel) (pa_cons (pefld (pvx 0) rfl) (pa_cons (pe_gt T.n_tuple) pa_nil))) (peand (pe_cmpR (op_mNeA (u64 hr)) (pefld (pvx 0) rfl) (pe_tup pa_nil) (nomark _)) (pe_one (pe_callB (call_mAll rfl) (by rfl) T.n_all (by decide +kernel) (pa_cons (pe_lkO (pe_lcR (EB := E) (own := [("shelf", 1)]) rfl rfl (takes_of rfl rfl rfl rfl) rfl sc_is_fill.nd (pi_of piv_m (pefld (pvx 0) rfl)) (blkOk_by (N := N_is_fill) (sc := defScope st_is_fill) (by decide +kernel)) (fun _ _ _ _ _ _ => (pg_name (i := 1) sc_is_fill.nd rfl (by first | exact Or.inl rfl | exact Or.inr rfl))) (fun _ _ _ _ _ _ => pts_nil) (fun _ _ _ _ _ _ hp => (pe_callF (G_is_shelf T) hr (by decide) T.g_is_shelf T.k_is_shelf hp (pa_cons (pvx 1) pa_nil))))) pa_nil))))))))
theorem sc_write_stuck : FnScope N_write_stuck ["stuck"] (defScope st_write_stuck) := ⟨rfl, rfl, rfl, by decide +kernel, rfl, by decide +kernel, by decide +kernel⟩
theorem G_write_stuck (T : Txt K mg A) : FnR PROG w K mg base (L2.CX PROG w) 4 A.f_write_stuck (sp_write_stuck K A) := by
  obtain ⟨fd, F⟩ := T.F_write_stuck
  refine fnr_of F sc_write_stuck (F.binds (ps := ["stuck"]) fun _ _ _ _ _ _ us hl => match us, hl with | [_], _ => rfl) (fun cdv Ar outer s H E hr => ?_)
  exact (pss_cons (psif (PW.pt (pwor (pt_not (ptv (pe_callB call_mIk (by rfl) T.n_isinstance (by decide +kernel) (pa_cons (pvx 0) (pa_cons (pe_gr T.g_Stuck) pa_nil))))) (pw_or1 (pt_not (ptv (pe_callB call_mIk (by rfl) T.n_isinstance (by decide +kernel) (pa_cons (pefld (pvx 0) rfl) (pa_cons (pe_gt T.n_tuple) pa_nil)))))))) (pss_one (ps_raise rfl (takes_of rfl rfl rfl rfl) (pmk_sx T.x_BadPaper T.g_BadPaper hr (by decide) (by decide) (pa_cons pe_str pa_nil)))) pss_nil)
  (pss_cons (psif (pt_not (ptv (pe_callB (call_mAll rfl) (by rfl) T.n_all (by decide +kernel) (pa_cons (pe_lkO (pe_lcR (EB := E) (own := [("fill", 2)]) rfl rfl (takes_of rfl rfl rfl rfl) rfl sc_write_stuck.nd (pi_of piv_m (pefld (pvx 0) rfl)) (blkOk_by (N := N_write_stuck) (sc := defScope st_write_stuck) (by decide +kernel)) (fun _ _ _ _ _ _ => (pg_name (i := 2) sc_write_stuck.nd rfl (by first | exact Or.inl rfl | exact Or.inr rfl))) (fun _ _ _ _ _ _ => pts_nil) (fun _ _ _ _ _ _ hp => (pe_callF (G_is_fill T) hr (by decide) T.g_is_fill T.k_is_fill hp (pa_cons (pvx 2) pa_nil))))) pa_nil)))) (pss_one (ps_raise rfl (takes_of rfl rfl rfl rfl) (pmk_sx T.x_BadPaper T.g_BadPaper hr (by decide) (by decide) (pa_cons pe_str pa_nil)))) pss_nil)
  (pss_cons (ps_setLc (i := 1) (own := [("fill", 2)]) rfl sc_write_stuck.nd rfl rfl (sw_true rfl rfl rfl (by decide +kernel)) (pi_of piv_m (pefld (pvx 0) rfl)) (blkOk_by (N := N_write_stuck) (sc := defScope st_write_stuck) (by decide +kernel)) (fun _ _ _ _ _ => (pg_name (i := 2) sc_write_stuck.nd rfl (by first | exact Or.inl rfl | exact Or.inr rfl))) (fun _ _ _ _ _ => pts_nil) (fun _ _ _ _ _ => (pe_join pe_str (pe_tup (pa_cons (pefld (pvx 2) rfl) (pa_cons (pefld (pvx 2) rfl) (pa_cons (pefld (pvx 2) rfl) (StX.pa_star (pefld (pvx 2) rfl) pa_nil))))))))
  (pss_one (ps_ret (peif (ptcmp (op_mNeA (u64 hr)) (pvx 1) (pe_lst pa_nil) (nomark _)) (pe_join pe_str (pvx 1)) pe_str))))))
theorem sc_L_right : FnScope N_L_right ["_law_text_so"] (defScope st_L_right) := ⟨rfl, rfl, rfl, by decide +kernel, rfl, by decide +kernel, by decide +kernel⟩
theorem G_L_right (T : Txt K mg A) (TB_L_right : LamX.TabB base mg A.cd_L_right A.tb_L_right) (TI_L_right : (A.tb_L_right, (("_law_right" ++ ".<locals>.") ++ "<lambda>" : Str)) ∈ A.tabs) (TU_L_right : ∀ p ∈ A.tabs, p.1 = A.tb_L_right → p.2 = (("_law_right" ++ ".<locals>.") ++ "<lambda>" : Str)) : FnR PROG w K mg base (L2.CX PROG w) 8 A.f_L_right (sp_L_right K A) := by
  obtain ⟨fd, F, hcd⟩ := T.FC_L_right
  refine fnr_ofC F hcd sc_L_right (F.binds (ps := ["_law_text_so"]) fun _ _ _ _ _ _ us hl => match us, hl with | [_], _ => rfl) (fun Ar outer s H E hr => ?_)
  exact (pss_cons (ps_par rfl sc_L_right.nd rfl rfl (by decide) rfl rfl (pa_cons (pe_callF (G_L_safe_due T) hr (by decide) T.g_L_safe_due T.k_L_safe_due (passE (takes_of rfl rfl rfl rfl) (fun _ _ _ _ h => h)) (pa_cons (pvx 0) pa_nil)) (pa_cons (pe_callF (G_L_stuck_due T) hr (by decide) T.g_L_stuck_due T.k_L_stuck_due (passE (takes_of rfl rfl rfl rfl) (fun _ _ _ _ h => h)) (pa_cons (pvx 0) pa_nil)) pa_nil)) (by rfl))
  (pss_cons (ps_set (i := 3) sc_L_right.nd rfl (by first | exact Or.inl rfl | exact Or.inr rfl) (pe_lst (pa_cons (pe_hear (k := 4) (T := A.tabs) T.F_L_heard T.g_L_heard sc_L_heard T.b_L_heard rfl (by first | exact Or.inl rfl | exact Or.inr (Or.inl rfl)) (fun cdg => GH_L_heard _ T cdg) TB_L_right rfl TI_L_right TU_L_right (Room.mono hr (by decide)) (LamX.lamS_by (by show LamX.lamSB (defScope st_L_right) _ = true; decide +kernel)) rfl (fun _ _ _ _ _ => rfl) (fun A' outer s H E f cl hr => (pe_callF (G_write_safe T) hr (by decide) T.g_write_safe T.k_write_safe (passE (takes_of rfl rfl rfl rfl) (fun _ _ _ _ h => h)) (pa_cons (pe_callF (G_read_safe T) hr (by decide) T.g_read_safe T.k_read_safe (passE (takes_of rfl rfl rfl rfl) (fun _ _ _ _ h => h)) (pa_cons (pvx 0) pa_nil)) pa_nil)))) pa_nil)))
  (pss_cons (ps_expr (pe_bm PySem.F.plainAttrs_list PySem.F.slot_list_append PySem.F.type_list_append mt_append (pvx 3) (pa_cons (pe_hear (k := 4) (T := A.tabs) T.F_L_heard T.g_L_heard sc_L_heard T.b_L_heard rfl (by first | exact Or.inl rfl | exact Or.inr (Or.inl rfl)) (fun cdg => GH_L_heard _ T cdg) TB_L_right rfl TI_L_right TU_L_right (Room.mono hr (by decide)) (LamX.lamS_by (by show LamX.lamSB (defScope st_L_right) _ = true; decide +kernel)) rfl (fun _ _ _ _ _ => rfl) (fun A' outer s H E f cl hr => (pe_callF (G_write_stuck T) hr (by decide) T.g_write_stuck T.k_write_stuck (passE (takes_of rfl rfl rfl rfl) (fun _ _ _ _ h => h)) (pa_cons (pe_callF (G_read_stuck T) hr (by decide) T.g_read_stuck T.k_read_stuck (passE (takes_of rfl rfl rfl rfl) (fun _ _ _ _ h => h)) (pa_cons (pvx 0) pa_nil)) pa_nil)))) pa_nil)))
  (pss_cons (ps_lkO (ps_for (passes_of rfl) rfl (pi_of piv_m (pe_lst (pa_cons (pe_tup (pa_cons (pe_ix (ix_m (u1 hr)) (pvx 3) pe_int (fun _ _ => rfl)) (pa_cons (pvx 1) pa_nil))) (pa_cons (pe_tup (pa_cons (pe_ix (ix_m (u1 hr)) (pvx 3) pe_int (fun _ _ => rfl)) (pa_cons (pvx 2) pa_nil))) pa_nil)))) (pgtup rfl (pgcons (pg_name (i := 4) sc_L_right.nd rfl (by first | exact Or.inl rfl | exact Or.inr rfl)) (pgcons (pg_name (i := 5) sc_L_right.nd rfl (by first | exact Or.inl rfl | exact Or.inr rfl)) pgnil))) (pss_one (psif (ptcmp (op_mNeA (u64 hr)) (pvx 4) (peif (ptcmp op_mIsN (pvx 5) pe_non (nomark _)) (pe_lst (pa_cons (pvx 0) pa_nil)) (pe_tup (pa_cons pe_str (pa_cons (pe_callB call_mRepr (by rfl) T.n_repr (by decide +kernel) (pa_cons (pe_ix (ix_m (u1 hr)) (pvx 5) pe_int (fun _ _ => rfl)) pa_nil)) (pa_cons (pe_callB call_mRepr (by rfl) T.n_repr (by decide +kernel) (pa_cons (pe_ix (ix_m (u1 hr)) (pvx 5) pe_int (fun _ _ => rfl)) pa_nil)) pa_nil))))) (nomark _)) (pss_one (ps_ret pe_bl)) pss_nil))))
  (pss_one (ps_ret pe_bl))))))
theorem sc_law : FnScope N_law ["_law_script"] (defScope st_law) := ⟨rfl, rfl, rfl, by decide +kernel, rfl, by decide +kernel, by decide +kernel⟩
theorem G_law (T : Txt K mg A) {fd : FuncData} (F : Fun K "law" "law" st_law A.f_law fd) (hcd : fd.code = .ref A.cd_law) (TB_L_right : LamX.TabB base mg A.cd_L_right A.tb_L_right) (TI_L_right : (A.tb_L_right, (("_law_right" ++ ".<locals>.") ++ "<lambda>" : Str)) ∈ A.tabs) (TU_L_right : ∀ p ∈ A.tabs, p.1 = A.tb_L_right → p.2 = (("_law_right" ++ ".<locals>.") ++ "<lambda>" : Str)) (TB_law : LamX.TabB base mg A.cd_law A.tb_law) (TI_law : (A.tb_law, (("law" ++ ".<locals>.") ++ "<lambda>" : Str)) ∈ A.tabs) (TU_law : ∀ p ∈ A.tabs, p.1 = A.tb_law → p.2 = (("law" ++ ".<locals>.") ++ "<lambda>" : Str)) : FnOk PROG w K mg base (L2.CX PROG w) 12 A.f_law fd ["_law_script"] (sp_law K A) := by
  refine fnok_ofC F hcd sc_law (fun Ar outer s H E hr => ?_)
  exact (pss_cons (ps_set (i := 1) sc_law.nd rfl (by first | exact Or.inl rfl | exact Or.inr rfl) (pe_callF (G_L_pen T) hr (by decide) T.g_L_pen T.k_L_pen (passE (takes_of rfl rfl rfl rfl) (fun _ _ _ _ h => h)) (pa_cons (pvx 0) pa_nil))) (pss_cons (ps_set (i := 2) sc_law.nd rfl (by first | exact Or.inl rfl | exact Or.inr rfl) (pe_lst (pa_cons pe_str (pa_cons pe_str (pa_cons pe_str (pa_cons pe_str (pa_cons pe_str pa_nil)))))))
  (pss_cons (ps_set (i := 2) sc_law.nd rfl (by first | exact Or.inl rfl | exact Or.inr rfl) (pe_op op_mAdd (pvx 2) (pe_lst (pa_cons pe_str (pa_cons pe_str pa_nil)))))
  (pss_cons (ps_lkO (ps_for (passes_of rfl) rfl (pi_range1 rfl T.n_range (pa_cons pe_int pa_nil)) (pg_name (i := 3) sc_law.nd rfl (by first | exact Or.inl rfl | exact Or.inr rfl)) (pss_cons (ps_set (i := 4) sc_law.nd rfl (by first | exact Or.inl rfl | exact Or.inr rfl) (pe_callF (G_L_pick T) hr (by decide) T.g_L_pick T.k_L_pick (passE (takes_of rfl rfl rfl rfl) (fun _ _ _ _ h => h)) (pa_cons (pvx 1) (pa_cons (pvx 2) pa_nil))))
  (pss_cons (psif (pt_not (ptv (pe_callF (G_L_right T TB_L_right TI_L_right TU_L_right) hr (by decide) T.g_L_right T.k_L_right (passE (takes_of rfl rfl rfl rfl) (fun _ _ _ _ h => h)) (pa_cons (pvx 4) pa_nil)))) (pss_one (ps_ret pe_bl)) pss_nil)
  (pss_cons (ps_lkO (ps_for (passes_of rfl) rfl (pi_range1 rfl T.n_range (pa_cons pe_int pa_nil)) (pg_name (i := 5) sc_law.nd rfl (by first | exact Or.inl rfl | exact Or.inr rfl)) (pss_cons (ps_set (i := 4) sc_law.nd rfl (by first | exact Or.inl rfl | exact Or.inr rfl) (pe_callF (G_L_bent T) hr (by decide) T.g_L_bent T.k_L_bent (passE (takes_of rfl rfl rfl rfl) (fun _ _ _ _ h => h)) (pa_cons (pvx 1) (pa_cons (pvx 4) pa_nil))))
  (pss_one (psif (pt_not (ptv (pe_callF (G_L_right T TB_L_right TI_L_right TU_L_right) hr (by decide) T.g_L_right T.k_L_right (passE (takes_of rfl rfl rfl rfl) (fun _ _ _ _ h => h)) (pa_cons (pvx 4) pa_nil)))) (pss_one (ps_ret pe_bl)) pss_nil)))))
  (pss_cons (ps_set (i := 7) sc_law.nd rfl (by first | exact Or.inl rfl | exact Or.inr rfl) (pe_callF (G_L_pick T) hr (by decide) T.g_L_pick T.k_L_pick (passE (takes_of rfl rfl rfl rfl) (fun _ _ _ _ h => h)) (pa_cons (pvx 1) (pa_cons (pe_lst (pa_cons pe_non (pa_cons pe_int (pa_cons pe_bl (pa_cons (pe_lst (pa_cons pe_str pa_nil)) (pa_cons (pe_tup (pa_cons pe_str (pa_cons pe_int pa_nil))) (pa_cons pe_dnewK (pa_cons (StX.pe_makeR T.k_Stuck (G_StuckU_initU T) (Room.mono hr (by decide)) rfl T.g_Stuck (passE (takes_of rfl rfl rfl rfl) (fun _ _ _ _ h => h)) (pa_cons (pe_tup pa_nil) pa_nil)) pa_nil)))))))) pa_nil))))
  (pss_cons (ps_set (i := 6) sc_law.nd rfl (by first | exact Or.inl rfl | exact Or.inr rfl) (pe_lst (pa_cons (pe_hear (k := 3) (T := A.tabs) T.F_L_heard T.g_L_heard sc_L_heard T.b_L_heard rfl (by first | exact Or.inl rfl | exact Or.inr (Or.inl rfl)) (fun cdg => GH_L_heard _ T cdg) TB_law rfl TI_law TU_law (Room.mono hr (by decide)) (LamX.lamS_by (by show LamX.lamSB (defScope st_law) _ = true; decide +kernel)) rfl (fun _ _ _ _ _ => rfl) (fun A' outer s H E f cl hr => (pe_callF (G_read_safe T) hr (by decide) T.g_read_safe T.k_read_safe (passE (takes_of rfl rfl rfl rfl) (fun _ _ _ _ h => h)) (pa_cons (pvx 7) pa_nil)))) pa_nil)))
  (pss_cons (ps_expr (pe_bm PySem.F.plainAttrs_list PySem.F.slot_list_append PySem.F.type_list_append mt_append (pvx 6) (pa_cons (pe_hear (k := 4) (T := A.tabs) T.F_L_heard T.g_L_heard sc_L_heard T.b_L_heard rfl (by first | exact Or.inl rfl | exact Or.inr (Or.inl rfl)) (fun cdg => GH_L_heard _ T cdg) TB_law rfl TI_law TU_law (Room.mono hr (by decide)) (LamX.lamS_by (by show LamX.lamSB (defScope st_law) _ = true; decide +kernel)) rfl (fun _ _ _ _ _ => rfl) (fun A' outer s H E f cl hr => (pe_callF (G_read_stuck T) hr (by decide) T.g_read_stuck T.k_read_stuck (passE (takes_of rfl rfl rfl rfl) (fun _ _ _ _ h => h)) (pa_cons (pvx 7) pa_nil)))) pa_nil)))
  (pss_one (psif (ptcmp (op_mNeA (u64 hr)) (pvx 6) (pe_op op_mMul (pe_lst (pa_cons (pe_tup (pa_cons pe_str (pa_cons pe_str (pa_cons pe_str pa_nil)))) pa_nil)) pe_int) (nomark _)) (pss_one (ps_ret pe_bl)) pss_nil))))))))))
  (pss_cons (ps_set (i := 2) sc_law.nd rfl (by first | exact Or.inl rfl | exact Or.inr rfl) (pe_lst (pa_cons pe_str (pa_cons pe_str (pa_cons pe_str (pa_cons pe_str (pa_cons pe_str (pa_cons pe_str (pa_cons pe_str (pa_cons pe_str (pa_cons pe_str (pa_cons pe_str (pa_cons pe_str (pa_cons pe_str pa_nil))))))))))))))
  (pss_one (ps_ret (pe_cmpR (op_mEq (u64 hr)) (pe_lkO (pe_lc (own := [("_law_text_so", 4)]) rfl sc_law.nd (pi_of piv_m (pvx 2)) (blkOk_by (N := N_law) (sc := defScope st_law) (by decide +kernel)) (fun _ _ _ _ _ => (pg_name (i := 4) sc_law.nd rfl (by first | exact Or.inl rfl | exact Or.inr rfl))) (fun _ _ _ _ _ => (pts_one (pt_not (ptv (pe_callF (G_L_right T TB_L_right TI_L_right TU_L_right) hr (by decide) T.g_L_right T.k_L_right (passE takes0 (fun _ _ _ _ h => h)) (pa_cons (pvx 4) pa_nil)))))) (fun _ _ _ _ _ => (pvx 4)))) (pe_lst pa_nil) (nomark _)))))))))
end
end Rk94

namespace Rk94
open PySem L2 Fs TL
/-- facts about the classes -/
structure KT (K : PySem.W.Frag) : Prop where
  str_str : isCD K (.type "str") (.ty "str") = some true
abbrev LET : Str := "abcdefghijklmnopqrstuvwxyz"
def isLet (c : Nat) : Bool := decide (97 ≤ c ∧ c ≤ 122)
def nameB (w : Str) : Bool := decide (1 ≤ w.length ∧ w.length ≤ 8) && (tl w).all isLet
theorem tl_LET : tl LET = (List.range 26).map (· + 97) := by rw [tl_ofString]; decide
theorem in_LET (c : Nat) : decide (c ∈ tl LET) = isLet c := by
  rw [tl_LET]
  unfold isLet
  apply decide_eq_decide.mpr
  rw [List.mem_map]
  constructor
  · rintro ⟨a, h, rfl⟩
    have := List.mem_range.mp h
    omega
  · intro h
    exact ⟨c - 97, List.mem_range.mpr (by omega), by omega⟩
theorem all_LET (w : List Nat) : (w.all fun c => decide (c ∈ tl LET)) = w.all isLet := by
  congr 1
  funext c
  exact in_LET c
theorem strOk_one {w : Str} (h : PyData.strOk w = true) (p : Nat → Bool) : ∀ x ∈ ((tl w).filter p).map one1, PyData.strOk x = true := fun x hx => by
  obtain ⟨c, hc, rfl⟩ := List.mem_map.mp hx
  have hc := (List.mem_filter.mp hc).1
  have h2 := Array.all_eq_true'.mp h c (Array.mem_toList_iff.mp hc)
  show (#[c] : Array Nat).all _ = true
  simpa using h2
theorem lim_tl {w : Str} (hl : lim w.length = true) : lim (tl w).length = true := by rw [← len_tl]; exact hl
theorem L_is_name_eq (K : PySem.W.Frag) (A : Ad) (w : Str) (hl : lim w.length = true) (hw : PyData.strOk w = true) : m_L_is_name K A [.str w] () = .ok (.bl (nameB w)) () := by
  unfold m_L_is_name b_L_is_name
  have hs : lim (signs w).length = true := by unfold signs; rw [List.length_map]; exact lim_tl hl
  have hc := comp_ni (S := Unit) (B := LET) (ρ := [Sl.val (D.str w), Sl.no]) (i := 1) (s := ()) (by simp) w
  have hd := dEq_nil (strOk_one hw fun c => !decide (c ∈ tl LET))
  have l0 : lim 0 = true := rfl
  unfold nameB
  by_cases h1 : 1 ≤ w.length
  · by_cases h2 : w.length ≤ 8
    · have e1 : decide ((1 : Int) ≤ (w.length : Int)) = true := decide_eq_true (by omega)
      have e2 : decide ((w.length : Int) ≤ 8) = true := decide_eq_true (by omega)
      simp only [runD, runI, startR, xV, xC, xOp, xUn, xT, xAnd, xOr, xNot, xIf, xAndV, xOrV, xNotV, xCh, xNil, xCons, xTup, xLstN, xL, xCa, xF, xF0, noX, up, x1, xIt, xEn, xNo, xPa, xSl, xM1, xSplit, M.bind, M.ret, M.of, then_ok, then_ex, then_bad, yNx, yRet, yAsg, ySeq, yIf, yFor, yPar, yParK, yRaise, gV, gVt, gVc, gVn, dBl, dIn, strD, wipeR, List.getElem?_cons_zero, List.getElem?_cons_succ, List.set_cons_zero, List.set_cons_succ, Option.bind_some, Option.bind_none, Option.map_some, List.length_cons, List.length_nil, List.map_cons, List.map_nil, List.replicate_succ, List.replicate_zero, List.cons_append, List.nil_append, Nat.zero_add, Nat.reduceAdd, Nat.reduceSub, decide_true, Bool.not_true, Bool.not_false, dLen_str hl, dLe_int, xLcV, kdsOf, xLc, items, e1, e2, hs, hc, hd, l0, filt_nil, all_LET]
      simp [h1, h2]
    · have e1 : decide ((1 : Int) ≤ (w.length : Int)) = true := decide_eq_true (by omega)
      have e2 : decide ((w.length : Int) ≤ 8) = false := decide_eq_false (by omega)
      simp only [runD, runI, startR, xV, xC, xOp, xUn, xT, xAnd, xOr, xNot, xIf, xAndV, xOrV, xNotV, xCh, xNil, xCons, xTup, xLstN, xL, xCa, xF, xF0, noX, up, x1, xIt, xEn, xNo, xPa, xSl, xM1, xSplit, M.bind, M.ret, M.of, then_ok, then_ex, then_bad, yNx, yRet, yAsg, ySeq, yIf, yFor, yPar, yParK, yRaise, gV, gVt, gVc, gVn, dBl, dIn, strD, wipeR, List.getElem?_cons_zero, List.getElem?_cons_succ, List.set_cons_zero, List.set_cons_succ, Option.bind_some, Option.bind_none, Option.map_some, List.length_cons, List.length_nil, List.map_cons, List.map_nil, List.replicate_succ, List.replicate_zero, List.cons_append, List.nil_append, Nat.zero_add, Nat.reduceAdd, Nat.reduceSub, decide_true, Bool.not_true, Bool.not_false, dLen_str hl, dLe_int, e1, e2]
      simp [h1, h2]
  · have e1 : decide ((1 : Int) ≤ (w.length : Int)) = false := decide_eq_false (by omega)
    simp only [runD, runI, startR, xV, xC, xOp, xUn, xT, xAnd, xOr, xNot, xIf, xAndV, xOrV, xNotV, xCh, xNil, xCons, xTup, xLstN, xL, xCa, xF, xF0, noX, up, x1, xIt, xEn, xNo, xPa, xSl, xM1, xSplit, M.bind, M.ret, M.of, then_ok, then_ex, then_bad, yNx, yRet, yAsg, ySeq, yIf, yFor, yPar, yParK, yRaise, gV, gVt, gVc, gVn, dBl, dIn, strD, wipeR, List.getElem?_cons_zero, List.getElem?_cons_succ, List.set_cons_zero, List.set_cons_succ, Option.bind_some, Option.bind_none, Option.map_some, List.length_cons, List.length_nil, List.map_cons, List.map_nil, List.replicate_succ, List.replicate_zero, List.cons_append, List.nil_append, Nat.zero_add, Nat.reduceAdd, Nat.reduceSub, decide_true, Bool.not_true, Bool.not_false, dLen_str hl, dLe_int, e1]
    simp [h1]
theorem isi_str {K : PySem.W.Frag} (k : KT K) (w : Str) : dIsk K [.str w, .ty "str"] = some (.bl true) := by
  show (isCD K (.type "str") (.ty "str")).map D.bl = _
  rw [k.str_str]; rfl
theorem is_name_eq (K : PySem.W.Frag) (k : KT K) (A : Ad) (w : Str) (hl : lim w.length = true) : m_is_name K A [.str w] () = .ok (.bl (nameB w)) () := by
  unfold m_is_name b_is_name
  have hs : lim (signs w).length = true := by unfold signs; rw [List.length_map]; exact lim_tl hl
  have hc := comp_in (S := Unit) (B := LET) (ρ := [Sl.val (D.str w), Sl.no]) (i := 1) (s := ()) (by simp) w
  have hd := dAll_map (fun c => decide (c ∈ tl LET)) (tl w)
  unfold nameB
  by_cases h1 : 1 ≤ w.length
  · by_cases h2 : w.length ≤ 8
    · have e1 : decide ((1 : Int) ≤ (w.length : Int)) = true := decide_eq_true (by omega)
      have e2 : decide ((w.length : Int) ≤ v_LONGEST_checks) = true := decide_eq_true (by show (w.length : Int) ≤ 8; omega)
      simp only [runD, runI, startR, xV, xC, xOp, xUn, xT, xAnd, xOr, xNot, xIf, xAndV, xOrV, xNotV, xCh, xNil, xCons, xTup, xLstN, xL, xCa, xF, xF0, noX, up, x1, xIt, xEn, xNo, xPa, xSl, xM1, xSplit, M.bind, M.ret, M.of, then_ok, then_ex, then_bad, yNx, yRet, yAsg, ySeq, yIf, yFor, yPar, yParK, yRaise, gV, gVt, gVc, gVn, dBl, dIn, strD, wipeR, List.getElem?_cons_zero, List.getElem?_cons_succ, List.set_cons_zero, List.set_cons_succ, Option.bind_some, Option.bind_none, Option.map_some, List.length_cons, List.length_nil, List.map_cons, List.map_nil, List.replicate_succ, List.replicate_zero, List.cons_append, List.nil_append, Nat.zero_add, Nat.reduceAdd, Nat.reduceSub, decide_true, Bool.not_true, Bool.not_false, isi_str k, dLen_str hl, dLe_int, xLcV, kdsOf, xLc, items, e1, e2, hs, hc, hd, all_LET]
      simp [h1, h2]
    · have e1 : decide ((1 : Int) ≤ (w.length : Int)) = true := decide_eq_true (by omega)
      have e2 : decide ((w.length : Int) ≤ v_LONGEST_checks) = false := decide_eq_false (by show ¬ (w.length : Int) ≤ 8; omega)
      simp only [runD, runI, startR, xV, xC, xOp, xUn, xT, xAnd, xOr, xNot, xIf, xAndV, xOrV, xNotV, xCh, xNil, xCons, xTup, xLstN, xL, xCa, xF, xF0, noX, up, x1, xIt, xEn, xNo, xPa, xSl, xM1, xSplit, M.bind, M.ret, M.of, then_ok, then_ex, then_bad, yNx, yRet, yAsg, ySeq, yIf, yFor, yPar, yParK, yRaise, gV, gVt, gVc, gVn, dBl, dIn, strD, wipeR, List.getElem?_cons_zero, List.getElem?_cons_succ, List.set_cons_zero, List.set_cons_succ, Option.bind_some, Option.bind_none, Option.map_some, List.length_cons, List.length_nil, List.map_cons, List.map_nil, List.replicate_succ, List.replicate_zero, List.cons_append, List.nil_append, Nat.zero_add, Nat.reduceAdd, Nat.reduceSub, decide_true, Bool.not_true, Bool.not_false, isi_str k, dLen_str hl, dLe_int, e1, e2]
      simp [h1, h2]
  · have e1 : decide ((1 : Int) ≤ (w.length : Int)) = false := decide_eq_false (by omega)
    simp only [runD, runI, startR, xV, xC, xOp, xUn, xT, xAnd, xOr, xNot, xIf, xAndV, xOrV, xNotV, xCh, xNil, xCons, xTup, xLstN, xL, xCa, xF, xF0, noX, up, x1, xIt, xEn, xNo, xPa, xSl, xM1, xSplit, M.bind, M.ret, M.of, then_ok, then_ex, then_bad, yNx, yRet, yAsg, ySeq, yIf, yFor, yPar, yParK, yRaise, gV, gVt, gVc, gVn, dBl, dIn, strD, wipeR, List.getElem?_cons_zero, List.getElem?_cons_succ, List.set_cons_zero, List.set_cons_succ, Option.bind_some, Option.bind_none, Option.map_some, List.length_cons, List.length_nil, List.map_cons, List.map_nil, List.replicate_succ, List.replicate_zero, List.cons_append, List.nil_append, Nat.zero_add, Nat.reduceAdd, Nat.reduceSub, decide_true, Bool.not_true, Bool.not_false, isi_str k, dLen_str hl, dLe_int, e1]
    simp [h1]
def cutTl (w : Str) : Str := cutS w none (some (-1))
def lastS (w : Str) : Str := cutS w (some (-1)) none
def laneB (w : Str) : Bool := match (tl w).getLast? with | some c => decide (c = 50 ∨ c = 51 ∨ c = 52) | none => false
def plainS (w : Str) : Str := match laneB w with | true => cutTl w | false => w
def shelfB (w : Str) : Bool := nameB (plainS w) && !decide (plainS w = ("out" : Str))
theorem tl_cut (w : Str) (lo hi : Option Int) : tl (cutS w lo hi) = ((tl w).drop (HT.sIx w.length 0 lo)).take (HT.sIx w.length w.length hi - HT.sIx w.length 0 lo) := rfl
theorem tl_cutTl (w : Str) : tl (cutTl w) = (tl w).dropLast := by
  unfold cutTl
  rw [tl_cut]
  show ((tl w).drop 0).take ((-1 + (w.length : Int)).toNat - 0) = _
  rw [List.drop_zero, List.dropLast_eq_take, len_tl]
  congr 1
  omega
theorem tl_lastS (w : Str) : tl (lastS w) = match (tl w).getLast? with | some c => [c] | none => [] := by
  unfold lastS
  rw [tl_cut]
  show ((tl w).drop ((-1 + (w.length : Int)).toNat)).take (w.length - (-1 + (w.length : Int)).toNat) = _
  rw [len_tl]
  generalize tl w = l
  rcases List.eq_nil_or_concat l with rfl | ⟨m, c, rfl⟩
  · rfl
  · rw [List.concat_eq_append]
    have e : (-1 + ((m ++ [c]).length : Int)).toNat = m.length := by simp; omega
    rw [e]
    simp
theorem lim_le {a b : Nat} (h : lim b = true) (k : a ≤ b) : lim a = true := decide_eq_true (Nat.le_trans k (of_decide_eq_true h))
theorem cut_len (w : Str) (lo hi : Option Int) : (cutS w lo hi).length ≤ w.length := by
  rw [len_tl, tl_cut, len_tl w]
  have h1 := List.length_take_le' (HT.sIx (tl w).length (tl w).length hi - HT.sIx (tl w).length 0 lo) ((tl w).drop (HT.sIx (tl w).length 0 lo))
  simp only [List.length_drop] at h1
  omega
theorem cut_ok {w : Str} (h : PyData.strOk w = true) (lo hi : Option Int) : PyData.strOk (cutS w lo hi) = true := by
  unfold PyData.strOk
  rw [Array.all_eq_true']
  intro c hc
  have hc : c ∈ tl (cutS w lo hi) := Array.mem_toList_iff.mpr hc
  rw [tl_cut] at hc
  exact Array.all_eq_true'.mp h c (Array.mem_toList_iff.mp (List.mem_of_mem_drop (List.mem_of_mem_take hc)))
theorem dSl_str {w : Str} (hl : lim w.length = true) {lo hi : Option Int} : dSl (.str w) lo hi = some (.str (cutS w lo hi)) := by
  unfold dSl
  simp only [hl]
theorem lane_in (w : Str) : dIn2 (.str (lastS w)) (.tup [.str "2", .str "3", .str "4"]) = some (.bl (laneB w)) := by
  have e : dIn2 (.str (lastS w)) (.tup [.str "2", .str "3", .str "4"]) = some (.bl (inV (.str (lastS w)) [.str "2", .str "3", .str "4"])) := rfl
  rw [e]
  have hx := tl_lastS w
  have q : ∀ (x y : Str), eqV (.str y) (.str x) = decide (tl y = tl x) := fun x y => by
    have z : eqV (.str y) (.str x) = decide (y = x) := by
      simp only [eqV]
      by_cases h : y = x
      · rw [h]; simp
      · simp [h]
    rw [z]
    exact decide_eq_decide.mpr ⟨fun h => by rw [h], fun h => ext_tl h⟩
  show some (D.bl (inV _ _)) = _
  unfold inV laneB
  simp only [List.any_cons, List.any_nil, q, hx]
  have t2 : tl ("2" : Str) = [50] := by rw [tl_ofString]; decide
  have t3 : tl ("3" : Str) = [51] := by rw [tl_ofString]; decide
  have t4 : tl ("4" : Str) = [52] := by rw [tl_ofString]; decide
  rw [t2, t3, t4]
  cases (tl w).getLast? with
  | none => rfl
  | some c =>
    simp only [List.cons.injEq, and_true, Bool.or_false]
    congr 2
    by_cases h1 : c = 50 <;> by_cases h2 : c = 51 <;> by_cases h3 : c = 52 <;> simp [h1, h2, h3] <;> omega
theorem plain_len {w : Str} (hl : lim w.length = true) : lim (plainS w).length = true := by
  unfold plainS
  cases laneB w with
  | true => exact lim_le hl (cut_len _ _ _)
  | false => exact hl
theorem plain_ok {w : Str} (h : PyData.strOk w = true) : PyData.strOk (plainS w) = true := by
  unfold plainS
  cases laneB w with
  | true => exact cut_ok h _ _
  | false => exact h
theorem L_is_shelf_eq (K : PySem.W.Frag) (A : Ad) (w : Str) (hl : lim w.length = true) (hw : PyData.strOk w = true) : m_L_is_shelf K A [.str w] () = .ok (.bl (shelfB w)) () := by
  unfold m_L_is_shelf b_L_is_shelf
  have hn := L_is_name_eq K A (plainS w) (plain_len hl) (plain_ok hw)
  have l3 : lim 3 = true := rfl
  have ln := lane_in w
  have e0 : cutS w (some (-1)) none = lastS w := rfl
  have dn : dNeg (.int 1) = some (.int (-1)) := rfl
  unfold shelfB
  cases hb : laneB w with
  | true =>
    have e1 : cutS w none (some (-1)) = plainS w := by unfold plainS; rw [hb]; rfl
    cases hq : nameB (plainS w) with
    | true => simp only [runD, runI, startR, xV, xC, xOp, xUn, xT, xAnd, xOr, xNot, xIf, xAndV, xOrV, xNotV, xCh, xNil, xCons, xTup, xLstN, xL, xCa, xF, xF0, noX, up, x1, xIt, xEn, xNo, xPa, xSl, xM1, xSplit, M.bind, M.ret, M.of, then_ok, then_ex, then_bad, yNx, yRet, yAsg, ySeq, yIf, yFor, yPar, yParK, yRaise, gV, gVt, gVc, gVn, dBl, dIn, strD, wipeR, List.getElem?_cons_zero, List.getElem?_cons_succ, List.set_cons_zero, List.set_cons_succ, Option.bind_some, Option.bind_none, Option.map_some, List.length_cons, List.length_nil, List.map_cons, List.map_nil, List.replicate_succ, List.replicate_zero, List.cons_append, List.nil_append, Nat.zero_add, Nat.reduceAdd, Nat.reduceSub, decide_true, Bool.not_true, Bool.not_false, dSl_str hl, dn, l3, e0, e1, ln, hb, hn, neA_str, hq, Bool.true_and]
    | false => simp only [runD, runI, startR, xV, xC, xOp, xUn, xT, xAnd, xOr, xNot, xIf, xAndV, xOrV, xNotV, xCh, xNil, xCons, xTup, xLstN, xL, xCa, xF, xF0, noX, up, x1, xIt, xEn, xNo, xPa, xSl, xM1, xSplit, M.bind, M.ret, M.of, then_ok, then_ex, then_bad, yNx, yRet, yAsg, ySeq, yIf, yFor, yPar, yParK, yRaise, gV, gVt, gVc, gVn, dBl, dIn, strD, wipeR, List.getElem?_cons_zero, List.getElem?_cons_succ, List.set_cons_zero, List.set_cons_succ, Option.bind_some, Option.bind_none, Option.map_some, List.length_cons, List.length_nil, List.map_cons, List.map_nil, List.replicate_succ, List.replicate_zero, List.cons_append, List.nil_append, Nat.zero_add, Nat.reduceAdd, Nat.reduceSub, decide_true, Bool.not_true, Bool.not_false, dSl_str hl, dn, l3, e0, e1, ln, hb, hn, neA_str, hq, Bool.false_and]
  | false =>
    have e1 : w = plainS w := by unfold plainS; rw [hb]
    rw [← e1] at hn ⊢
    cases hq : nameB w with
    | true => simp only [runD, runI, startR, xV, xC, xOp, xUn, xT, xAnd, xOr, xNot, xIf, xAndV, xOrV, xNotV, xCh, xNil, xCons, xTup, xLstN, xL, xCa, xF, xF0, noX, up, x1, xIt, xEn, xNo, xPa, xSl, xM1, xSplit, M.bind, M.ret, M.of, then_ok, then_ex, then_bad, yNx, yRet, yAsg, ySeq, yIf, yFor, yPar, yParK, yRaise, gV, gVt, gVc, gVn, dBl, dIn, strD, wipeR, List.getElem?_cons_zero, List.getElem?_cons_succ, List.set_cons_zero, List.set_cons_succ, Option.bind_some, Option.bind_none, Option.map_some, List.length_cons, List.length_nil, List.map_cons, List.map_nil, List.replicate_succ, List.replicate_zero, List.cons_append, List.nil_append, Nat.zero_add, Nat.reduceAdd, Nat.reduceSub, decide_true, Bool.not_true, Bool.not_false, dSl_str hl, dn, l3, e0, ln, hb, hn, neA_str, hq, Bool.true_and]
    | false => simp only [runD, runI, startR, xV, xC, xOp, xUn, xT, xAnd, xOr, xNot, xIf, xAndV, xOrV, xNotV, xCh, xNil, xCons, xTup, xLstN, xL, xCa, xF, xF0, noX, up, x1, xIt, xEn, xNo, xPa, xSl, xM1, xSplit, M.bind, M.ret, M.of, then_ok, then_ex, then_bad, yNx, yRet, yAsg, ySeq, yIf, yFor, yPar, yParK, yRaise, gV, gVt, gVc, gVn, dBl, dIn, strD, wipeR, List.getElem?_cons_zero, List.getElem?_cons_succ, List.set_cons_zero, List.set_cons_succ, Option.bind_some, Option.bind_none, Option.map_some, List.length_cons, List.length_nil, List.map_cons, List.map_nil, List.replicate_succ, List.replicate_zero, List.cons_append, List.nil_append, Nat.zero_add, Nat.reduceAdd, Nat.reduceSub, decide_true, Bool.not_true, Bool.not_false, dSl_str hl, dn, l3, e0, ln, hb, hn, neA_str, hq, Bool.false_and]
theorem last_get (w : Str) : atI (tl w) (-1) = (tl w).getLast? := by
  unfold atI
  generalize tl w = l
  rcases List.eq_nil_or_concat l with rfl | ⟨m, c, rfl⟩
  · rfl
  · rw [List.concat_eq_append]
    have e : ixN (m ++ [c]).length (-1) = some m.length := by
      unfold ixN
      simp
      omega
    rw [e]
    simp
theorem is_shelf_eq (K : PySem.W.Frag) (k : KT K) (A : Ad) (w : Str) (hl : lim w.length = true) : m_is_shelf K A [.str w] () = .ok (.bl (shelfB w)) () := by
  unfold m_is_shelf b_is_shelf
  have hn := is_name_eq K k A (plainS w) (plain_len hl)
  have dn : dNeg (.int 1) = some (.int (-1)) := rfl
  by_cases h0 : w = ("" : Str)
  · have e1 : decide (w = ("" : Str)) = true := decide_eq_true h0
    simp only [runD, runI, startR, xV, xC, xOp, xUn, xT, xAnd, xOr, xNot, xIf, xAndV, xOrV, xNotV, xCh, xNil, xCons, xTup, xLstN, xL, xCa, xF, xF0, noX, up, x1, xIt, xEn, xNo, xPa, xSl, xM1, xSplit, M.bind, M.ret, M.of, then_ok, then_ex, then_bad, yNx, yRet, yAsg, ySeq, yIf, yFor, yPar, yParK, yRaise, gV, gVt, gVc, gVn, dBl, dIn, strD, wipeR, List.getElem?_cons_zero, List.getElem?_cons_succ, List.set_cons_zero, List.set_cons_succ, Option.bind_some, Option.bind_none, Option.map_some, List.length_cons, List.length_nil, List.map_cons, List.map_nil, List.replicate_succ, List.replicate_zero, List.cons_append, List.nil_append, Nat.zero_add, Nat.reduceAdd, Nat.reduceSub, decide_true, Bool.not_true, Bool.not_false, isi_str k, dEq_str, e1]
    rw [h0]
    rfl
  · have e1 : decide (w = ("" : Str)) = false := decide_eq_false h0
    have hne : tl w ≠ [] := fun e => h0 (ext_tl (by rw [e, tl_ofString]; rfl))
    obtain ⟨c, hc⟩ : ∃ c, (tl w).getLast? = some c := by
      cases e : (tl w).getLast? with
      | none => exact absurd (List.getLast?_eq_none_iff.mp e) hne
      | some c => exact ⟨c, rfl⟩
    have ix : dIx (.str w) (.int (-1)) = some (.str ⟨#[c]⟩) := by
      rw [dIx_str hl]
      show (atI (tl w) (-1)).map _ = _
      rw [last_get, hc]; rfl
    have il : inS ⟨#[c]⟩ ("234" : Str) = laneB w := by
      rw [in_sign]
      have t : tl ("234" : Str) = [50, 51, 52] := by rw [tl_ofString]; decide
      rw [t]
      unfold laneB
      rw [hc]
      exact decide_eq_decide.mpr (by simp)
    unfold shelfB
    cases hb : laneB w with
    | true =>
      have e2 : cutS w none (some (-1)) = plainS w := by unfold plainS; rw [hb]; rfl
      cases hq : nameB (plainS w) with
      | true => simp only [runD, runI, startR, xV, xC, xOp, xUn, xT, xAnd, xOr, xNot, xIf, xAndV, xOrV, xNotV, xCh, xNil, xCons, xTup, xLstN, xL, xCa, xF, xF0, noX, up, x1, xIt, xEn, xNo, xPa, xSl, xM1, xSplit, M.bind, M.ret, M.of, then_ok, then_ex, then_bad, yNx, yRet, yAsg, ySeq, yIf, yFor, yPar, yParK, yRaise, gV, gVt, gVc, gVn, dBl, dIn, strD, wipeR, List.getElem?_cons_zero, List.getElem?_cons_succ, List.set_cons_zero, List.set_cons_succ, Option.bind_some, Option.bind_none, Option.map_some, List.length_cons, List.length_nil, List.map_cons, List.map_nil, List.replicate_succ, List.replicate_zero, List.cons_append, List.nil_append, Nat.zero_add, Nat.reduceAdd, Nat.reduceSub, decide_true, Bool.not_true, Bool.not_false, isi_str k, dEq_str, e1, dn, ix, dIn_str, il, hb, dSl_str hl, e2, hn, hq, neA_str, Bool.true_and]
      | false => simp only [runD, runI, startR, xV, xC, xOp, xUn, xT, xAnd, xOr, xNot, xIf, xAndV, xOrV, xNotV, xCh, xNil, xCons, xTup, xLstN, xL, xCa, xF, xF0, noX, up, x1, xIt, xEn, xNo, xPa, xSl, xM1, xSplit, M.bind, M.ret, M.of, then_ok, then_ex, then_bad, yNx, yRet, yAsg, ySeq, yIf, yFor, yPar, yParK, yRaise, gV, gVt, gVc, gVn, dBl, dIn, strD, wipeR, List.getElem?_cons_zero, List.getElem?_cons_succ, List.set_cons_zero, List.set_cons_succ, Option.bind_some, Option.bind_none, Option.map_some, List.length_cons, List.length_nil, List.map_cons, List.map_nil, List.replicate_succ, List.replicate_zero, List.cons_append, List.nil_append, Nat.zero_add, Nat.reduceAdd, Nat.reduceSub, decide_true, Bool.not_true, Bool.not_false, isi_str k, dEq_str, e1, dn, ix, dIn_str, il, hb, dSl_str hl, e2, hn, hq, neA_str, Bool.false_and]
    | false =>
      have e2 : w = plainS w := by unfold plainS; rw [hb]
      rw [← e2] at hn ⊢
      cases hq : nameB w with
      | true => simp only [runD, runI, startR, xV, xC, xOp, xUn, xT, xAnd, xOr, xNot, xIf, xAndV, xOrV, xNotV, xCh, xNil, xCons, xTup, xLstN, xL, xCa, xF, xF0, noX, up, x1, xIt, xEn, xNo, xPa, xSl, xM1, xSplit, M.bind, M.ret, M.of, then_ok, then_ex, then_bad, yNx, yRet, yAsg, ySeq, yIf, yFor, yPar, yParK, yRaise, gV, gVt, gVc, gVn, dBl, dIn, strD, wipeR, List.getElem?_cons_zero, List.getElem?_cons_succ, List.set_cons_zero, List.set_cons_succ, Option.bind_some, Option.bind_none, Option.map_some, List.length_cons, List.length_nil, List.map_cons, List.map_nil, List.replicate_succ, List.replicate_zero, List.cons_append, List.nil_append, Nat.zero_add, Nat.reduceAdd, Nat.reduceSub, decide_true, Bool.not_true, Bool.not_false, isi_str k, dEq_str, e1, dn, ix, dIn_str, il, hb, dSl_str hl, hn, hq, neA_str, Bool.true_and]
      | false => simp only [runD, runI, startR, xV, xC, xOp, xUn, xT, xAnd, xOr, xNot, xIf, xAndV, xOrV, xNotV, xCh, xNil, xCons, xTup, xLstN, xL, xCa, xF, xF0, noX, up, x1, xIt, xEn, xNo, xPa, xSl, xM1, xSplit, M.bind, M.ret, M.of, then_ok, then_ex, then_bad, yNx, yRet, yAsg, ySeq, yIf, yFor, yPar, yParK, yRaise, gV, gVt, gVc, gVn, dBl, dIn, strD, wipeR, List.getElem?_cons_zero, List.getElem?_cons_succ, List.set_cons_zero, List.set_cons_succ, Option.bind_some, Option.bind_none, Option.map_some, List.length_cons, List.length_nil, List.map_cons, List.map_nil, List.replicate_succ, List.replicate_zero, List.cons_append, List.nil_append, Nat.zero_add, Nat.reduceAdd, Nat.reduceSub, decide_true, Bool.not_true, Bool.not_false, isi_str k, dEq_str, e1, dn, ix, dIn_str, il, hb, dSl_str hl, hn, hq, neA_str, Bool.false_and]
abbrev FIG : Str := "0123456789"
def isFig (c : Nat) : Bool := decide (48 ≤ c ∧ c ≤ 57)
theorem tl_FIG : tl FIG = (List.range 10).map (· + 48) := by rw [tl_ofString]; decide
theorem in_FIG (c : Nat) : decide (c ∈ tl FIG) = isFig c := by
  rw [tl_FIG]
  unfold isFig
  apply decide_eq_decide.mpr
  rw [List.mem_map]
  constructor
  · rintro ⟨a, h, rfl⟩
    have := List.mem_range.mp h
    omega
  · intro h
    exact ⟨c - 48, List.mem_range.mpr (by omega), by omega⟩
theorem all_FIG (w : List Nat) : (w.all fun c => decide (c ∈ tl FIG)) = w.all isFig := by
  congr 1
  funext c
  exact in_FIG c
def headS (w : Str) : Str := cutS w none (some 1)
def tailS (w : Str) : Str := cutS w (some 1) none
def figB (w : Str) : Bool := decide (1 ≤ w.length ∧ w.length ≤ 60) && (tl w).all isFig && (decide (w = ("0" : Str)) || !decide ((tl w).head? = some 48))
def wholeB (w : Str) : Bool := figB w || (decide ((tl w).head? = some 45) && !decide (w = ("-0" : Str)) && figB (tailS w))
theorem tl_headS (w : Str) : tl (headS w) = (tl w).take 1 := by
  unfold headS
  rw [tl_cut, len_tl]
  show ((tl w).drop 0).take (min (1 : Int).toNat (tl w).length - 0) = _
  rw [List.drop_zero]
  cases tl w with
  | nil => rfl
  | cons a l => simp
theorem tl_tailS (w : Str) : tl (tailS w) = (tl w).drop 1 := by
  unfold tailS
  rw [tl_cut, len_tl]
  show ((tl w).drop (min (1 : Int).toNat (tl w).length)).take ((tl w).length - min (1 : Int).toNat (tl w).length) = _
  cases tl w with
  | nil => rfl
  | cons a l => simp
theorem head_dash (w : Str) : decide (headS w = ("-" : Str)) = decide ((tl w).head? = some 45) := by
  apply decide_eq_decide.mpr
  have t : tl ("-" : Str) = [45] := by rw [tl_ofString]; decide
  have h := tl_headS w
  constructor
  · intro e
    rw [e, t] at h
    cases hw : tl w with
    | nil => rw [hw] at h; cases h
    | cons a l => rw [hw] at h; simp at h; simp [h]
  · intro e
    apply ext_tl
    rw [h, t]
    cases hw : tl w with
    | nil => rw [hw] at e; cases e
    | cons a l => rw [hw] at e; simp at e; simp [e]
theorem ix0 {w : Str} (hl : lim w.length = true) {c : Nat} {l : List Nat} (h : tl w = c :: l) : dIx (.str w) (.int 0) = some (.str ⟨#[c]⟩) := by
  rw [dIx_str hl]
  show (atI (tl w) 0).map _ = _
  rw [h]
  have e : atI (c :: l) 0 = some c := by
    unfold atI ixN
    simp
  rw [e]
  rfl
theorem one_eq (c : Nat) : decide ((⟨#[c]⟩ : Str) = ("0" : Str)) = decide (c = 48) := by
  apply decide_eq_decide.mpr
  have t : tl ("0" : Str) = [48] := by rw [tl_ofString]; decide
  constructor
  · intro e
    have := congrArg tl e
    rw [t] at this
    simpa [tl] using this
  · intro e
    apply ext_tl
    rw [t, e]
theorem is_figures_eq (K : PySem.W.Frag) (A : Ad) (w : Str) (hl : lim w.length = true) : m_is_figures K A [.str w] () = .ok (.bl (figB w)) () := by
  unfold m_is_figures b_is_figures
  have hs : lim (signs w).length = true := by unfold signs; rw [List.length_map]; exact lim_tl hl
  have hc := comp_in (S := Unit) (B := FIG) (ρ := [Sl.val (D.str w), Sl.no]) (i := 1) (s := ()) (by simp) w
  have hd := dAll_map (fun c => decide (c ∈ tl FIG)) (tl w)
  rw [all_FIG] at hd
  unfold figB
  by_cases h1 : 1 ≤ w.length
  · by_cases h2 : w.length ≤ 60
    · have e1 : decide ((1 : Int) ≤ (w.length : Int)) = true := decide_eq_true (by omega)
      have e2 : decide ((w.length : Int) ≤ v_LONGEST_reader) = true := decide_eq_true (by show (w.length : Int) ≤ 60; omega)
      cases ha : (tl w).all isFig with
      | false =>
        simp only [runD, runI, startR, xV, xC, xOp, xUn, xT, xAnd, xOr, xNot, xIf, xAndV, xOrV, xNotV, xCh, xNil, xCons, xTup, xLstN, xL, xCa, xF, xF0, noX, up, x1, xIt, xEn, xNo, xPa, xSl, xM1, xSplit, M.bind, M.ret, M.of, then_ok, then_ex, then_bad, yNx, yRet, yAsg, ySeq, yIf, yFor, yPar, yParK, yRaise, gV, gVt, gVc, gVn, dBl, dIn, strD, wipeR, List.getElem?_cons_zero, List.getElem?_cons_succ, List.set_cons_zero, List.set_cons_succ, Option.bind_some, Option.bind_none, Option.map_some, List.length_cons, List.length_nil, List.map_cons, List.map_nil, List.replicate_succ, List.replicate_zero, List.cons_append, List.nil_append, Nat.zero_add, Nat.reduceAdd, Nat.reduceSub, decide_true, Bool.not_true, Bool.not_false, dLen_str hl, dLe_int, xLcV, kdsOf, xLc, items, e1, e2, hs, hc, hd, ha]
        simp
      | true =>
        obtain ⟨c, l, hw⟩ : ∃ c l, tl w = c :: l := by
          cases e : tl w with
          | nil => rw [len_tl, e] at h1; simp at h1
          | cons c l => exact ⟨c, l, rfl⟩
        have i0 := ix0 hl hw
        cases h3 : decide (w = ("0" : Str)) with
        | true =>
          simp only [runD, runI, startR, xV, xC, xOp, xUn, xT, xAnd, xOr, xNot, xIf, xAndV, xOrV, xNotV, xCh, xNil, xCons, xTup, xLstN, xL, xCa, xF, xF0, noX, up, x1, xIt, xEn, xNo, xPa, xSl, xM1, xSplit, M.bind, M.ret, M.of, then_ok, then_ex, then_bad, yNx, yRet, yAsg, ySeq, yIf, yFor, yPar, yParK, yRaise, gV, gVt, gVc, gVn, dBl, dIn, strD, wipeR, List.getElem?_cons_zero, List.getElem?_cons_succ, List.set_cons_zero, List.set_cons_succ, Option.bind_some, Option.bind_none, Option.map_some, List.length_cons, List.length_nil, List.map_cons, List.map_nil, List.replicate_succ, List.replicate_zero, List.cons_append, List.nil_append, Nat.zero_add, Nat.reduceAdd, Nat.reduceSub, decide_true, Bool.not_true, Bool.not_false, dLen_str hl, dLe_int, xLcV, kdsOf, xLc, items, e1, e2, hs, hc, hd, ha, dEq_str, h3, xOrV]
          simp [h1, h2]
        | false =>
          simp only [runD, runI, startR, xV, xC, xOp, xUn, xT, xAnd, xOr, xNot, xIf, xAndV, xOrV, xNotV, xCh, xNil, xCons, xTup, xLstN, xL, xCa, xF, xF0, noX, up, x1, xIt, xEn, xNo, xPa, xSl, xM1, xSplit, M.bind, M.ret, M.of, then_ok, then_ex, then_bad, yNx, yRet, yAsg, ySeq, yIf, yFor, yPar, yParK, yRaise, gV, gVt, gVc, gVn, dBl, dIn, strD, wipeR, List.getElem?_cons_zero, List.getElem?_cons_succ, List.set_cons_zero, List.set_cons_succ, Option.bind_some, Option.bind_none, Option.map_some, List.length_cons, List.length_nil, List.map_cons, List.map_nil, List.replicate_succ, List.replicate_zero, List.cons_append, List.nil_append, Nat.zero_add, Nat.reduceAdd, Nat.reduceSub, decide_true, Bool.not_true, Bool.not_false, dLen_str hl, dLe_int, xLcV, kdsOf, xLc, items, e1, e2, hs, hc, hd, ha, dEq_str, h3, xOrV, i0, neA_str, one_eq]
          simp [h1, h2, hw]
    · have e1 : decide ((1 : Int) ≤ (w.length : Int)) = true := decide_eq_true (by omega)
      have e2 : decide ((w.length : Int) ≤ v_LONGEST_reader) = false := decide_eq_false (by show ¬ (w.length : Int) ≤ 60; omega)
      simp only [runD, runI, startR, xV, xC, xOp, xUn, xT, xAnd, xOr, xNot, xIf, xAndV, xOrV, xNotV, xCh, xNil, xCons, xTup, xLstN, xL, xCa, xF, xF0, noX, up, x1, xIt, xEn, xNo, xPa, xSl, xM1, xSplit, M.bind, M.ret, M.of, then_ok, then_ex, then_bad, yNx, yRet, yAsg, ySeq, yIf, yFor, yPar, yParK, yRaise, gV, gVt, gVc, gVn, dBl, dIn, strD, wipeR, List.getElem?_cons_zero, List.getElem?_cons_succ, List.set_cons_zero, List.set_cons_succ, Option.bind_some, Option.bind_none, Option.map_some, List.length_cons, List.length_nil, List.map_cons, List.map_nil, List.replicate_succ, List.replicate_zero, List.cons_append, List.nil_append, Nat.zero_add, Nat.reduceAdd, Nat.reduceSub, decide_true, Bool.not_true, Bool.not_false, dLen_str hl, dLe_int, e1, e2]
      simp [h1, h2]
  · have e1 : decide ((1 : Int) ≤ (w.length : Int)) = false := decide_eq_false (by omega)
    simp only [runD, runI, startR, xV, xC, xOp, xUn, xT, xAnd, xOr, xNot, xIf, xAndV, xOrV, xNotV, xCh, xNil, xCons, xTup, xLstN, xL, xCa, xF, xF0, noX, up, x1, xIt, xEn, xNo, xPa, xSl, xM1, xSplit, M.bind, M.ret, M.of, then_ok, then_ex, then_bad, yNx, yRet, yAsg, ySeq, yIf, yFor, yPar, yParK, yRaise, gV, gVt, gVc, gVn, dBl, dIn, strD, wipeR, List.getElem?_cons_zero, List.getElem?_cons_succ, List.set_cons_zero, List.set_cons_succ, Option.bind_some, Option.bind_none, Option.map_some, List.length_cons, List.length_nil, List.map_cons, List.map_nil, List.replicate_succ, List.replicate_zero, List.cons_append, List.nil_append, Nat.zero_add, Nat.reduceAdd, Nat.reduceSub, decide_true, Bool.not_true, Bool.not_false, dLen_str hl, dLe_int, e1]
    simp [h1]
theorem tail_len {w : Str} (hl : lim w.length = true) : lim (tailS w).length = true := lim_le hl (cut_len _ _ _)
theorem is_whole_eq (K : PySem.W.Frag) (A : Ad) (w : Str) (hl : lim w.length = true) : m_is_whole K A [.str w] () = .ok (.bl (wholeB w)) () := by
  unfold m_is_whole b_is_whole
  have h1 := is_figures_eq K A w hl
  have h2 := is_figures_eq K A (tailS w) (tail_len hl)
  have c1 : cutS w none (some 1) = headS w := rfl
  have c2 : cutS w (some 1) none = tailS w := rfl
  have hd := head_dash w
  unfold wholeB
  cases e1 : figB w with
  | true => simp only [runD, runI, startR, xV, xC, xOp, xUn, xT, xAnd, xOr, xNot, xIf, xAndV, xOrV, xNotV, xCh, xNil, xCons, xTup, xLstN, xL, xCa, xF, xF0, noX, up, x1, xIt, xEn, xNo, xPa, xSl, xM1, xSplit, M.bind, M.ret, M.of, then_ok, then_ex, then_bad, yNx, yRet, yAsg, ySeq, yIf, yFor, yPar, yParK, yRaise, gV, gVt, gVc, gVn, dBl, dIn, strD, wipeR, List.getElem?_cons_zero, List.getElem?_cons_succ, List.set_cons_zero, List.set_cons_succ, Option.bind_some, Option.bind_none, Option.map_some, List.length_cons, List.length_nil, List.map_cons, List.map_nil, List.replicate_succ, List.replicate_zero, List.cons_append, List.nil_append, Nat.zero_add, Nat.reduceAdd, Nat.reduceSub, decide_true, Bool.not_true, Bool.not_false, h1, e1, Bool.true_or]
  | false =>
    cases e2 : decide ((tl w).head? = some 45) with
    | false => simp only [runD, runI, startR, xV, xC, xOp, xUn, xT, xAnd, xOr, xNot, xIf, xAndV, xOrV, xNotV, xCh, xNil, xCons, xTup, xLstN, xL, xCa, xF, xF0, noX, up, x1, xIt, xEn, xNo, xPa, xSl, xM1, xSplit, M.bind, M.ret, M.of, then_ok, then_ex, then_bad, yNx, yRet, yAsg, ySeq, yIf, yFor, yPar, yParK, yRaise, gV, gVt, gVc, gVn, dBl, dIn, strD, wipeR, List.getElem?_cons_zero, List.getElem?_cons_succ, List.set_cons_zero, List.set_cons_succ, Option.bind_some, Option.bind_none, Option.map_some, List.length_cons, List.length_nil, List.map_cons, List.map_nil, List.replicate_succ, List.replicate_zero, List.cons_append, List.nil_append, Nat.zero_add, Nat.reduceAdd, Nat.reduceSub, decide_true, Bool.not_true, Bool.not_false, h1, e1, dSl_str hl, c1, dEq_str, hd, e2, Bool.false_and, Bool.or_false]
    | true =>
      cases e3 : decide (w = ("-0" : Str)) with
      | true => simp only [runD, runI, startR, xV, xC, xOp, xUn, xT, xAnd, xOr, xNot, xIf, xAndV, xOrV, xNotV, xCh, xNil, xCons, xTup, xLstN, xL, xCa, xF, xF0, noX, up, x1, xIt, xEn, xNo, xPa, xSl, xM1, xSplit, M.bind, M.ret, M.of, then_ok, then_ex, then_bad, yNx, yRet, yAsg, ySeq, yIf, yFor, yPar, yParK, yRaise, gV, gVt, gVc, gVn, dBl, dIn, strD, wipeR, List.getElem?_cons_zero, List.getElem?_cons_succ, List.set_cons_zero, List.set_cons_succ, Option.bind_some, Option.bind_none, Option.map_some, List.length_cons, List.length_nil, List.map_cons, List.map_nil, List.replicate_succ, List.replicate_zero, List.cons_append, List.nil_append, Nat.zero_add, Nat.reduceAdd, Nat.reduceSub, decide_true, Bool.not_true, Bool.not_false, h1, e1, dSl_str hl, c1, dEq_str, hd, e2, neA_str, e3, Bool.not_true, Bool.false_and, Bool.and_false, Bool.or_false]
      | false => simp only [runD, runI, startR, xV, xC, xOp, xUn, xT, xAnd, xOr, xNot, xIf, xAndV, xOrV, xNotV, xCh, xNil, xCons, xTup, xLstN, xL, xCa, xF, xF0, noX, up, x1, xIt, xEn, xNo, xPa, xSl, xM1, xSplit, M.bind, M.ret, M.of, then_ok, then_ex, then_bad, yNx, yRet, yAsg, ySeq, yIf, yFor, yPar, yParK, yRaise, gV, gVt, gVc, gVn, dBl, dIn, strD, wipeR, List.getElem?_cons_zero, List.getElem?_cons_succ, List.set_cons_zero, List.set_cons_succ, Option.bind_some, Option.bind_none, Option.map_some, List.length_cons, List.length_nil, List.map_cons, List.map_nil, List.replicate_succ, List.replicate_zero, List.cons_append, List.nil_append, Nat.zero_add, Nat.reduceAdd, Nat.reduceSub, decide_true, Bool.not_true, Bool.not_false, h1, e1, dSl_str hl, c1, c2, dEq_str, hd, e2, neA_str, e3, h2, Bool.not_false, Bool.true_and, Bool.false_or]
def restS (w : Str) : Str := match decide ((tl w).head? = some 45) with | true => tailS w | false => w
theorem L_is_whole_eq (K : PySem.W.Frag) (A : Ad) (w : Str) (hl : lim w.length = true) (hw : PyData.strOk w = true) : m_L_is_whole K A [.str w] () = .ok (.bl (wholeB w)) () := by
  unfold m_L_is_whole b_L_is_whole
  have c1 : cutS w none (some 1) = headS w := rfl
  have hd := head_dash w
  have l0 : lim 0 = true := rfl
  have z0 : tl ("0" : Str) = [48] := by rw [tl_ofString]; decide
  have zm : tl ("-0" : Str) = [45, 48] := by rw [tl_ofString]; decide
  cases e0 : decide (w = ("0" : Str)) with
  | true =>
    simp only [runD, runI, startR, xV, xC, xOp, xUn, xT, xAnd, xOr, xNot, xIf, xAndV, xOrV, xNotV, xCh, xNil, xCons, xTup, xLstN, xL, xCa, xF, xF0, noX, up, x1, xIt, xEn, xNo, xPa, xSl, xM1, xSplit, M.bind, M.ret, M.of, then_ok, then_ex, then_bad, yNx, yRet, yAsg, ySeq, yIf, yFor, yPar, yParK, yRaise, gV, gVt, gVc, gVn, dBl, dIn, strD, wipeR, List.getElem?_cons_zero, List.getElem?_cons_succ, List.set_cons_zero, List.set_cons_succ, Option.bind_some, Option.bind_none, Option.map_some, List.length_cons, List.length_nil, List.map_cons, List.map_nil, List.replicate_succ, List.replicate_zero, List.cons_append, List.nil_append, Nat.zero_add, Nat.reduceAdd, Nat.reduceSub, decide_true, Bool.not_true, Bool.not_false, dEq_str, e0]
    rw [of_decide_eq_true e0]
    rfl
  | false =>
    -- the rest behind a sign
    have key : ∀ (r : Str), lim r.length = true → PyData.strOk r = true → ∀ (f : Rho → M Unit Out), f = (ySeq (yIf (xOr (xNot (xT (xCh dLe dLe (xC (.int 1)) (xCa dLen (xCons (xV 1) xNil)) (xC (.int 60))))) (xT (xOp dEq (xOp dIx (xV 1) (xC (.int 0))) (xC (.str "0"))))) (yRet (xC (.bl false))) yNx)
        (yRet (xOp dEq (xL (xLcV 1 (gV 2) (xT (xOp dNi2 (xV 2) (xC (.str FIG)))) (xV 2) [2])) (xL (xLstN xNil))))) →
        f [.val (.str w), .val (.str r), .no] () = .ok (.rt (.bl (decide (1 ≤ r.length ∧ r.length ≤ 60) && (tl r).all isFig && !decide ((tl r).head? = some 48)))) () := fun r hr ho f hf => by
      rw [hf]
      have hs : lim (signs r).length = true := by unfold signs; rw [List.length_map]; exact lim_tl hr
      have hc := comp_ni (S := Unit) (B := FIG) (ρ := [Sl.val (D.str w), Sl.val (D.str r), Sl.no]) (i := 2) (s := ()) (by simp) r
      have hdn := dEq_nil (strOk_one ho fun c => !decide (c ∈ tl FIG))
      by_cases h1 : 1 ≤ r.length
      · by_cases h2 : r.length ≤ 60
        · have e1 : decide ((1 : Int) ≤ (r.length : Int)) = true := decide_eq_true (by omega)
          have e2 : decide ((r.length : Int) ≤ 60) = true := decide_eq_true (by omega)
          obtain ⟨c, l, hw⟩ : ∃ c l, tl r = c :: l := by
            cases e : tl r with
            | nil => rw [len_tl, e] at h1; simp at h1
            | cons c l => exact ⟨c, l, rfl⟩
          have i0 := ix0 hr hw
          by_cases h3 : c = 48
          · have e3 : decide (c = 48) = true := decide_eq_true h3
            simp only [runD, runI, startR, xV, xC, xOp, xUn, xT, xAnd, xOr, xNot, xIf, xAndV, xOrV, xNotV, xCh, xNil, xCons, xTup, xLstN, xL, xCa, xF, xF0, noX, up, x1, xIt, xEn, xNo, xPa, xSl, xM1, xSplit, M.bind, M.ret, M.of, then_ok, then_ex, then_bad, yNx, yRet, yAsg, ySeq, yIf, yFor, yPar, yParK, yRaise, gV, gVt, gVc, gVn, dBl, dIn, strD, wipeR, List.getElem?_cons_zero, List.getElem?_cons_succ, List.set_cons_zero, List.set_cons_succ, Option.bind_some, Option.bind_none, Option.map_some, List.length_cons, List.length_nil, List.map_cons, List.map_nil, List.replicate_succ, List.replicate_zero, List.cons_append, List.nil_append, Nat.zero_add, Nat.reduceAdd, Nat.reduceSub, decide_true, Bool.not_true, Bool.not_false, dLen_str hr, dLe_int, e1, e2, i0, dEq_str, one_eq, e3]
            simp [hw, h3]
          · have e3 : decide (c = 48) = false := decide_eq_false h3
            simp only [runD, runI, startR, xV, xC, xOp, xUn, xT, xAnd, xOr, xNot, xIf, xAndV, xOrV, xNotV, xCh, xNil, xCons, xTup, xLstN, xL, xCa, xF, xF0, noX, up, x1, xIt, xEn, xNo, xPa, xSl, xM1, xSplit, M.bind, M.ret, M.of, then_ok, then_ex, then_bad, yNx, yRet, yAsg, ySeq, yIf, yFor, yPar, yParK, yRaise, gV, gVt, gVc, gVn, dBl, dIn, strD, wipeR, List.getElem?_cons_zero, List.getElem?_cons_succ, List.set_cons_zero, List.set_cons_succ, Option.bind_some, Option.bind_none, Option.map_some, List.length_cons, List.length_nil, List.map_cons, List.map_nil, List.replicate_succ, List.replicate_zero, List.cons_append, List.nil_append, Nat.zero_add, Nat.reduceAdd, Nat.reduceSub, decide_true, Bool.not_true, Bool.not_false, dLen_str hr, dLe_int, xLcV, kdsOf, xLc, items, e1, e2, i0, dEq_str, one_eq, e3, hs, hc, hdn, l0, filt_nil, all_FIG]
            simp [h1, h2, hw, h3]
        · have e1 : decide ((1 : Int) ≤ (r.length : Int)) = true := decide_eq_true (by omega)
          have e2 : decide ((r.length : Int) ≤ 60) = false := decide_eq_false (by omega)
          simp only [runD, runI, startR, xV, xC, xOp, xUn, xT, xAnd, xOr, xNot, xIf, xAndV, xOrV, xNotV, xCh, xNil, xCons, xTup, xLstN, xL, xCa, xF, xF0, noX, up, x1, xIt, xEn, xNo, xPa, xSl, xM1, xSplit, M.bind, M.ret, M.of, then_ok, then_ex, then_bad, yNx, yRet, yAsg, ySeq, yIf, yFor, yPar, yParK, yRaise, gV, gVt, gVc, gVn, dBl, dIn, strD, wipeR, List.getElem?_cons_zero, List.getElem?_cons_succ, List.set_cons_zero, List.set_cons_succ, Option.bind_some, Option.bind_none, Option.map_some, List.length_cons, List.length_nil, List.map_cons, List.map_nil, List.replicate_succ, List.replicate_zero, List.cons_append, List.nil_append, Nat.zero_add, Nat.reduceAdd, Nat.reduceSub, decide_true, Bool.not_true, Bool.not_false, dLen_str hr, dLe_int, e1, e2]
          simp [h1, h2]
      · have e1 : decide ((1 : Int) ≤ (r.length : Int)) = false := decide_eq_false (by omega)
        simp only [runD, runI, startR, xV, xC, xOp, xUn, xT, xAnd, xOr, xNot, xIf, xAndV, xOrV, xNotV, xCh, xNil, xCons, xTup, xLstN, xL, xCa, xF, xF0, noX, up, x1, xIt, xEn, xNo, xPa, xSl, xM1, xSplit, M.bind, M.ret, M.of, then_ok, then_ex, then_bad, yNx, yRet, yAsg, ySeq, yIf, yFor, yPar, yParK, yRaise, gV, gVt, gVc, gVn, dBl, dIn, strD, wipeR, List.getElem?_cons_zero, List.getElem?_cons_succ, List.set_cons_zero, List.set_cons_succ, Option.bind_some, Option.bind_none, Option.map_some, List.length_cons, List.length_nil, List.map_cons, List.map_nil, List.replicate_succ, List.replicate_zero, List.cons_append, List.nil_append, Nat.zero_add, Nat.reduceAdd, Nat.reduceSub, decide_true, Bool.not_true, Bool.not_false, dLen_str hr, dLe_int, e1]
        simp [h1]
    have st0 : (yIf (xT (xOp dEq (xV 0) (xC (.str "0")))) (yRet (xC (.bl true))) yNx : Rho → M Unit Out) [.val (.str w), .no, .no] () = .ok (.nx [.val (.str w), .no, .no]) () := by
      simp only [runD, runI, startR, xV, xC, xOp, xUn, xT, xAnd, xOr, xNot, xIf, xAndV, xOrV, xNotV, xCh, xNil, xCons, xTup, xLstN, xL, xCa, xF, xF0, noX, up, x1, xIt, xEn, xNo, xPa, xSl, xM1, xSplit, M.bind, M.ret, M.of, then_ok, then_ex, then_bad, yNx, yRet, yAsg, ySeq, yIf, yFor, yPar, yParK, yRaise, gV, gVt, gVc, gVn, dBl, dIn, strD, wipeR, List.getElem?_cons_zero, List.getElem?_cons_succ, List.set_cons_zero, List.set_cons_succ, Option.bind_some, Option.bind_none, Option.map_some, List.length_cons, List.length_nil, List.map_cons, List.map_nil, List.replicate_succ, List.replicate_zero, List.cons_append, List.nil_append, Nat.zero_add, Nat.reduceAdd, Nat.reduceSub, decide_true, Bool.not_true, Bool.not_false, dEq_str, e0]
    refine run_rt rfl ?_
    show ySeq _ _ [Sl.val (D.str w), Sl.no, Sl.no] () = _
    rw [seq_nx st0]
    cases e2 : decide ((tl w).head? = some 45) with
    | true =>
      have k := key (tailS w) (tail_len hl) (cut_ok hw _ _) _ rfl
      have c2 : cutS w (some 1) none = tailS w := rfl
      rw [seq_nx (ρ1 := [.val (.str w), .val (.str (tailS w)), .no]) (s1 := ()) (by simp only [runD, runI, startR, xV, xC, xOp, xUn, xT, xAnd, xOr, xNot, xIf, xAndV, xOrV, xNotV, xCh, xNil, xCons, xTup, xLstN, xL, xCa, xF, xF0, noX, up, x1, xIt, xEn, xNo, xPa, xSl, xM1, xSplit, M.bind, M.ret, M.of, then_ok, then_ex, then_bad, yNx, yRet, yAsg, ySeq, yIf, yFor, yPar, yParK, yRaise, gV, gVt, gVc, gVn, dBl, dIn, strD, wipeR, List.getElem?_cons_zero, List.getElem?_cons_succ, List.set_cons_zero, List.set_cons_succ, Option.bind_some, Option.bind_none, Option.map_some, List.length_cons, List.length_nil, List.map_cons, List.map_nil, List.replicate_succ, List.replicate_zero, List.cons_append, List.nil_append, Nat.zero_add, Nat.reduceAdd, Nat.reduceSub, decide_true, Bool.not_true, Bool.not_false, dSl_str hl, c1, dEq_str, hd, e2, c2]), k]
      congr 3
      obtain ⟨l, hwl⟩ : ∃ l, tl w = 45 :: l := by
        cases e : tl w with
        | nil => rw [e] at e2; simp at e2
        | cons a l => rw [e] at e2; simp at e2; exact ⟨l, by rw [e2]⟩
      have ht : tl (tailS w) = l := by rw [tl_tailS, hwl]; rfl
      have n1 : figB w = false := by
        unfold figB
        rw [hwl]
        simp [isFig]
      have n2 : decide (w = ("-0" : Str)) = decide (tailS w = ("0" : Str)) := decide_eq_decide.mpr ⟨fun e => ext_tl (by rw [ht, z0]; have := congrArg tl e; rw [hwl, zm] at this; simpa using this), fun e => ext_tl (by rw [hwl, zm]; have := congrArg tl e; rw [ht, z0] at this; rw [this])⟩
      unfold wholeB
      rw [n1, e2, n2]
      unfold figB
      cases e4 : decide (tailS w = ("0" : Str)) with
      | true =>
        rw [of_decide_eq_true e4, z0]
        simp
      | false => simp
    | false =>
      have k := key w hl hw _ rfl
      rw [seq_nx (ρ1 := [.val (.str w), .val (.str w), .no]) (s1 := ()) (by simp only [runD, runI, startR, xV, xC, xOp, xUn, xT, xAnd, xOr, xNot, xIf, xAndV, xOrV, xNotV, xCh, xNil, xCons, xTup, xLstN, xL, xCa, xF, xF0, noX, up, x1, xIt, xEn, xNo, xPa, xSl, xM1, xSplit, M.bind, M.ret, M.of, then_ok, then_ex, then_bad, yNx, yRet, yAsg, ySeq, yIf, yFor, yPar, yParK, yRaise, gV, gVt, gVc, gVn, dBl, dIn, strD, wipeR, List.getElem?_cons_zero, List.getElem?_cons_succ, List.set_cons_zero, List.set_cons_succ, Option.bind_some, Option.bind_none, Option.map_some, List.length_cons, List.length_nil, List.map_cons, List.map_nil, List.replicate_succ, List.replicate_zero, List.cons_append, List.nil_append, Nat.zero_add, Nat.reduceAdd, Nat.reduceSub, decide_true, Bool.not_true, Bool.not_false, dSl_str hl, c1, dEq_str, hd, e2]), k]
      congr 3
      unfold wholeB figB
      rw [e2, e0]
      simp
end Rk94

namespace Rk94
open PySem L2 Fs TL
/-- words that can be asked about -/
def Good (ws : List Str) : Prop := ∀ w ∈ ws, lim w.length = true ∧ PyData.strOk w = true
theorem Good.tail {w : Str} {ws : List Str} (h : Good (w :: ws)) : Good ws := fun x k => h x (List.mem_cons_of_mem _ k)
/-- the first word of numbers that cannot stand -/
def sgo : Nat → Str → List Str → Option Nat
  | _, _, [] => none
  | i, last, w :: r => match decide (i % 2 = 1) with
    | true => (match wholeB w with | true => sgo (i + 1) last r | false => some i)
    | false => (match shelfB w && ltS last w with | true => sgo (i + 1) w r | false => some i)
theorem odd_dec (i : Nat) : decide (((i : Nat) : Int) % 2 = 1) = decide (i % 2 = 1) := decide_eq_decide.mpr (by omega)
def dueD (l : Nat) : Option Nat → Option D := fun o => o.map fun k => .tup [.int l, .int k]
theorem L_safe_loop (K : PySem.W.Frag) (A : Ad) {a0 a1 a3 : Sl} : ∀ (ws : List Str) (i : Nat) (last : Str) (x y : Sl), Good ws →
    (sgo i last ws = none ∧ ∃ l x' y', loopD (gVt 2 (gVc (gV 4) (gVc (gV 5) gVn))) (fb_L_safe_due_1 K A) (numd i (ws.map D.str)) [a0, a1, .val (.str last), a3, x, y] () = .ok (.nx [a0, a1, .val (.str l), a3, x', y']) ()) ∨
    ∃ k : Nat, sgo i last ws = some k ∧ loopD (gVt 2 (gVc (gV 4) (gVc (gV 5) gVn))) (fb_L_safe_due_1 K A) (numd i (ws.map D.str)) [a0, a1, .val (.str last), a3, x, y] () = .ok (.rt (.tup [.int 0, .int k])) ()
  | [], i, last, x, y, _ => .inl ⟨rfl, last, x, y, rfl⟩
  | w :: ws, i, last, x, y, g => by
    obtain ⟨hl, hw⟩ := g w (List.mem_cons_self ..)
    have W := L_is_whole_eq K A w hl hw
    have Sh := L_is_shelf_eq K A w hl hw
    have l2 : lim 2 = true := rfl
    have di : ∀ n : Int, dInt [.int n] = some (.int n) := fun _ => rfl
    have dm := dMod_int (a := (i : Int)) (b := 2) (by decide)
    show (_ ∧ ∃ l x' y', loopD _ _ (.tup [.int i, .str w] :: numd (i + 1) (ws.map D.str)) _ () = _) ∨ ∃ k : Nat, _ ∧ loopD _ _ (.tup [.int i, .str w] :: numd (i + 1) (ws.map D.str)) _ () = _
    unfold loopD sgo
    cases ho : decide (i % 2 = 1) with
    | true =>
      cases hq : wholeB w with
      | true =>
        have st : fb_L_safe_due_1 K A [a0, a1, .val (.str last), a3, .val (.int i), .val (.str w)] () = .ok (.nx [a0, a1, .val (.str last), a3, .val (.int i), .val (.str w)]) () := by
          unfold fb_L_safe_due_1
          simp only [runD, runI, startR, xV, xC, xOp, xUn, xT, xAnd, xOr, xNot, xIf, xAndV, xOrV, xNotV, xCh, xNil, xCons, xTup, xLstN, xL, xCa, xF, xF0, noX, up, x1, xIt, xEn, xNo, xPa, xSl, xM1, xSplit, M.bind, M.ret, M.of, then_ok, then_ex, then_bad, yNx, yRet, yAsg, ySeq, yIf, yFor, yPar, yParK, yRaise, gV, gVt, gVc, gVn, dBl, dIn, strD, wipeR, List.getElem?_cons_zero, List.getElem?_cons_succ, List.set_cons_zero, List.set_cons_succ, Option.bind_some, Option.bind_none, Option.map_some, List.length_cons, List.length_nil, List.map_cons, List.map_nil, List.replicate_succ, List.replicate_zero, List.cons_append, List.nil_append, Nat.zero_add, Nat.reduceAdd, Nat.reduceSub, decide_true, Bool.not_true, Bool.not_false, di, dm, dEq_int, odd_dec, ho, W, hq]
        have ih := L_safe_loop K A (a0 := a0) (a1 := a1) (a3 := a3) ws (i + 1) last (.val (.int i)) (.val (.str w)) g.tail
        simp only [runD, runI, startR, xV, xC, xOp, xUn, xT, xAnd, xOr, xNot, xIf, xAndV, xOrV, xNotV, xCh, xNil, xCons, xTup, xLstN, xL, xCa, xF, xF0, noX, up, x1, xIt, xEn, xNo, xPa, xSl, xM1, xSplit, M.bind, M.ret, M.of, then_ok, then_ex, then_bad, yNx, yRet, yAsg, ySeq, yIf, yFor, yPar, yParK, yRaise, gV, gVt, gVc, gVn, dBl, dIn, strD, wipeR, List.getElem?_cons_zero, List.getElem?_cons_succ, List.set_cons_zero, List.set_cons_succ, Option.bind_some, Option.bind_none, Option.map_some, List.length_cons, List.length_nil, List.map_cons, List.map_nil, List.replicate_succ, List.replicate_zero, List.cons_append, List.nil_append, Nat.zero_add, Nat.reduceAdd, Nat.reduceSub, decide_true, Bool.not_true, Bool.not_false, st]
        exact ih
      | false =>
        have st : fb_L_safe_due_1 K A [a0, a1, .val (.str last), a3, .val (.int i), .val (.str w)] () = .ok (.rt (.tup [.int 0, .int i])) () := by
          unfold fb_L_safe_due_1
          simp only [runD, runI, startR, xV, xC, xOp, xUn, xT, xAnd, xOr, xNot, xIf, xAndV, xOrV, xNotV, xCh, xNil, xCons, xTup, xLstN, xL, xCa, xF, xF0, noX, up, x1, xIt, xEn, xNo, xPa, xSl, xM1, xSplit, M.bind, M.ret, M.of, then_ok, then_ex, then_bad, yNx, yRet, yAsg, ySeq, yIf, yFor, yPar, yParK, yRaise, gV, gVt, gVc, gVn, dBl, dIn, strD, wipeR, List.getElem?_cons_zero, List.getElem?_cons_succ, List.set_cons_zero, List.set_cons_succ, Option.bind_some, Option.bind_none, Option.map_some, List.length_cons, List.length_nil, List.map_cons, List.map_nil, List.replicate_succ, List.replicate_zero, List.cons_append, List.nil_append, Nat.zero_add, Nat.reduceAdd, Nat.reduceSub, decide_true, Bool.not_true, Bool.not_false, di, dm, dEq_int, odd_dec, ho, W, hq, l2]
        simp only [runD, runI, startR, xV, xC, xOp, xUn, xT, xAnd, xOr, xNot, xIf, xAndV, xOrV, xNotV, xCh, xNil, xCons, xTup, xLstN, xL, xCa, xF, xF0, noX, up, x1, xIt, xEn, xNo, xPa, xSl, xM1, xSplit, M.bind, M.ret, M.of, then_ok, then_ex, then_bad, yNx, yRet, yAsg, ySeq, yIf, yFor, yPar, yParK, yRaise, gV, gVt, gVc, gVn, dBl, dIn, strD, wipeR, List.getElem?_cons_zero, List.getElem?_cons_succ, List.set_cons_zero, List.set_cons_succ, Option.bind_some, Option.bind_none, Option.map_some, List.length_cons, List.length_nil, List.map_cons, List.map_nil, List.replicate_succ, List.replicate_zero, List.cons_append, List.nil_append, Nat.zero_add, Nat.reduceAdd, Nat.reduceSub, decide_true, Bool.not_true, Bool.not_false, st]
        exact .inr ⟨i, rfl, rfl⟩
    | false =>
      cases hq : shelfB w with
      | true =>
        cases hr : ltS last w with
        | true =>
          have st : fb_L_safe_due_1 K A [a0, a1, .val (.str last), a3, .val (.int i), .val (.str w)] () = .ok (.nx [a0, a1, .val (.str w), a3, .val (.int i), .val (.str w)]) () := by
            unfold fb_L_safe_due_1
            simp only [runD, runI, startR, xV, xC, xOp, xUn, xT, xAnd, xOr, xNot, xIf, xAndV, xOrV, xNotV, xCh, xNil, xCons, xTup, xLstN, xL, xCa, xF, xF0, noX, up, x1, xIt, xEn, xNo, xPa, xSl, xM1, xSplit, M.bind, M.ret, M.of, then_ok, then_ex, then_bad, yNx, yRet, yAsg, ySeq, yIf, yFor, yPar, yParK, yRaise, gV, gVt, gVc, gVn, dBl, dIn, strD, wipeR, List.getElem?_cons_zero, List.getElem?_cons_succ, List.set_cons_zero, List.set_cons_succ, Option.bind_some, Option.bind_none, Option.map_some, List.length_cons, List.length_nil, List.map_cons, List.map_nil, List.replicate_succ, List.replicate_zero, List.cons_append, List.nil_append, Nat.zero_add, Nat.reduceAdd, Nat.reduceSub, decide_true, Bool.not_true, Bool.not_false, di, dm, dEq_int, odd_dec, ho, Sh, hq, dLe_str, hr]
          have ih := L_safe_loop K A (a0 := a0) (a1 := a1) (a3 := a3) ws (i + 1) w (.val (.int i)) (.val (.str w)) g.tail
          simp only [runD, runI, startR, xV, xC, xOp, xUn, xT, xAnd, xOr, xNot, xIf, xAndV, xOrV, xNotV, xCh, xNil, xCons, xTup, xLstN, xL, xCa, xF, xF0, noX, up, x1, xIt, xEn, xNo, xPa, xSl, xM1, xSplit, M.bind, M.ret, M.of, then_ok, then_ex, then_bad, yNx, yRet, yAsg, ySeq, yIf, yFor, yPar, yParK, yRaise, gV, gVt, gVc, gVn, dBl, dIn, strD, wipeR, List.getElem?_cons_zero, List.getElem?_cons_succ, List.set_cons_zero, List.set_cons_succ, Option.bind_some, Option.bind_none, Option.map_some, List.length_cons, List.length_nil, List.map_cons, List.map_nil, List.replicate_succ, List.replicate_zero, List.cons_append, List.nil_append, Nat.zero_add, Nat.reduceAdd, Nat.reduceSub, decide_true, Bool.not_true, Bool.not_false, st, Bool.and_self]
          exact ih
        | false =>
          have st : fb_L_safe_due_1 K A [a0, a1, .val (.str last), a3, .val (.int i), .val (.str w)] () = .ok (.rt (.tup [.int 0, .int i])) () := by
            unfold fb_L_safe_due_1
            simp only [runD, runI, startR, xV, xC, xOp, xUn, xT, xAnd, xOr, xNot, xIf, xAndV, xOrV, xNotV, xCh, xNil, xCons, xTup, xLstN, xL, xCa, xF, xF0, noX, up, x1, xIt, xEn, xNo, xPa, xSl, xM1, xSplit, M.bind, M.ret, M.of, then_ok, then_ex, then_bad, yNx, yRet, yAsg, ySeq, yIf, yFor, yPar, yParK, yRaise, gV, gVt, gVc, gVn, dBl, dIn, strD, wipeR, List.getElem?_cons_zero, List.getElem?_cons_succ, List.set_cons_zero, List.set_cons_succ, Option.bind_some, Option.bind_none, Option.map_some, List.length_cons, List.length_nil, List.map_cons, List.map_nil, List.replicate_succ, List.replicate_zero, List.cons_append, List.nil_append, Nat.zero_add, Nat.reduceAdd, Nat.reduceSub, decide_true, Bool.not_true, Bool.not_false, di, dm, dEq_int, odd_dec, ho, Sh, hq, dLe_str, hr, l2]
          simp only [runD, runI, startR, xV, xC, xOp, xUn, xT, xAnd, xOr, xNot, xIf, xAndV, xOrV, xNotV, xCh, xNil, xCons, xTup, xLstN, xL, xCa, xF, xF0, noX, up, x1, xIt, xEn, xNo, xPa, xSl, xM1, xSplit, M.bind, M.ret, M.of, then_ok, then_ex, then_bad, yNx, yRet, yAsg, ySeq, yIf, yFor, yPar, yParK, yRaise, gV, gVt, gVc, gVn, dBl, dIn, strD, wipeR, List.getElem?_cons_zero, List.getElem?_cons_succ, List.set_cons_zero, List.set_cons_succ, Option.bind_some, Option.bind_none, Option.map_some, List.length_cons, List.length_nil, List.map_cons, List.map_nil, List.replicate_succ, List.replicate_zero, List.cons_append, List.nil_append, Nat.zero_add, Nat.reduceAdd, Nat.reduceSub, decide_true, Bool.not_true, Bool.not_false, st, Bool.and_false]
          exact .inr ⟨i, rfl, rfl⟩
      | false =>
        have st : fb_L_safe_due_1 K A [a0, a1, .val (.str last), a3, .val (.int i), .val (.str w)] () = .ok (.rt (.tup [.int 0, .int i])) () := by
          unfold fb_L_safe_due_1
          simp only [runD, runI, startR, xV, xC, xOp, xUn, xT, xAnd, xOr, xNot, xIf, xAndV, xOrV, xNotV, xCh, xNil, xCons, xTup, xLstN, xL, xCa, xF, xF0, noX, up, x1, xIt, xEn, xNo, xPa, xSl, xM1, xSplit, M.bind, M.ret, M.of, then_ok, then_ex, then_bad, yNx, yRet, yAsg, ySeq, yIf, yFor, yPar, yParK, yRaise, gV, gVt, gVc, gVn, dBl, dIn, strD, wipeR, List.getElem?_cons_zero, List.getElem?_cons_succ, List.set_cons_zero, List.set_cons_succ, Option.bind_some, Option.bind_none, Option.map_some, List.length_cons, List.length_nil, List.map_cons, List.map_nil, List.replicate_succ, List.replicate_zero, List.cons_append, List.nil_append, Nat.zero_add, Nat.reduceAdd, Nat.reduceSub, decide_true, Bool.not_true, Bool.not_false, di, dm, dEq_int, odd_dec, ho, Sh, hq, l2]
        simp only [runD, runI, startR, xV, xC, xOp, xUn, xT, xAnd, xOr, xNot, xIf, xAndV, xOrV, xNotV, xCh, xNil, xCons, xTup, xLstN, xL, xCa, xF, xF0, noX, up, x1, xIt, xEn, xNo, xPa, xSl, xM1, xSplit, M.bind, M.ret, M.of, then_ok, then_ex, then_bad, yNx, yRet, yAsg, ySeq, yIf, yFor, yPar, yParK, yRaise, gV, gVt, gVc, gVn, dBl, dIn, strD, wipeR, List.getElem?_cons_zero, List.getElem?_cons_succ, List.set_cons_zero, List.set_cons_succ, Option.bind_some, Option.bind_none, Option.map_some, List.length_cons, List.length_nil, List.map_cons, List.map_nil, List.replicate_succ, List.replicate_zero, List.cons_append, List.nil_append, Nat.zero_add, Nat.reduceAdd, Nat.reduceSub, decide_true, Bool.not_true, Bool.not_false, st, Bool.false_and]
        exact .inr ⟨i, rfl, rfl⟩
theorem good_of {y : Str} {s : Nat} (Y : Sep y s) {a : Str} (h1 : lim a.length = true) (h2 : PyData.strOk a = true) : Good (Txt.split a y) := fun w hw => by
  obtain ⟨k1, k2⟩ := Y.part a hw
  refine ⟨lim_le h1 k1, ?_⟩
  unfold PyData.strOk
  rw [Array.all_eq_true']
  intro c hc
  exact Array.all_eq_true'.mp h2 c (Array.mem_toList_iff.mp (k2 c (Array.mem_toList_iff.mpr hc)))
abbrev LN (t : Str) : List Str := Txt.split t "\n"
abbrev WD (t : Str) : List Str := Txt.split t " "
def endD (rs : List Str) : Option (Nat × Nat) := match rs with | [] => none | _ :: _ => some (1, 0)
def safeR (w0 : Str) (ws rs : List Str) : Option (Nat × Nat) := match decide (w0 = ("-" : Str)) with
  | true => (match ws with | [] => endD rs | _ :: _ => some (0, 1))
  | false => (match sgo 0 "" (w0 :: ws) with
    | some k => some (0, k)
    | none => (match decide ((w0 :: ws).length % 2 = 1) with | true => some (0, (w0 :: ws).length) | false => endD rs))
def dD : Option (Nat × Nat) → D
  | none => .non
  | some (a, b) => .tup [.int a, .int b]
theorem atI0 {x : D} {xs : List D} : atI (x :: xs) 0 = some x := by
  unfold atI ixN
  simp
theorem L_safe_due_eq (K : PySem.W.Frag) (A : Ad) {t r0 w0 : Str} {rs ws : List Str} (hl : lim t.length = true) (hw : PyData.strOk t = true) (hr : LN t = r0 :: rs) (hs : WD r0 = w0 :: ws) : m_L_safe_due K A [.str t] () = .ok (dD (safeR w0 ws rs)) () := by
  have g1 := good_of lineS hl hw
  rw [show Txt.split t "\n" = LN t from rfl, hr] at g1
  obtain ⟨hl0, hw0⟩ := g1 r0 (List.mem_cons_self ..)
  have g2 := good_of spaceS hl0 hw0
  rw [show Txt.split r0 " " = WD r0 from rfl, hs] at g2
  have sp1 := lineS.split t hl
  rw [show Txt.split t "\n" = LN t from rfl, hr] at sp1
  have sp2 := spaceS.split r0 hl0
  rw [show Txt.split r0 " " = WD r0 from rfl, hs] at sp2
  have l2 : lim 2 = true := rfl
  have di : ∀ n : Int, dInt [.int n] = some (.int n) := fun _ => rfl
  refine run_rt rfl ?_
  show ySeq _ _ [Sl.val (D.str t), .no, .no, .no, .no, .no] () = _
  rw [seq_nx (ρ1 := [.val (.str t), .val (.lst ((r0 :: rs).map D.str)), .val (.str ""), .no, .no, .no]) (s1 := ()) (by simp only [runD, runI, startR, xV, xC, xOp, xUn, xT, xAnd, xOr, xNot, xIf, xAndV, xOrV, xNotV, xCh, xNil, xCons, xTup, xLstN, xL, xCa, xF, xF0, noX, up, x1, xIt, xEn, xNo, xPa, xSl, xM1, xSplit, M.bind, M.ret, M.of, then_ok, then_ex, then_bad, yNx, yRet, yAsg, ySeq, yIf, yFor, yPar, yParK, yRaise, gV, gVt, gVc, gVn, dBl, dIn, strD, wipeR, List.getElem?_cons_zero, List.getElem?_cons_succ, List.set_cons_zero, List.set_cons_succ, Option.bind_some, Option.bind_none, Option.map_some, List.length_cons, List.length_nil, List.map_cons, List.map_nil, List.replicate_succ, List.replicate_zero, List.cons_append, List.nil_append, Nat.zero_add, Nat.reduceAdd, Nat.reduceSub, decide_true, Bool.not_true, Bool.not_false, sp1])]
  rw [seq_nx (ρ1 := [.val (.str t), .val (.lst ((r0 :: rs).map D.str)), .val (.str ""), .val (.lst ((w0 :: ws).map D.str)), .no, .no]) (s1 := ()) (by simp only [runD, runI, startR, xV, xC, xOp, xUn, xT, xAnd, xOr, xNot, xIf, xAndV, xOrV, xNotV, xCh, xNil, xCons, xTup, xLstN, xL, xCa, xF, xF0, noX, up, x1, xIt, xEn, xNo, xPa, xSl, xM1, xSplit, M.bind, M.ret, M.of, then_ok, then_ex, then_bad, yNx, yRet, yAsg, ySeq, yIf, yFor, yPar, yParK, yRaise, gV, gVt, gVc, gVn, dBl, dIn, strD, wipeR, List.getElem?_cons_zero, List.getElem?_cons_succ, List.set_cons_zero, List.set_cons_succ, Option.bind_some, Option.bind_none, Option.map_some, List.length_cons, List.length_nil, List.map_cons, List.map_nil, List.replicate_succ, List.replicate_zero, List.cons_append, List.nil_append, Nat.zero_add, Nat.reduceAdd, Nat.reduceSub, decide_true, Bool.not_true, Bool.not_false, dIx_lst, atI0, sp2])]
  unfold safeR
  cases h0 : decide (w0 = ("-" : Str)) with
  | true =>
    refine seq_rt ?_
    cases ws with
    | nil =>
      have c1 : decide ((1 : Int) < ((0 + 1 : Nat) : Int)) = false := rfl
      cases rs with
      | nil => simp only [runD, runI, startR, xV, xC, xOp, xUn, xT, xAnd, xOr, xNot, xIf, xAndV, xOrV, xNotV, xCh, xNil, xCons, xTup, xLstN, xL, xCa, xF, xF0, noX, up, x1, xIt, xEn, xNo, xPa, xSl, xM1, xSplit, M.bind, M.ret, M.of, then_ok, then_ex, then_bad, yNx, yRet, yAsg, ySeq, yIf, yFor, yPar, yParK, yRaise, gV, gVt, gVc, gVn, dBl, dIn, strD, wipeR, List.getElem?_cons_zero, List.getElem?_cons_succ, List.set_cons_zero, List.set_cons_succ, Option.bind_some, Option.bind_none, Option.map_some, List.length_cons, List.length_nil, List.map_cons, List.map_nil, List.replicate_succ, List.replicate_zero, List.cons_append, List.nil_append, Nat.zero_add, Nat.reduceAdd, Nat.reduceSub, decide_true, Bool.not_true, Bool.not_false, dIx_lst, atI0, dEq_str, h0, dGt_int, dLen_lst, c1]; rfl
      | cons r1 rs =>
        have c2 : decide ((1 : Int) < (((rs.length + 1) + 1 : Nat) : Int)) = true := decide_eq_true (by omega)
        simp only [runD, runI, startR, xV, xC, xOp, xUn, xT, xAnd, xOr, xNot, xIf, xAndV, xOrV, xNotV, xCh, xNil, xCons, xTup, xLstN, xL, xCa, xF, xF0, noX, up, x1, xIt, xEn, xNo, xPa, xSl, xM1, xSplit, M.bind, M.ret, M.of, then_ok, then_ex, then_bad, yNx, yRet, yAsg, ySeq, yIf, yFor, yPar, yParK, yRaise, gV, gVt, gVc, gVn, dBl, dIn, strD, wipeR, List.getElem?_cons_zero, List.getElem?_cons_succ, List.set_cons_zero, List.set_cons_succ, Option.bind_some, Option.bind_none, Option.map_some, List.length_cons, List.length_nil, List.map_cons, List.map_nil, List.replicate_succ, List.replicate_zero, List.cons_append, List.nil_append, Nat.zero_add, Nat.reduceAdd, Nat.reduceSub, decide_true, Bool.not_true, Bool.not_false, dIx_lst, atI0, dEq_str, h0, dGt_int, dLen_lst, List.length_map, c1, c2, l2]; rfl
    | cons w1 ws =>
      have c2 : decide ((1 : Int) < (((ws.length + 1) + 1 : Nat) : Int)) = true := decide_eq_true (by omega)
      simp only [runD, runI, startR, xV, xC, xOp, xUn, xT, xAnd, xOr, xNot, xIf, xAndV, xOrV, xNotV, xCh, xNil, xCons, xTup, xLstN, xL, xCa, xF, xF0, noX, up, x1, xIt, xEn, xNo, xPa, xSl, xM1, xSplit, M.bind, M.ret, M.of, then_ok, then_ex, then_bad, yNx, yRet, yAsg, ySeq, yIf, yFor, yPar, yParK, yRaise, gV, gVt, gVc, gVn, dBl, dIn, strD, wipeR, List.getElem?_cons_zero, List.getElem?_cons_succ, List.set_cons_zero, List.set_cons_succ, Option.bind_some, Option.bind_none, Option.map_some, List.length_cons, List.length_nil, List.map_cons, List.map_nil, List.replicate_succ, List.replicate_zero, List.cons_append, List.nil_append, Nat.zero_add, Nat.reduceAdd, Nat.reduceSub, decide_true, Bool.not_true, Bool.not_false, dIx_lst, atI0, dEq_str, h0, dGt_int, dLen_lst, List.length_map, c2, l2]; rfl
  | false =>
    rw [seq_nx (ρ1 := [.val (.str t), .val (.lst ((r0 :: rs).map D.str)), .val (.str ""), .val (.lst ((w0 :: ws).map D.str)), .no, .no]) (s1 := ()) (by simp only [runD, runI, startR, xV, xC, xOp, xUn, xT, xAnd, xOr, xNot, xIf, xAndV, xOrV, xNotV, xCh, xNil, xCons, xTup, xLstN, xL, xCa, xF, xF0, noX, up, x1, xIt, xEn, xNo, xPa, xSl, xM1, xSplit, M.bind, M.ret, M.of, then_ok, then_ex, then_bad, yNx, yRet, yAsg, ySeq, yIf, yFor, yPar, yParK, yRaise, gV, gVt, gVc, gVn, dBl, dIn, strD, wipeR, List.getElem?_cons_zero, List.getElem?_cons_succ, List.set_cons_zero, List.set_cons_succ, Option.bind_some, Option.bind_none, Option.map_some, List.length_cons, List.length_nil, List.map_cons, List.map_nil, List.replicate_succ, List.replicate_zero, List.cons_append, List.nil_append, Nat.zero_add, Nat.reduceAdd, Nat.reduceSub, decide_true, Bool.not_true, Bool.not_false, dIx_lst, atI0, dEq_str, h0])]
    rcases L_safe_loop K A (a0 := .val (.str t)) (a1 := .val (.lst ((r0 :: rs).map D.str))) (a3 := .val (.lst ((w0 :: ws).map D.str))) (w0 :: ws) 0 "" .no .no g2 with ⟨e1, l, x, y, e2⟩ | ⟨k, e1, e2⟩
    · rw [e1]
      rw [seq_nx (ρ1 := [.val (.str t), .val (.lst ((r0 :: rs).map D.str)), .val (.str l), .val (.lst ((w0 :: ws).map D.str)), x, y]) (s1 := ()) (by rw [for_of (ds := numd 0 ((w0 :: ws).map D.str)) (s1 := ()) (by simp only [runD, runI, startR, xV, xC, xOp, xUn, xT, xAnd, xOr, xNot, xIf, xAndV, xOrV, xNotV, xCh, xNil, xCons, xTup, xLstN, xL, xCa, xF, xF0, noX, up, x1, xIt, xEn, xNo, xPa, xSl, xM1, xSplit, M.bind, M.ret, M.of, then_ok, then_ex, then_bad, yNx, yRet, yAsg, ySeq, yIf, yFor, yPar, yParK, yRaise, gV, gVt, gVc, gVn, dBl, dIn, strD, wipeR, List.getElem?_cons_zero, List.getElem?_cons_succ, List.set_cons_zero, List.set_cons_succ, Option.bind_some, Option.bind_none, Option.map_some, List.length_cons, List.length_nil, List.map_cons, List.map_nil, List.replicate_succ, List.replicate_zero, List.cons_append, List.nil_append, Nat.zero_add, Nat.reduceAdd, Nat.reduceSub, decide_true, Bool.not_true, Bool.not_false, enD])]; exact e2)]
      have dm := dMod_int (a := (((w0 :: ws).length : Nat) : Int)) (b := 2) (by decide)
      have od := odd_dec (w0 :: ws).length
      cases ho : decide ((w0 :: ws).length % 2 = 1) with
      | true =>
        rw [ho] at od
        rw [List.length_cons] at dm od
        refine seq_rt ?_
        simp only [runD, runI, startR, xV, xC, xOp, xUn, xT, xAnd, xOr, xNot, xIf, xAndV, xOrV, xNotV, xCh, xNil, xCons, xTup, xLstN, xL, xCa, xF, xF0, noX, up, x1, xIt, xEn, xNo, xPa, xSl, xM1, xSplit, M.bind, M.ret, M.of, then_ok, then_ex, then_bad, yNx, yRet, yAsg, ySeq, yIf, yFor, yPar, yParK, yRaise, gV, gVt, gVc, gVn, dBl, dIn, strD, wipeR, List.getElem?_cons_zero, List.getElem?_cons_succ, List.set_cons_zero, List.set_cons_succ, Option.bind_some, Option.bind_none, Option.map_some, List.length_cons, List.length_nil, List.map_cons, List.map_nil, List.replicate_succ, List.replicate_zero, List.cons_append, List.nil_append, Nat.zero_add, Nat.reduceAdd, Nat.reduceSub, decide_true, Bool.not_true, Bool.not_false, dLen_lst, List.length_map, di, dm, dEq_int, od, l2]
        rfl
      | false =>
        rw [ho] at od
        rw [List.length_cons] at dm od
        rw [seq_nx (ρ1 := [.val (.str t), .val (.lst ((r0 :: rs).map D.str)), .val (.str l), .val (.lst ((w0 :: ws).map D.str)), x, y]) (s1 := ()) (by simp only [runD, runI, startR, xV, xC, xOp, xUn, xT, xAnd, xOr, xNot, xIf, xAndV, xOrV, xNotV, xCh, xNil, xCons, xTup, xLstN, xL, xCa, xF, xF0, noX, up, x1, xIt, xEn, xNo, xPa, xSl, xM1, xSplit, M.bind, M.ret, M.of, then_ok, then_ex, then_bad, yNx, yRet, yAsg, ySeq, yIf, yFor, yPar, yParK, yRaise, gV, gVt, gVc, gVn, dBl, dIn, strD, wipeR, List.getElem?_cons_zero, List.getElem?_cons_succ, List.set_cons_zero, List.set_cons_succ, Option.bind_some, Option.bind_none, Option.map_some, List.length_cons, List.length_nil, List.map_cons, List.map_nil, List.replicate_succ, List.replicate_zero, List.cons_append, List.nil_append, Nat.zero_add, Nat.reduceAdd, Nat.reduceSub, decide_true, Bool.not_true, Bool.not_false, dLen_lst, List.length_map, di, dm, dEq_int, od])]
        cases rs with
        | nil =>
          have c1 : decide ((1 : Int) < ((0 + 1 : Nat) : Int)) = false := rfl
          simp only [runD, runI, startR, xV, xC, xOp, xUn, xT, xAnd, xOr, xNot, xIf, xAndV, xOrV, xNotV, xCh, xNil, xCons, xTup, xLstN, xL, xCa, xF, xF0, noX, up, x1, xIt, xEn, xNo, xPa, xSl, xM1, xSplit, M.bind, M.ret, M.of, then_ok, then_ex, then_bad, yNx, yRet, yAsg, ySeq, yIf, yFor, yPar, yParK, yRaise, gV, gVt, gVc, gVn, dBl, dIn, strD, wipeR, List.getElem?_cons_zero, List.getElem?_cons_succ, List.set_cons_zero, List.set_cons_succ, Option.bind_some, Option.bind_none, Option.map_some, List.length_cons, List.length_nil, List.map_cons, List.map_nil, List.replicate_succ, List.replicate_zero, List.cons_append, List.nil_append, Nat.zero_add, Nat.reduceAdd, Nat.reduceSub, decide_true, Bool.not_true, Bool.not_false, dGt_int, dLen_lst, c1]; rfl
        | cons r1 rs =>
          have c2 : decide ((1 : Int) < (((rs.length + 1) + 1 : Nat) : Int)) = true := decide_eq_true (by omega)
          simp only [runD, runI, startR, xV, xC, xOp, xUn, xT, xAnd, xOr, xNot, xIf, xAndV, xOrV, xNotV, xCh, xNil, xCons, xTup, xLstN, xL, xCa, xF, xF0, noX, up, x1, xIt, xEn, xNo, xPa, xSl, xM1, xSplit, M.bind, M.ret, M.of, then_ok, then_ex, then_bad, yNx, yRet, yAsg, ySeq, yIf, yFor, yPar, yParK, yRaise, gV, gVt, gVc, gVn, dBl, dIn, strD, wipeR, List.getElem?_cons_zero, List.getElem?_cons_succ, List.set_cons_zero, List.set_cons_succ, Option.bind_some, Option.bind_none, Option.map_some, List.length_cons, List.length_nil, List.map_cons, List.map_nil, List.replicate_succ, List.replicate_zero, List.cons_append, List.nil_append, Nat.zero_add, Nat.reduceAdd, Nat.reduceSub, decide_true, Bool.not_true, Bool.not_false, dGt_int, dLen_lst, List.length_map, c2, l2]; rfl
    · rw [e1]
      refine seq_rt ?_
      rw [for_of (ds := numd 0 ((w0 :: ws).map D.str)) (s1 := ()) (by simp only [runD, runI, startR, xV, xC, xOp, xUn, xT, xAnd, xOr, xNot, xIf, xAndV, xOrV, xNotV, xCh, xNil, xCons, xTup, xLstN, xL, xCa, xF, xF0, noX, up, x1, xIt, xEn, xNo, xPa, xSl, xM1, xSplit, M.bind, M.ret, M.of, then_ok, then_ex, then_bad, yNx, yRet, yAsg, ySeq, yIf, yFor, yPar, yParK, yRaise, gV, gVt, gVc, gVn, dBl, dIn, strD, wipeR, List.getElem?_cons_zero, List.getElem?_cons_succ, List.set_cons_zero, List.set_cons_succ, Option.bind_some, Option.bind_none, Option.map_some, List.length_cons, List.length_nil, List.map_cons, List.map_nil, List.replicate_succ, List.replicate_zero, List.cons_append, List.nil_append, Nat.zero_add, Nat.reduceAdd, Nat.reduceSub, decide_true, Bool.not_true, Bool.not_false, enD])]; exact e2
end Rk94

namespace Rk94
open PySem L2 Fs TL
open NumText (AllDigits digitsVal)
theorem figs_of {cs : List Nat} (h : cs.all isFig = true) : AllDigits cs := fun c hc => of_decide_eq_true (List.all_eq_true.mp h c hc)
theorem fig_head {w : Str} (h : figB w = true) : AllDigits (tl w) ∧ tl w ≠ [] ∧ (tl w).length ≤ 60 ∧ (tl w = [48] ∨ ∃ c r, tl w = c :: r ∧ 49 ≤ c) := by
  unfold figB at h
  rw [Bool.and_eq_true, Bool.and_eq_true, Bool.or_eq_true] at h
  obtain ⟨⟨h1, h2⟩, h3⟩ := h
  have h1 := of_decide_eq_true h1
  rw [len_tl] at h1
  have hd := figs_of h2
  have hne : tl w ≠ [] := fun e => by rw [e] at h1; simp at h1
  refine ⟨hd, hne, h1.2, ?_⟩
  rcases h3 with h3 | h3
  · left
    rw [of_decide_eq_true h3, tl_ofString]; decide
  · right
    cases e : tl w with
    | nil => exact absurd e hne
    | cons c r =>
      refine ⟨c, r, rfl, ?_⟩
      rw [e] at h3 hd
      have := hd c (List.mem_cons_self ..)
      simp at h3
      omega
theorem whole_int {w : Str} (h : wholeB w = true) : ∃ n : Int, PySem.intText? w = some n ∧ w.length ≤ 61 ∧ n.natAbs < 10 ^ 60 ∧ Str.ofString (toString n) = w := by
  unfold wholeB at h
  rw [Bool.or_eq_true] at h
  rcases h with h | h
  · obtain ⟨hd, hne, hlen, hh⟩ := fig_head h
    refine ⟨((digitsVal (tl w) : Nat) : Int), intText_digits hd hne (by rw [len_tl]; omega), by rw [len_tl]; omega, ?_, ?_⟩
    · have v := val_lt hd 0
      have : 10 ^ (tl w).length ≤ 10 ^ 60 := Nat.pow_le_pow_right (by decide) hlen
      show digitsVal (tl w) < _
      unfold digitsVal
      omega
    · apply ext_tl
      rw [tl_num, fig_num hd hh]
  · rw [Bool.and_eq_true, Bool.and_eq_true] at h
    obtain ⟨⟨h1, h2⟩, h3⟩ := h
    have h1 := of_decide_eq_true h1
    obtain ⟨hd, hne, hlen, hh⟩ := fig_head h3
    obtain ⟨cs, hw⟩ : ∃ l, tl w = 45 :: l := by
      cases e : tl w with
      | nil => rw [e] at h1; simp at h1
      | cons a l => rw [e] at h1; simp at h1; exact ⟨l, by rw [h1]⟩
    have ht : tl (tailS w) = cs := by rw [tl_tailS, hw]; rfl
    rw [ht] at hd hne hlen hh
    have hpos : 0 < digitsVal cs := by
      rcases hh with e | ⟨c, r, e, hc⟩
      · have : w = ("-0" : Str) := ext_tl (by rw [hw, e, tl_ofString]; decide)
        rw [this] at h2
        exact absurd h2 (by decide +kernel)
      · rw [e]; exact NumText.digitsVal_pos hc
    have e1 : -((digitsVal cs : Nat) : Int) = Int.negSucc (digitsVal cs - 1) := by omega
    refine ⟨-((digitsVal cs : Nat) : Int), intText_neg hw hd hne (by rw [len_tl, hw, List.length_cons]; omega), by rw [len_tl, hw, List.length_cons]; omega, ?_, ?_⟩
    · have v := val_lt hd 0
      have : 10 ^ cs.length ≤ 10 ^ 60 := Nat.pow_le_pow_right (by decide) hlen
      have e2 : (-((digitsVal cs : Nat) : Int)).natAbs = digitsVal cs := by omega
      rw [e2]
      unfold digitsVal
      omega
    · apply ext_tl
      rw [e1, tl_neg, hw]
      have e3 : digitsVal cs - 1 + 1 = digitsVal cs := by omega
      rw [e3, fig_num hd hh]
/-- the int that a word writes -/
noncomputable def valI (w : Str) : Int := (PySem.intText? w).getD 0
theorem valI_of {w : Str} (h : wholeB w = true) : dInt [.str w] = some (.int (valI w)) ∧ (valI w).natAbs < 10 ^ 60 ∧ Str.ofString (toString (valI w)) = w := by
  obtain ⟨n, h1, h2, h3, h4⟩ := whole_int h
  have e : valI w = n := by unfold valI; rw [h1]; rfl
  rw [e]
  refine ⟨?_, h3, h4⟩
  show dInt1 (.str w) = _
  unfold dInt1
  simp only [h1]
  have : decide (w.length ≤ 640) = true := decide_eq_true (by omega)
  simp only [this]
/-- the numbers that words tell -/
noncomputable def prs : List Str → List (Key × D)
  | k :: v :: r => (.inr k, .int (valI v)) :: prs r
  | _ => []
theorem fld2 (a b : D) : fldsD ["line", "word"] [a, b] = [(("word" : Str), b), (("line" : Str), a)] := rfl
def below (kds : List (Key × D)) (last : Str) : Prop := ∀ kd ∈ kds, ∃ k, kd.1 = .inr k ∧ (k = last ∨ ltS k last = true)
theorem ltS_trans {a b c : Str} (h1 : ltS a b = true) (h2 : ltS b c = true) : ltS a c = true := by
  unfold ltS at *
  exact decide_eq_true (List.lt_trans (of_decide_eq_true h1) (of_decide_eq_true h2))
theorem ltS_irr {a : Str} : ltS a a = false := by
  unfold ltS
  exact decide_eq_false (List.lt_irrefl _)
theorem put_new {kds : List (Key × D)} {last w : Str} {d : D} (h : below kds last) (hw : ltS last w = true) : putD kds (.inr w) d = kds ++ [(.inr w, d)] := by
  unfold putD
  rw [if_neg]
  intro z
  obtain ⟨kd, m, e⟩ := List.any_eq_true.mp z
  obtain ⟨k, e1, e2⟩ := h kd m
  have e3 : kd.1 = .inr w := of_decide_eq_true e
  rw [e1] at e3
  cases e3
  rcases e2 with e2 | e2
  · rw [e2, ltS_irr] at hw; cases hw
  · have := ltS_trans hw e2
    rw [ltS_irr] at this; cases this
end Rk94

namespace Rk94
open PySem L2 Fs TL
theorem atI_nat {α : Type} (xs : List α) (k : Nat) : atI xs (k : Int) = xs[k]? := by
  unfold atI ixN
  by_cases h : k < xs.length
  · simp [h]
  · have e : xs[k]? = none := List.getElem?_eq_none_iff.mpr (by omega)
    rw [e]
    simp [h]
    all_goals omega
theorem ltS_empty {w : Str} (h : shelfB w = true) : ltS "" w = true := by
  have hne : tl w ≠ [] := fun e => by
    have hp : tl (plainS w) = [] := by
      unfold plainS
      cases laneB w with
      | true => show tl (cutTl w) = []; rw [tl_cutTl, e]; rfl
      | false => exact e
    unfold shelfB nameB at h
    rw [len_tl, hp] at h
    simp at h
  unfold ltS
  apply decide_eq_true
  show tl "" < tl w
  rw [tl_ofString]
  cases e : tl w with
  | nil => exact absurd e hne
  | cons c l => exact List.nil_lt_cons c l
section
variable (K : PySem.W.Frag) (A : Ad) {W : List Str} {a0 a1 : Sl} {kds : List (Key × D)}
theorem rs_even (k : KT K) {w last : Str} {i : Nat} {x6 : Sl} (hl : lim w.length = true) (hi : decide (i % 2 = 1) = false) (hk : (i = 0 ∧ last = "") ∨ (2 ≤ i ∧ W[i - 2]? = some last)) :
    fb_read_safe_1 K A [a0, a1, .val (.lst (W.map D.str)), .own (.dct kds), .val (.int i), .val (.str w), x6] () = match shelfB w && ltS last w with
      | true => .ok (.nx [a0, a1, .val (.lst (W.map D.str)), .own (.dct kds), .val (.int i), .val (.str w), .val (.bl true)]) ()
      | false => .ex A.c_BadText [(("word" : Str), .int i), (("line" : Str), .int 0)] () := by
  have dm := dMod_int (a := (i : Int)) (b := 2) (by decide)
  have Sh := is_shelf_eq K k A w hl
  have r2 : decide ((0 + 1 + 1 : Nat) = 0 + 1 + 1) = true := rfl
  unfold fb_read_safe_1
  cases hq : shelfB w with
  | false =>
    simp only [runD, runI, startR, xV, xC, xOp, xUn, xT, xAnd, xOr, xNot, xIf, xAndV, xOrV, xNotV, xCh, xNil, xCons, xTup, xLstN, xL, xCa, xF, xF0, noX, up, x1, xIt, xEn, xNo, xPa, xSl, xM1, xSplit, M.bind, M.ret, M.of, then_ok, then_ex, then_bad, yNx, yRet, yAsg, ySeq, yIf, yFor, yPar, yParK, yRaise, gV, gVt, gVc, gVn, dBl, dIn, strD, wipeR, List.getElem?_cons_zero, List.getElem?_cons_succ, List.set_cons_zero, List.set_cons_succ, Option.bind_some, Option.bind_none, Option.map_some, List.length_cons, List.length_nil, List.map_cons, List.map_nil, List.replicate_succ, List.replicate_zero, List.cons_append, List.nil_append, Nat.zero_add, Nat.reduceAdd, Nat.reduceSub, decide_true, Bool.not_true, Bool.not_false, dm, dEq_int, odd_dec, hi, Sh, hq, Bool.false_and]
    rfl
  | true =>
    rcases hk with ⟨rfl, rfl⟩ | ⟨h2, hg⟩
    · have e0 : decide (((0 : Nat) : Int) = 0) = true := rfl
      have lt := ltS_empty hq
      simp only [runD, runI, startR, xV, xC, xOp, xUn, xT, xAnd, xOr, xNot, xIf, xAndV, xOrV, xNotV, xCh, xNil, xCons, xTup, xLstN, xL, xCa, xF, xF0, noX, up, x1, xIt, xEn, xNo, xPa, xSl, xM1, xSplit, M.bind, M.ret, M.of, then_ok, then_ex, then_bad, yNx, yRet, yAsg, ySeq, yIf, yFor, yPar, yParK, yRaise, gV, gVt, gVc, gVn, dBl, dIn, strD, wipeR, List.getElem?_cons_zero, List.getElem?_cons_succ, List.set_cons_zero, List.set_cons_succ, Option.bind_some, Option.bind_none, Option.map_some, List.length_cons, List.length_nil, List.map_cons, List.map_nil, List.replicate_succ, List.replicate_zero, List.cons_append, List.nil_append, Nat.zero_add, Nat.reduceAdd, Nat.reduceSub, decide_true, Bool.not_true, Bool.not_false, dm, dEq_int, odd_dec, hi, Sh, hq, e0, lt, Bool.true_and]
    · have e0 : decide ((i : Int) = 0) = false := decide_eq_false (by omega)
      have ei : (i : Int) - 2 = ((i - 2 : Nat) : Int) := by omega
      have ix : atI (W.map D.str) ((i - 2 : Nat) : Int) = some (.str last) := by
        rw [atI_nat, List.getElem?_map, hg]; rfl
      cases hr : ltS last w with
      | true => simp only [runD, runI, startR, xV, xC, xOp, xUn, xT, xAnd, xOr, xNot, xIf, xAndV, xOrV, xNotV, xCh, xNil, xCons, xTup, xLstN, xL, xCa, xF, xF0, noX, up, x1, xIt, xEn, xNo, xPa, xSl, xM1, xSplit, M.bind, M.ret, M.of, then_ok, then_ex, then_bad, yNx, yRet, yAsg, ySeq, yIf, yFor, yPar, yParK, yRaise, gV, gVt, gVc, gVn, dBl, dIn, strD, wipeR, List.getElem?_cons_zero, List.getElem?_cons_succ, List.set_cons_zero, List.set_cons_succ, Option.bind_some, Option.bind_none, Option.map_some, List.length_cons, List.length_nil, List.map_cons, List.map_nil, List.replicate_succ, List.replicate_zero, List.cons_append, List.nil_append, Nat.zero_add, Nat.reduceAdd, Nat.reduceSub, decide_true, Bool.not_true, Bool.not_false, dm, dEq_int, odd_dec, hi, Sh, hq, e0, dSub_int, ei, dIx_lst, ix, dGt_str, hr, Bool.true_and]
      | false =>
        simp only [runD, runI, startR, xV, xC, xOp, xUn, xT, xAnd, xOr, xNot, xIf, xAndV, xOrV, xNotV, xCh, xNil, xCons, xTup, xLstN, xL, xCa, xF, xF0, noX, up, x1, xIt, xEn, xNo, xPa, xSl, xM1, xSplit, M.bind, M.ret, M.of, then_ok, then_ex, then_bad, yNx, yRet, yAsg, ySeq, yIf, yFor, yPar, yParK, yRaise, gV, gVt, gVc, gVn, dBl, dIn, strD, wipeR, List.getElem?_cons_zero, List.getElem?_cons_succ, List.set_cons_zero, List.set_cons_succ, Option.bind_some, Option.bind_none, Option.map_some, List.length_cons, List.length_nil, List.map_cons, List.map_nil, List.replicate_succ, List.replicate_zero, List.cons_append, List.nil_append, Nat.zero_add, Nat.reduceAdd, Nat.reduceSub, decide_true, Bool.not_true, Bool.not_false, dm, dEq_int, odd_dec, hi, Sh, hq, e0, dSub_int, ei, dIx_lst, ix, dGt_str, hr, Bool.true_and]
        rfl
theorem rs_odd {w last : Str} {i : Nat} {x6 : Sl} (hl : lim w.length = true) (hi : decide (i % 2 = 1) = true) (hk : 1 ≤ i ∧ W[i - 1]? = some last) (hb : below kds last) (hlim : lim kds.length = true) :
    fb_read_safe_1 K A [a0, a1, .val (.lst (W.map D.str)), .own (.dct kds), .val (.int i), .val (.str w), x6] () = match wholeB w with
      | true => .ok (.nx [a0, a1, .val (.lst (W.map D.str)), .own (.dct (putD kds (.inr last) (.int (valI w)))), .val (.int i), .val (.str w), .val (.bl true)]) ()
      | false => .ex A.c_BadText [(("word" : Str), .int i), (("line" : Str), .int 0)] () := by
  have dm := dMod_int (a := (i : Int)) (b := 2) (by decide)
  have Wh := is_whole_eq K A w hl
  have r2 : decide ((0 + 1 + 1 : Nat) = 0 + 1 + 1) = true := rfl
  have ei : (i : Int) - 1 = ((i - 1 : Nat) : Int) := by omega
  have ix : atI (W.map D.str) ((i - 1 : Nat) : Int) = some (.str last) := by
    rw [atI_nat, List.getElem?_map, hk.2]; rfl
  have kd : keyD (.str last) = some (.inr last) := rfl
  unfold fb_read_safe_1
  cases hq : wholeB w with
  | false =>
    simp only [runD, runI, startR, xV, xC, xOp, xUn, xT, xAnd, xOr, xNot, xIf, xAndV, xOrV, xNotV, xCh, xNil, xCons, xTup, xLstN, xL, xCa, xF, xF0, noX, up, x1, xIt, xEn, xNo, xPa, xSl, xM1, xSplit, M.bind, M.ret, M.of, then_ok, then_ex, then_bad, yNx, yRet, yAsg, ySeq, yIf, yFor, yPar, yParK, yRaise, gV, gVt, gVc, gVn, dBl, dIn, strD, wipeR, List.getElem?_cons_zero, List.getElem?_cons_succ, List.set_cons_zero, List.set_cons_succ, Option.bind_some, Option.bind_none, Option.map_some, List.length_cons, List.length_nil, List.map_cons, List.map_nil, List.replicate_succ, List.replicate_zero, List.cons_append, List.nil_append, Nat.zero_add, Nat.reduceAdd, Nat.reduceSub, decide_true, Bool.not_true, Bool.not_false, dm, dEq_int, odd_dec, hi, Wh, hq]
    rfl
  | true =>
    have v := (valI_of hq).1
    simp only [runD, runI, startR, xV, xC, xOp, xUn, xT, xAnd, xOr, xNot, xIf, xAndV, xOrV, xNotV, xCh, xNil, xCons, xTup, xLstN, xL, xCa, xF, xF0, noX, up, x1, xIt, xEn, xNo, xPa, xSl, xM1, xSplit, M.bind, M.ret, M.of, then_ok, then_ex, then_bad, yNx, yRet, yAsg, ySeq, yIf, yFor, yPar, yParK, yRaise, gV, gVt, gVc, gVn, dBl, dIn, strD, wipeR, List.getElem?_cons_zero, List.getElem?_cons_succ, List.set_cons_zero, List.set_cons_succ, Option.bind_some, Option.bind_none, Option.map_some, List.length_cons, List.length_nil, List.map_cons, List.map_nil, List.replicate_succ, List.replicate_zero, List.cons_append, List.nil_append, Nat.zero_add, Nat.reduceAdd, Nat.reduceSub, decide_true, Bool.not_true, Bool.not_false, dm, dEq_int, odd_dec, hi, Wh, hq, ySetK, ownK, v, dSub_int, ei, dIx_lst, ix, kd, hlim]
end
theorem below_put {kds : List (Key × D)} {last w : Str} {d : D} (h : below kds last) (hw : ltS last w = true) : below (kds ++ [(.inr w, d)]) w := fun kd m => by
  rcases List.mem_append.mp m with m | m
  · obtain ⟨k, e1, e2⟩ := h kd m
    refine ⟨k, e1, .inr ?_⟩
    rcases e2 with e2 | e2
    · rw [e2]; exact hw
    · exact ltS_trans e2 hw
  · rw [List.mem_singleton.mp m]
    exact ⟨w, rfl, .inl rfl⟩
theorem read_safe_loop (K : PySem.W.Frag) (A : Ad) (k : KT K) {W : List Str} {a0 a1 : Sl} : ∀ (n : Nat) (ws : List Str), ws.length ≤ n → ∀ (i : Nat) (last : Str) (kds : List (Key × D)) (x4 x5 x6 : Sl), Good ws → decide (i % 2 = 1) = false → W.drop i = ws →
    ((i = 0 ∧ last = "" ∧ kds = []) ∨ (2 ≤ i ∧ W[i - 2]? = some last)) → below kds last → lim (kds.length + ws.length) = true →
    (sgo i last ws = none ∧ ∃ x' y' z', loopD (gVt 2 (gVc (gV 4) (gVc (gV 5) gVn))) (fb_read_safe_1 K A) (numd i (ws.map D.str)) [a0, a1, .val (.lst (W.map D.str)), .own (.dct kds), x4, x5, x6] () = .ok (.nx [a0, a1, .val (.lst (W.map D.str)), .own (.dct (kds ++ prs ws)), x', y', z']) ()) ∨
    ∃ j : Nat, sgo i last ws = some j ∧ loopD (gVt 2 (gVc (gV 4) (gVc (gV 5) gVn))) (fb_read_safe_1 K A) (numd i (ws.map D.str)) [a0, a1, .val (.lst (W.map D.str)), .own (.dct kds), x4, x5, x6] () = .ex A.c_BadText [(("word" : Str), .int j), (("line" : Str), .int 0)] ()
  | _, [], _, i, last, kds, x4, x5, x6, _, _, _, _, _, _ => .inl ⟨rfl, x4, x5, x6, by simp [prs]; rfl⟩
  | 0, _ :: _, h, _, _, _, _, _, _, _, _, _, _, _, _ => absurd h (by simp)
  | n + 1, w :: r, hn, i, last, kds, x4, x5, x6, g, hi, hW, hk, hb, hlim => by
    obtain ⟨hl, hw⟩ := g w (List.mem_cons_self ..)
    have st := rs_even K A k (W := W) (a0 := a0) (a1 := a1) (kds := kds) (last := last) (x6 := x6) hl hi (hk.imp (fun z => ⟨z.1, z.2.1⟩) id)
    show (_ ∧ ∃ x' y' z', loopD _ _ (.tup [.int i, .str w] :: numd (i + 1) (r.map D.str)) _ () = _) ∨ ∃ j : Nat, _ ∧ loopD _ _ (.tup [.int i, .str w] :: numd (i + 1) (r.map D.str)) _ () = _
    unfold loopD sgo
    rw [hi]
    cases hq : shelfB w && ltS last w with
    | false =>
      rw [hq] at st
      simp only [runD, runI, startR, xV, xC, xOp, xUn, xT, xAnd, xOr, xNot, xIf, xAndV, xOrV, xNotV, xCh, xNil, xCons, xTup, xLstN, xL, xCa, xF, xF0, noX, up, x1, xIt, xEn, xNo, xPa, xSl, xM1, xSplit, M.bind, M.ret, M.of, then_ok, then_ex, then_bad, yNx, yRet, yAsg, ySeq, yIf, yFor, yPar, yParK, yRaise, gV, gVt, gVc, gVn, dBl, dIn, strD, wipeR, List.getElem?_cons_zero, List.getElem?_cons_succ, List.set_cons_zero, List.set_cons_succ, Option.bind_some, Option.bind_none, Option.map_some, List.length_cons, List.length_nil, List.map_cons, List.map_nil, List.replicate_succ, List.replicate_zero, List.cons_append, List.nil_append, Nat.zero_add, Nat.reduceAdd, Nat.reduceSub, decide_true, Bool.not_true, Bool.not_false, st]
      exact .inr ⟨i, rfl, rfl⟩
    | true =>
      rw [hq] at st
      have ltw : ltS last w = true := (Bool.and_eq_true_iff.mp hq).2
      simp only [runD, runI, startR, xV, xC, xOp, xUn, xT, xAnd, xOr, xNot, xIf, xAndV, xOrV, xNotV, xCh, xNil, xCons, xTup, xLstN, xL, xCa, xF, xF0, noX, up, x1, xIt, xEn, xNo, xPa, xSl, xM1, xSplit, M.bind, M.ret, M.of, then_ok, then_ex, then_bad, yNx, yRet, yAsg, ySeq, yIf, yFor, yPar, yParK, yRaise, gV, gVt, gVc, gVn, dBl, dIn, strD, wipeR, List.getElem?_cons_zero, List.getElem?_cons_succ, List.set_cons_zero, List.set_cons_succ, Option.bind_some, Option.bind_none, Option.map_some, List.length_cons, List.length_nil, List.map_cons, List.map_nil, List.replicate_succ, List.replicate_zero, List.cons_append, List.nil_append, Nat.zero_add, Nat.reduceAdd, Nat.reduceSub, decide_true, Bool.not_true, Bool.not_false, st]
      have Wi : W[i]? = some w := by
        have := congrArg (·[0]?) hW
        simpa using this
      have ho : decide ((i + 1) % 2 = 1) = true := decide_eq_true (by have := of_decide_eq_false hi; omega)
      cases r with
      | nil => exact .inl ⟨rfl, _, _, _, by simp [prs]; rfl⟩
      | cons v r =>
        obtain ⟨hl2, hw2⟩ := g v (by simp)
        -- at the odd place the key is w; all keys are below it
        have hbw : below kds w := fun kd m => by
          obtain ⟨q, e1, e2⟩ := hb kd m
          refine ⟨q, e1, .inr ?_⟩
          rcases e2 with e2 | e2
          · rw [e2]; exact ltw
          · exact ltS_trans e2 ltw
        have hlim2 : lim kds.length = true := lim_le hlim (by simp)
        have st2 := rs_odd K A (W := W) (a0 := a0) (a1 := a1) (kds := kds) (last := w) (i := i + 1) (x6 := .val (.bl true)) hl2 ho ⟨by omega, by rw [Nat.add_sub_cancel]; exact Wi⟩ hbw hlim2
        rw [put_new hb ltw] at st2
        show (_ ∧ ∃ x' y' z', loopD _ _ (.tup [.int ((i + 1 : Nat) : Int), .str v] :: numd (i + 1 + 1) (r.map D.str)) _ () = _) ∨ ∃ j : Nat, _ ∧ loopD _ _ (.tup [.int ((i + 1 : Nat) : Int), .str v] :: numd (i + 1 + 1) (r.map D.str)) _ () = _
        unfold loopD sgo
        rw [ho]
        cases hv : wholeB v with
        | false =>
          rw [hv] at st2
          simp only [runD, runI, startR, xV, xC, xOp, xUn, xT, xAnd, xOr, xNot, xIf, xAndV, xOrV, xNotV, xCh, xNil, xCons, xTup, xLstN, xL, xCa, xF, xF0, noX, up, x1, xIt, xEn, xNo, xPa, xSl, xM1, xSplit, M.bind, M.ret, M.of, then_ok, then_ex, then_bad, yNx, yRet, yAsg, ySeq, yIf, yFor, yPar, yParK, yRaise, gV, gVt, gVc, gVn, dBl, dIn, strD, wipeR, List.getElem?_cons_zero, List.getElem?_cons_succ, List.set_cons_zero, List.set_cons_succ, Option.bind_some, Option.bind_none, Option.map_some, List.length_cons, List.length_nil, List.map_cons, List.map_nil, List.replicate_succ, List.replicate_zero, List.cons_append, List.nil_append, Nat.zero_add, Nat.reduceAdd, Nat.reduceSub, decide_true, Bool.not_true, Bool.not_false, st2]
          exact .inr ⟨i + 1, rfl, rfl⟩
        | true =>
          rw [hv] at st2
          simp only [runD, runI, startR, xV, xC, xOp, xUn, xT, xAnd, xOr, xNot, xIf, xAndV, xOrV, xNotV, xCh, xNil, xCons, xTup, xLstN, xL, xCa, xF, xF0, noX, up, x1, xIt, xEn, xNo, xPa, xSl, xM1, xSplit, M.bind, M.ret, M.of, then_ok, then_ex, then_bad, yNx, yRet, yAsg, ySeq, yIf, yFor, yPar, yParK, yRaise, gV, gVt, gVc, gVn, dBl, dIn, strD, wipeR, List.getElem?_cons_zero, List.getElem?_cons_succ, List.set_cons_zero, List.set_cons_succ, Option.bind_some, Option.bind_none, Option.map_some, List.length_cons, List.length_nil, List.map_cons, List.map_nil, List.replicate_succ, List.replicate_zero, List.cons_append, List.nil_append, Nat.zero_add, Nat.reduceAdd, Nat.reduceSub, decide_true, Bool.not_true, Bool.not_false, st2]
          have ih := read_safe_loop K A k (W := W) (a0 := a0) (a1 := a1) n r (by simp at hn; omega) (i + 1 + 1) w (kds ++ [(.inr w, .int (valI v))]) (.val (.int ((i + 1 : Nat) : Int))) (.val (.str v)) (.val (.bl true)) g.tail.tail
            (decide_eq_false (by have := of_decide_eq_false hi; omega)) (by have z := congrArg (List.drop 2) hW; rw [List.drop_drop] at z; exact z) (.inr ⟨by omega, by rw [show i + 1 + 1 - 2 = i by omega]; exact Wi⟩) (below_put hb ltw) (lim_le hlim (by simp; omega))
          have e : kds ++ prs (w :: v :: r) = kds ++ [(.inr w, .int (valI v))] ++ prs r := by simp [prs]
          rw [e]
          exact ih
def btx (A : Ad) (a b : Nat) : Res Unit D := .ex A.c_BadText [(("word" : Str), .int b), (("line" : Str), .int a)] ()
def wordsR (A : Ad) (l : Nat) (w0 : Str) (ws : List Str) : Res Unit D := match decide (w0 = ("-" : Str)) with
  | true => (match ws with | [] => .ok (.lst []) () | _ :: _ => btx A l 1)
  | false => .ok (.lst ((w0 :: ws).map D.str)) ()
theorem words_eq (K : PySem.W.Frag) (A : Ad) {l : Nat} {r w0 : Str} {ws : List Str} (hl : lim r.length = true) (hs : WD r = w0 :: ws) :
    m_words_of_line K A [.int l, .str r] () = wordsR A l w0 ws := by
  have sp2 := spaceS.split r hl
  rw [show Txt.split r " " = WD r from rfl, hs] at sp2
  have bk := spaceS.back r
  rw [show Txt.split r " " = WD r from rfl, hs] at bk
  have l0 : lim 0 = true := rfl
  unfold m_words_of_line b_words_of_line wordsR
  cases h0 : decide (w0 = ("-" : Str)) with
  | true =>
    cases ws with
    | nil =>
      have c1 : decide ((1 : Int) < ((0 + 1 : Nat) : Int)) = false := rfl
      have er : decide (r = ("-" : Str)) = true := by
        rw [← of_decide_eq_true h0]
        exact decide_eq_true bk.symm
      simp only [runD, runI, startR, xV, xC, xOp, xUn, xT, xAnd, xOr, xNot, xIf, xAndV, xOrV, xNotV, xCh, xNil, xCons, xTup, xLstN, xL, xCa, xF, xF0, noX, up, x1, xIt, xEn, xNo, xPa, xSl, xM1, xSplit, M.bind, M.ret, M.of, then_ok, then_ex, then_bad, yNx, yRet, yAsg, ySeq, yIf, yFor, yPar, yParK, yRaise, gV, gVt, gVc, gVn, dBl, dIn, strD, wipeR, List.getElem?_cons_zero, List.getElem?_cons_succ, List.set_cons_zero, List.set_cons_succ, Option.bind_some, Option.bind_none, Option.map_some, List.length_cons, List.length_nil, List.map_cons, List.map_nil, List.replicate_succ, List.replicate_zero, List.cons_append, List.nil_append, Nat.zero_add, Nat.reduceAdd, Nat.reduceSub, decide_true, Bool.not_true, Bool.not_false, sp2, dIx_lst, atI0, dEq_str, h0, dGt_int, dLen_lst, c1, neA_str, er, l0]
    | cons w1 ws =>
      have c2 : decide ((1 : Int) < (((ws.length + 1) + 1 : Nat) : Int)) = true := decide_eq_true (by omega)
      simp only [runD, runI, startR, xV, xC, xOp, xUn, xT, xAnd, xOr, xNot, xIf, xAndV, xOrV, xNotV, xCh, xNil, xCons, xTup, xLstN, xL, xCa, xF, xF0, noX, up, x1, xIt, xEn, xNo, xPa, xSl, xM1, xSplit, M.bind, M.ret, M.of, then_ok, then_ex, then_bad, yNx, yRet, yAsg, ySeq, yIf, yFor, yPar, yParK, yRaise, gV, gVt, gVc, gVn, dBl, dIn, strD, wipeR, List.getElem?_cons_zero, List.getElem?_cons_succ, List.set_cons_zero, List.set_cons_succ, Option.bind_some, Option.bind_none, Option.map_some, List.length_cons, List.length_nil, List.map_cons, List.map_nil, List.replicate_succ, List.replicate_zero, List.cons_append, List.nil_append, Nat.zero_add, Nat.reduceAdd, Nat.reduceSub, decide_true, Bool.not_true, Bool.not_false, sp2, dIx_lst, atI0, dEq_str, h0, dGt_int, dLen_lst, List.length_map, c2]
      rfl
  | false =>
    have er : decide (r = ("-" : Str)) = false := by
      apply decide_eq_false
      intro e
      have h := spaceS.whole ("-" : Str) (by rw [tl_ofString]; decide)
      rw [← e, show Txt.split r " " = WD r from rfl, hs] at h
      injection h with h1 h2
      exact of_decide_eq_false h0 (h1.trans e)
    simp only [runD, runI, startR, xV, xC, xOp, xUn, xT, xAnd, xOr, xNot, xIf, xAndV, xOrV, xNotV, xCh, xNil, xCons, xTup, xLstN, xL, xCa, xF, xF0, noX, up, x1, xIt, xEn, xNo, xPa, xSl, xM1, xSplit, M.bind, M.ret, M.of, then_ok, then_ex, then_bad, yNx, yRet, yAsg, ySeq, yIf, yFor, yPar, yParK, yRaise, gV, gVt, gVc, gVn, dBl, dIn, strD, wipeR, List.getElem?_cons_zero, List.getElem?_cons_succ, List.set_cons_zero, List.set_cons_succ, Option.bind_some, Option.bind_none, Option.map_some, List.length_cons, List.length_nil, List.map_cons, List.map_nil, List.replicate_succ, List.replicate_zero, List.cons_append, List.nil_append, Nat.zero_add, Nat.reduceAdd, Nat.reduceSub, decide_true, Bool.not_true, Bool.not_false, sp2, dIx_lst, atI0, dEq_str, h0, neA_str, er]
/-- the object that the class makes of one value -/
def sObj (A : Ad) (kds : List (Key × D)) : D := .obj A.c_Safe [(("numbers" : Str), .dct kds)]
end Rk94

namespace Rk94
open PySem L2 Fs TL
/-- facts about the classes of the text -/
structure KA (K : PySem.W.Frag) (A : Ad) : Prop where
  safe : Cls K A.c_Safe ∧ NoAttr K A.c_Safe "numbers"
def fin {S : Type} : Res S Out → Res S D
  | .ok (.rt d) s => .ok d s
  | .ok (.nx _) s => .ok .non s
  | .ex c fs s => .ex c fs s
  | _ => .bad
theorem run_fin {S : Type} {n m : Nat} {f : Rho → M S Out} {ds : List D} {s : S} (hl : decide (ds.length = m) = true) : runD n m f ds s = fin (f (startR n ds) s) := by
  unfold runD
  rw [hl]
  show (f (startR n ds) s).then _ = _
  cases f (startR n ds) s with
  | ok o s1 => cases o <;> rfl
  | ex c fs s1 => rfl
  | bad => rfl
theorem chk_true {p : Prop} (h : p) : chk p = true := by
  unfold chk
  exact @decide_eq_true p (Classical.propDecidable p) h
theorem mk_safe {K : PySem.W.Frag} {A : Ad} (ka : KA K A) (d : D) : runI A.c_Safe 1 1 (b_SafeU_initU K A) [d] () = .ok (.obj A.c_Safe [(("numbers" : Str), d)]) () := by
  have c := chk_true ka.safe
  have l : decide (0 < 900) = true := rfl
  unfold b_SafeU_initU
  simp only [runD, startR, xV, xC, xOp, xUn, xT, xAnd, xOr, xNot, xIf, xAndV, xOrV, xNotV, xCh, xNil, xCons, xTup, xLstN, xL, xCa, xF, xF0, noX, up, x1, xIt, xEn, xNo, xPa, xSl, xM1, xSplit, M.bind, M.ret, M.of, then_ok, then_ex, then_bad, yNx, yRet, yAsg, ySeq, yIf, yFor, yPar, yParK, yRaise, gV, gVt, gVc, gVn, dBl, dIn, strD, wipeR, List.getElem?_cons_zero, List.getElem?_cons_succ, List.set_cons_zero, List.set_cons_succ, Option.bind_some, Option.bind_none, Option.map_some, List.length_cons, List.length_nil, List.map_cons, List.map_nil, List.replicate_succ, List.replicate_zero, List.cons_append, List.nil_append, Nat.zero_add, Nat.reduceAdd, Nat.reduceSub, decide_true, Bool.not_true, Bool.not_false, runI, ySetF, ownI, putO, c, l, Bool.and_self, putFD, initOut]
theorem need_str {K : PySem.W.Frag} (k : KT K) (A : Ad) (t : Str) : m_need_string K A [.str t] () = .ok .non () := by
  unfold m_need_string b_need_string
  simp only [runD, startR, xV, xC, xOp, xUn, xT, xAnd, xOr, xNot, xIf, xAndV, xOrV, xNotV, xCh, xNil, xCons, xTup, xLstN, xL, xCa, xF, xF0, noX, up, x1, xIt, xEn, xNo, xPa, xSl, xM1, xSplit, M.bind, M.ret, M.of, then_ok, then_ex, then_bad, yNx, yRet, yAsg, ySeq, yIf, yFor, yPar, yParK, yRaise, gV, gVt, gVc, gVn, dBl, dIn, strD, wipeR, List.getElem?_cons_zero, List.getElem?_cons_succ, List.set_cons_zero, List.set_cons_succ, Option.bind_some, Option.bind_none, Option.map_some, List.length_cons, List.length_nil, List.map_cons, List.map_nil, List.replicate_succ, List.replicate_zero, List.cons_append, List.nil_append, Nat.zero_add, Nat.reduceAdd, Nat.reduceSub, decide_true, Bool.not_true, Bool.not_false, isi_str k]
def postR (A : Ad) (rs : List Str) (n : Nat) (kds : List (Key × D)) : Res Unit D := match decide (n % 2 = 1) with
  | true => btx A 0 n
  | false => (match rs with | [] => .ok (sObj A kds) () | _ :: _ => btx A 1 0)
noncomputable def kdsR (w0 : Str) (ws : List Str) : List (Key × D) := match decide (w0 = ("-" : Str)) with | true => [] | false => prs (w0 :: ws)
def dueR (A : Ad) (d : D) : Option (Nat × Nat) → Res Unit D
  | none => .ok d ()
  | some (a, b) => btx A a b
theorem read_safe_eq {K : PySem.W.Frag} {A : Ad} (k : KT K) (ka : KA K A) {t r0 w0 : Str} {rs ws : List Str} (hl : lim t.length = true) (hw : PyData.strOk t = true) (hr : LN t = r0 :: rs) (hs : WD r0 = w0 :: ws) (hlim : lim (ws.length + 1) = true) :
    m_read_safe K A [.str t] () = dueR A (sObj A (kdsR w0 ws)) (safeR w0 ws rs) := by
  have g1 := good_of lineS hl hw
  rw [show Txt.split t "\n" = LN t from rfl, hr] at g1
  obtain ⟨hl0, hw0⟩ := g1 r0 (List.mem_cons_self ..)
  have g2 := good_of spaceS hl0 hw0
  rw [show Txt.split r0 " " = WD r0 from rfl, hs] at g2
  have sp1 := lineS.split t hl
  rw [show Txt.split t "\n" = LN t from rfl, hr] at sp1
  have wd : m_words_of_line K A [.int 0, .str r0] () = wordsR A 0 w0 ws := words_eq K A (l := 0) hl0 hs
  have mk := mk_safe ka
  -- behind the loop
  have post : ∀ (W : List Str) (kds : List (Key × D)) (x y z : Sl), fin ((yFree 3 (ySeq (yIf (xT (xOp dEq (xOp dMod (xCa dLen (xCons (xV 2) xNil)) (xC (.int 2))) (xC (.int 1)))) (yRaise A.c_BadText ["line", "word"] (xCons (xC (.int 0)) (xCons (xCa dLen (xCons (xV 2) xNil)) xNil))) yNx)
      (ySeq (yIf (xT (xOp dGt (xCa dLen (xCons (xV 1) xNil)) (xC (.int 1)))) (yRaise A.c_BadText ["line", "word"] (xCons (xC (.int 1)) (xCons (xC (.int 0)) xNil))) yNx)
      (yRet (xF (runI A.c_Safe 1 1 (b_SafeU_initU K A)) (xCons (xV 3) xNil))))) : Rho → M Unit Out) [.val (.str t), .val (.lst ((r0 :: rs).map D.str)), .val (.lst (W.map D.str)), .own (.dct kds), x, y, z] ()) =
      postR A rs W.length kds := fun W kds x y z => by
    unfold postR
    have dm := dMod_int (a := ((W.length : Nat) : Int)) (b := 2) (by decide)
    have od := odd_dec W.length
    cases ho : decide (W.length % 2 = 1) with
    | true =>
      rw [ho] at od
      simp only [runD, startR, xV, xC, xOp, xUn, xT, xAnd, xOr, xNot, xIf, xAndV, xOrV, xNotV, xCh, xNil, xCons, xTup, xLstN, xL, xCa, xF, xF0, noX, up, x1, xIt, xEn, xNo, xPa, xSl, xM1, xSplit, M.bind, M.ret, M.of, then_ok, then_ex, then_bad, yNx, yRet, yAsg, ySeq, yIf, yFor, yPar, yParK, yRaise, gV, gVt, gVc, gVn, dBl, dIn, strD, wipeR, List.getElem?_cons_zero, List.getElem?_cons_succ, List.set_cons_zero, List.set_cons_succ, Option.bind_some, Option.bind_none, Option.map_some, List.length_cons, List.length_nil, List.map_cons, List.map_nil, List.replicate_succ, List.replicate_zero, List.cons_append, List.nil_append, Nat.zero_add, Nat.reduceAdd, Nat.reduceSub, decide_true, Bool.not_true, Bool.not_false, yFree, freeR, oVal, dLen_lst, List.length_map, dm, dEq_int, od]
      rfl
    | false =>
      rw [ho] at od
      cases rs with
      | nil =>
        have c1 : decide ((1 : Int) < ((0 + 1 : Nat) : Int)) = false := rfl
        simp only [runD, startR, xV, xC, xOp, xUn, xT, xAnd, xOr, xNot, xIf, xAndV, xOrV, xNotV, xCh, xNil, xCons, xTup, xLstN, xL, xCa, xF, xF0, noX, up, x1, xIt, xEn, xNo, xPa, xSl, xM1, xSplit, M.bind, M.ret, M.of, then_ok, then_ex, then_bad, yNx, yRet, yAsg, ySeq, yIf, yFor, yPar, yParK, yRaise, gV, gVt, gVc, gVn, dBl, dIn, strD, wipeR, List.getElem?_cons_zero, List.getElem?_cons_succ, List.set_cons_zero, List.set_cons_succ, Option.bind_some, Option.bind_none, Option.map_some, List.length_cons, List.length_nil, List.map_cons, List.map_nil, List.replicate_succ, List.replicate_zero, List.cons_append, List.nil_append, Nat.zero_add, Nat.reduceAdd, Nat.reduceSub, decide_true, Bool.not_true, Bool.not_false, yFree, freeR, oVal, dLen_lst, List.length_map, dm, dEq_int, od, dGt_int, c1, mk]
        rfl
      | cons r1 rs =>
        have c2 : decide ((1 : Int) < (((rs.length + 1) + 1 : Nat) : Int)) = true := decide_eq_true (by omega)
        simp only [runD, startR, xV, xC, xOp, xUn, xT, xAnd, xOr, xNot, xIf, xAndV, xOrV, xNotV, xCh, xNil, xCons, xTup, xLstN, xL, xCa, xF, xF0, noX, up, x1, xIt, xEn, xNo, xPa, xSl, xM1, xSplit, M.bind, M.ret, M.of, then_ok, then_ex, then_bad, yNx, yRet, yAsg, ySeq, yIf, yFor, yPar, yParK, yRaise, gV, gVt, gVc, gVn, dBl, dIn, strD, wipeR, List.getElem?_cons_zero, List.getElem?_cons_succ, List.set_cons_zero, List.set_cons_succ, Option.bind_some, Option.bind_none, Option.map_some, List.length_cons, List.length_nil, List.map_cons, List.map_nil, List.replicate_succ, List.replicate_zero, List.cons_append, List.nil_append, Nat.zero_add, Nat.reduceAdd, Nat.reduceSub, decide_true, Bool.not_true, Bool.not_false, yFree, freeR, oVal, dLen_lst, List.length_map, dm, dEq_int, od, dGt_int, c2]
        rfl
  unfold m_read_safe
  rw [run_fin rfl]
  unfold b_read_safe
  show fin (ySeq _ _ [Sl.val (D.str t), .no, .no, .no, .no, .no, .no] ()) = _
  rw [seq_nx (ρ1 := [.val (.str t), .no, .no, .no, .no, .no, .no]) (s1 := ()) (by simp only [runD, startR, xV, xC, xOp, xUn, xT, xAnd, xOr, xNot, xIf, xAndV, xOrV, xNotV, xCh, xNil, xCons, xTup, xLstN, xL, xCa, xF, xF0, noX, up, x1, xIt, xEn, xNo, xPa, xSl, xM1, xSplit, M.bind, M.ret, M.of, then_ok, then_ex, then_bad, yNx, yRet, yAsg, ySeq, yIf, yFor, yPar, yParK, yRaise, gV, gVt, gVc, gVn, dBl, dIn, strD, wipeR, List.getElem?_cons_zero, List.getElem?_cons_succ, List.set_cons_zero, List.set_cons_succ, Option.bind_some, Option.bind_none, Option.map_some, List.length_cons, List.length_nil, List.map_cons, List.map_nil, List.replicate_succ, List.replicate_zero, List.cons_append, List.nil_append, Nat.zero_add, Nat.reduceAdd, Nat.reduceSub, decide_true, Bool.not_true, Bool.not_false, yDrop, need_str k A t])]
  rw [seq_nx (ρ1 := [.val (.str t), .val (.lst ((r0 :: rs).map D.str)), .no, .no, .no, .no, .no]) (s1 := ()) (by simp only [runD, startR, xV, xC, xOp, xUn, xT, xAnd, xOr, xNot, xIf, xAndV, xOrV, xNotV, xCh, xNil, xCons, xTup, xLstN, xL, xCa, xF, xF0, noX, up, x1, xIt, xEn, xNo, xPa, xSl, xM1, xSplit, M.bind, M.ret, M.of, then_ok, then_ex, then_bad, yNx, yRet, yAsg, ySeq, yIf, yFor, yPar, yParK, yRaise, gV, gVt, gVc, gVn, dBl, dIn, strD, wipeR, List.getElem?_cons_zero, List.getElem?_cons_succ, List.set_cons_zero, List.set_cons_succ, Option.bind_some, Option.bind_none, Option.map_some, List.length_cons, List.length_nil, List.map_cons, List.map_nil, List.replicate_succ, List.replicate_zero, List.cons_append, List.nil_append, Nat.zero_add, Nat.reduceAdd, Nat.reduceSub, decide_true, Bool.not_true, Bool.not_false, sp1])]
  unfold safeR kdsR
  unfold wordsR at wd
  cases h0 : decide (w0 = ("-" : Str)) with
  | true =>
    rw [h0] at wd
    cases ws with
    | nil =>
      rw [seq_nx (ρ1 := [.val (.str t), .val (.lst ((r0 :: rs).map D.str)), .val (.lst (([] : List Str).map D.str)), .own (.dct []), .no, .no, .no]) (s1 := ()) (by simp only [runD, startR, xV, xC, xOp, xUn, xT, xAnd, xOr, xNot, xIf, xAndV, xOrV, xNotV, xCh, xNil, xCons, xTup, xLstN, xL, xCa, xF, xF0, noX, up, x1, xIt, xEn, xNo, xPa, xSl, xM1, xSplit, M.bind, M.ret, M.of, then_ok, then_ex, then_bad, yNx, yRet, yAsg, ySeq, yIf, yFor, yPar, yParK, yRaise, gV, gVt, gVc, gVn, dBl, dIn, strD, wipeR, List.getElem?_cons_zero, List.getElem?_cons_succ, List.set_cons_zero, List.set_cons_succ, Option.bind_some, Option.bind_none, Option.map_some, List.length_cons, List.length_nil, List.map_cons, List.map_nil, List.replicate_succ, List.replicate_zero, List.cons_append, List.nil_append, Nat.zero_add, Nat.reduceAdd, Nat.reduceSub, decide_true, Bool.not_true, Bool.not_false, dIx_lst, atI0, wd])]
      rw [seq_nx (ρ1 := [.val (.str t), .val (.lst ((r0 :: rs).map D.str)), .val (.lst (([] : List Str).map D.str)), .own (.dct []), .no, .no, .no]) (s1 := ()) (by rw [for_of (ds := []) (s1 := ()) (by simp only [runD, startR, xV, xC, xOp, xUn, xT, xAnd, xOr, xNot, xIf, xAndV, xOrV, xNotV, xCh, xNil, xCons, xTup, xLstN, xL, xCa, xF, xF0, noX, up, x1, xIt, xEn, xNo, xPa, xSl, xM1, xSplit, M.bind, M.ret, M.of, then_ok, then_ex, then_bad, yNx, yRet, yAsg, ySeq, yIf, yFor, yPar, yParK, yRaise, gV, gVt, gVc, gVn, dBl, dIn, strD, wipeR, List.getElem?_cons_zero, List.getElem?_cons_succ, List.set_cons_zero, List.set_cons_succ, Option.bind_some, Option.bind_none, Option.map_some, List.length_cons, List.length_nil, List.map_cons, List.map_nil, List.replicate_succ, List.replicate_zero, List.cons_append, List.nil_append, Nat.zero_add, Nat.reduceAdd, Nat.reduceSub, decide_true, Bool.not_true, Bool.not_false, enD, numd])]; rfl)]
      rw [post [] []]
      cases rs <;> rfl
    | cons w1 ws =>
      rw [seq_ex (c := A.c_BadText) (fs := [(("word" : Str), .int 1), (("line" : Str), .int 0)]) (s1 := ()) (by simp only [runD, startR, xV, xC, xOp, xUn, xT, xAnd, xOr, xNot, xIf, xAndV, xOrV, xNotV, xCh, xNil, xCons, xTup, xLstN, xL, xCa, xF, xF0, noX, up, x1, xIt, xEn, xNo, xPa, xSl, xM1, xSplit, M.bind, M.ret, M.of, then_ok, then_ex, then_bad, yNx, yRet, yAsg, ySeq, yIf, yFor, yPar, yParK, yRaise, gV, gVt, gVc, gVn, dBl, dIn, strD, wipeR, List.getElem?_cons_zero, List.getElem?_cons_succ, List.set_cons_zero, List.set_cons_succ, Option.bind_some, Option.bind_none, Option.map_some, List.length_cons, List.length_nil, List.map_cons, List.map_nil, List.replicate_succ, List.replicate_zero, List.cons_append, List.nil_append, Nat.zero_add, Nat.reduceAdd, Nat.reduceSub, decide_true, Bool.not_true, Bool.not_false, dIx_lst, atI0, wd]; rfl)]
      rfl
  | false =>
    rw [h0] at wd
    rw [seq_nx (ρ1 := [.val (.str t), .val (.lst ((r0 :: rs).map D.str)), .val (.lst ((w0 :: ws).map D.str)), .own (.dct []), .no, .no, .no]) (s1 := ()) (by simp only [runD, startR, xV, xC, xOp, xUn, xT, xAnd, xOr, xNot, xIf, xAndV, xOrV, xNotV, xCh, xNil, xCons, xTup, xLstN, xL, xCa, xF, xF0, noX, up, x1, xIt, xEn, xNo, xPa, xSl, xM1, xSplit, M.bind, M.ret, M.of, then_ok, then_ex, then_bad, yNx, yRet, yAsg, ySeq, yIf, yFor, yPar, yParK, yRaise, gV, gVt, gVc, gVn, dBl, dIn, strD, wipeR, List.getElem?_cons_zero, List.getElem?_cons_succ, List.set_cons_zero, List.set_cons_succ, Option.bind_some, Option.bind_none, Option.map_some, List.length_cons, List.length_nil, List.map_cons, List.map_nil, List.replicate_succ, List.replicate_zero, List.cons_append, List.nil_append, Nat.zero_add, Nat.reduceAdd, Nat.reduceSub, decide_true, Bool.not_true, Bool.not_false, dIx_lst, atI0, wd])]
    rcases read_safe_loop K A k (W := w0 :: ws) (a0 := .val (.str t)) (a1 := .val (.lst ((r0 :: rs).map D.str))) _ (w0 :: ws) (Nat.le_refl _) 0 "" [] .no .no .no g2 rfl rfl (.inl ⟨rfl, rfl, rfl⟩) (fun kd m => absurd m (by simp)) (by simpa using hlim) with ⟨e1, x, y, z, e2⟩ | ⟨j, e1, e2⟩
    · rw [e1]
      rw [seq_nx (ρ1 := [.val (.str t), .val (.lst ((r0 :: rs).map D.str)), .val (.lst ((w0 :: ws).map D.str)), .own (.dct (prs (w0 :: ws))), x, y, z]) (s1 := ()) (by rw [for_of (ds := numd 0 ((w0 :: ws).map D.str)) (s1 := ()) (by simp only [runD, startR, xV, xC, xOp, xUn, xT, xAnd, xOr, xNot, xIf, xAndV, xOrV, xNotV, xCh, xNil, xCons, xTup, xLstN, xL, xCa, xF, xF0, noX, up, x1, xIt, xEn, xNo, xPa, xSl, xM1, xSplit, M.bind, M.ret, M.of, then_ok, then_ex, then_bad, yNx, yRet, yAsg, ySeq, yIf, yFor, yPar, yParK, yRaise, gV, gVt, gVc, gVn, dBl, dIn, strD, wipeR, List.getElem?_cons_zero, List.getElem?_cons_succ, List.set_cons_zero, List.set_cons_succ, Option.bind_some, Option.bind_none, Option.map_some, List.length_cons, List.length_nil, List.map_cons, List.map_nil, List.replicate_succ, List.replicate_zero, List.cons_append, List.nil_append, Nat.zero_add, Nat.reduceAdd, Nat.reduceSub, decide_true, Bool.not_true, Bool.not_false, enD])]; exact e2)]
      rw [post (w0 :: ws)]
      unfold postR
      cases decide ((w0 :: ws).length % 2 = 1) with
      | true => rfl
      | false => cases rs <;> rfl
    · rw [e1]
      rw [seq_ex (c := A.c_BadText) (fs := [(("word" : Str), .int j), (("line" : Str), .int 0)]) (s1 := ()) (by rw [for_of (ds := numd 0 ((w0 :: ws).map D.str)) (s1 := ()) (by simp only [runD, startR, xV, xC, xOp, xUn, xT, xAnd, xOr, xNot, xIf, xAndV, xOrV, xNotV, xCh, xNil, xCons, xTup, xLstN, xL, xCa, xF, xF0, noX, up, x1, xIt, xEn, xNo, xPa, xSl, xM1, xSplit, M.bind, M.ret, M.of, then_ok, then_ex, then_bad, yNx, yRet, yAsg, ySeq, yIf, yFor, yPar, yParK, yRaise, gV, gVt, gVc, gVn, dBl, dIn, strD, wipeR, List.getElem?_cons_zero, List.getElem?_cons_succ, List.set_cons_zero, List.set_cons_succ, Option.bind_some, Option.bind_none, Option.map_some, List.length_cons, List.length_nil, List.map_cons, List.map_nil, List.replicate_succ, List.replicate_zero, List.cons_append, List.nil_append, Nat.zero_add, Nat.reduceAdd, Nat.reduceSub, decide_true, Bool.not_true, Bool.not_false, enD])]; exact e2)]
      rfl
end Rk94

namespace Rk94
open PySem L2 Fs TL
structure KB (K : PySem.W.Frag) (A : Ad) : Prop where
  dict_dict : isCD K (.type "dict") (.ty "dict") = some true
  int_int : isCD K (.type "int") (.ty "int") = some true
  int_bool : isCD K (.type "int") (.ty "bool") = some false
  safe_safe : ∀ fs, dIsk K [.obj A.c_Safe fs, .adr A.c_Safe] = some (.bl true)
/-- pairs of words and their numbers -/
noncomputable def pk (p : Str × Str) : Key × D := (.inr p.1, .int (valI p.2))
def prw : List Str → List (Str × Str)
  | k :: v :: r => (k, v) :: prw r
  | _ => []
theorem prs_eq : ∀ ws : List Str, prs ws = (prw ws).map pk
  | [] => rfl
  | [_] => rfl
  | k :: v :: r => by
    show (Sum.inr k, D.int (valI v)) :: prs r = _
    rw [prs_eq r]; rfl
/-- what stands: shelves ascending, words of integers -/
def Stands (ps : List (Str × Str)) : Prop := (∀ p ∈ ps, lim p.1.length = true ∧ shelfB p.1 = true ∧ wholeB p.2 = true) ∧ List.Pairwise (fun a b => ltS a b = true) (ps.map (·.1))
theorem keys_pk (ps : List (Str × Str)) : keysOf (ps.map pk) = (ps.map (·.1)).map D.str := by
  unfold keysOf
  rw [List.map_map, List.map_map]; rfl
theorem val_pk {ps : List (Str × Str)} (h : List.Pairwise (fun a b => ltS a b = true) (ps.map (·.1))) : ∀ p ∈ ps, valD (ps.map pk) (.inr p.1) = some (.int (valI p.2)) := by
  induction ps with
  | nil => intro p hp; simp at hp
  | cons q ps ih =>
    intro p hp
    rw [List.map_cons, List.pairwise_cons] at h
    unfold valD
    rw [List.map_cons, List.find?_cons]
    rcases List.mem_cons.mp hp with e | hp
    · rw [e]
      have : decide ((pk q).1 = (Sum.inr q.1 : Key)) = true := decide_eq_true rfl
      rw [this]
      rfl
    · have ne : q.1 ≠ p.1 := fun e => by
        have := h.1 p.1 (List.mem_map_of_mem hp)
        rw [e, ltS_irr] at this; cases this
      have : decide ((pk q).1 = (Sum.inr p.1 : Key)) = false := decide_eq_false fun z => ne (Sum.inr.inj (z : (Sum.inr q.1 : Key) = Sum.inr p.1))
      rw [this]
      exact ih h.2 p hp
theorem is_integer_eq {K : PySem.W.Frag} {A : Ad} (kb : KB K A) (n : Int) : m_is_integer K A [.int n] () = .ok (.bl true) () := by
  have e1 : dIsk K [.int n, .ty "int"] = some (.bl true) := by
    show (isCD K (.type "int") (.ty "int")).map D.bl = _
    rw [kb.int_int]; rfl
  have e2 : dIsk K [.int n, .ty "bool"] = some (.bl false) := by
    show (isCD K (.type "int") (.ty "bool")).map D.bl = _
    rw [kb.int_bool]; rfl
  unfold m_is_integer b_is_integer
  simp only [runD, startR, xV, xC, xOp, xUn, xT, xAnd, xOr, xNot, xIf, xAndV, xOrV, xNotV, xCh, xNil, xCons, xTup, xLstN, xL, xCa, xF, xF0, noX, up, x1, xIt, xEn, xNo, xPa, xSl, xM1, xSplit, M.bind, M.ret, M.of, then_ok, then_ex, then_bad, yNx, yRet, yAsg, ySeq, yIf, yFor, yPar, yParK, yRaise, gV, gVt, gVc, gVn, dBl, dIn, strD, wipeR, List.getElem?_cons_zero, List.getElem?_cons_succ, List.set_cons_zero, List.set_cons_succ, Option.bind_some, Option.bind_none, Option.map_some, List.length_cons, List.length_nil, List.map_cons, List.map_nil, List.replicate_succ, List.replicate_zero, List.cons_append, List.nil_append, Nat.zero_add, Nat.reduceAdd, Nat.reduceSub, decide_true, Bool.not_true, Bool.not_false, e1, e2]
theorem is_numbers_eq {K : PySem.W.Frag} {A : Ad} (k : KT K) (kb : KB K A) {ps : List (Str × Str)} (h : Stands ps) (hl : lim ps.length = true) : m_is_numbers K A [.dct (ps.map pk)] () = .ok (.bl true) () := by
  have e1 : dIsk K [.dct (ps.map pk), .ty "dict"] = some (.bl true) := by
    show (isCD K (.type "dict") (.ty "dict")).map D.bl = _
    rw [kb.dict_dict]; rfl
  have lu : limU (ps.map pk).length = some () := by
    unfold limU
    rw [List.length_map, hl]
  have hc := comp_pure (S := Unit) (g := gV 1) (t := fun _ => M.ret true) (e := xAndV (xF (m_is_shelf K A) (xCons (xV 1) xNil)) (xAndV (xF (m_is_integer K A) (xCons (xOp dIx (xV 0) (xV 1)) xNil)) (xOp dLt (xCa dAbs (xCons (xOp dIx (xV 0) (xV 1)) xNil)) (xC (.int v_GREATEST))))) (ρ := [Sl.val (.dct (ps.map pk)), .no]) (s := ()) (fun _ => true) (fun _ => .bl true) ((ps.map (·.1)).map D.str) (fun d hd => by
    obtain ⟨x, hx, rfl⟩ := List.mem_map.mp hd
    obtain ⟨p, hp, rfl⟩ := List.mem_map.mp hx
    obtain ⟨h1, h2, h3⟩ := h.1 p hp
    have sh := is_shelf_eq K k A p.1 h1
    rw [h2] at sh
    have v := val_pk h.2 p hp
    have ix : dIx (.dct (ps.map pk)) (.str p.1) = some (.int (valI p.2)) := by
      show (match keyD (.str p.1) with | some k => valD (ps.map pk) k | none => none) = _
      exact v
    have ii := is_integer_eq kb (valI p.2)
    have ab : dAbs [.int (valI p.2)] = some (.int (if valI p.2 < 0 then -(valI p.2) else valI p.2)) := rfl
    have lt : decide ((if valI p.2 < 0 then -(valI p.2) else valI p.2) < v_GREATEST) = true := decide_eq_true (by
      have := (valI_of h3).2.1
      show _ < (1000000000000000000000000000000000000000000000000000000000000 : Int)
      have e : (10 : Nat) ^ 60 = 1000000000000000000000000000000000000000000000000000000000000 := by decide
      rw [e] at this
      split <;> omega)
    refine ⟨_, rfl, rfl, fun _ => ?_⟩
    simp only [runD, startR, xV, xC, xOp, xUn, xT, xAnd, xOr, xNot, xIf, xAndV, xOrV, xNotV, xCh, xNil, xCons, xTup, xLstN, xL, xCa, xF, xF0, noX, up, x1, xIt, xEn, xNo, xPa, xSl, xM1, xSplit, M.bind, M.ret, M.of, then_ok, then_ex, then_bad, yNx, yRet, yAsg, ySeq, yIf, yFor, yPar, yParK, yRaise, gV, gVt, gVc, gVn, dBl, dIn, strD, wipeR, List.getElem?_cons_zero, List.getElem?_cons_succ, List.set_cons_zero, List.set_cons_succ, Option.bind_some, Option.bind_none, Option.map_some, List.length_cons, List.length_nil, List.map_cons, List.map_nil, List.replicate_succ, List.replicate_zero, List.cons_append, List.nil_append, Nat.zero_add, Nat.reduceAdd, Nat.reduceSub, decide_true, Bool.not_true, Bool.not_false, sh, ix, ii, ab, dLt_int, lt])
  have hd : dAll [.lst ((((ps.map (·.1)).map D.str).filter fun _ => true).map fun _ => D.bl true)] = some (.bl true) := by
    rw [List.filter_eq_self.mpr (fun _ _ => rfl)]
    have := dAll_map (fun _ : D => true) ((ps.map (·.1)).map D.str)
    rw [this]
    simp
  unfold m_is_numbers b_is_numbers
  rw [← keys_pk] at hc hd
  simp only [runD, startR, xV, xC, xOp, xUn, xT, xAnd, xOr, xNot, xIf, xAndV, xOrV, xNotV, xCh, xNil, xCons, xTup, xLstN, xL, xCa, xF, xF0, noX, up, x1, xIt, xEn, xNo, xPa, xSl, xM1, xSplit, M.bind, M.ret, M.of, then_ok, then_ex, then_bad, yNx, yRet, yAsg, ySeq, yIf, yFor, yPar, yParK, yRaise, gV, gVt, gVc, gVn, dBl, dIn, strD, wipeR, List.getElem?_cons_zero, List.getElem?_cons_succ, List.set_cons_zero, List.set_cons_succ, Option.bind_some, Option.bind_none, Option.map_some, List.length_cons, List.length_nil, List.map_cons, List.map_nil, List.replicate_succ, List.replicate_zero, List.cons_append, List.nil_append, Nat.zero_add, Nat.reduceAdd, Nat.reduceSub, decide_true, Bool.not_true, Bool.not_false, e1, xLcV, kdsOf, lu, dropOwn, noEx, hc, hd]
end Rk94

namespace Rk94
open PySem L2 Fs TL
theorem shelf_len {w : Str} (h : shelfB w = true) : w.length ≤ 9 := by
  have hp : (plainS w).length ≤ 8 := by
    unfold shelfB nameB at h
    rw [Bool.and_eq_true, Bool.and_eq_true] at h
    exact (of_decide_eq_true h.1.1).2
  unfold plainS at hp
  cases hb : laneB w with
  | true =>
    rw [hb] at hp
    have : (cutTl w).length ≤ 8 := hp
    rw [len_tl, tl_cutTl, List.length_dropLast] at this
    rw [len_tl]; omega
  | false =>
    rw [hb] at hp
    have : w.length ≤ 8 := hp
    omega
theorem whole_len {w : Str} (h : wholeB w = true) : w.length ≤ 61 := by
  obtain ⟨n, _, h2, _, _⟩ := whole_int h
  exact h2
theorem log_small {n : Int} (h : n.natAbs < 10 ^ 60) : decide (n.natAbs.log2 < 1920) = true := by
  apply decide_eq_true
  by_cases h0 : n.natAbs = 0
  · rw [h0]; decide
  · exact Nat.lt_trans ((Nat.log2_lt h0).mpr (Nat.lt_trans h (by decide : (10 : Nat) ^ 60 < 2 ^ 200))) (by decide)
def pairS (p : Str × Str) : Str := Str.empty ++ p.1 ++ " " ++ p.2
theorem sort_asc : ∀ {l : List Str}, List.Pairwise (fun a b => ltS a b = true) l → sortS l = l := fun {l} h => by
  unfold sortS
  apply List.mergeSort_of_pairwise
  refine h.imp fun {a b} hab => ?_
  cases hba : ltS b a with
  | false => rfl
  | true =>
    have := ltS_trans hab hba
    rw [ltS_irr] at this; cases this
theorem strsD_map : ∀ l : List Str, strsD (l.map D.str) = some l
  | [] => rfl
  | x :: l => by
    rw [List.map_cons]
    unfold strsD
    rw [strsD_map l]; rfl
theorem lim_small {n : Nat} (h : n ≤ 1000000) : lim n = true := decide_eq_true h
theorem app_len (a b : Str) : (a ++ b).length = a.length + b.length := by
  rw [len_tl, tl_append, List.length_append, ← len_tl, ← len_tl]
theorem sum_le : ∀ {l : List Nat} {b : Nat}, (∀ x ∈ l, x ≤ b) → l.sum ≤ l.length * b
  | [], _, _ => by simp
  | x :: l, b, h => by
    have h1 := h x (by simp)
    have h2 := sum_le (l := l) fun y hy => h y (List.mem_cons_of_mem _ hy)
    rw [List.sum_cons, List.length_cons, Nat.succ_mul]
    omega
theorem pairs_text_eq {K : PySem.W.Frag} {A : Ad} {ps : List (Str × Str)} (h : Stands ps) (hn : ps.length < 64) (hne : ps ≠ []) : m_pairs_text K A [.dct (ps.map pk)] () = .ok (.str (Txt.join " " (ps.map pairS))) () := by
  have ne : neA (.dct (ps.map pk)) (.dct []) = some (.bl true) := by
    show some (D.bl (!(ps.map pk).isEmpty)) = _
    cases ps with
    | nil => exact absurd rfl hne
    | cons p ps => rfl
  have hl : lim ps.length = true := lim_small (by omega)
  have lu : limU (ps.map pk).length = some () := by
    unfold limU
    rw [List.length_map, hl]
  have c1 := comp_pure (S := Unit) (g := gV 2) (t := fun _ => M.ret true) (e := xCa dStr (xCons (xV 2) xNil)) (ρ := [Sl.val (.dct (ps.map pk)), .no, .no]) (s := ()) (fun _ => true) id ((ps.map (·.1)).map D.str) (fun d hd => by
    obtain ⟨x, hx, rfl⟩ := List.mem_map.mp hd
    refine ⟨_, rfl, rfl, fun _ => ?_⟩
    have : dStr [.str x] = some (.str x) := rfl
    simp only [runD, startR, xV, xC, xOp, xUn, xT, xAnd, xOr, xNot, xIf, xAndV, xOrV, xNotV, xCh, xNil, xCons, xTup, xLstN, xL, xCa, xF, xF0, noX, up, x1, xIt, xEn, xNo, xPa, xSl, xM1, xSplit, M.bind, M.ret, M.of, then_ok, then_ex, then_bad, yNx, yRet, yAsg, ySeq, yIf, yFor, yPar, yParK, yRaise, gV, gVt, gVc, gVn, dBl, dIn, strD, wipeR, List.getElem?_cons_zero, List.getElem?_cons_succ, List.set_cons_zero, List.set_cons_succ, Option.bind_some, Option.bind_none, Option.map_some, List.length_cons, List.length_nil, List.map_cons, List.map_nil, List.replicate_succ, List.replicate_zero, List.cons_append, List.nil_append, Nat.zero_add, Nat.reduceAdd, Nat.reduceSub, decide_true, Bool.not_true, Bool.not_false, this, id])
  rw [List.filter_eq_self.mpr (fun _ _ => rfl), List.map_id] at c1
  have so : dSorted [.lst ((ps.map (·.1)).map D.str)] = some (.lst ((ps.map (·.1)).map D.str)) := by
    unfold dSorted dSorted1
    have : decide ((ps.map (·.1)).length < 64) = true := decide_eq_true (by simpa using hn)
    simp only [strsD_map, this, sort_asc h.2]
  have c2 := comp_pure (S := Unit) (g := gV 1) (t := fun _ => M.ret true) (e := joinR [(xFmt (xV 1)), (xC (.str " ")), (xFmt (xOp dIx (xV 0) (xV 1)))] Str.empty) (ρ := [Sl.val (.dct (ps.map pk)), .no, .no]) (s := ()) (fun _ => true) (fun d => match d with | .str x => .str (Str.empty ++ x ++ " " ++ (match valD (ps.map pk) (.inr x) with | some (.int n) => Str.ofString (toString n) | _ => x)) | d => d) ((ps.map (·.1)).map D.str) (fun d hd => by
    obtain ⟨x, hx, rfl⟩ := List.mem_map.mp hd
    obtain ⟨p, hp, rfl⟩ := List.mem_map.mp hx
    obtain ⟨h1, h2, h3⟩ := h.1 p hp
    have v := val_pk h.2 p hp
    have ix : dIx (.dct (ps.map pk)) (.str p.1) = some (.int (valI p.2)) := by
      show (match keyD (.str p.1) with | some k => valD (ps.map pk) k | none => none) = _
      exact v
    have f1 : fmtD (.str p.1) = some p.1 := by
      unfold fmtD
      simp only [h1]
    have f2 : fmtD (.int (valI p.2)) = some (Str.ofString (toString (valI p.2))) := by
      unfold fmtD
      simp only [log_small (valI_of h3).2.1]
    rw [(valI_of h3).2.2] at f2
    have n1 := shelf_len h2
    have n2 := whole_len h3
    have z0 : (Str.empty : Str).length = 0 := rfl
    have z1 : (" " : Str).length = 1 := by rw [len_tl, spaceS.tl]; rfl
    have u1 : limU (Str.empty ++ p.1).length = some () := by unfold limU; rw [lim_small (by rw [app_len]; omega)]
    have u2 : limU (Str.empty ++ p.1 ++ " ").length = some () := by unfold limU; rw [lim_small (by rw [app_len, app_len]; omega)]
    have u3 : limU (Str.empty ++ p.1 ++ " " ++ p.2).length = some () := by unfold limU; rw [lim_small (by rw [app_len, app_len, app_len]; omega)]
    refine ⟨_, rfl, rfl, fun _ => ?_⟩
    rw [show (match (D.str p.1) with | .str x => D.str (Str.empty ++ x ++ " " ++ (match valD (ps.map pk) (.inr x) with | some (.int n) => Str.ofString (toString n) | _ => x)) | d => d) = D.str (Str.empty ++ p.1 ++ " " ++ p.2) by
      simp only [v, (valI_of h3).2.2]]
    simp only [runD, startR, xV, xC, xOp, xUn, xT, xAnd, xOr, xNot, xIf, xAndV, xOrV, xNotV, xCh, xNil, xCons, xTup, xLstN, xL, xCa, xF, xF0, noX, up, x1, xIt, xEn, xNo, xPa, xSl, xM1, xSplit, M.bind, M.ret, M.of, then_ok, then_ex, then_bad, yNx, yRet, yAsg, ySeq, yIf, yFor, yPar, yParK, yRaise, gV, gVt, gVc, gVn, dBl, dIn, strD, wipeR, List.getElem?_cons_zero, List.getElem?_cons_succ, List.set_cons_zero, List.set_cons_succ, Option.bind_some, Option.bind_none, Option.map_some, List.length_cons, List.length_nil, List.map_cons, List.map_nil, List.replicate_succ, List.replicate_zero, List.cons_append, List.nil_append, Nat.zero_add, Nat.reduceAdd, Nat.reduceSub, decide_true, Bool.not_true, Bool.not_false, joinR, xFmt, f1, f2, ix, u1, u2, u3])
  rw [List.filter_eq_self.mpr (fun _ _ => rfl)] at c2
  have em : (((ps.map (·.1)).map D.str).map (fun d => match d with | .str x => D.str (Str.empty ++ x ++ " " ++ (match valD (ps.map pk) (.inr x) with | some (.int n) => Str.ofString (toString n) | _ => x)) | d => d)) = (ps.map pairS).map D.str := by
    rw [List.map_map, List.map_map, List.map_map]
    apply List.map_congr_left
    intro p hp
    have v := val_pk h.2 p hp
    obtain ⟨h1, h2, h3⟩ := h.1 p hp
    show D.str (Str.empty ++ p.1 ++ " " ++ (match valD (ps.map pk) (.inr p.1) with | some (.int n) => Str.ofString (toString n) | _ => p.1)) = D.str (pairS p)
    rw [v]
    show D.str (Str.empty ++ p.1 ++ " " ++ Str.ofString (toString (valI p.2))) = D.str (pairS p)
    rw [(valI_of h3).2.2]; rfl
  rw [em] at c2
  have jo : joinD " " (.lst ((ps.map pairS).map D.str)) = some (.str (Txt.join " " (ps.map pairS))) := by
    unfold joinD
    show (strsD ((ps.map pairS).map D.str)).bind _ = _
    rw [strsD_map]
    show (match decide _ with | true => some (D.str (Txt.join " " (ps.map pairS))) | false => none) = _
    have z1 : (" " : Str).length = 1 := by rw [len_tl, spaceS.tl]; rfl
    have z0 : (Str.empty : Str).length = 0 := rfl
    have s1 : ((ps.map pairS).map (·.length)).sum ≤ ps.length * 71 := by
      have := sum_le (l := (ps.map pairS).map (·.length)) (b := 71) (fun x hx => by
        obtain ⟨y, hy, rfl⟩ := List.mem_map.mp hx
        obtain ⟨p, hp, rfl⟩ := List.mem_map.mp hy
        obtain ⟨h1, h2, h3⟩ := h.1 p hp
        have n1 := shelf_len h2
        have n2 := whole_len h3
        show (Str.empty ++ p.1 ++ " " ++ p.2).length ≤ 71
        rw [app_len, app_len, app_len]; omega)
      simpa using this
    have : decide (((ps.map pairS).map (·.length)).sum + (ps.map pairS).length * (" " : Str).length ≤ 16777216) = true := decide_eq_true (by rw [z1, List.length_map]; omega)
    rw [this]
  have l1 : lim ((ps.map (·.1)).map D.str).length = true := by simpa using hl
  unfold m_pairs_text b_pairs_text
  simp only [runD, startR, xV, xC, xOp, xUn, xT, xAnd, xOr, xNot, xIf, xAndV, xOrV, xNotV, xCh, xNil, xCons, xTup, xLstN, xL, xCa, xF, xF0, noX, up, x1, xIt, xEn, xNo, xPa, xSl, xM1, xSplit, M.bind, M.ret, M.of, then_ok, then_ex, then_bad, yNx, yRet, yAsg, ySeq, yIf, yFor, yPar, yParK, yRaise, gV, gVt, gVc, gVn, dBl, dIn, strD, wipeR, List.getElem?_cons_zero, List.getElem?_cons_succ, List.set_cons_zero, List.set_cons_succ, Option.bind_some, Option.bind_none, Option.map_some, List.length_cons, List.length_nil, List.map_cons, List.map_nil, List.replicate_succ, List.replicate_zero, List.cons_append, List.nil_append, Nat.zero_add, Nat.reduceAdd, Nat.reduceSub, decide_true, Bool.not_true, Bool.not_false, ne, xLcV, kdsOf, lu, dropOwn, noEx, c1, so, xLc, items, keys_pk, l1, c2, jo]
end Rk94

namespace Rk94
open PySem L2 Fs TL
theorem sgo_stands : ∀ (n : Nat) (ws : List Str), ws.length ≤ n → ∀ (i : Nat) (last : Str), Good ws → decide (i % 2 = 1) = false → decide (ws.length % 2 = 1) = false → sgo i last ws = none → Stands (prw ws) ∧ ∀ p ∈ prw ws, ltS last p.1 = true
  | _, [], _, _, _, _, _, _, _ => ⟨⟨fun p hp => absurd hp (by simp [prw]), by simp [prw]⟩, fun p hp => absurd hp (by simp [prw])⟩
  | _, [w], _, _, _, _, _, h, _ => absurd h (by simp)
  | 0, _ :: _ :: _, h, _, _, _, _, _, _ => absurd h (by simp)
  | n + 1, w :: v :: r, hn, i, last, g, hi, hl, hs => by
    have ho : decide ((i + 1) % 2 = 1) = true := decide_eq_true (by have := of_decide_eq_false hi; omega)
    have h2 : decide ((i + 1 + 1) % 2 = 1) = false := decide_eq_false (by have := of_decide_eq_false hi; omega)
    unfold sgo at hs
    rw [hi] at hs
    cases hq : shelfB w && ltS last w with
    | false => rw [hq] at hs; cases hs
    | true =>
      rw [hq] at hs
      have hs : sgo (i + 1) w (v :: r) = none := hs
      unfold sgo at hs
      rw [ho] at hs
      cases hv : wholeB v with
      | false => rw [hv] at hs; cases hs
      | true =>
        rw [hv] at hs
        obtain ⟨⟨a1, a2⟩, a3⟩ := sgo_stands n r (by simp at hn; omega) (i + 1 + 1) w g.tail.tail h2 (decide_eq_false (by have := of_decide_eq_false hl; simp at this; omega)) hs
        rw [Bool.and_eq_true] at hq
        refine ⟨⟨fun p hp => ?_, ?_⟩, fun p hp => ?_⟩
        · rcases List.mem_cons.mp hp with e | hp
          · rw [e]; exact ⟨(g w (by simp)).1, hq.1, hv⟩
          · exact a1 p hp
        · show List.Pairwise _ (w :: (prw r).map (·.1))
          rw [List.pairwise_cons]
          refine ⟨fun x hx => ?_, a2⟩
          obtain ⟨p, hp, rfl⟩ := List.mem_map.mp hx
          exact a3 p hp
        · rcases List.mem_cons.mp hp with e | hp
          · rw [e]; exact hq.2
          · exact ltS_trans hq.2 (a3 p hp)
theorem join_pairs : ∀ (n : Nat) (ws : List Str), ws.length ≤ n → decide (ws.length % 2 = 1) = false → Str.join " " ((prw ws).map pairS) = Str.join " " ws
  | _, [], _, _ => rfl
  | _, [w], _, h => absurd h (by simp)
  | 0, _ :: _ :: _, h, _ => absurd h (by simp)
  | _, [k, v], _, _ => by
    apply ext_tl
    show tl (pairS (k, v)) = tl (k ++ " " ++ v)
    unfold pairS
    rw [tl_append, tl_append, tl_append, tl_append, tl_append]; rfl
  | _, [_, _, _], _, h => absurd h (by simp)
  | n + 1, k :: v :: k2 :: v2 :: r, hn, hl => by
    have ih := join_pairs n (k2 :: v2 :: r) (by simp at hn ⊢; omega) (decide_eq_false (by have := of_decide_eq_false hl; simp at this ⊢; omega))
    apply ext_tl
    show tl (pairS (k, v) ++ " " ++ Str.join " " ((prw (k2 :: v2 :: r)).map pairS)) = tl (k ++ " " ++ (v ++ " " ++ Str.join " " (k2 :: v2 :: r)))
    rw [ih]
    unfold pairS
    have z : tl (Str.empty) = [] := rfl
    simp only [tl_append, z, List.nil_append, List.append_assoc]
theorem prw_len : ∀ (n : Nat) (ws : List Str), ws.length ≤ n → 2 * (prw ws).length ≤ ws.length
  | _, [], _ => by simp [prw]
  | _, [w], _ => by simp [prw]
  | 0, _ :: _ :: _, h => absurd h (by simp)
  | n + 1, k :: v :: r, hn => by
    have := prw_len n r (by simp at hn; omega)
    simp [prw]; omega
def outS (ps : List (Str × Str)) : Str := match ps with | [] => "-" | _ => Txt.join " " (ps.map pairS)
theorem write_safe_eq {K : PySem.W.Frag} {A : Ad} (k : KT K) (ka : KA K A) (kb : KB K A) {ps : List (Str × Str)} (h : Stands ps) (hn : ps.length < 64) : m_write_safe K A [sObj A (ps.map pk)] () = .ok (.str (outS ps)) () := by
  have c := chk_true ka.safe
  have fd : dFd K "numbers" (sObj A (ps.map pk)) = some (.dct (ps.map pk)) := by
    unfold sObj dFd
    simp only [c]
    rfl
  have nu := is_numbers_eq k kb h (lim_small (by omega) : lim ps.length = true)
  have i1 : dIsk K [sObj A (ps.map pk), .adr A.c_Safe] = some (.bl true) := kb.safe_safe _
  have pt : m_pairs_text K A [.dct (ps.map pk)] () = .ok (.str (outS ps)) () := by
    cases ps with
    | nil =>
      have ne : neA (.dct (([] : List (Str × Str)).map pk)) (.dct []) = some (.bl false) := rfl
      unfold m_pairs_text b_pairs_text
      simp only [runD, startR, xV, xC, xOp, xUn, xT, xAnd, xOr, xNot, xIf, xAndV, xOrV, xNotV, xCh, xNil, xCons, xTup, xLstN, xL, xCa, xF, xF0, noX, up, x1, xIt, xEn, xNo, xPa, xSl, xM1, xSplit, M.bind, M.ret, M.of, then_ok, then_ex, then_bad, yNx, yRet, yAsg, ySeq, yIf, yFor, yPar, yParK, yRaise, gV, gVt, gVc, gVn, dBl, dIn, strD, wipeR, List.getElem?_cons_zero, List.getElem?_cons_succ, List.set_cons_zero, List.set_cons_succ, Option.bind_some, Option.bind_none, Option.map_some, List.length_cons, List.length_nil, List.map_cons, List.map_nil, List.replicate_succ, List.replicate_zero, List.cons_append, List.nil_append, Nat.zero_add, Nat.reduceAdd, Nat.reduceSub, decide_true, Bool.not_true, Bool.not_false, ne]
      rfl
    | cons p ps => exact pairs_text_eq h hn (by simp)
  unfold m_write_safe b_write_safe
  simp only [runD, startR, xV, xC, xOp, xUn, xT, xAnd, xOr, xNot, xIf, xAndV, xOrV, xNotV, xCh, xNil, xCons, xTup, xLstN, xL, xCa, xF, xF0, noX, up, x1, xIt, xEn, xNo, xPa, xSl, xM1, xSplit, M.bind, M.ret, M.of, then_ok, then_ex, then_bad, yNx, yRet, yAsg, ySeq, yIf, yFor, yPar, yParK, yRaise, gV, gVt, gVc, gVn, dBl, dIn, strD, wipeR, List.getElem?_cons_zero, List.getElem?_cons_succ, List.set_cons_zero, List.set_cons_succ, Option.bind_some, Option.bind_none, Option.map_some, List.length_cons, List.length_nil, List.map_cons, List.map_nil, List.replicate_succ, List.replicate_zero, List.cons_append, List.nil_append, Nat.zero_add, Nat.reduceAdd, Nat.reduceSub, decide_true, Bool.not_true, Bool.not_false, i1, fd, nu, pt]
theorem safe_back {K : PySem.W.Frag} {A : Ad} (k : KT K) (ka : KA K A) (kb : KB K A) {t r0 w0 : Str} {rs ws : List Str} (hl : lim t.length = true) (hw : PyData.strOk t = true) (hr : LN t = r0 :: rs) (hs : WD r0 = w0 :: ws) (hn : ws.length < 100) (hd : safeR w0 ws rs = none) :
    m_write_safe K A [sObj A (kdsR w0 ws)] () = .ok (.str t) () := by
  have g1 := good_of lineS hl hw
  rw [show Txt.split t "\n" = LN t from rfl, hr] at g1
  obtain ⟨hl0, hw0⟩ := g1 r0 (List.mem_cons_self ..)
  have g2 := good_of spaceS hl0 hw0
  rw [show Txt.split r0 " " = WD r0 from rfl, hs] at g2
  have b1 := lineS.back t
  rw [show Txt.split t "\n" = LN t from rfl, hr, join_eq] at b1
  have b2 := spaceS.back r0
  rw [show Txt.split r0 " " = WD r0 from rfl, hs, join_eq] at b2
  have er : endD rs = none → t = r0 := fun e => by
    cases rs with
    | nil => exact b1.symm
    | cons _ _ => cases e
  unfold safeR at hd
  unfold kdsR
  cases h0 : decide (w0 = ("-" : Str)) with
  | true =>
    rw [h0] at hd
    cases ws with
    | nil =>
      have := write_safe_eq k ka kb (ps := []) ⟨fun p hp => absurd hp (by simp), by simp⟩ (by simp)
      rw [er hd, ← b2]
      show m_write_safe K A [sObj A ([].map pk)] () = .ok (.str w0) ()
      rw [this, of_decide_eq_true h0]
      rfl
    | cons _ _ => cases hd
  | false =>
    rw [h0] at hd
    cases hg : sgo 0 "" (w0 :: ws) with
    | some j => rw [hg] at hd; cases hd
    | none =>
      rw [hg] at hd
      cases ho : decide ((w0 :: ws).length % 2 = 1) with
      | true => rw [ho] at hd; cases hd
      | false =>
        rw [ho] at hd
        obtain ⟨st, _⟩ := sgo_stands _ (w0 :: ws) (Nat.le_refl _) 0 "" g2 rfl ho hg
        have pl := prw_len _ (w0 :: ws) (Nat.le_refl _)
        have := write_safe_eq k ka kb st (by simp at pl; omega)
        show m_write_safe K A [sObj A (prs (w0 :: ws))] () = _
        rw [prs_eq, this, er hd, ← b2, ← join_pairs _ (w0 :: ws) (Nat.le_refl _) ho, ← join_eq]
        cases ws with
        | nil => exact absurd ho (by simp)
        | cons v r => rfl
end Rk94

namespace Rk94
open PySem L2 Fs TL
def fitB (i : Nat) (w : Str) : Bool := match decide (i = 1) with | true => nameB w | false => shelfB w
def wgo : Nat → List Str → Option Nat
  | _, [] => none
  | i, w :: r => match fitB i w with | true => wgo (i + 1) r | false => some i
def rowR (ws : List Str) : Option Nat := match wgo 0 ws with
  | some k => some k
  | none => (match decide (ws.length < 4) with | true => some ws.length | false => none)
def lgo : Nat → List Str → Option (Nat × Nat)
  | _, [] => none
  | l, r :: rs => match rowR (WD r) with | some k => some (l, k) | none => lgo (l + 1) rs
def stuckR (w0 : Str) (ws : List Str) (r0 : Str) (rs : List Str) : Option (Nat × Nat) := match decide (w0 = ("-" : Str)) with
  | true => (match ws with | [] => endD rs | _ :: _ => some (0, 1))
  | false => lgo 0 (r0 :: rs)
theorem one_dec (i : Nat) : decide (((i : Nat) : Int) = 1) = decide (i = 1) := decide_eq_decide.mpr (by omega)
theorem L_row_loop (K : PySem.W.Frag) (A : Ad) {a0 a1 a3 a4 : Sl} {l : Nat} : ∀ (ws : List Str) (i : Nat) (x y : Sl), Good ws →
    (wgo i ws = none ∧ ∃ x' y', loopD (gVt 2 (gVc (gV 5) (gVc (gV 6) gVn))) (fb_L_stuck_due_1 K A) (numd i (ws.map D.str)) [a0, a1, .val (.int l), a3, a4, x, y] () = .ok (.nx [a0, a1, .val (.int l), a3, a4, x', y']) ()) ∨
    ∃ k : Nat, wgo i ws = some k ∧ loopD (gVt 2 (gVc (gV 5) (gVc (gV 6) gVn))) (fb_L_stuck_due_1 K A) (numd i (ws.map D.str)) [a0, a1, .val (.int l), a3, a4, x, y] () = .ok (.rt (.tup [.int l, .int k])) ()
  | [], i, x, y, _ => .inl ⟨rfl, x, y, rfl⟩
  | w :: ws, i, x, y, g => by
    obtain ⟨hl, hw⟩ := g w (List.mem_cons_self ..)
    have Nm := L_is_name_eq K A w hl hw
    have Sh := L_is_shelf_eq K A w hl hw
    have l2 : lim 2 = true := rfl
    have st : fb_L_stuck_due_1 K A [a0, a1, .val (.int l), a3, a4, .val (.int i), .val (.str w)] () = match fitB i w with
        | true => .ok (.nx [a0, a1, .val (.int l), a3, a4, .val (.int i), .val (.str w)]) ()
        | false => .ok (.rt (.tup [.int l, .int i])) () := by
      unfold fb_L_stuck_due_1 fitB
      cases ho : decide (i = 1) with
      | true =>
        cases hq : nameB w with
        | true => simp only [runD, startR, xV, xC, xOp, xUn, xT, xAnd, xOr, xNot, xIf, xAndV, xOrV, xNotV, xCh, xNil, xCons, xTup, xLstN, xL, xCa, xF, xF0, noX, up, x1, xIt, xEn, xNo, xPa, xSl, xM1, xSplit, M.bind, M.ret, M.of, then_ok, then_ex, then_bad, yNx, yRet, yAsg, ySeq, yIf, yFor, yPar, yParK, yRaise, gV, gVt, gVc, gVn, dBl, dIn, strD, wipeR, List.getElem?_cons_zero, List.getElem?_cons_succ, List.set_cons_zero, List.set_cons_succ, Option.bind_some, Option.bind_none, Option.map_some, List.length_cons, List.length_nil, List.map_cons, List.map_nil, List.replicate_succ, List.replicate_zero, List.cons_append, List.nil_append, Nat.zero_add, Nat.reduceAdd, Nat.reduceSub, decide_true, Bool.not_true, Bool.not_false, dEq_int, one_dec, ho, Nm, hq]
        | false => simp only [runD, startR, xV, xC, xOp, xUn, xT, xAnd, xOr, xNot, xIf, xAndV, xOrV, xNotV, xCh, xNil, xCons, xTup, xLstN, xL, xCa, xF, xF0, noX, up, x1, xIt, xEn, xNo, xPa, xSl, xM1, xSplit, M.bind, M.ret, M.of, then_ok, then_ex, then_bad, yNx, yRet, yAsg, ySeq, yIf, yFor, yPar, yParK, yRaise, gV, gVt, gVc, gVn, dBl, dIn, strD, wipeR, List.getElem?_cons_zero, List.getElem?_cons_succ, List.set_cons_zero, List.set_cons_succ, Option.bind_some, Option.bind_none, Option.map_some, List.length_cons, List.length_nil, List.map_cons, List.map_nil, List.replicate_succ, List.replicate_zero, List.cons_append, List.nil_append, Nat.zero_add, Nat.reduceAdd, Nat.reduceSub, decide_true, Bool.not_true, Bool.not_false, dEq_int, one_dec, ho, Nm, hq, l2]
      | false =>
        cases hq : shelfB w with
        | true => simp only [runD, startR, xV, xC, xOp, xUn, xT, xAnd, xOr, xNot, xIf, xAndV, xOrV, xNotV, xCh, xNil, xCons, xTup, xLstN, xL, xCa, xF, xF0, noX, up, x1, xIt, xEn, xNo, xPa, xSl, xM1, xSplit, M.bind, M.ret, M.of, then_ok, then_ex, then_bad, yNx, yRet, yAsg, ySeq, yIf, yFor, yPar, yParK, yRaise, gV, gVt, gVc, gVn, dBl, dIn, strD, wipeR, List.getElem?_cons_zero, List.getElem?_cons_succ, List.set_cons_zero, List.set_cons_succ, Option.bind_some, Option.bind_none, Option.map_some, List.length_cons, List.length_nil, List.map_cons, List.map_nil, List.replicate_succ, List.replicate_zero, List.cons_append, List.nil_append, Nat.zero_add, Nat.reduceAdd, Nat.reduceSub, decide_true, Bool.not_true, Bool.not_false, dEq_int, one_dec, ho, Sh, hq]
        | false => simp only [runD, startR, xV, xC, xOp, xUn, xT, xAnd, xOr, xNot, xIf, xAndV, xOrV, xNotV, xCh, xNil, xCons, xTup, xLstN, xL, xCa, xF, xF0, noX, up, x1, xIt, xEn, xNo, xPa, xSl, xM1, xSplit, M.bind, M.ret, M.of, then_ok, then_ex, then_bad, yNx, yRet, yAsg, ySeq, yIf, yFor, yPar, yParK, yRaise, gV, gVt, gVc, gVn, dBl, dIn, strD, wipeR, List.getElem?_cons_zero, List.getElem?_cons_succ, List.set_cons_zero, List.set_cons_succ, Option.bind_some, Option.bind_none, Option.map_some, List.length_cons, List.length_nil, List.map_cons, List.map_nil, List.replicate_succ, List.replicate_zero, List.cons_append, List.nil_append, Nat.zero_add, Nat.reduceAdd, Nat.reduceSub, decide_true, Bool.not_true, Bool.not_false, dEq_int, one_dec, ho, Sh, hq, l2]
    show (_ ∧ ∃ x' y', loopD _ _ (.tup [.int i, .str w] :: numd (i + 1) (ws.map D.str)) _ () = _) ∨ ∃ k : Nat, _ ∧ loopD _ _ (.tup [.int i, .str w] :: numd (i + 1) (ws.map D.str)) _ () = _
    unfold loopD wgo
    cases hf : fitB i w with
    | true =>
      rw [hf] at st
      have ih := L_row_loop K A (a0 := a0) (a1 := a1) (a3 := a3) (a4 := a4) (l := l) ws (i + 1) (.val (.int i)) (.val (.str w)) g.tail
      simp only [runD, startR, xV, xC, xOp, xUn, xT, xAnd, xOr, xNot, xIf, xAndV, xOrV, xNotV, xCh, xNil, xCons, xTup, xLstN, xL, xCa, xF, xF0, noX, up, x1, xIt, xEn, xNo, xPa, xSl, xM1, xSplit, M.bind, M.ret, M.of, then_ok, then_ex, then_bad, yNx, yRet, yAsg, ySeq, yIf, yFor, yPar, yParK, yRaise, gV, gVt, gVc, gVn, dBl, dIn, strD, wipeR, List.getElem?_cons_zero, List.getElem?_cons_succ, List.set_cons_zero, List.set_cons_succ, Option.bind_some, Option.bind_none, Option.map_some, List.length_cons, List.length_nil, List.map_cons, List.map_nil, List.replicate_succ, List.replicate_zero, List.cons_append, List.nil_append, Nat.zero_add, Nat.reduceAdd, Nat.reduceSub, decide_true, Bool.not_true, Bool.not_false, st]
      exact ih
    | false =>
      rw [hf] at st
      simp only [runD, startR, xV, xC, xOp, xUn, xT, xAnd, xOr, xNot, xIf, xAndV, xOrV, xNotV, xCh, xNil, xCons, xTup, xLstN, xL, xCa, xF, xF0, noX, up, x1, xIt, xEn, xNo, xPa, xSl, xM1, xSplit, M.bind, M.ret, M.of, then_ok, then_ex, then_bad, yNx, yRet, yAsg, ySeq, yIf, yFor, yPar, yParK, yRaise, gV, gVt, gVc, gVn, dBl, dIn, strD, wipeR, List.getElem?_cons_zero, List.getElem?_cons_succ, List.set_cons_zero, List.set_cons_succ, Option.bind_some, Option.bind_none, Option.map_some, List.length_cons, List.length_nil, List.map_cons, List.map_nil, List.replicate_succ, List.replicate_zero, List.cons_append, List.nil_append, Nat.zero_add, Nat.reduceAdd, Nat.reduceSub, decide_true, Bool.not_true, Bool.not_false, st]
      exact .inr ⟨i, rfl, rfl⟩
theorem four_dec (n : Nat) : decide ((n : Int) < 4) = decide (n < 4) := decide_eq_decide.mpr (by omega)
theorem L_row (K : PySem.W.Frag) (A : Ad) {a0 a1 x4 x5 x6 : Sl} {l : Nat} {r : Str} (hl : lim r.length = true) (hw : PyData.strOk r = true) :
    (rowR (WD r) = none ∧ ∃ y4 y5 y6, fb_L_stuck_due_2 K A [a0, a1, .val (.int l), .val (.str r), x4, x5, x6] () = .ok (.nx [a0, a1, .val (.int l), .val (.str r), y4, y5, y6]) ()) ∨
    ∃ k : Nat, rowR (WD r) = some k ∧ fb_L_stuck_due_2 K A [a0, a1, .val (.int l), .val (.str r), x4, x5, x6] () = .ok (.rt (.tup [.int l, .int k])) () := by
  have sp := spaceS.split r hl
  have g := good_of spaceS hl hw
  rw [show Txt.split r " " = WD r from rfl] at sp g
  generalize WD r = ws at *
  have l2 : lim 2 = true := rfl
  unfold fb_L_stuck_due_2 rowR
  rw [seq_nx (ρ1 := [a0, a1, .val (.int l), .val (.str r), .val (.lst (ws.map D.str)), x5, x6]) (s1 := ()) (by simp only [runD, startR, xV, xC, xOp, xUn, xT, xAnd, xOr, xNot, xIf, xAndV, xOrV, xNotV, xCh, xNil, xCons, xTup, xLstN, xL, xCa, xF, xF0, noX, up, x1, xIt, xEn, xNo, xPa, xSl, xM1, xSplit, M.bind, M.ret, M.of, then_ok, then_ex, then_bad, yNx, yRet, yAsg, ySeq, yIf, yFor, yPar, yParK, yRaise, gV, gVt, gVc, gVn, dBl, dIn, strD, wipeR, List.getElem?_cons_zero, List.getElem?_cons_succ, List.set_cons_zero, List.set_cons_succ, Option.bind_some, Option.bind_none, Option.map_some, List.length_cons, List.length_nil, List.map_cons, List.map_nil, List.replicate_succ, List.replicate_zero, List.cons_append, List.nil_append, Nat.zero_add, Nat.reduceAdd, Nat.reduceSub, decide_true, Bool.not_true, Bool.not_false, sp])]
  rcases L_row_loop K A (a0 := a0) (a1 := a1) (a3 := .val (.str r)) (a4 := .val (.lst (ws.map D.str))) (l := l) ws 0 x5 x6 g with ⟨e1, x, y, e2⟩ | ⟨k, e1, e2⟩
  · rw [e1]
    rw [seq_nx (ρ1 := [a0, a1, .val (.int l), .val (.str r), .val (.lst (ws.map D.str)), x, y]) (s1 := ()) (by rw [for_of (ds := numd 0 (ws.map D.str)) (s1 := ()) (by simp only [runD, startR, xV, xC, xOp, xUn, xT, xAnd, xOr, xNot, xIf, xAndV, xOrV, xNotV, xCh, xNil, xCons, xTup, xLstN, xL, xCa, xF, xF0, noX, up, x1, xIt, xEn, xNo, xPa, xSl, xM1, xSplit, M.bind, M.ret, M.of, then_ok, then_ex, then_bad, yNx, yRet, yAsg, ySeq, yIf, yFor, yPar, yParK, yRaise, gV, gVt, gVc, gVn, dBl, dIn, strD, wipeR, List.getElem?_cons_zero, List.getElem?_cons_succ, List.set_cons_zero, List.set_cons_succ, Option.bind_some, Option.bind_none, Option.map_some, List.length_cons, List.length_nil, List.map_cons, List.map_nil, List.replicate_succ, List.replicate_zero, List.cons_append, List.nil_append, Nat.zero_add, Nat.reduceAdd, Nat.reduceSub, decide_true, Bool.not_true, Bool.not_false, enD])]; exact e2)]
    have fd := four_dec ws.length
    cases ho : decide (ws.length < 4) with
    | true =>
      rw [ho] at fd
      refine .inr ⟨ws.length, rfl, ?_⟩
      simp only [runD, startR, xV, xC, xOp, xUn, xT, xAnd, xOr, xNot, xIf, xAndV, xOrV, xNotV, xCh, xNil, xCons, xTup, xLstN, xL, xCa, xF, xF0, noX, up, x1, xIt, xEn, xNo, xPa, xSl, xM1, xSplit, M.bind, M.ret, M.of, then_ok, then_ex, then_bad, yNx, yRet, yAsg, ySeq, yIf, yFor, yPar, yParK, yRaise, gV, gVt, gVc, gVn, dBl, dIn, strD, wipeR, List.getElem?_cons_zero, List.getElem?_cons_succ, List.set_cons_zero, List.set_cons_succ, Option.bind_some, Option.bind_none, Option.map_some, List.length_cons, List.length_nil, List.map_cons, List.map_nil, List.replicate_succ, List.replicate_zero, List.cons_append, List.nil_append, Nat.zero_add, Nat.reduceAdd, Nat.reduceSub, decide_true, Bool.not_true, Bool.not_false, dLen_lst, List.length_map, dLt_int, fd, l2]
    | false =>
      rw [ho] at fd
      refine .inl ⟨rfl, .val (.lst (ws.map D.str)), x, y, ?_⟩
      simp only [runD, startR, xV, xC, xOp, xUn, xT, xAnd, xOr, xNot, xIf, xAndV, xOrV, xNotV, xCh, xNil, xCons, xTup, xLstN, xL, xCa, xF, xF0, noX, up, x1, xIt, xEn, xNo, xPa, xSl, xM1, xSplit, M.bind, M.ret, M.of, then_ok, then_ex, then_bad, yNx, yRet, yAsg, ySeq, yIf, yFor, yPar, yParK, yRaise, gV, gVt, gVc, gVn, dBl, dIn, strD, wipeR, List.getElem?_cons_zero, List.getElem?_cons_succ, List.set_cons_zero, List.set_cons_succ, Option.bind_some, Option.bind_none, Option.map_some, List.length_cons, List.length_nil, List.map_cons, List.map_nil, List.replicate_succ, List.replicate_zero, List.cons_append, List.nil_append, Nat.zero_add, Nat.reduceAdd, Nat.reduceSub, decide_true, Bool.not_true, Bool.not_false, dLen_lst, List.length_map, dLt_int, fd]
  · rw [e1]
    refine .inr ⟨k, rfl, seq_rt ?_⟩
    rw [for_of (ds := numd 0 (ws.map D.str)) (s1 := ()) (by simp only [runD, startR, xV, xC, xOp, xUn, xT, xAnd, xOr, xNot, xIf, xAndV, xOrV, xNotV, xCh, xNil, xCons, xTup, xLstN, xL, xCa, xF, xF0, noX, up, x1, xIt, xEn, xNo, xPa, xSl, xM1, xSplit, M.bind, M.ret, M.of, then_ok, then_ex, then_bad, yNx, yRet, yAsg, ySeq, yIf, yFor, yPar, yParK, yRaise, gV, gVt, gVc, gVn, dBl, dIn, strD, wipeR, List.getElem?_cons_zero, List.getElem?_cons_succ, List.set_cons_zero, List.set_cons_succ, Option.bind_some, Option.bind_none, Option.map_some, List.length_cons, List.length_nil, List.map_cons, List.map_nil, List.replicate_succ, List.replicate_zero, List.cons_append, List.nil_append, Nat.zero_add, Nat.reduceAdd, Nat.reduceSub, decide_true, Bool.not_true, Bool.not_false, enD])]; exact e2
theorem L_lines_loop (K : PySem.W.Frag) (A : Ad) {a0 a1 : Sl} : ∀ (rs : List Str) (l : Nat) (x2 x3 x4 x5 x6 : Sl), Good rs →
    (lgo l rs = none ∧ ∃ y2 y3 y4 y5 y6, loopD (gVt 2 (gVc (gV 2) (gVc (gV 3) gVn))) (fb_L_stuck_due_2 K A) (numd l (rs.map D.str)) [a0, a1, x2, x3, x4, x5, x6] () = .ok (.nx [a0, a1, y2, y3, y4, y5, y6]) ()) ∨
    ∃ a b : Nat, lgo l rs = some (a, b) ∧ loopD (gVt 2 (gVc (gV 2) (gVc (gV 3) gVn))) (fb_L_stuck_due_2 K A) (numd l (rs.map D.str)) [a0, a1, x2, x3, x4, x5, x6] () = .ok (.rt (.tup [.int a, .int b])) ()
  | [], l, _, _, _, _, _, _ => .inl ⟨rfl, _, _, _, _, _, rfl⟩
  | r :: rs, l, x2, x3, x4, x5, x6, g => by
    obtain ⟨hl, hw⟩ := g r (List.mem_cons_self ..)
    show (_ ∧ ∃ y2 y3 y4 y5 y6, loopD _ _ (.tup [.int l, .str r] :: numd (l + 1) (rs.map D.str)) _ () = _) ∨ ∃ a b : Nat, _ ∧ loopD _ _ (.tup [.int l, .str r] :: numd (l + 1) (rs.map D.str)) _ () = _
    unfold loopD lgo
    rcases L_row K A (a0 := a0) (a1 := a1) (x4 := x4) (x5 := x5) (x6 := x6) (l := l) hl hw with ⟨e1, y4, y5, y6, e2⟩ | ⟨k, e1, e2⟩
    · rw [e1]
      have ih := L_lines_loop K A (a0 := a0) (a1 := a1) rs (l + 1) (.val (.int l)) (.val (.str r)) y4 y5 y6 g.tail
      simp only [runD, startR, xV, xC, xOp, xUn, xT, xAnd, xOr, xNot, xIf, xAndV, xOrV, xNotV, xCh, xNil, xCons, xTup, xLstN, xL, xCa, xF, xF0, noX, up, x1, xIt, xEn, xNo, xPa, xSl, xM1, xSplit, M.bind, M.ret, M.of, then_ok, then_ex, then_bad, yNx, yRet, yAsg, ySeq, yIf, yFor, yPar, yParK, yRaise, gV, gVt, gVc, gVn, dBl, dIn, strD, wipeR, List.getElem?_cons_zero, List.getElem?_cons_succ, List.set_cons_zero, List.set_cons_succ, Option.bind_some, Option.bind_none, Option.map_some, List.length_cons, List.length_nil, List.map_cons, List.map_nil, List.replicate_succ, List.replicate_zero, List.cons_append, List.nil_append, Nat.zero_add, Nat.reduceAdd, Nat.reduceSub, decide_true, Bool.not_true, Bool.not_false, e2]
      exact ih
    · rw [e1]
      simp only [runD, startR, xV, xC, xOp, xUn, xT, xAnd, xOr, xNot, xIf, xAndV, xOrV, xNotV, xCh, xNil, xCons, xTup, xLstN, xL, xCa, xF, xF0, noX, up, x1, xIt, xEn, xNo, xPa, xSl, xM1, xSplit, M.bind, M.ret, M.of, then_ok, then_ex, then_bad, yNx, yRet, yAsg, ySeq, yIf, yFor, yPar, yParK, yRaise, gV, gVt, gVc, gVn, dBl, dIn, strD, wipeR, List.getElem?_cons_zero, List.getElem?_cons_succ, List.set_cons_zero, List.set_cons_succ, Option.bind_some, Option.bind_none, Option.map_some, List.length_cons, List.length_nil, List.map_cons, List.map_nil, List.replicate_succ, List.replicate_zero, List.cons_append, List.nil_append, Nat.zero_add, Nat.reduceAdd, Nat.reduceSub, decide_true, Bool.not_true, Bool.not_false, e2]
      exact .inr ⟨l, k, rfl, rfl⟩
theorem L_stuck_due_eq (K : PySem.W.Frag) (A : Ad) {t r0 w0 : Str} {rs ws : List Str} (hl : lim t.length = true) (hw : PyData.strOk t = true) (hr : LN t = r0 :: rs) (hs : WD r0 = w0 :: ws) : m_L_stuck_due K A [.str t] () = .ok (dD (stuckR w0 ws r0 rs)) () := by
  have g1 := good_of lineS hl hw
  rw [show Txt.split t "\n" = LN t from rfl, hr] at g1
  obtain ⟨hl0, hw0⟩ := g1 r0 (List.mem_cons_self ..)
  have sp1 := lineS.split t hl
  rw [show Txt.split t "\n" = LN t from rfl, hr] at sp1
  have sp2 := spaceS.split r0 hl0
  rw [show Txt.split r0 " " = WD r0 from rfl, hs] at sp2
  have bk := spaceS.back r0
  rw [show Txt.split r0 " " = WD r0 from rfl, hs] at bk
  have l2 : lim 2 = true := rfl
  refine run_rt rfl ?_
  show ySeq _ _ [Sl.val (D.str t), .no, .no, .no, .no, .no, .no] () = _
  rw [seq_nx (ρ1 := [.val (.str t), .val (.lst ((r0 :: rs).map D.str)), .no, .no, .no, .no, .no]) (s1 := ()) (by simp only [runD, startR, xV, xC, xOp, xUn, xT, xAnd, xOr, xNot, xIf, xAndV, xOrV, xNotV, xCh, xNil, xCons, xTup, xLstN, xL, xCa, xF, xF0, noX, up, x1, xIt, xEn, xNo, xPa, xSl, xM1, xSplit, M.bind, M.ret, M.of, then_ok, then_ex, then_bad, yNx, yRet, yAsg, ySeq, yIf, yFor, yPar, yParK, yRaise, gV, gVt, gVc, gVn, dBl, dIn, strD, wipeR, List.getElem?_cons_zero, List.getElem?_cons_succ, List.set_cons_zero, List.set_cons_succ, Option.bind_some, Option.bind_none, Option.map_some, List.length_cons, List.length_nil, List.map_cons, List.map_nil, List.replicate_succ, List.replicate_zero, List.cons_append, List.nil_append, Nat.zero_add, Nat.reduceAdd, Nat.reduceSub, decide_true, Bool.not_true, Bool.not_false, sp1])]
  unfold stuckR
  cases h0 : decide (w0 = ("-" : Str)) with
  | true =>
    refine seq_rt ?_
    cases ws with
    | nil =>
      have er : decide (r0 = ("-" : Str)) = true := by
        rw [← of_decide_eq_true h0]
        exact decide_eq_true bk.symm
      cases rs with
      | nil =>
        have c1 : decide ((1 : Int) < ((0 + 1 : Nat) : Int)) = false := rfl
        simp only [runD, startR, xV, xC, xOp, xUn, xT, xAnd, xOr, xNot, xIf, xAndV, xOrV, xNotV, xCh, xNil, xCons, xTup, xLstN, xL, xCa, xF, xF0, noX, up, x1, xIt, xEn, xNo, xPa, xSl, xM1, xSplit, M.bind, M.ret, M.of, then_ok, then_ex, then_bad, yNx, yRet, yAsg, ySeq, yIf, yFor, yPar, yParK, yRaise, gV, gVt, gVc, gVn, dBl, dIn, strD, wipeR, List.getElem?_cons_zero, List.getElem?_cons_succ, List.set_cons_zero, List.set_cons_succ, Option.bind_some, Option.bind_none, Option.map_some, List.length_cons, List.length_nil, List.map_cons, List.map_nil, List.replicate_succ, List.replicate_zero, List.cons_append, List.nil_append, Nat.zero_add, Nat.reduceAdd, Nat.reduceSub, decide_true, Bool.not_true, Bool.not_false, dIx_lst, atI0, sp2, dEq_str, h0, neA_str, er, dGt_int, dLen_lst, c1]; rfl
      | cons r1 rs =>
        have c2 : decide ((1 : Int) < (((rs.length + 1) + 1 : Nat) : Int)) = true := decide_eq_true (by omega)
        simp only [runD, startR, xV, xC, xOp, xUn, xT, xAnd, xOr, xNot, xIf, xAndV, xOrV, xNotV, xCh, xNil, xCons, xTup, xLstN, xL, xCa, xF, xF0, noX, up, x1, xIt, xEn, xNo, xPa, xSl, xM1, xSplit, M.bind, M.ret, M.of, then_ok, then_ex, then_bad, yNx, yRet, yAsg, ySeq, yIf, yFor, yPar, yParK, yRaise, gV, gVt, gVc, gVn, dBl, dIn, strD, wipeR, List.getElem?_cons_zero, List.getElem?_cons_succ, List.set_cons_zero, List.set_cons_succ, Option.bind_some, Option.bind_none, Option.map_some, List.length_cons, List.length_nil, List.map_cons, List.map_nil, List.replicate_succ, List.replicate_zero, List.cons_append, List.nil_append, Nat.zero_add, Nat.reduceAdd, Nat.reduceSub, decide_true, Bool.not_true, Bool.not_false, dIx_lst, atI0, sp2, dEq_str, h0, neA_str, er, dGt_int, dLen_lst, List.length_map, c2, l2]; rfl
    | cons w1 ws =>
      have er : decide (r0 = ("-" : Str)) = false := by
        apply decide_eq_false
        intro e
        have h := spaceS.whole ("-" : Str) (by rw [tl_ofString]; decide)
        rw [← e, show Txt.split r0 " " = WD r0 from rfl, hs] at h
        injection h with h1 h2
        cases h2
      simp only [runD, startR, xV, xC, xOp, xUn, xT, xAnd, xOr, xNot, xIf, xAndV, xOrV, xNotV, xCh, xNil, xCons, xTup, xLstN, xL, xCa, xF, xF0, noX, up, x1, xIt, xEn, xNo, xPa, xSl, xM1, xSplit, M.bind, M.ret, M.of, then_ok, then_ex, then_bad, yNx, yRet, yAsg, ySeq, yIf, yFor, yPar, yParK, yRaise, gV, gVt, gVc, gVn, dBl, dIn, strD, wipeR, List.getElem?_cons_zero, List.getElem?_cons_succ, List.set_cons_zero, List.set_cons_succ, Option.bind_some, Option.bind_none, Option.map_some, List.length_cons, List.length_nil, List.map_cons, List.map_nil, List.replicate_succ, List.replicate_zero, List.cons_append, List.nil_append, Nat.zero_add, Nat.reduceAdd, Nat.reduceSub, decide_true, Bool.not_true, Bool.not_false, dIx_lst, atI0, sp2, dEq_str, h0, neA_str, er, l2]; rfl
  | false =>
    rw [seq_nx (ρ1 := [.val (.str t), .val (.lst ((r0 :: rs).map D.str)), .no, .no, .no, .no, .no]) (s1 := ()) (by simp only [runD, startR, xV, xC, xOp, xUn, xT, xAnd, xOr, xNot, xIf, xAndV, xOrV, xNotV, xCh, xNil, xCons, xTup, xLstN, xL, xCa, xF, xF0, noX, up, x1, xIt, xEn, xNo, xPa, xSl, xM1, xSplit, M.bind, M.ret, M.of, then_ok, then_ex, then_bad, yNx, yRet, yAsg, ySeq, yIf, yFor, yPar, yParK, yRaise, gV, gVt, gVc, gVn, dBl, dIn, strD, wipeR, List.getElem?_cons_zero, List.getElem?_cons_succ, List.set_cons_zero, List.set_cons_succ, Option.bind_some, Option.bind_none, Option.map_some, List.length_cons, List.length_nil, List.map_cons, List.map_nil, List.replicate_succ, List.replicate_zero, List.cons_append, List.nil_append, Nat.zero_add, Nat.reduceAdd, Nat.reduceSub, decide_true, Bool.not_true, Bool.not_false, dIx_lst, atI0, sp2, dEq_str, h0])]
    rcases L_lines_loop K A (a0 := .val (.str t)) (a1 := .val (.lst ((r0 :: rs).map D.str))) (r0 :: rs) 0 .no .no .no .no .no g1 with ⟨e1, y2, y3, y4, y5, y6, e2⟩ | ⟨a, b, e1, e2⟩
    · rw [e1]
      rw [seq_nx (ρ1 := [.val (.str t), .val (.lst ((r0 :: rs).map D.str)), y2, y3, y4, y5, y6]) (s1 := ()) (by rw [for_of (ds := numd 0 ((r0 :: rs).map D.str)) (s1 := ()) (by simp only [runD, startR, xV, xC, xOp, xUn, xT, xAnd, xOr, xNot, xIf, xAndV, xOrV, xNotV, xCh, xNil, xCons, xTup, xLstN, xL, xCa, xF, xF0, noX, up, x1, xIt, xEn, xNo, xPa, xSl, xM1, xSplit, M.bind, M.ret, M.of, then_ok, then_ex, then_bad, yNx, yRet, yAsg, ySeq, yIf, yFor, yPar, yParK, yRaise, gV, gVt, gVc, gVn, dBl, dIn, strD, wipeR, List.getElem?_cons_zero, List.getElem?_cons_succ, List.set_cons_zero, List.set_cons_succ, Option.bind_some, Option.bind_none, Option.map_some, List.length_cons, List.length_nil, List.map_cons, List.map_nil, List.replicate_succ, List.replicate_zero, List.cons_append, List.nil_append, Nat.zero_add, Nat.reduceAdd, Nat.reduceSub, decide_true, Bool.not_true, Bool.not_false, enD])]; exact e2)]
      simp only [runD, startR, xV, xC, xOp, xUn, xT, xAnd, xOr, xNot, xIf, xAndV, xOrV, xNotV, xCh, xNil, xCons, xTup, xLstN, xL, xCa, xF, xF0, noX, up, x1, xIt, xEn, xNo, xPa, xSl, xM1, xSplit, M.bind, M.ret, M.of, then_ok, then_ex, then_bad, yNx, yRet, yAsg, ySeq, yIf, yFor, yPar, yParK, yRaise, gV, gVt, gVc, gVn, dBl, dIn, strD, wipeR, List.getElem?_cons_zero, List.getElem?_cons_succ, List.set_cons_zero, List.set_cons_succ, Option.bind_some, Option.bind_none, Option.map_some, List.length_cons, List.length_nil, List.map_cons, List.map_nil, List.replicate_succ, List.replicate_zero, List.cons_append, List.nil_append, Nat.zero_add, Nat.reduceAdd, Nat.reduceSub, decide_true, Bool.not_true, Bool.not_false]
      rfl
    · rw [e1]
      refine seq_rt ?_
      rw [for_of (ds := numd 0 ((r0 :: rs).map D.str)) (s1 := ()) (by simp only [runD, startR, xV, xC, xOp, xUn, xT, xAnd, xOr, xNot, xIf, xAndV, xOrV, xNotV, xCh, xNil, xCons, xTup, xLstN, xL, xCa, xF, xF0, noX, up, x1, xIt, xEn, xNo, xPa, xSl, xM1, xSplit, M.bind, M.ret, M.of, then_ok, then_ex, then_bad, yNx, yRet, yAsg, ySeq, yIf, yFor, yPar, yParK, yRaise, gV, gVt, gVc, gVn, dBl, dIn, strD, wipeR, List.getElem?_cons_zero, List.getElem?_cons_succ, List.set_cons_zero, List.set_cons_succ, Option.bind_some, Option.bind_none, Option.map_some, List.length_cons, List.length_nil, List.map_cons, List.map_nil, List.replicate_succ, List.replicate_zero, List.cons_append, List.nil_append, Nat.zero_add, Nat.reduceAdd, Nat.reduceSub, decide_true, Bool.not_true, Bool.not_false, enD])]; exact e2
end Rk94

namespace Rk94
open PySem L2 Fs TL
theorem row_loop (K : PySem.W.Frag) (A : Ad) (k : KT K) {a1 : Sl} {l : Nat} : ∀ (ws : List Str) (i : Nat) (x y : Sl), Good ws →
    (wgo i ws = none ∧ ∃ x' y', loopD (gVt 2 (gVc (gV 2) (gVc (gV 3) gVn))) (fb_read_fill_1 K A) (numd i (ws.map D.str)) [.val (.int l), a1, x, y] () = .ok (.nx [.val (.int l), a1, x', y']) ()) ∨
    ∃ j : Nat, wgo i ws = some j ∧ loopD (gVt 2 (gVc (gV 2) (gVc (gV 3) gVn))) (fb_read_fill_1 K A) (numd i (ws.map D.str)) [.val (.int l), a1, x, y] () = .ex A.c_BadText [(("word" : Str), .int j), (("line" : Str), .int l)] ()
  | [], i, x, y, _ => .inl ⟨rfl, x, y, rfl⟩
  | w :: ws, i, x, y, g => by
    obtain ⟨hl, hw⟩ := g w (List.mem_cons_self ..)
    have Nm := is_name_eq K k A w hl
    have Sh := is_shelf_eq K k A w hl
    have st : fb_read_fill_1 K A [.val (.int l), a1, .val (.int i), .val (.str w)] () = match fitB i w with
        | true => .ok (.nx [.val (.int l), a1, .val (.int i), .val (.str w)]) ()
        | false => .ex A.c_BadText [(("word" : Str), .int i), (("line" : Str), .int l)] () := by
      unfold fb_read_fill_1 fitB
      cases ho : decide (i = 1) with
      | true =>
        cases hq : nameB w with
        | true => simp only [runD, startR, xV, xC, xOp, xUn, xT, xAnd, xOr, xNot, xIf, xAndV, xOrV, xNotV, xCh, xNil, xCons, xTup, xLstN, xL, xCa, xF, xF0, noX, up, x1, xIt, xEn, xNo, xPa, xSl, xM1, xSplit, M.bind, M.ret, M.of, then_ok, then_ex, then_bad, yNx, yRet, yAsg, ySeq, yIf, yFor, yPar, yParK, yRaise, gV, gVt, gVc, gVn, dBl, dIn, strD, wipeR, List.getElem?_cons_zero, List.getElem?_cons_succ, List.set_cons_zero, List.set_cons_succ, Option.bind_some, Option.bind_none, Option.map_some, List.length_cons, List.length_nil, List.map_cons, List.map_nil, List.replicate_succ, List.replicate_zero, List.cons_append, List.nil_append, Nat.zero_add, Nat.reduceAdd, Nat.reduceSub, decide_true, Bool.not_true, Bool.not_false, dEq_int, one_dec, ho, Nm, hq]
        | false =>
          simp only [runD, startR, xV, xC, xOp, xUn, xT, xAnd, xOr, xNot, xIf, xAndV, xOrV, xNotV, xCh, xNil, xCons, xTup, xLstN, xL, xCa, xF, xF0, noX, up, x1, xIt, xEn, xNo, xPa, xSl, xM1, xSplit, M.bind, M.ret, M.of, then_ok, then_ex, then_bad, yNx, yRet, yAsg, ySeq, yIf, yFor, yPar, yParK, yRaise, gV, gVt, gVc, gVn, dBl, dIn, strD, wipeR, List.getElem?_cons_zero, List.getElem?_cons_succ, List.set_cons_zero, List.set_cons_succ, Option.bind_some, Option.bind_none, Option.map_some, List.length_cons, List.length_nil, List.map_cons, List.map_nil, List.replicate_succ, List.replicate_zero, List.cons_append, List.nil_append, Nat.zero_add, Nat.reduceAdd, Nat.reduceSub, decide_true, Bool.not_true, Bool.not_false, dEq_int, one_dec, ho, Nm, hq]
          rfl
      | false =>
        cases hq : shelfB w with
        | true => simp only [runD, startR, xV, xC, xOp, xUn, xT, xAnd, xOr, xNot, xIf, xAndV, xOrV, xNotV, xCh, xNil, xCons, xTup, xLstN, xL, xCa, xF, xF0, noX, up, x1, xIt, xEn, xNo, xPa, xSl, xM1, xSplit, M.bind, M.ret, M.of, then_ok, then_ex, then_bad, yNx, yRet, yAsg, ySeq, yIf, yFor, yPar, yParK, yRaise, gV, gVt, gVc, gVn, dBl, dIn, strD, wipeR, List.getElem?_cons_zero, List.getElem?_cons_succ, List.set_cons_zero, List.set_cons_succ, Option.bind_some, Option.bind_none, Option.map_some, List.length_cons, List.length_nil, List.map_cons, List.map_nil, List.replicate_succ, List.replicate_zero, List.cons_append, List.nil_append, Nat.zero_add, Nat.reduceAdd, Nat.reduceSub, decide_true, Bool.not_true, Bool.not_false, dEq_int, one_dec, ho, Sh, hq]
        | false =>
          simp only [runD, startR, xV, xC, xOp, xUn, xT, xAnd, xOr, xNot, xIf, xAndV, xOrV, xNotV, xCh, xNil, xCons, xTup, xLstN, xL, xCa, xF, xF0, noX, up, x1, xIt, xEn, xNo, xPa, xSl, xM1, xSplit, M.bind, M.ret, M.of, then_ok, then_ex, then_bad, yNx, yRet, yAsg, ySeq, yIf, yFor, yPar, yParK, yRaise, gV, gVt, gVc, gVn, dBl, dIn, strD, wipeR, List.getElem?_cons_zero, List.getElem?_cons_succ, List.set_cons_zero, List.set_cons_succ, Option.bind_some, Option.bind_none, Option.map_some, List.length_cons, List.length_nil, List.map_cons, List.map_nil, List.replicate_succ, List.replicate_zero, List.cons_append, List.nil_append, Nat.zero_add, Nat.reduceAdd, Nat.reduceSub, decide_true, Bool.not_true, Bool.not_false, dEq_int, one_dec, ho, Sh, hq]
          rfl
    show (_ ∧ ∃ x' y', loopD _ _ (.tup [.int i, .str w] :: numd (i + 1) (ws.map D.str)) _ () = _) ∨ ∃ k : Nat, _ ∧ loopD _ _ (.tup [.int i, .str w] :: numd (i + 1) (ws.map D.str)) _ () = _
    unfold loopD wgo
    cases hf : fitB i w with
    | true =>
      rw [hf] at st
      have ih := row_loop K A k (a1 := a1) (l := l) ws (i + 1) (.val (.int i)) (.val (.str w)) g.tail
      simp only [runD, startR, xV, xC, xOp, xUn, xT, xAnd, xOr, xNot, xIf, xAndV, xOrV, xNotV, xCh, xNil, xCons, xTup, xLstN, xL, xCa, xF, xF0, noX, up, x1, xIt, xEn, xNo, xPa, xSl, xM1, xSplit, M.bind, M.ret, M.of, then_ok, then_ex, then_bad, yNx, yRet, yAsg, ySeq, yIf, yFor, yPar, yParK, yRaise, gV, gVt, gVc, gVn, dBl, dIn, strD, wipeR, List.getElem?_cons_zero, List.getElem?_cons_succ, List.set_cons_zero, List.set_cons_succ, Option.bind_some, Option.bind_none, Option.map_some, List.length_cons, List.length_nil, List.map_cons, List.map_nil, List.replicate_succ, List.replicate_zero, List.cons_append, List.nil_append, Nat.zero_add, Nat.reduceAdd, Nat.reduceSub, decide_true, Bool.not_true, Bool.not_false, st]
      exact ih
    | false =>
      rw [hf] at st
      simp only [runD, startR, xV, xC, xOp, xUn, xT, xAnd, xOr, xNot, xIf, xAndV, xOrV, xNotV, xCh, xNil, xCons, xTup, xLstN, xL, xCa, xF, xF0, noX, up, x1, xIt, xEn, xNo, xPa, xSl, xM1, xSplit, M.bind, M.ret, M.of, then_ok, then_ex, then_bad, yNx, yRet, yAsg, ySeq, yIf, yFor, yPar, yParK, yRaise, gV, gVt, gVc, gVn, dBl, dIn, strD, wipeR, List.getElem?_cons_zero, List.getElem?_cons_succ, List.set_cons_zero, List.set_cons_succ, Option.bind_some, Option.bind_none, Option.map_some, List.length_cons, List.length_nil, List.map_cons, List.map_nil, List.replicate_succ, List.replicate_zero, List.cons_append, List.nil_append, Nat.zero_add, Nat.reduceAdd, Nat.reduceSub, decide_true, Bool.not_true, Bool.not_false, st]
      exact .inr ⟨i, rfl, rfl⟩
structure KC (K : PySem.W.Frag) (A : Ad) : Prop where
  fill : Cls K A.c_Fill ∧ NoAttr K A.c_Fill "shelf" ∧ NoAttr K A.c_Fill "flow" ∧ NoAttr K A.c_Fill "way" ∧ NoAttr K A.c_Fill "want"
  stuck : Cls K A.c_Stuck ∧ NoAttr K A.c_Stuck "fills"
def fObj (A : Ad) (a b : Str) (way : List Str) (c : Str) : D := .obj A.c_Fill [(("shelf" : Str), .str a), (("flow" : Str), .str b), (("way" : Str), .tup (way.map D.str)), (("want" : Str), .str c)]
theorem mk_fill {K : PySem.W.Frag} {A : Ad} (kc : KC K A) (a b d c : D) : runI A.c_Fill 4 4 (b_FillU_initU K A) [a, b, d, c] () = .ok (.obj A.c_Fill [(("shelf" : Str), a), (("flow" : Str), b), (("way" : Str), d), (("want" : Str), c)]) () := by
  obtain ⟨h0, h1, h2, h3, h4⟩ := kc.fill
  have c1 := chk_true (And.intro h0 h1)
  have c2 := chk_true (And.intro h0 h2)
  have c3 := chk_true (And.intro h0 h3)
  have c4 := chk_true (And.intro h0 h4)
  have l0 : decide (0 < 900) = true := rfl
  have l1 : decide (0 + 1 < 900) = true := rfl
  have l2 : decide (0 + 1 + 1 < 900) = true := rfl
  have l3 : decide (0 + 1 + 1 + 1 < 900) = true := rfl
  have n1 : ¬ (("shelf" : Str) = "flow") := by decide +kernel
  have n2 : ¬ (("shelf" : Str) = "way") := by decide +kernel
  have n3 : ¬ (("flow" : Str) = "way") := by decide +kernel
  have n4 : ¬ (("shelf" : Str) = "want") := by decide +kernel
  have n5 : ¬ (("flow" : Str) = "want") := by decide +kernel
  have n6 : ¬ (("way" : Str) = "want") := by decide +kernel
  unfold b_FillU_initU
  simp only [runD, startR, xV, xC, xOp, xUn, xT, xAnd, xOr, xNot, xIf, xAndV, xOrV, xNotV, xCh, xNil, xCons, xTup, xLstN, xL, xCa, xF, xF0, noX, up, x1, xIt, xEn, xNo, xPa, xSl, xM1, xSplit, M.bind, M.ret, M.of, then_ok, then_ex, then_bad, yNx, yRet, yAsg, ySeq, yIf, yFor, yPar, yParK, yRaise, gV, gVt, gVc, gVn, dBl, dIn, strD, wipeR, List.getElem?_cons_zero, List.getElem?_cons_succ, List.set_cons_zero, List.set_cons_succ, Option.bind_some, Option.bind_none, Option.map_some, List.length_cons, List.length_nil, List.map_cons, List.map_nil, List.replicate_succ, List.replicate_zero, List.cons_append, List.nil_append, Nat.zero_add, Nat.reduceAdd, Nat.reduceSub, decide_true, Bool.not_true, Bool.not_false, runI, ySetF, ownI, putO, c1, c2, c3, c4, l0, l1, l2, l3, Bool.and_self, putFD, initOut, if_neg n1, if_neg n2, if_neg n3, if_neg n4, if_neg n5, if_neg n6]
theorem mk_stuck {K : PySem.W.Frag} {A : Ad} (kc : KC K A) (d : D) : runI A.c_Stuck 1 1 (b_StuckU_initU K A) [d] () = .ok (.obj A.c_Stuck [(("fills" : Str), d)]) () := by
  have c := chk_true kc.stuck
  have l : decide (0 < 900) = true := rfl
  unfold b_StuckU_initU
  simp only [runD, startR, xV, xC, xOp, xUn, xT, xAnd, xOr, xNot, xIf, xAndV, xOrV, xNotV, xCh, xNil, xCons, xTup, xLstN, xL, xCa, xF, xF0, noX, up, x1, xIt, xEn, xNo, xPa, xSl, xM1, xSplit, M.bind, M.ret, M.of, then_ok, then_ex, then_bad, yNx, yRet, yAsg, ySeq, yIf, yFor, yPar, yParK, yRaise, gV, gVt, gVc, gVn, dBl, dIn, strD, wipeR, List.getElem?_cons_zero, List.getElem?_cons_succ, List.set_cons_zero, List.set_cons_succ, Option.bind_some, Option.bind_none, Option.map_some, List.length_cons, List.length_nil, List.map_cons, List.map_nil, List.replicate_succ, List.replicate_zero, List.cons_append, List.nil_append, Nat.zero_add, Nat.reduceAdd, Nat.reduceSub, decide_true, Bool.not_true, Bool.not_false, runI, ySetF, ownI, putO, c, l, Bool.and_self, putFD, initOut]
/-- the fill that four words or more tell -/
def fillD (A : Ad) : List Str → D
  | a :: b :: c :: way => fObj A a b way c
  | _ => .non
theorem read_fill_eq {K : PySem.W.Frag} {A : Ad} (k : KT K) (kc : KC K A) {l : Nat} {ws : List Str} (g : Good ws) : m_read_fill K A [.int l, .lst (ws.map D.str)] () = match rowR ws with
    | some j => btx A l j
    | none => .ok (fillD A ws) () := by
  unfold m_read_fill
  rw [run_fin rfl]
  unfold b_read_fill rowR
  show fin (ySeq _ _ [Sl.val (.int l), Sl.val (.lst (ws.map D.str)), .no, .no] ()) = _
  rcases row_loop K A k (a1 := .val (.lst (ws.map D.str))) (l := l) ws 0 .no .no g with ⟨e1, x, y, e2⟩ | ⟨j, e1, e2⟩
  · rw [e1]
    rw [seq_nx (ρ1 := [.val (.int l), .val (.lst (ws.map D.str)), x, y]) (s1 := ()) (by rw [for_of (ds := numd 0 (ws.map D.str)) (s1 := ()) (by simp only [runD, startR, xV, xC, xOp, xUn, xT, xAnd, xOr, xNot, xIf, xAndV, xOrV, xNotV, xCh, xNil, xCons, xTup, xLstN, xL, xCa, xF, xF0, noX, up, x1, xIt, xEn, xNo, xPa, xSl, xM1, xSplit, M.bind, M.ret, M.of, then_ok, then_ex, then_bad, yNx, yRet, yAsg, ySeq, yIf, yFor, yPar, yParK, yRaise, gV, gVt, gVc, gVn, dBl, dIn, strD, wipeR, List.getElem?_cons_zero, List.getElem?_cons_succ, List.set_cons_zero, List.set_cons_succ, Option.bind_some, Option.bind_none, Option.map_some, List.length_cons, List.length_nil, List.map_cons, List.map_nil, List.replicate_succ, List.replicate_zero, List.cons_append, List.nil_append, Nat.zero_add, Nat.reduceAdd, Nat.reduceSub, decide_true, Bool.not_true, Bool.not_false, enD])]; exact e2)]
    have fd := four_dec ws.length
    cases ho : decide (ws.length < 4) with
    | true =>
      rw [ho] at fd
      simp only [runD, startR, xV, xC, xOp, xUn, xT, xAnd, xOr, xNot, xIf, xAndV, xOrV, xNotV, xCh, xNil, xCons, xTup, xLstN, xL, xCa, xF, xF0, noX, up, x1, xIt, xEn, xNo, xPa, xSl, xM1, xSplit, M.bind, M.ret, M.of, then_ok, then_ex, then_bad, yNx, yRet, yAsg, ySeq, yIf, yFor, yPar, yParK, yRaise, gV, gVt, gVc, gVn, dBl, dIn, strD, wipeR, List.getElem?_cons_zero, List.getElem?_cons_succ, List.set_cons_zero, List.set_cons_succ, Option.bind_some, Option.bind_none, Option.map_some, List.length_cons, List.length_nil, List.map_cons, List.map_nil, List.replicate_succ, List.replicate_zero, List.cons_append, List.nil_append, Nat.zero_add, Nat.reduceAdd, Nat.reduceSub, decide_true, Bool.not_true, Bool.not_false, dLen_lst, List.length_map, dLt_int, fd]
      rfl
    | false =>
      rw [ho] at fd
      have h4 := of_decide_eq_false ho
      obtain ⟨a, b, c, d, r, rfl⟩ : ∃ a b c d r, ws = a :: b :: c :: d :: r := by
        match ws, h4 with
        | a :: b :: c :: d :: r, _ => exact ⟨a, b, c, d, r, rfl⟩
        | [], h => exact absurd (by simp) h
        | [_], h => exact absurd (by simp) h
        | [_, _], h => exact absurd (by simp) h
        | [_, _, _], h => exact absurd (by simp) h
      have i0 : atI ((a :: b :: c :: d :: r).map D.str) 0 = some (.str a) := atI0
      have i1 : atI ((a :: b :: c :: d :: r).map D.str) 1 = some (.str b) := atI_nat _ 1
      have i2 : atI ((a :: b :: c :: d :: r).map D.str) 2 = some (.str c) := atI_nat _ 2
      have sl : dSl (.lst ((a :: b :: c :: d :: r).map D.str)) (some 3) none = some (.lst ((d :: r).map D.str)) := by
        unfold dSl cutD
        have e1 : HT.sIx ((a :: b :: c :: d :: r).map D.str).length 0 (some 3) = 3 := by
          have := HT.sIx_nat ((a :: b :: c :: d :: r).map D.str).length 0 3
          rw [show (some 3 : Option Int) = some ((3 : Nat) : Int) from rfl, this]
          simp
        have e2 : HT.sIx ((a :: b :: c :: d :: r).map D.str).length ((a :: b :: c :: d :: r).map D.str).length none = r.length + 4 := by simp [HT.sIx]
        simp only [e1, e2]
        simp
        exact List.take_of_length_le (by simp)
      have tp : dTup [.lst ((d :: r).map D.str)] = some (.tup ((d :: r).map D.str)) := rfl
      have mk := mk_fill kc (.str a) (.str b) (.tup ((d :: r).map D.str)) (.str c)
      rw [seq_nx (ρ1 := [.val (.int l), .val (.lst ((a :: b :: c :: d :: r).map D.str)), x, y]) (s1 := ()) (by simp only [runD, startR, xV, xC, xOp, xUn, xT, xAnd, xOr, xNot, xIf, xAndV, xOrV, xNotV, xCh, xNil, xCons, xTup, xLstN, xL, xCa, xF, xF0, noX, up, x1, xIt, xEn, xNo, xPa, xSl, xM1, xSplit, M.bind, M.ret, M.of, then_ok, then_ex, then_bad, yNx, yRet, yAsg, ySeq, yIf, yFor, yPar, yParK, yRaise, gV, gVt, gVc, gVn, dBl, dIn, strD, wipeR, List.getElem?_cons_zero, List.getElem?_cons_succ, List.set_cons_zero, List.set_cons_succ, Option.bind_some, Option.bind_none, Option.map_some, List.length_cons, List.length_nil, List.map_cons, List.map_nil, List.replicate_succ, List.replicate_zero, List.cons_append, List.nil_append, Nat.zero_add, Nat.reduceAdd, Nat.reduceSub, decide_true, Bool.not_true, Bool.not_false, dLen_lst, List.length_map, dLt_int]; simp only [List.length_cons] at fd; simp only [fd]; rfl)]
      simp only [List.map_cons] at i0 i1 i2 sl tp mk
      simp only [runD, startR, xV, xC, xOp, xUn, xT, xAnd, xOr, xNot, xIf, xAndV, xOrV, xNotV, xCh, xNil, xCons, xTup, xLstN, xL, xCa, xF, xF0, noX, up, x1, xIt, xEn, xNo, xPa, xSl, xM1, xSplit, M.bind, M.ret, M.of, then_ok, then_ex, then_bad, yNx, yRet, yAsg, ySeq, yIf, yFor, yPar, yParK, yRaise, gV, gVt, gVc, gVn, dBl, dIn, strD, wipeR, List.getElem?_cons_zero, List.getElem?_cons_succ, List.set_cons_zero, List.set_cons_succ, Option.bind_some, Option.bind_none, Option.map_some, List.length_cons, List.length_nil, List.map_cons, List.map_nil, List.replicate_succ, List.replicate_zero, List.cons_append, List.nil_append, Nat.zero_add, Nat.reduceAdd, Nat.reduceSub, decide_true, Bool.not_true, Bool.not_false, dIx_lst, i0, i1, i2, sl, tp, mk]
      rfl
  · rw [e1]
    rw [seq_ex (c := A.c_BadText) (fs := [(("word" : Str), .int j), (("line" : Str), .int l)]) (s1 := ()) (by rw [for_of (ds := numd 0 (ws.map D.str)) (s1 := ()) (by simp only [runD, startR, xV, xC, xOp, xUn, xT, xAnd, xOr, xNot, xIf, xAndV, xOrV, xNotV, xCh, xNil, xCons, xTup, xLstN, xL, xCa, xF, xF0, noX, up, x1, xIt, xEn, xNo, xPa, xSl, xM1, xSplit, M.bind, M.ret, M.of, then_ok, then_ex, then_bad, yNx, yRet, yAsg, ySeq, yIf, yFor, yPar, yParK, yRaise, gV, gVt, gVc, gVn, dBl, dIn, strD, wipeR, List.getElem?_cons_zero, List.getElem?_cons_succ, List.set_cons_zero, List.set_cons_succ, Option.bind_some, Option.bind_none, Option.map_some, List.length_cons, List.length_nil, List.map_cons, List.map_nil, List.replicate_succ, List.replicate_zero, List.cons_append, List.nil_append, Nat.zero_add, Nat.reduceAdd, Nat.reduceSub, decide_true, Bool.not_true, Bool.not_false, enD])]; exact e2)]
    rfl
end Rk94

namespace Rk94
open PySem L2 Fs TL
def btL (A : Ad) (a b : Nat) : Res Unit (List D) := .ex A.c_BadText [(("word" : Str), .int b), (("line" : Str), .int a)] ()
def linesR (A : Ad) (l : Nat) (rs : List Str) : Res Unit (List D) := match lgo l rs with
  | some (a, b) => btL A a b
  | none => .ok (rs.map fun r => fillD A (WD r)) ()
theorem lines_comp {K : PySem.W.Frag} {A : Ad} (k : KT K) (kc : KC K A) {a0 a1 : Sl} : ∀ (rs : List Str) (l : Nat), Good rs →
    compD (gVt 2 (gVc (gV 2) (gVc (gV 3) gVn))) (fun _ => M.ret true) (xF (m_read_fill K A) (xCons (xV 2) (xCons (xL (xSplit (xV 3) (xC (.str " ")))) xNil))) [a0, a1, .no, .no] (numd l (rs.map D.str)) () = linesR A l rs
  | [], l, _ => rfl
  | r :: rs, l, g => by
    obtain ⟨hl, hw⟩ := g r (List.mem_cons_self ..)
    have sp := spaceS.split r hl
    have rf := read_fill_eq k kc (l := l) (good_of spaceS hl hw)
    rw [show Txt.split r " " = WD r from rfl] at sp rf
    have ih := lines_comp k kc (a0 := a0) (a1 := a1) rs (l + 1) g.tail
    show compD _ _ _ _ (.tup [.int l, .str r] :: numd (l + 1) (rs.map D.str)) () = _
    unfold compD linesR lgo
    cases hr : rowR (WD r) with
    | some j =>
      rw [hr] at rf
      simp only [runD, startR, xV, xC, xOp, xUn, xT, xAnd, xOr, xNot, xIf, xAndV, xOrV, xNotV, xCh, xNil, xCons, xTup, xLstN, xL, xCa, xF, xF0, noX, up, x1, xIt, xEn, xNo, xPa, xSl, xM1, xSplit, M.bind, M.ret, M.of, then_ok, then_ex, then_bad, yNx, yRet, yAsg, ySeq, yIf, yFor, yPar, yParK, yRaise, gV, gVt, gVc, gVn, dBl, dIn, strD, wipeR, List.getElem?_cons_zero, List.getElem?_cons_succ, List.set_cons_zero, List.set_cons_succ, Option.bind_some, Option.bind_none, Option.map_some, List.length_cons, List.length_nil, List.map_cons, List.map_nil, List.replicate_succ, List.replicate_zero, List.cons_append, List.nil_append, Nat.zero_add, Nat.reduceAdd, Nat.reduceSub, decide_true, Bool.not_true, Bool.not_false, sp, rf]
      rfl
    | none =>
      rw [hr] at rf
      simp only [runD, startR, xV, xC, xOp, xUn, xT, xAnd, xOr, xNot, xIf, xAndV, xOrV, xNotV, xCh, xNil, xCons, xTup, xLstN, xL, xCa, xF, xF0, noX, up, x1, xIt, xEn, xNo, xPa, xSl, xM1, xSplit, M.bind, M.ret, M.of, then_ok, then_ex, then_bad, yNx, yRet, yAsg, ySeq, yIf, yFor, yPar, yParK, yRaise, gV, gVt, gVc, gVn, dBl, dIn, strD, wipeR, List.getElem?_cons_zero, List.getElem?_cons_succ, List.set_cons_zero, List.set_cons_succ, Option.bind_some, Option.bind_none, Option.map_some, List.length_cons, List.length_nil, List.map_cons, List.map_nil, List.replicate_succ, List.replicate_zero, List.cons_append, List.nil_append, Nat.zero_add, Nat.reduceAdd, Nat.reduceSub, decide_true, Bool.not_true, Bool.not_false, sp, rf, ih]
      unfold linesR
      cases lgo (l + 1) rs with
      | none => rfl
      | some p => rfl
def tObj (A : Ad) (rs : List Str) : D := .obj A.c_Stuck [(("fills" : Str), .tup (rs.map fun r => fillD A (WD r)))]
def fillsR (w0 : Str) (r0 : Str) (rs : List Str) : List Str := match decide (w0 = ("-" : Str)) with | true => [] | false => r0 :: rs
theorem read_stuck_eq {K : PySem.W.Frag} {A : Ad} (k : KT K) (kc : KC K A) {t r0 w0 : Str} {rs ws : List Str} (hl : lim t.length = true) (hw : PyData.strOk t = true) (hr : LN t = r0 :: rs) (hs : WD r0 = w0 :: ws) (hlr : lim (rs.length + 1) = true) (hok : Good (w0 :: ws)) :
    m_read_stuck K A [.str t] () = dueR A (tObj A (fillsR w0 r0 rs)) (stuckR w0 ws r0 rs) := by
  have g1 := good_of lineS hl hw
  rw [show Txt.split t "\n" = LN t from rfl, hr] at g1
  obtain ⟨hl0, hw0⟩ := g1 r0 (List.mem_cons_self ..)
  have sp1 := lineS.split t hl
  rw [show Txt.split t "\n" = LN t from rfl, hr] at sp1
  have wd : m_words_of_line K A [.int 0, .str r0] () = wordsR A 0 w0 ws := words_eq K A (l := 0) hl0 hs
  have mk := mk_stuck kc
  have l0 : lim 0 = true := rfl
  unfold m_read_stuck
  rw [run_fin rfl]
  unfold b_read_stuck
  show fin (ySeq _ _ [Sl.val (D.str t), .no, .no, .no] ()) = _
  rw [seq_nx (ρ1 := [.val (.str t), .no, .no, .no]) (s1 := ()) (by simp only [runD, startR, xV, xC, xOp, xUn, xT, xAnd, xOr, xNot, xIf, xAndV, xOrV, xNotV, xCh, xNil, xCons, xTup, xLstN, xL, xCa, xF, xF0, noX, up, x1, xIt, xEn, xNo, xPa, xSl, xM1, xSplit, M.bind, M.ret, M.of, then_ok, then_ex, then_bad, yNx, yRet, yAsg, ySeq, yIf, yFor, yPar, yParK, yRaise, gV, gVt, gVc, gVn, dBl, dIn, strD, wipeR, List.getElem?_cons_zero, List.getElem?_cons_succ, List.set_cons_zero, List.set_cons_succ, Option.bind_some, Option.bind_none, Option.map_some, List.length_cons, List.length_nil, List.map_cons, List.map_nil, List.replicate_succ, List.replicate_zero, List.cons_append, List.nil_append, Nat.zero_add, Nat.reduceAdd, Nat.reduceSub, decide_true, Bool.not_true, Bool.not_false, yDrop, need_str k A t])]
  rw [seq_nx (ρ1 := [.val (.str t), .val (.lst ((r0 :: rs).map D.str)), .no, .no]) (s1 := ()) (by simp only [runD, startR, xV, xC, xOp, xUn, xT, xAnd, xOr, xNot, xIf, xAndV, xOrV, xNotV, xCh, xNil, xCons, xTup, xLstN, xL, xCa, xF, xF0, noX, up, x1, xIt, xEn, xNo, xPa, xSl, xM1, xSplit, M.bind, M.ret, M.of, then_ok, then_ex, then_bad, yNx, yRet, yAsg, ySeq, yIf, yFor, yPar, yParK, yRaise, gV, gVt, gVc, gVn, dBl, dIn, strD, wipeR, List.getElem?_cons_zero, List.getElem?_cons_succ, List.set_cons_zero, List.set_cons_succ, Option.bind_some, Option.bind_none, Option.map_some, List.length_cons, List.length_nil, List.map_cons, List.map_nil, List.replicate_succ, List.replicate_zero, List.cons_append, List.nil_append, Nat.zero_add, Nat.reduceAdd, Nat.reduceSub, decide_true, Bool.not_true, Bool.not_false, sp1])]
  unfold stuckR fillsR
  unfold wordsR at wd
  cases h0 : decide (w0 = ("-" : Str)) with
  | true =>
    rw [h0] at wd
    cases ws with
    | nil =>
      have ee : dEq (.lst []) (.lst []) = some (.bl true) := rfl
      cases rs with
      | nil =>
        have c1 : decide ((1 : Int) < ((0 + 1 : Nat) : Int)) = false := rfl
        rw [seq_rt (d := tObj A []) (s1 := ()) (by simp only [runD, startR, xV, xC, xOp, xUn, xT, xAnd, xOr, xNot, xIf, xAndV, xOrV, xNotV, xCh, xNil, xCons, xTup, xLstN, xL, xCa, xF, xF0, noX, up, x1, xIt, xEn, xNo, xPa, xSl, xM1, xSplit, M.bind, M.ret, M.of, then_ok, then_ex, then_bad, yNx, yRet, yAsg, ySeq, yIf, yFor, yPar, yParK, yRaise, gV, gVt, gVc, gVn, dBl, dIn, strD, wipeR, List.getElem?_cons_zero, List.getElem?_cons_succ, List.set_cons_zero, List.set_cons_succ, Option.bind_some, Option.bind_none, Option.map_some, List.length_cons, List.length_nil, List.map_cons, List.map_nil, List.replicate_succ, List.replicate_zero, List.cons_append, List.nil_append, Nat.zero_add, Nat.reduceAdd, Nat.reduceSub, decide_true, Bool.not_true, Bool.not_false, dIx_lst, atI0, wd, l0, ee, dLen_lst, dGt_int, c1, mk]; rfl)]
        rfl
      | cons r1 rs =>
        have c2 : decide ((1 : Int) < (((rs.length + 1) + 1 : Nat) : Int)) = true := decide_eq_true (by omega)
        rw [seq_ex (c := A.c_BadText) (fs := [(("word" : Str), .int 0), (("line" : Str), .int 1)]) (s1 := ()) (by simp only [runD, startR, xV, xC, xOp, xUn, xT, xAnd, xOr, xNot, xIf, xAndV, xOrV, xNotV, xCh, xNil, xCons, xTup, xLstN, xL, xCa, xF, xF0, noX, up, x1, xIt, xEn, xNo, xPa, xSl, xM1, xSplit, M.bind, M.ret, M.of, then_ok, then_ex, then_bad, yNx, yRet, yAsg, ySeq, yIf, yFor, yPar, yParK, yRaise, gV, gVt, gVc, gVn, dBl, dIn, strD, wipeR, List.getElem?_cons_zero, List.getElem?_cons_succ, List.set_cons_zero, List.set_cons_succ, Option.bind_some, Option.bind_none, Option.map_some, List.length_cons, List.length_nil, List.map_cons, List.map_nil, List.replicate_succ, List.replicate_zero, List.cons_append, List.nil_append, Nat.zero_add, Nat.reduceAdd, Nat.reduceSub, decide_true, Bool.not_true, Bool.not_false, dIx_lst, atI0, wd, l0, ee, dLen_lst, List.length_map, dGt_int, c2]; rfl)]
        rfl
    | cons w1 ws =>
      rw [seq_ex (c := A.c_BadText) (fs := [(("word" : Str), .int 1), (("line" : Str), .int 0)]) (s1 := ()) (by simp only [runD, startR, xV, xC, xOp, xUn, xT, xAnd, xOr, xNot, xIf, xAndV, xOrV, xNotV, xCh, xNil, xCons, xTup, xLstN, xL, xCa, xF, xF0, noX, up, x1, xIt, xEn, xNo, xPa, xSl, xM1, xSplit, M.bind, M.ret, M.of, then_ok, then_ex, then_bad, yNx, yRet, yAsg, ySeq, yIf, yFor, yPar, yParK, yRaise, gV, gVt, gVc, gVn, dBl, dIn, strD, wipeR, List.getElem?_cons_zero, List.getElem?_cons_succ, List.set_cons_zero, List.set_cons_succ, Option.bind_some, Option.bind_none, Option.map_some, List.length_cons, List.length_nil, List.map_cons, List.map_nil, List.replicate_succ, List.replicate_zero, List.cons_append, List.nil_append, Nat.zero_add, Nat.reduceAdd, Nat.reduceSub, decide_true, Bool.not_true, Bool.not_false, dIx_lst, atI0, wd]; rfl)]
      rfl
  | false =>
    rw [h0] at wd
    have ee : dEq (.lst ((w0 :: ws).map D.str)) (.lst []) = some (.bl false) := by
      rw [dEq_nil (fun x hx => (hok x hx).2)]; rfl
    simp only [List.map_cons] at ee
    rw [seq_nx (ρ1 := [.val (.str t), .val (.lst ((r0 :: rs).map D.str)), .no, .no]) (s1 := ()) (by simp only [runD, startR, xV, xC, xOp, xUn, xT, xAnd, xOr, xNot, xIf, xAndV, xOrV, xNotV, xCh, xNil, xCons, xTup, xLstN, xL, xCa, xF, xF0, noX, up, x1, xIt, xEn, xNo, xPa, xSl, xM1, xSplit, M.bind, M.ret, M.of, then_ok, then_ex, then_bad, yNx, yRet, yAsg, ySeq, yIf, yFor, yPar, yParK, yRaise, gV, gVt, gVc, gVn, dBl, dIn, strD, wipeR, List.getElem?_cons_zero, List.getElem?_cons_succ, List.set_cons_zero, List.set_cons_succ, Option.bind_some, Option.bind_none, Option.map_some, List.length_cons, List.length_nil, List.map_cons, List.map_nil, List.replicate_succ, List.replicate_zero, List.cons_append, List.nil_append, Nat.zero_add, Nat.reduceAdd, Nat.reduceSub, decide_true, Bool.not_true, Bool.not_false, dIx_lst, atI0, wd, l0, ee])]
    have lc := lines_comp k kc (a0 := .val (.str t)) (a1 := .val (.lst ((r0 :: rs).map D.str))) (r0 :: rs) 0 g1
    have ll : lim (numd 0 ((r0 :: rs).map D.str)).length = true := by rw [numd_length, List.length_map]; exact hlr
    have tp : ∀ xs, dTup [.lst xs] = some (.tup xs) := fun _ => rfl
    simp only [List.map_cons] at lc ll
    simp only [runD, startR, xV, xC, xOp, xUn, xT, xAnd, xOr, xNot, xIf, xAndV, xOrV, xNotV, xCh, xNil, xCons, xTup, xLstN, xL, xCa, xF, xF0, noX, up, x1, xIt, xEn, xNo, xPa, xSl, xM1, xSplit, M.bind, M.ret, M.of, then_ok, then_ex, then_bad, yNx, yRet, yAsg, ySeq, yIf, yFor, yPar, yParK, yRaise, gV, gVt, gVc, gVn, dBl, dIn, strD, wipeR, List.getElem?_cons_zero, List.getElem?_cons_succ, List.set_cons_zero, List.set_cons_succ, Option.bind_some, Option.bind_none, Option.map_some, List.length_cons, List.length_nil, List.map_cons, List.map_nil, List.replicate_succ, List.replicate_zero, List.cons_append, List.nil_append, Nat.zero_add, Nat.reduceAdd, Nat.reduceSub, decide_true, Bool.not_true, Bool.not_false, enD, xLc, ll, lc]
    unfold linesR
    cases lgo 0 (r0 :: rs) with
    | none => simp only [runD, startR, xV, xC, xOp, xUn, xT, xAnd, xOr, xNot, xIf, xAndV, xOrV, xNotV, xCh, xNil, xCons, xTup, xLstN, xL, xCa, xF, xF0, noX, up, x1, xIt, xEn, xNo, xPa, xSl, xM1, xSplit, M.bind, M.ret, M.of, then_ok, then_ex, then_bad, yNx, yRet, yAsg, ySeq, yIf, yFor, yPar, yParK, yRaise, gV, gVt, gVc, gVn, dBl, dIn, strD, wipeR, List.getElem?_cons_zero, List.getElem?_cons_succ, List.set_cons_zero, List.set_cons_succ, Option.bind_some, Option.bind_none, Option.map_some, List.length_cons, List.length_nil, List.map_cons, List.map_nil, List.replicate_succ, List.replicate_zero, List.cons_append, List.nil_append, Nat.zero_add, Nat.reduceAdd, Nat.reduceSub, decide_true, Bool.not_true, Bool.not_false, tp, mk]; rfl
    | some p => rfl
end Rk94

namespace Rk94
open PySem L2 Fs TL
structure KD (K : PySem.W.Frag) (A : Ad) : Prop where
  fill_fill : ∀ fs, dIsk K [.obj A.c_Fill fs, .adr A.c_Fill] = some (.bl true)
  stuck_stuck : ∀ fs, dIsk K [.obj A.c_Stuck fs, .adr A.c_Stuck] = some (.bl true)
  tup_tup : isCD K (.type "tuple") (.ty "tuple") = some true
theorem wgo_all : ∀ (ws : List Str) (i : Nat), 2 ≤ i → wgo i ws = none → ∀ w ∈ ws, shelfB w = true
  | [], _, _, _, w, h => absurd h (by simp)
  | x :: ws, i, hi, hg, w, h => by
    unfold wgo fitB at hg
    have e : decide (i = 1) = false := decide_eq_false (by omega)
    rw [e] at hg
    cases hq : shelfB x with
    | false => rw [hq] at hg; cases hg
    | true =>
      rw [hq] at hg
      rcases List.mem_cons.mp h with e | h
      · rw [e]; exact hq
      · exact wgo_all ws (i + 1) (by omega) hg w h
theorem row_stands {ws : List Str} (h : rowR ws = none) : ∃ a b c d r, ws = a :: b :: c :: d :: r ∧ shelfB a = true ∧ nameB b = true ∧ shelfB c = true ∧ ∀ w ∈ d :: r, shelfB w = true := by
  unfold rowR at h
  cases hg : wgo 0 ws with
  | some j => rw [hg] at h; cases h
  | none =>
    rw [hg] at h
    cases ho : decide (ws.length < 4) with
    | true => rw [ho] at h; cases h
    | false =>
      have h4 := of_decide_eq_false ho
      match ws, h4, hg with
      | [], h, _ => exact absurd (by simp) h
      | [_], h, _ => exact absurd (by simp) h
      | [_, _], h, _ => exact absurd (by simp) h
      | [_, _, _], h, _ => exact absurd (by simp) h
      | a :: b :: c :: d :: r, _, hg =>
        refine ⟨a, b, c, d, r, rfl, ?_⟩
        unfold wgo fitB at hg
        cases ha : shelfB a with
        | false => rw [ha] at hg; cases hg
        | true =>
          rw [ha] at hg
          have hg : wgo 1 (b :: c :: d :: r) = none := hg
          unfold wgo fitB at hg
          cases hb : nameB b with
          | false => rw [hb] at hg; cases hg
          | true =>
            rw [hb] at hg
            have hg : wgo 2 (c :: d :: r) = none := hg
            have al := wgo_all _ 2 (by decide) hg
            exact ⟨rfl, rfl, al c (by simp), fun w hw => al w (List.mem_cons_of_mem _ hw)⟩
section
variable {K : PySem.W.Frag} {A : Ad} (kc : KC K A)
theorem f_shelf (kc : KC K A) (a b : Str) (way : List Str) (c : Str) : dFd K "shelf" (fObj A a b way c) = some (.str a) := by
  have h := chk_true (And.intro kc.fill.1 kc.fill.2.1)
  unfold fObj dFd
  simp only [h]
  simp [List.lookup]
theorem f_flow (kc : KC K A) (a b : Str) (way : List Str) (c : Str) : dFd K "flow" (fObj A a b way c) = some (.str b) := by
  have h := chk_true (And.intro kc.fill.1 kc.fill.2.2.1)
  have n : (("flow" : Str) == "shelf") = false := by decide +kernel
  unfold fObj dFd
  simp only [h]
  simp [List.lookup, n]
theorem f_way (kc : KC K A) (a b : Str) (way : List Str) (c : Str) : dFd K "way" (fObj A a b way c) = some (.tup (way.map D.str)) := by
  have h := chk_true (And.intro kc.fill.1 kc.fill.2.2.2.1)
  have n : (("way" : Str) == "shelf") = false := by decide +kernel
  have n2 : (("way" : Str) == "flow") = false := by decide +kernel
  unfold fObj dFd
  simp only [h]
  simp [List.lookup, n, n2]
theorem f_want (kc : KC K A) (a b : Str) (way : List Str) (c : Str) : dFd K "want" (fObj A a b way c) = some (.str c) := by
  have h := chk_true (And.intro kc.fill.1 kc.fill.2.2.2.2)
  have n : (("want" : Str) == "shelf") = false := by decide +kernel
  have n2 : (("want" : Str) == "flow") = false := by decide +kernel
  have n3 : (("want" : Str) == "way") = false := by decide +kernel
  unfold fObj dFd
  simp only [h]
  simp [List.lookup, n, n2, n3]
end
end Rk94

namespace Rk94
open PySem L2 Fs TL
theorem toPy_tup (xs : List Str) : toPy (.tup (xs.map D.str)) = some (.tuple (xs.map PyData.str)) := by
  unfold toPy
  rw [toPyL_map D.str PyData.str (fun _ => rfl)]
  rfl
theorem shaped_tup {xs : List Str} (h : ∀ x ∈ xs, PyData.strOk x = true) : SeqAt.shaped (.tuple (xs.map PyData.str)) = true := by
  unfold SeqAt.shaped
  rw [Bool.and_eq_true]
  refine ⟨canAll_str h, decide_eq_true ?_⟩
  have h2 := depthAll_str (xs := xs)
  simp only [PyData.depth]
  omega
theorem neA_tup {xs : List Str} (hx : ∀ x ∈ xs, PyData.strOk x = true) : neA (.tup (xs.map D.str)) (.tup []) = some (.bl (!decide (xs = []))) := by
  have e : eqD (.tup (xs.map D.str)) (.tup (([] : List Str).map D.str)) = some (decide (xs = [])) := by
    show pyEq _ _ = _
    unfold pyEq
    rw [toPy_tup, toPy_tup]
    simp only [shaped_tup hx, shaped_tup (xs := []) (by simp), Bool.and_self]
    show some (PyData.eqvAll (xs.map PyData.str) (([] : List Str).map PyData.str)) = _
    rw [eqvAll_str]
  show (eqD (.tup (xs.map D.str)) (.tup (([] : List Str).map D.str))).map (fun b => D.bl (!b)) = _
  rw [e]; rfl
theorem is_fill_eq {K : PySem.W.Frag} {A : Ad} (k : KT K) (kc : KC K A) (kd : KD K A) {ws : List Str} (g : Good ws) (hl : lim ws.length = true) (h : rowR ws = none) : m_is_fill K A [fillD A ws] () = .ok (.bl true) () := by
  obtain ⟨a, b, c, d, r, rfl, ha, hb, hc, hr⟩ := row_stands h
  have ga := (g a (by simp)).1
  have gb := (g b (by simp)).1
  have gc := (g c (by simp)).1
  have gw : Good (d :: r) := fun w hw => g w (by simp at hw ⊢; rcases hw with e | e <;> simp [e])
  have sa := is_shelf_eq K k A a ga
  have nb := is_name_eq K k A b gb
  have sc := is_shelf_eq K k A c gc
  rw [ha] at sa
  rw [hb] at nb
  rw [hc] at sc
  have i1 : dIsk K [fObj A a b (d :: r) c, .adr A.c_Fill] = some (.bl true) := kd.fill_fill _
  have i2 : dIsk K [.tup ((d :: r).map D.str), .ty "tuple"] = some (.bl true) := by
    show (isCD K (.type "tuple") (.ty "tuple")).map D.bl = _
    rw [kd.tup_tup]; rfl
  have f1 := f_shelf kc a b (d :: r) c
  have f2 := f_flow kc a b (d :: r) c
  have f3 := f_way kc a b (d :: r) c
  have f4 := f_want kc a b (d :: r) c
  have ne : neA (.tup ((d :: r).map D.str)) (.tup []) = some (.bl true) := by
    rw [neA_tup (fun x hx => (gw x hx).2)]; rfl
  have cp := comp_pure (S := Unit) (g := gV 1) (t := fun _ => M.ret true) (e := xF (m_is_shelf K A) (xCons (xV 1) xNil)) (ρ := [Sl.val (fObj A a b (d :: r) c), .no]) (s := ()) (fun _ => true) (fun _ => .bl true) ((d :: r).map D.str) (fun x hx => by
    obtain ⟨w, hw, rfl⟩ := List.mem_map.mp hx
    have sw := is_shelf_eq K k A w (gw w hw).1
    rw [hr w hw] at sw
    refine ⟨_, rfl, rfl, fun _ => ?_⟩
    simp only [runD, startR, xV, xC, xOp, xUn, xT, xAnd, xOr, xNot, xIf, xAndV, xOrV, xNotV, xCh, xNil, xCons, xTup, xLstN, xL, xCa, xF, xF0, noX, up, x1, xIt, xEn, xNo, xPa, xSl, xM1, xSplit, M.bind, M.ret, M.of, then_ok, then_ex, then_bad, yNx, yRet, yAsg, ySeq, yIf, yFor, yPar, yParK, yRaise, gV, gVt, gVc, gVn, dBl, dIn, strD, wipeR, List.getElem?_cons_zero, List.getElem?_cons_succ, List.set_cons_zero, List.set_cons_succ, Option.bind_some, Option.bind_none, Option.map_some, List.length_cons, List.length_nil, List.map_cons, List.map_nil, List.replicate_succ, List.replicate_zero, List.cons_append, List.nil_append, Nat.zero_add, Nat.reduceAdd, Nat.reduceSub, decide_true, Bool.not_true, Bool.not_false, sw])
  rw [List.filter_eq_self.mpr (fun _ _ => rfl)] at cp
  have al : dAll [.lst (((d :: r).map D.str).map fun _ => D.bl true)] = some (.bl true) := by
    rw [dAll_map (fun _ : D => true) ((d :: r).map D.str)]
    simp
  have lw : lim ((d :: r).map D.str).length = true := by
    rw [List.length_map]; exact lim_le hl (by simp only [List.length_cons]; omega)
  have l0 : lim 0 = true := rfl
  show m_is_fill K A [fObj A a b (d :: r) c] () = _
  unfold m_is_fill b_is_fill
  generalize fObj A a b (d :: r) c = o at *
  generalize (d :: r).map D.str = wv at *
  simp only [runD, startR, xV, xC, xOp, xUn, xT, xAnd, xOr, xNot, xIf, xAndV, xOrV, xNotV, xCh, xNil, xCons, xTup, xLstN, xL, xCa, xF, xF0, noX, up, x1, xIt, xEn, xNo, xPa, xSl, xM1, xSplit, M.bind, M.ret, M.of, then_ok, then_ex, then_bad, yNx, yRet, yAsg, ySeq, yIf, yFor, yPar, yParK, yRaise, gV, gVt, gVc, gVn, dBl, dIn, strD, wipeR, List.getElem?_cons_zero, List.getElem?_cons_succ, List.set_cons_zero, List.set_cons_succ, Option.bind_some, Option.bind_none, Option.map_some, List.length_cons, List.length_nil, List.map_cons, List.map_nil, List.replicate_succ, List.replicate_zero, List.cons_append, List.nil_append, Nat.zero_add, Nat.reduceAdd, Nat.reduceSub, decide_true, Bool.not_true, Bool.not_false, i1, f1, f2, f3, f4, sa, nb, sc, i2, ne, l0, xLc, items, lw, cp, al]
end Rk94

namespace Rk94
open PySem L2 Fs TL
theorem neA_lst {xs : List Str} (hx : ∀ x ∈ xs, PyData.strOk x = true) : neA (.lst (xs.map D.str)) (.lst []) = some (.bl (!decide (xs = []))) := by
  show (eqD (.lst (xs.map D.str)) (.lst (([] : List Str).map D.str))).map (fun b => D.bl (!b)) = _
  rw [eqD_strs hx (by simp)]; rfl
theorem joinD_lst {y : Str} {ps : List Str} {b n : Nat} (h : ∀ p ∈ ps, p.length ≤ b) (hy : y.length = 1) (hn : ps.length ≤ n) (hb : n * b + n ≤ 16777216) : joinD y (.lst (ps.map D.str)) = some (.str (Txt.join y ps)) ∧ joinD y (.tup (ps.map D.str)) = some (.str (Txt.join y ps)) := by
  have s1 := sum_le (l := ps.map (·.length)) (b := b) (fun x hx => by
    obtain ⟨p, hp, rfl⟩ := List.mem_map.mp hx
    exact h p hp)
  rw [List.length_map] at s1
  have s2 : ps.length * b ≤ n * b := Nat.mul_le_mul_right _ hn
  have e : decide ((ps.map (·.length)).sum + ps.length * y.length ≤ 16777216) = true := decide_eq_true (by rw [hy]; omega)
  constructor
  · show (strsD (ps.map D.str)).bind _ = _
    rw [strsD_map]
    show (match decide _ with | true => some (D.str (Txt.join y ps)) | false => none) = _
    rw [e]
  · show (strsD (ps.map D.str)).bind _ = _
    rw [strsD_map]
    show (match decide _ with | true => some (D.str (Txt.join y ps)) | false => none) = _
    rw [e]
theorem row_back {K : PySem.W.Frag} {A : Ad} (kc : KC K A) {r : Str} {ρ : Rho} (h2 : ρ[2]? = some (.val (fillD A (WD r)))) (hl : r.length ≤ 4000) (h : rowR (WD r) = none) : (xM1 joinD (xC (.str " ")) (xTup (xCons (x1 (dFd K "shelf") (xV 2)) (xCons (x1 (dFd K "flow") (xV 2)) (xCons (x1 (dFd K "want") (xV 2)) (xStar (x1 (dFd K "way") (xV 2)) xNil))))) : Rho → M Unit D) ρ () = .ok (.str r) () := by
  have bk := spaceS.back r
  rw [show Txt.split r " " = WD r from rfl] at bk
  have cn := spaceS.count r
  rw [show Txt.split r " " = WD r from rfl] at cn
  have pl : ∀ p ∈ WD r, p.length ≤ 4000 := fun p hp => Nat.le_trans (spaceS.part r hp).1 hl
  obtain ⟨a, b, c, d, s, e, _⟩ := row_stands h
  rw [e] at h2 bk cn pl
  have f1 := f_shelf kc a b (d :: s) c
  have f2 := f_flow kc a b (d :: s) c
  have f3 := f_way kc a b (d :: s) c
  have f4 := f_want kc a b (d :: s) c
  have y1 : (" " : Str).length = 1 := by rw [len_tl, spaceS.tl]; rfl
  have jo := (joinD_lst (y := " ") (ps := a :: b :: c :: d :: s) (b := 4000) (n := 4001) pl y1 (by omega) (by decide)).2
  rw [bk] at jo
  have it : itemsLT (.tup ((d :: s).map D.str)) = some ((d :: s).map D.str) := rfl
  have ll : lim ([D.str a, .str b, .str c] ++ ((d :: s).map D.str ++ [])).length = true := lim_small (by simp at cn ⊢; omega)
  have h2 : ρ[2]? = some (.val (fObj A a b (d :: s) c)) := h2
  generalize fObj A a b (d :: s) c = o at *
  simp only [List.map_cons] at jo it
  simp only [List.cons_append, List.nil_append, List.append_nil, List.map_cons, List.length_cons] at ll
  simp only [runD, startR, xV, xC, xOp, xUn, xT, xAnd, xOr, xNot, xIf, xAndV, xOrV, xNotV, xCh, xNil, xCons, xTup, xLstN, xL, xCa, xF, xF0, noX, up, x1, xIt, xEn, xNo, xPa, xSl, xM1, xSplit, M.bind, M.ret, M.of, then_ok, then_ex, then_bad, yNx, yRet, yAsg, ySeq, yIf, yFor, yPar, yParK, yRaise, gV, gVt, gVc, gVn, dBl, dIn, strD, wipeR, List.getElem?_cons_zero, List.getElem?_cons_succ, List.set_cons_zero, List.set_cons_succ, Option.bind_some, Option.bind_none, Option.map_some, List.length_cons, List.length_nil, List.map_cons, List.map_nil, List.replicate_succ, List.replicate_zero, List.cons_append, List.nil_append, Nat.zero_add, Nat.reduceAdd, Nat.reduceSub, decide_true, Bool.not_true, Bool.not_false, h2, f1, f2, f3, f4, xStar, it, List.append_nil, ll, jo]
theorem write_stuck_eq {K : PySem.W.Frag} {A : Ad} (k : KT K) (kc : KC K A) (kd : KD K A) {rs : List Str} (g : ∀ r ∈ rs, r.length ≤ 4000 ∧ PyData.strOk r = true ∧ rowR (WD r) = none) (hn : rs.length ≤ 4001) : m_write_stuck K A [tObj A rs] () = .ok (.str (match decide (rs = []) with | true => "-" | false => Txt.join "\n" rs)) () := by
  have c := chk_true kc.stuck
  have i1 : dIsk K [tObj A rs, .adr A.c_Stuck] = some (.bl true) := kd.stuck_stuck _
  have fd : dFd K "fills" (tObj A rs) = some (.tup (rs.map fun r => fillD A (WD r))) := by
    unfold tObj dFd
    simp only [c]
    simp [List.lookup]
  have i2 : dIsk K [.tup (rs.map fun r => fillD A (WD r)), .ty "tuple"] = some (.bl true) := by
    show (isCD K (.type "tuple") (.ty "tuple")).map D.bl = _
    rw [kd.tup_tup]; rfl
  have lw : lim (rs.map fun r => fillD A (WD r)).length = true := lim_small (by rw [List.length_map]; omega)
  have c1 := comp_pure (S := Unit) (g := gV 2) (t := fun _ => M.ret true) (e := xF (m_is_fill K A) (xCons (xV 2) xNil)) (ρ := [Sl.val (tObj A rs), .no, .no]) (s := ()) (fun _ => true) (fun _ => .bl true) (rs.map fun r => fillD A (WD r)) (fun x hx => by
    obtain ⟨r, hr, rfl⟩ := List.mem_map.mp hx
    obtain ⟨h1, h2, h3⟩ := g r hr
    have cn := spaceS.count r
    rw [show Txt.split r " " = WD r from rfl] at cn
    have fl := is_fill_eq (A := A) k kc kd (good_of spaceS (lim_small (by omega)) h2) (lim_small (by show (WD r).length ≤ _; omega)) h3
    refine ⟨_, rfl, rfl, fun _ => ?_⟩
    simp only [runD, startR, xV, xC, xOp, xUn, xT, xAnd, xOr, xNot, xIf, xAndV, xOrV, xNotV, xCh, xNil, xCons, xTup, xLstN, xL, xCa, xF, xF0, noX, up, x1, xIt, xEn, xNo, xPa, xSl, xM1, xSplit, M.bind, M.ret, M.of, then_ok, then_ex, then_bad, yNx, yRet, yAsg, ySeq, yIf, yFor, yPar, yParK, yRaise, gV, gVt, gVc, gVn, dBl, dIn, strD, wipeR, List.getElem?_cons_zero, List.getElem?_cons_succ, List.set_cons_zero, List.set_cons_succ, Option.bind_some, Option.bind_none, Option.map_some, List.length_cons, List.length_nil, List.map_cons, List.map_nil, List.replicate_succ, List.replicate_zero, List.cons_append, List.nil_append, Nat.zero_add, Nat.reduceAdd, Nat.reduceSub, decide_true, Bool.not_true, Bool.not_false, fl])
  rw [List.filter_eq_self.mpr (fun _ _ => rfl)] at c1
  have al : dAll [.lst ((rs.map fun r => fillD A (WD r)).map fun _ => D.bl true)] = some (.bl true) := by
    rw [dAll_map (fun _ : D => true) (rs.map fun r => fillD A (WD r))]
    simp
  have c3 : compD (gV 2) (fun _ => M.ret true) (xM1 joinD (xC (.str " ")) (xTup (xCons (x1 (dFd K "shelf") (xV 2)) (xCons (x1 (dFd K "flow") (xV 2)) (xCons (x1 (dFd K "want") (xV 2)) (xStar (x1 (dFd K "way") (xV 2)) xNil))))) : Rho → M Unit D) [Sl.val (tObj A rs), .no, .no] (rs.map fun r => fillD A (WD r)) () = .ok (rs.map D.str) () := by
    clear al c1 lw i2 fd i1
    generalize tObj A rs = o
    induction rs with
    | nil => rfl
    | cons r rs ih =>
      obtain ⟨h1, h2, h3⟩ := g r (by simp)
      have rb := row_back kc (ρ := [Sl.val o, .no, .val (fillD A (WD r))]) rfl h1 h3
      have ih := ih (fun x hx => g x (List.mem_cons_of_mem _ hx)) (by simp at hn; omega)
      rw [List.map_cons]
      unfold compD
      show ((xM1 joinD _ _ : Rho → M Unit D) [Sl.val o, .no, .val (fillD A (WD r))] ()).then _ = _
      rw [rb]
      show (compD _ _ _ _ _ ()).then _ = _
      rw [ih]
      rfl
  have ne := neA_lst (xs := rs) (fun r hr => (g r hr).2.1)
  have y1 : ("\n" : Str).length = 1 := by rw [len_tl, lineS.tl]; rfl
  have jo := (joinD_lst (y := "\n") (ps := rs) (b := 4000) (n := 4001) (fun p hp => (g p hp).1) y1 hn (by decide)).1
  have l0 : lim 0 = true := rfl
  unfold m_write_stuck b_write_stuck
  generalize tObj A rs = o at *
  generalize (rs.map fun r => fillD A (WD r)) = fs at *
  cases he : decide (rs = []) with
  | true =>
    rw [he] at ne
    simp only [runD, startR, xV, xC, xOp, xUn, xT, xAnd, xOr, xNot, xIf, xAndV, xOrV, xNotV, xCh, xNil, xCons, xTup, xLstN, xL, xCa, xF, xF0, noX, up, x1, xIt, xEn, xNo, xPa, xSl, xM1, xSplit, M.bind, M.ret, M.of, then_ok, then_ex, then_bad, yNx, yRet, yAsg, ySeq, yIf, yFor, yPar, yParK, yRaise, gV, gVt, gVc, gVn, dBl, dIn, strD, wipeR, List.getElem?_cons_zero, List.getElem?_cons_succ, List.set_cons_zero, List.set_cons_succ, Option.bind_some, Option.bind_none, Option.map_some, List.length_cons, List.length_nil, List.map_cons, List.map_nil, List.replicate_succ, List.replicate_zero, List.cons_append, List.nil_append, Nat.zero_add, Nat.reduceAdd, Nat.reduceSub, decide_true, Bool.not_true, Bool.not_false, i1, fd, i2, items, xLc, lw, c1, al, c3, ne, l0]
  | false =>
    rw [he] at ne
    simp only [runD, startR, xV, xC, xOp, xUn, xT, xAnd, xOr, xNot, xIf, xAndV, xOrV, xNotV, xCh, xNil, xCons, xTup, xLstN, xL, xCa, xF, xF0, noX, up, x1, xIt, xEn, xNo, xPa, xSl, xM1, xSplit, M.bind, M.ret, M.of, then_ok, then_ex, then_bad, yNx, yRet, yAsg, ySeq, yIf, yFor, yPar, yParK, yRaise, gV, gVt, gVc, gVn, dBl, dIn, strD, wipeR, List.getElem?_cons_zero, List.getElem?_cons_succ, List.set_cons_zero, List.set_cons_succ, Option.bind_some, Option.bind_none, Option.map_some, List.length_cons, List.length_nil, List.map_cons, List.map_nil, List.replicate_succ, List.replicate_zero, List.cons_append, List.nil_append, Nat.zero_add, Nat.reduceAdd, Nat.reduceSub, decide_true, Bool.not_true, Bool.not_false, i1, fd, i2, items, xLc, lw, c1, al, c3, ne, l0, jo]
end Rk94

namespace Rk94
open PySem L2 Fs TL
theorem lgo_all : ∀ (rs : List Str) (l : Nat), lgo l rs = none → ∀ r ∈ rs, rowR (WD r) = none
  | [], _, _, r, h => absurd h (by simp)
  | x :: rs, l, hg, r, h => by
    unfold lgo at hg
    cases hx : rowR (WD x) with
    | some j => rw [hx] at hg; cases hg
    | none =>
      rw [hx] at hg
      rcases List.mem_cons.mp h with e | h
      · rw [e]; exact hx
      · exact lgo_all rs (l + 1) hg r h
theorem stuck_back {K : PySem.W.Frag} {A : Ad} (k : KT K) (kc : KC K A) (kd : KD K A) {t r0 w0 : Str} {rs ws : List Str} (hl : t.length ≤ 4000) (hw : PyData.strOk t = true) (hr : LN t = r0 :: rs) (hs : WD r0 = w0 :: ws) (hd : stuckR w0 ws r0 rs = none) :
    m_write_stuck K A [tObj A (fillsR w0 r0 rs)] () = .ok (.str t) () := by
  have g1 := good_of lineS (lim_small (by omega)) hw
  rw [show Txt.split t "\n" = LN t from rfl, hr] at g1
  have b1 := lineS.back t
  rw [show Txt.split t "\n" = LN t from rfl, hr] at b1
  have b2 := spaceS.back r0
  rw [show Txt.split r0 " " = WD r0 from rfl, hs] at b2
  have cn := lineS.count t
  rw [show Txt.split t "\n" = LN t from rfl, hr] at cn
  have pl : ∀ p ∈ r0 :: rs, p.length ≤ 4000 := fun p hp => Nat.le_trans (lineS.part t (by rw [show Txt.split t "\n" = LN t from rfl, hr]; exact hp)).1 hl
  unfold stuckR at hd
  unfold fillsR
  cases h0 : decide (w0 = ("-" : Str)) with
  | true =>
    rw [h0] at hd
    cases ws with
    | cons _ _ => cases hd
    | nil =>
      cases rs with
      | cons _ _ => cases hd
      | nil =>
        have := write_stuck_eq (A := A) k kc kd (rs := []) (fun r hr => absurd hr (by simp)) (by simp)
        show m_write_stuck K A [tObj A []] () = _
        rw [this]
        have e1 : t = r0 := b1.symm
        have e2 : r0 = w0 := b2.symm
        rw [e1, e2, of_decide_eq_true h0]
        rfl
  | false =>
    rw [h0] at hd
    have al := lgo_all _ _ hd
    have := write_stuck_eq (A := A) k kc kd (rs := r0 :: rs) (fun r hr => ⟨pl r hr, (g1 r hr).2, al r hr⟩) (by omega)
    show m_write_stuck K A [tObj A (r0 :: rs)] () = _
    rw [this]
    have e : decide (r0 :: rs = []) = false := rfl
    rw [e]
    show Res.ok (D.str (Txt.join "\n" (r0 :: rs))) () = _
    rw [b1]
end Rk94

namespace Rk94
open PySem L2 Fs TL
structure KE (K : PySem.W.Frag) (A : Ad) : Prop where
  caught : ∀ fs : List (Str × D), fs.isEmpty = false → caughtD K (.ref A.c_ShelfError) A.c_BadText fs = some (.exc A.c_BadText fs)
  isx : ∀ fs, dIsx K [.exc A.c_BadText fs, .adr A.c_BadText] = some (.bl true)
  isv : ∀ fs, dIsx K [.exc A.c_BadText fs, .ty "ValueError"] = some (.bl true)
  xline : XfC K A.c_BadText ∧ PySem.W.findIn K (.ref A.c_BadText) "line" = some none
  xword : XfC K A.c_BadText ∧ PySem.W.findIn K (.ref A.c_BadText) "word" = some none
variable {S : Type}
theorem heard_ok (K : PySem.W.Frag) (A : Ad) (d : D) (s : S) : (b_L_heard K A : Rho → M S Out) [.no, .val .non, .val d, .no, .no] s = .ok (.rt (.lst [d])) s := by
  have i : dIsN .non .non = some (.bl true) := rfl
  have l1 : lim 1 = true := rfl
  unfold b_L_heard
  simp only [runD, startR, xV, xC, xOp, xUn, xT, xAnd, xOr, xNot, xIf, xAndV, xOrV, xNotV, xCh, xNil, xCons, xTup, xLstN, xL, xCa, xF, xF0, noX, up, x1, xIt, xEn, xNo, xPa, xSl, xM1, xSplit, M.bind, M.ret, M.of, then_ok, then_ex, then_bad, yNx, yRet, yAsg, ySeq, yIf, yFor, yPar, yParK, yRaise, gV, gVt, gVc, gVn, dBl, dIn, strD, wipeR, List.getElem?_cons_zero, List.getElem?_cons_succ, List.set_cons_zero, List.set_cons_succ, Option.bind_some, Option.bind_none, Option.map_some, List.length_cons, List.length_nil, List.map_cons, List.map_nil, List.replicate_succ, List.replicate_zero, List.cons_append, List.nil_append, Nat.zero_add, Nat.reduceAdd, Nat.reduceSub, decide_true, Bool.not_true, Bool.not_false, i, l1]
def numS (n : Nat) : Str := Str.ofString (toString (n : Int))
def toldD (a b : Nat) : D := .tup [.str "text", .str (numS a), .str (numS b)]
theorem repr_nat {n : Nat} (h : n ≤ 1000000) : dRepr [.int n] = some (.str (numS n)) := by
  show dRepr1 (.int n) = _
  unfold dRepr1
  have : decide (((n : Int)).natAbs.log2 < 1920) = true := log_small (by
    have : (1000000 : Nat) < 10 ^ 60 := by decide
    show n < _
    omega)
  simp only [this]
  rfl
theorem heard_ex {K : PySem.W.Frag} {A : Ad} (ke : KE K A) {a b : Nat} (ha : a ≤ 1000000) (hb : b ≤ 1000000) (s : S) : (b_L_heard K A : Rho → M S Out) [.no, .val (.exc A.c_BadText [(("word" : Str), .int b), (("line" : Str), .int a)]), .val .non, .no, .no] s = .ok (.rt (toldD a b)) s := by
  have i : ∀ fs, dIsN (.exc A.c_BadText fs) .non = some (.bl false) := fun _ => rfl
  have l0 : lim 0 = true := rfl
  have l3 : lim 3 = true := rfl
  have c1 := chk_true ke.xline
  have c2 := chk_true ke.xword
  have n : (("line" : Str) == "word") = false := by decide +kernel
  have f1 : dXf K "line" (.exc A.c_BadText [(("word" : Str), .int b), (("line" : Str), .int a)]) = some (.int a) := by
    unfold dXf
    simp only [c1]
    simp [List.lookup, n]
  have f2 : dXf K "word" (.exc A.c_BadText [(("word" : Str), .int b), (("line" : Str), .int a)]) = some (.int b) := by
    unfold dXf
    simp only [c2]
    simp [List.lookup]
  have e1 : decide (((0 + 1 : Nat) : Int) = 1) = true := rfl
  have i0 : ∀ x : D, dIx (.lst [x]) (.int 0) = some x := fun x => by rw [dIx_lst]; exact atI0
  unfold b_L_heard
  generalize hx : D.exc A.c_BadText [(("word" : Str), .int b), (("line" : Str), .int a)] = x at *
  have ix1 : dIsx K [x, .adr A.c_BadText] = some (.bl true) := by rw [← hx]; exact ke.isx _
  have ix2 : dIsx K [x, .ty "ValueError"] = some (.bl true) := by rw [← hx]; exact ke.isv _
  have ixn : dIsN x .non = some (.bl false) := by rw [← hx]; rfl
  simp only [runD, startR, xV, xC, xOp, xUn, xT, xAnd, xOr, xNot, xIf, xAndV, xOrV, xNotV, xCh, xNil, xCons, xTup, xLstN, xL, xCa, xF, xF0, noX, up, x1, xIt, xEn, xNo, xPa, xSl, xM1, xSplit, M.bind, M.ret, M.of, then_ok, then_ex, then_bad, yNx, yRet, yAsg, ySeq, yIf, yFor, yPar, yParK, yRaise, gV, gVt, gVc, gVn, dBl, dIn, strD, wipeR, List.getElem?_cons_zero, List.getElem?_cons_succ, List.set_cons_zero, List.set_cons_succ, Option.bind_some, Option.bind_none, Option.map_some, List.length_cons, List.length_nil, List.map_cons, List.map_nil, List.replicate_succ, List.replicate_zero, List.cons_append, List.nil_append, Nat.zero_add, Nat.reduceAdd, Nat.reduceSub, decide_true, Bool.not_true, Bool.not_false, ixn, l0, l3, ix1, ix2, f1, f2, repr_nat ha, repr_nat hb, yAsgN, yApp, yFree, freeR, oVal, ownL, dLen_lst, dEq_int, e1, i0, xBor, flatOf]
  rfl
/-- what is heard of a call -/
def heardR (A : Ad) (t : Str) : Option (Nat × Nat) → D
  | none => .lst [.str t]
  | some (a, b) => toldD a b
def smallD : Option (Nat × Nat) → Prop
  | none => True
  | some (a, b) => a ≤ 1000000 ∧ b ≤ 1000000
def told0 (A : Ad) (t : Str) (s : S) : Option (Nat × Nat) → Res S D
  | none => .ok (.str t) s
  | some (a, b) => .ex A.c_BadText [(("word" : Str), .int b), (("line" : Str), .int a)] s
theorem hear_eq {K : PySem.W.Frag} {A : Ad} (ke : KE K A) {mt : Rho → M S D} {ρ : Rho} {s : S} {t : Str} {o : Option (Nat × Nat)} (ho : smallD o) (h : mt ρ s = told0 A t s o) :
    xHear K (.ref A.c_ShelfError) 5 1 2 3 mt (b_L_heard K A) ρ s = .ok (heardR A t o) s := by
  unfold xHear
  rw [h]
  cases o with
  | none =>
    show ((b_L_heard K A : Rho → M S Out) [.no, .val .non, .val (.str t), .no, .no] s).then _ = _
    rw [heard_ok]
    rfl
  | some p =>
    obtain ⟨a, b⟩ := p
    have c := ke.caught [(("word" : Str), .int b), (("line" : Str), .int a)] rfl
    show (M.of (caughtD K (.ref A.c_ShelfError) A.c_BadText _) s).then _ = _
    rw [c]
    show ((b_L_heard K A : Rho → M S Out) [.no, .val (.exc A.c_BadText [(("word" : Str), .int b), (("line" : Str), .int a)]), .val .non, .no, .no] s).then _ = _
    rw [heard_ex ke ho.1 ho.2]
    rfl
end Rk94

namespace Rk94
open PySem L2 Fs TL
variable {S : Type}
theorem sgo_lt : ∀ (ws : List Str) (i : Nat) (last : Str) (k : Nat), sgo i last ws = some k → k < i + ws.length
  | [], _, _, _, h => by cases h
  | w :: ws, i, last, k, h => by
    unfold sgo at h
    have st : ∀ l, sgo (i + 1) l ws = some k → k < i + (w :: ws).length := fun l h => by
      have := sgo_lt ws (i + 1) l k h
      simp; omega
    split at h
    · split at h
      · exact st _ h
      · cases h; simp
    · split at h
      · exact st _ h
      · cases h; simp
theorem wgo_lt : ∀ (ws : List Str) (i : Nat) (k : Nat), wgo i ws = some k → k < i + ws.length
  | [], _, _, h => by cases h
  | w :: ws, i, k, h => by
    unfold wgo at h
    split at h
    · have := wgo_lt ws (i + 1) k h
      simp; omega
    · cases h; simp
theorem lgo_lt : ∀ (rs : List Str) (l : Nat) (a b : Nat), (∀ r ∈ rs, r.length ≤ 4000) → lgo l rs = some (a, b) → a < l + rs.length ∧ b ≤ 4001
  | [], _, _, _, _, h => by cases h
  | r :: rs, l, a, b, hr, h => by
    unfold lgo at h
    split at h
    · rename_i k e
      cases h
      refine ⟨by simp, ?_⟩
      have cn := spaceS.count r
      rw [show Txt.split r " " = WD r from rfl] at cn
      have := hr r (by simp)
      unfold rowR at e
      split at e
      · rename_i k2 e2
        cases e
        have := wgo_lt _ _ _ e2
        omega
      · split at e
        · cases e; omega
        · cases e
    · have := lgo_lt rs (l + 1) a b (fun x hx => hr x (List.mem_cons_of_mem _ hx)) h
      simp; omega
theorem endD_small (rs : List Str) : smallD (endD rs) := by cases rs <;> simp [endD, smallD]
theorem safe_small {w0 : Str} {ws rs : List Str} (h : ws.length ≤ 4000) : smallD (safeR w0 ws rs) := by
  unfold safeR
  split
  · split
    · exact endD_small rs
    · exact ⟨by omega, by omega⟩
  · split
    · rename_i k e
      have := sgo_lt _ _ _ _ e
      simp at this
      exact ⟨by omega, by omega⟩
    · split
      · exact ⟨by omega, by simp; omega⟩
      · exact endD_small rs
theorem stuck_small {w0 r0 : Str} {ws rs : List Str} (h : rs.length ≤ 4000) (hr : ∀ r ∈ r0 :: rs, r.length ≤ 4000) : smallD (stuckR w0 ws r0 rs) := by
  unfold stuckR
  split
  · split
    · exact endD_small rs
    · exact ⟨by omega, by omega⟩
  · cases e : lgo 0 (r0 :: rs) with
    | none => trivial
    | some p =>
      obtain ⟨a, b⟩ := p
      have := lgo_lt _ _ _ _ hr e
      simp at this
      exact ⟨by omega, by omega⟩
end Rk94

namespace Rk94
open PySem L2 Fs TL
variable {S : Type}
theorem strOk_tl {w : Str} (h : ∀ c ∈ tl w, c < 0x110000) : PyData.strOk w = true := by
  unfold PyData.strOk
  rw [Array.all_eq_true']
  intro c hc
  exact decide_eq_true (h c (Array.mem_toList_iff.mpr hc))
theorem numS_ok (n : Nat) : PyData.strOk (numS n) = true := strOk_tl fun c hc => by
  unfold numS at hc
  rw [tl_num] at hc
  have := numL_digits n c hc
  omega
theorem neA_same_lst {xs : List Str} (hx : ∀ x ∈ xs, PyData.strOk x = true) : neA (.lst (xs.map D.str)) (.lst (xs.map D.str)) = some (.bl false) := by
  show (eqD _ _).map (fun b => D.bl (!b)) = _
  rw [eqD_strs hx hx]
  simp
theorem neA_same_tup {xs : List Str} (hx : ∀ x ∈ xs, PyData.strOk x = true) : neA (.tup (xs.map D.str)) (.tup (xs.map D.str)) = some (.bl false) := by
  have e : eqD (.tup (xs.map D.str)) (.tup (xs.map D.str)) = some (decide (xs = xs)) := by
    show pyEq _ _ = _
    unfold pyEq
    rw [toPy_tup]
    simp only [shaped_tup hx, Bool.and_self]
    show some (PyData.eqvAll (xs.map PyData.str) (xs.map PyData.str)) = _
    rw [eqvAll_str]
    simp
  show (eqD _ _).map (fun b => D.bl (!b)) = _
  rw [e]
  simp
theorem text_ok : PyData.strOk ("text" : Str) = true := strOk_tl (by rw [tl_ofString]; decide)
theorem due_step (K : PySem.W.Frag) (A : Ad) {a1 a2 a3 : Sl} {t : Str} (hw : PyData.strOk t = true) {o : Option (Nat × Nat)} (ho : smallD o) (s : S) :
    (fb_L_right_1 K A : Rho → M S Out) [.val (.str t), a1, a2, a3, .val (heardR A t o), .val (dD o)] s = .ok (.nx [.val (.str t), a1, a2, a3, .val (heardR A t o), .val (dD o)]) s := by
  unfold fb_L_right_1
  cases o with
  | none =>
    have i : dIsN .non .non = some (.bl true) := rfl
    have l1 : lim 1 = true := rfl
    have ne : neA (.lst [.str t]) (.lst [.str t]) = some (.bl false) := neA_same_lst (xs := [t]) (fun x hx => by rw [List.mem_singleton.mp hx]; exact hw)
    show (yIf _ _ _ : Rho → M S Out) [.val (.str t), a1, a2, a3, .val (.lst [.str t]), .val .non] s = .ok (.nx [.val (.str t), a1, a2, a3, .val (.lst [.str t]), .val .non]) s
    simp only [runD, startR, xV, xC, xOp, xUn, xT, xAnd, xOr, xNot, xIf, xAndV, xOrV, xNotV, xCh, xNil, xCons, xTup, xLstN, xL, xCa, xF, xF0, noX, up, x1, xIt, xEn, xNo, xPa, xSl, xM1, xSplit, M.bind, M.ret, M.of, then_ok, then_ex, then_bad, yNx, yRet, yAsg, ySeq, yIf, yFor, yPar, yParK, yRaise, gV, gVt, gVc, gVn, dBl, dIn, strD, wipeR, List.getElem?_cons_zero, List.getElem?_cons_succ, List.set_cons_zero, List.set_cons_succ, Option.bind_some, Option.bind_none, Option.map_some, List.length_cons, List.length_nil, List.map_cons, List.map_nil, List.replicate_succ, List.replicate_zero, List.cons_append, List.nil_append, Nat.zero_add, Nat.reduceAdd, Nat.reduceSub, decide_true, Bool.not_true, Bool.not_false, i, l1, ne]
  | some p =>
    obtain ⟨a, b⟩ := p
    have i : dIsN (.tup [.int a, .int b]) .non = some (.bl false) := rfl
    have l3 : lim 3 = true := rfl
    have i0 : atI [D.int a, D.int b] 0 = some (.int a) := atI0
    have i1 : atI [D.int a, D.int b] 1 = some (.int b) := atI_nat _ 1
    have ne : neA (.tup [.str "text", .str (numS a), .str (numS b)]) (.tup [.str "text", .str (numS a), .str (numS b)]) = some (.bl false) := neA_same_tup (xs := ["text", numS a, numS b]) (fun x hx => by
      simp at hx
      rcases hx with e | e | e <;> rw [e]
      · exact text_ok
      · exact numS_ok a
      · exact numS_ok b)
    show (yIf _ _ _ : Rho → M S Out) [.val (.str t), a1, a2, a3, .val (.tup [.str "text", .str (numS a), .str (numS b)]), .val (.tup [.int a, .int b])] s = .ok (.nx [.val (.str t), a1, a2, a3, .val (.tup [.str "text", .str (numS a), .str (numS b)]), .val (.tup [.int a, .int b])]) s
    simp only [runD, startR, xV, xC, xOp, xUn, xT, xAnd, xOr, xNot, xIf, xAndV, xOrV, xNotV, xCh, xNil, xCons, xTup, xLstN, xL, xCa, xF, xF0, noX, up, x1, xIt, xEn, xNo, xPa, xSl, xM1, xSplit, M.bind, M.ret, M.of, then_ok, then_ex, then_bad, yNx, yRet, yAsg, ySeq, yIf, yFor, yPar, yParK, yRaise, gV, gVt, gVc, gVn, dBl, dIn, strD, wipeR, List.getElem?_cons_zero, List.getElem?_cons_succ, List.set_cons_zero, List.set_cons_succ, Option.bind_some, Option.bind_none, Option.map_some, List.length_cons, List.length_nil, List.map_cons, List.map_nil, List.replicate_succ, List.replicate_zero, List.cons_append, List.nil_append, Nat.zero_add, Nat.reduceAdd, Nat.reduceSub, decide_true, Bool.not_true, Bool.not_false, i, l3, dIx_tup, i0, i1, repr_nat ho.1, repr_nat ho.2, ne]
end Rk94

namespace Rk94
open PySem L2 Fs TL
variable {S : Type}
structure KK (K : PySem.W.Frag) (A : Ad) : Prop where
  t : KT K
  a : KA K A
  b : KB K A
  c : KC K A
  d : KD K A
  e : KE K A
/-- a text that both sides can be asked about -/
structure TextOk (t : Str) : Prop where
  len : t.length ≤ 4000
  ok : PyData.strOk t = true
  few : ∀ r ∈ LN t, (WD r).length ≤ 100
theorem right_eq {K : PySem.W.Frag} {A : Ad} (kk : KK K A) {t : Str} (ht : TextOk t) (s : S) : runD 6 1 (b_L_right K A) [.str t] s = .ok (.bl true) s := by
  obtain ⟨r0, rs, hr⟩ : ∃ r0 rs, LN t = r0 :: rs := by
    cases e : LN t with
    | nil => exact absurd e (lineS.ne t)
    | cons a b => exact ⟨a, b, rfl⟩
  obtain ⟨w0, ws, hs⟩ : ∃ w0 ws, WD r0 = w0 :: ws := by
    cases e : WD r0 with
    | nil => exact absurd e (spaceS.ne r0)
    | cons a b => exact ⟨a, b, rfl⟩
  have hl : lim t.length = true := lim_small (by have := ht.len; omega)
  have hw := ht.ok
  have cn := lineS.count t
  rw [show Txt.split t "\n" = LN t from rfl, hr] at cn
  have g1 := good_of lineS hl hw
  rw [show Txt.split t "\n" = LN t from rfl, hr] at g1
  obtain ⟨hl0, hw0⟩ := g1 r0 (List.mem_cons_self ..)
  have g2 := good_of spaceS hl0 hw0
  rw [show Txt.split r0 " " = WD r0 from rfl, hs] at g2
  have pl : ∀ p ∈ r0 :: rs, p.length ≤ 4000 := fun p hp => Nat.le_trans (lineS.part t (by rw [show Txt.split t "\n" = LN t from rfl, hr]; exact hp)).1 ht.len
  have few := ht.few r0 (by rw [hr]; exact List.mem_cons_self ..)
  rw [hs] at few
  have hrs : rs.length ≤ 4000 := by have := ht.len; simp at cn; omega
  have hws : ws.length < 100 := by simp at few; omega
  have o1 : smallD (safeR w0 ws rs) := safe_small (by omega)
  have o2 : smallD (stuckR w0 ws r0 rs) := stuck_small hrs pl
  have d1 := L_safe_due_eq K A hl hw hr hs
  have d2 := L_stuck_due_eq K A hl hw hr hs
  have r1 := read_safe_eq kk.t kk.a hl hw hr hs (lim_small (by omega))
  have r2 := read_stuck_eq kk.t kk.c hl hw hr hs (lim_small (by omega)) g2
  refine run_rt rfl ?_
  show ySeq _ _ [Sl.val (D.str t), .no, .no, .no, .no, .no] s = _
  rw [seq_nx (ρ1 := [.val (.str t), .val (dD (safeR w0 ws rs)), .val (dD (stuckR w0 ws r0 rs)), .no, .no, .no]) (s1 := s) (by simp only [runD, startR, xV, xC, xOp, xUn, xT, xAnd, xOr, xNot, xIf, xAndV, xOrV, xNotV, xCh, xNil, xCons, xTup, xLstN, xL, xCa, xF, xF0, noX, up, x1, xIt, xEn, xNo, xPa, xSl, xM1, xSplit, M.bind, M.ret, M.of, then_ok, then_ex, then_bad, yNx, yRet, yAsg, ySeq, yIf, yFor, yPar, yParK, yRaise, gV, gVt, gVc, gVn, dBl, dIn, strD, wipeR, List.getElem?_cons_zero, List.getElem?_cons_succ, List.set_cons_zero, List.set_cons_succ, Option.bind_some, Option.bind_none, Option.map_some, List.length_cons, List.length_nil, List.map_cons, List.map_nil, List.replicate_succ, List.replicate_zero, List.cons_append, List.nil_append, Nat.zero_add, Nat.reduceAdd, Nat.reduceSub, decide_true, Bool.not_true, Bool.not_false, d1, d2])]
  have m1 : (xF (up (m_write_safe K A)) (xCons (xF (up (m_read_safe K A)) (xCons (xV 0) xNil)) xNil) : Rho → M S D) [.val (.str t), .val (dD (safeR w0 ws rs)), .val (dD (stuckR w0 ws r0 rs)), .no, .no, .no] s = told0 A t s (safeR w0 ws rs) := by
    cases e : safeR w0 ws rs with
    | none =>
      have sb := safe_back kk.t kk.a kk.b hl hw hr hs hws e
      rw [e] at r1
      have r1 : m_read_safe K A [.str t] () = .ok (sObj A (kdsR w0 ws)) () := r1
      simp only [runD, startR, xV, xC, xOp, xUn, xT, xAnd, xOr, xNot, xIf, xAndV, xOrV, xNotV, xCh, xNil, xCons, xTup, xLstN, xL, xCa, xF, xF0, noX, up, x1, xIt, xEn, xNo, xPa, xSl, xM1, xSplit, M.bind, M.ret, M.of, then_ok, then_ex, then_bad, yNx, yRet, yAsg, ySeq, yIf, yFor, yPar, yParK, yRaise, gV, gVt, gVc, gVn, dBl, dIn, strD, wipeR, List.getElem?_cons_zero, List.getElem?_cons_succ, List.set_cons_zero, List.set_cons_succ, Option.bind_some, Option.bind_none, Option.map_some, List.length_cons, List.length_nil, List.map_cons, List.map_nil, List.replicate_succ, List.replicate_zero, List.cons_append, List.nil_append, Nat.zero_add, Nat.reduceAdd, Nat.reduceSub, decide_true, Bool.not_true, Bool.not_false, r1, sb, told0]
    | some p =>
      obtain ⟨a, b⟩ := p
      rw [e] at r1
      have r1 : m_read_safe K A [.str t] () = .ex A.c_BadText [(("word" : Str), .int b), (("line" : Str), .int a)] () := r1
      simp only [runD, startR, xV, xC, xOp, xUn, xT, xAnd, xOr, xNot, xIf, xAndV, xOrV, xNotV, xCh, xNil, xCons, xTup, xLstN, xL, xCa, xF, xF0, noX, up, x1, xIt, xEn, xNo, xPa, xSl, xM1, xSplit, M.bind, M.ret, M.of, then_ok, then_ex, then_bad, yNx, yRet, yAsg, ySeq, yIf, yFor, yPar, yParK, yRaise, gV, gVt, gVc, gVn, dBl, dIn, strD, wipeR, List.getElem?_cons_zero, List.getElem?_cons_succ, List.set_cons_zero, List.set_cons_succ, Option.bind_some, Option.bind_none, Option.map_some, List.length_cons, List.length_nil, List.map_cons, List.map_nil, List.replicate_succ, List.replicate_zero, List.cons_append, List.nil_append, Nat.zero_add, Nat.reduceAdd, Nat.reduceSub, decide_true, Bool.not_true, Bool.not_false, r1, told0]
  have h1 := hear_eq kk.e o1 m1
  have l1 : lim 1 = true := rfl
  have l2 : lim 2 = true := rfl
  rw [seq_nx (ρ1 := [.val (.str t), .val (dD (safeR w0 ws rs)), .val (dD (stuckR w0 ws r0 rs)), .own (.lst [heardR A t (safeR w0 ws rs)]), .no, .no]) (s1 := s) (by simp only [runD, startR, xV, xC, xOp, xUn, xT, xAnd, xOr, xNot, xIf, xAndV, xOrV, xNotV, xCh, xNil, xCons, xTup, xLstN, xL, xCa, xF, xF0, noX, up, x1, xIt, xEn, xNo, xPa, xSl, xM1, xSplit, M.bind, M.ret, M.of, then_ok, then_ex, then_bad, yNx, yRet, yAsg, ySeq, yIf, yFor, yPar, yParK, yRaise, gV, gVt, gVc, gVn, dBl, dIn, strD, wipeR, List.getElem?_cons_zero, List.getElem?_cons_succ, List.set_cons_zero, List.set_cons_succ, Option.bind_some, Option.bind_none, Option.map_some, List.length_cons, List.length_nil, List.map_cons, List.map_nil, List.replicate_succ, List.replicate_zero, List.cons_append, List.nil_append, Nat.zero_add, Nat.reduceAdd, Nat.reduceSub, decide_true, Bool.not_true, Bool.not_false, yAsgN, h1, l1])]
  have m2 : (xF (up (m_write_stuck K A)) (xCons (xF (up (m_read_stuck K A)) (xCons (xV 0) xNil)) xNil) : Rho → M S D) [.val (.str t), .val (dD (safeR w0 ws rs)), .val (dD (stuckR w0 ws r0 rs)), .own (.lst [heardR A t (safeR w0 ws rs)]), .no, .no] s = told0 A t s (stuckR w0 ws r0 rs) := by
    cases e : stuckR w0 ws r0 rs with
    | none =>
      have sb := stuck_back kk.t kk.c kk.d ht.len hw hr hs e
      rw [e] at r2
      have r2 : m_read_stuck K A [.str t] () = .ok (tObj A (fillsR w0 r0 rs)) () := r2
      simp only [runD, startR, xV, xC, xOp, xUn, xT, xAnd, xOr, xNot, xIf, xAndV, xOrV, xNotV, xCh, xNil, xCons, xTup, xLstN, xL, xCa, xF, xF0, noX, up, x1, xIt, xEn, xNo, xPa, xSl, xM1, xSplit, M.bind, M.ret, M.of, then_ok, then_ex, then_bad, yNx, yRet, yAsg, ySeq, yIf, yFor, yPar, yParK, yRaise, gV, gVt, gVc, gVn, dBl, dIn, strD, wipeR, List.getElem?_cons_zero, List.getElem?_cons_succ, List.set_cons_zero, List.set_cons_succ, Option.bind_some, Option.bind_none, Option.map_some, List.length_cons, List.length_nil, List.map_cons, List.map_nil, List.replicate_succ, List.replicate_zero, List.cons_append, List.nil_append, Nat.zero_add, Nat.reduceAdd, Nat.reduceSub, decide_true, Bool.not_true, Bool.not_false, r2, sb, told0]
    | some p =>
      obtain ⟨a, b⟩ := p
      rw [e] at r2
      have r2 : m_read_stuck K A [.str t] () = .ex A.c_BadText [(("word" : Str), .int b), (("line" : Str), .int a)] () := r2
      simp only [runD, startR, xV, xC, xOp, xUn, xT, xAnd, xOr, xNot, xIf, xAndV, xOrV, xNotV, xCh, xNil, xCons, xTup, xLstN, xL, xCa, xF, xF0, noX, up, x1, xIt, xEn, xNo, xPa, xSl, xM1, xSplit, M.bind, M.ret, M.of, then_ok, then_ex, then_bad, yNx, yRet, yAsg, ySeq, yIf, yFor, yPar, yParK, yRaise, gV, gVt, gVc, gVn, dBl, dIn, strD, wipeR, List.getElem?_cons_zero, List.getElem?_cons_succ, List.set_cons_zero, List.set_cons_succ, Option.bind_some, Option.bind_none, Option.map_some, List.length_cons, List.length_nil, List.map_cons, List.map_nil, List.replicate_succ, List.replicate_zero, List.cons_append, List.nil_append, Nat.zero_add, Nat.reduceAdd, Nat.reduceSub, decide_true, Bool.not_true, Bool.not_false, r2, told0]
  have h2 := hear_eq kk.e o2 m2
  rw [seq_nx (ρ1 := [.val (.str t), .val (dD (safeR w0 ws rs)), .val (dD (stuckR w0 ws r0 rs)), .own (.lst [heardR A t (safeR w0 ws rs), heardR A t (stuckR w0 ws r0 rs)]), .no, .no]) (s1 := s) (by simp only [runD, startR, xV, xC, xOp, xUn, xT, xAnd, xOr, xNot, xIf, xAndV, xOrV, xNotV, xCh, xNil, xCons, xTup, xLstN, xL, xCa, xF, xF0, noX, up, x1, xIt, xEn, xNo, xPa, xSl, xM1, xSplit, M.bind, M.ret, M.of, then_ok, then_ex, then_bad, yNx, yRet, yAsg, ySeq, yIf, yFor, yPar, yParK, yRaise, gV, gVt, gVc, gVn, dBl, dIn, strD, wipeR, List.getElem?_cons_zero, List.getElem?_cons_succ, List.set_cons_zero, List.set_cons_succ, Option.bind_some, Option.bind_none, Option.map_some, List.length_cons, List.length_nil, List.map_cons, List.map_nil, List.replicate_succ, List.replicate_zero, List.cons_append, List.nil_append, Nat.zero_add, Nat.reduceAdd, Nat.reduceSub, decide_true, Bool.not_true, Bool.not_false, yApp, ownL, h2, l1])]
  have i0 : ∀ x y : D, dIx (.lst [x, y]) (.int 0) = some x := fun x y => by rw [dIx_lst]; exact atI0
  have i1 : ∀ x y : D, dIx (.lst [x, y]) (.int 1) = some y := fun x y => by rw [dIx_lst]; exact atI_nat [x, y] 1
  have s1 := due_step (S := S) K A (a1 := .val (dD (safeR w0 ws rs))) (a2 := .val (dD (stuckR w0 ws r0 rs))) (a3 := .val (.lst [heardR A t (safeR w0 ws rs), heardR A t (stuckR w0 ws r0 rs)])) hw o1 s
  have s2 := due_step (S := S) K A (a1 := .val (dD (safeR w0 ws rs))) (a2 := .val (dD (stuckR w0 ws r0 rs))) (a3 := .val (.lst [heardR A t (safeR w0 ws rs), heardR A t (stuckR w0 ws r0 rs)])) hw o2 s
  generalize heardR A t (safeR w0 ws rs) = q1 at *
  generalize heardR A t (stuckR w0 ws r0 rs) = q2 at *
  generalize dD (safeR w0 ws rs) = q3 at *
  generalize dD (stuckR w0 ws r0 rs) = q4 at *
  simp only [runD, startR, xV, xC, xOp, xUn, xT, xAnd, xOr, xNot, xIf, xAndV, xOrV, xNotV, xCh, xNil, xCons, xTup, xLstN, xL, xCa, xF, xF0, noX, up, x1, xIt, xEn, xNo, xPa, xSl, xM1, xSplit, M.bind, M.ret, M.of, then_ok, then_ex, then_bad, yNx, yRet, yAsg, ySeq, yIf, yFor, yPar, yParK, yRaise, gV, gVt, gVc, gVn, dBl, dIn, strD, wipeR, List.getElem?_cons_zero, List.getElem?_cons_succ, List.set_cons_zero, List.set_cons_succ, Option.bind_some, Option.bind_none, Option.map_some, List.length_cons, List.length_nil, List.map_cons, List.map_nil, List.replicate_succ, List.replicate_zero, List.cons_append, List.nil_append, Nat.zero_add, Nat.reduceAdd, Nat.reduceSub, decide_true, Bool.not_true, Bool.not_false, yFree, freeR, oVal, i0, i1, l2, items, loopD, s1, s2]
end Rk94

namespace Rk94
open PySem L2 Fs TL
theorem then_ok2 {S α β : Type} {a : α} {s : S} {g : α → S → Res S β} : (Res.ok a s).then g = g a s := rfl
theorem seq_two {S : Type} {a b c : Rho → M S Out} {ρ ρ1 : Rho} {s s1 : S} (h : ySeq a b ρ s = .ok (.nx ρ1) s1) : ySeq a (ySeq b c) ρ s = c ρ1 s1 := by
  have h : (a ρ s).then (fun o => match o with
    | .nx ρ1 => b ρ1
    | .rt d => .ret (.rt d)
    | .bk ρ1 => .ret (.bk ρ1)
    | .ct ρ1 => .ret (.ct ρ1)) = .ok (.nx ρ1) s1 := h
  show (a ρ s).then (fun o => match o with
    | .nx ρ1 => ySeq b c ρ1
    | .rt d => .ret (.rt d)
    | .bk ρ1 => .ret (.bk ρ1)
    | .ct ρ1 => .ret (.ct ρ1)) = c ρ1 s1
  cases e : a ρ s with
  | ok o s2 =>
    rw [e] at h
    cases o with
    | nx ρ2 => exact seq_nx h
    | rt d => cases h
    | bk ρ2 => cases h
    | ct ρ2 => cases h
  | ex cl fs s2 => rw [e] at h; cases h
  | bad => rw [e] at h; cases h
theorem bits_small {i : Int} {n : Nat} (h : i.natAbs < 2 ^ n) : (Builtin.Int.intBits i : Int) ≤ n := by
  have := PyProof.Rows.intBits_le h
  omega
theorem canAll_int : ∀ xs : List Int, PyData.canLayAll0 (xs.map PyData.int) = true
  | [] => rfl
  | x :: xs => by
    show (true && PyData.canLayAll0 (xs.map PyData.int)) = true
    rw [canAll_int xs]; rfl
theorem depthAll_int : ∀ xs : List Int, PyData.depthAll (xs.map PyData.int) ≤ 1
  | [] => by decide
  | x :: xs => by
    show max (PyData.depth (.int x)) (PyData.depthAll (xs.map PyData.int)) ≤ 1
    have h1 : PyData.depth (.int x) ≤ 1 := by simp [PyData.depth]
    have h2 := depthAll_int xs
    omega
theorem shaped_ints (xs : List Int) : SeqAt.shaped (.list (xs.map PyData.int)) = true := by
  unfold SeqAt.shaped
  rw [Bool.and_eq_true]
  refine ⟨canAll_int xs, decide_eq_true ?_⟩
  have h2 := depthAll_int xs
  simp only [PyData.depth]
  omega
theorem neA_ints (xs : List Int) : neA (.lst (xs.map D.int)) (.lst []) = some (.bl (!xs.isEmpty)) := by
  show (eqD (.lst (xs.map D.int)) (.lst (([] : List Int).map D.int))).map (fun b => D.bl (!b)) = _
  have e : eqD (.lst (xs.map D.int)) (.lst (([] : List Int).map D.int)) = some xs.isEmpty := by
    show pyEq _ _ = _
    have tp : ∀ ys : List Int, toPy (.lst (ys.map D.int)) = some (.list (ys.map PyData.int)) := fun ys => by
      unfold toPy
      rw [toPyL_map D.int PyData.int (fun _ => rfl)]
      rfl
    unfold pyEq
    rw [tp, tp]
    simp only [shaped_ints, Bool.and_self]
    cases xs <;> rfl
  rw [e]; rfl
theorem draw_eq (K : PySem.W.Frag) (A : Ad) (L : PenA) (hc : ∀ x ∈ L.cells, x.natAbs < 2 ^ 1048577) {m : Int} (hm : 0 < m ∧ m < 1073741824) (s : PenS) (hs : 0 ≤ s.used ∧ s.used ≤ 1000000) :
    ∃ v s', runD 7 2 (b_L_draw K A L) [.adr L.p, .int m] s = .ok (.int v) s' ∧ 0 ≤ v ∧ v < m ∧ 0 ≤ s'.used ∧ s'.used ≤ s.used + 1 := by
  have pa : ∀ (l : Rho), penAt L 0 (.val (.adr L.p) :: l) = true := fun l => by
    unfold penAt
    simp
  have di : ∀ n : Int, dInt [.int n] = some (.int n) := fun _ => rfl
  have db : ∀ b : Bool, dInt [.bl b] = some (.int (if b then 1 else 0)) := fun _ => rfl
  have dmm : ∀ a : Int, dMod (.int a) (.int m) = some (.int (a % m)) := fun a => dMod_int hm.1
  have dfm : ∀ a : Int, dFdv (.int a) (.int m) = some (.int (a / m)) := fun a => dFdv_int hm
  have rng : ∀ a : Int, 0 ≤ a % m ∧ a % m < m := fun a => ⟨Int.emod_nonneg _ (by omega), Int.emod_lt_of_pos _ hm.1⟩
  by_cases hr : 0 < s.rest
  · have e1 : decide (0 < s.rest) = true := decide_eq_true hr
    refine ⟨s.rest % m, ⟨s.used, s.rest / m⟩, ?_, (rng _).1, (rng _).2, hs.1, by show s.used ≤ s.used + 1; omega⟩
    refine run_rt rfl ?_
    refine seq_rt ?_
    show (yIf _ _ _ : Rho → M PenS Out) [.val (.adr L.p), .val (.int m), .no, .no, .no, .no, .no] s = _
    simp only [runD, startR, xV, xC, xOp, xUn, xT, xAnd, xOr, xNot, xIf, xAndV, xOrV, xNotV, xCh, xNil, xCons, xTup, xLstN, xL, xCa, xF, xF0, noX, up, x1, xIt, xEn, xNo, xPa, xSl, xM1, xSplit, M.bind, M.ret, M.of, then_ok, then_ex, then_bad, yNx, yRet, yAsg, ySeq, yIf, yFor, yPar, yParK, yRaise, gV, gVt, gVc, gVn, dBl, dIn, strD, wipeR, List.getElem?_cons_zero, List.getElem?_cons_succ, List.set_cons_zero, List.set_cons_succ, Option.bind_some, Option.bind_none, Option.map_some, List.length_cons, List.length_nil, List.map_cons, List.map_nil, List.replicate_succ, List.replicate_zero, List.cons_append, List.nil_append, Nat.zero_add, Nat.reduceAdd, Nat.reduceSub, decide_true, Bool.not_true, Bool.not_false, xPen, yPen, pa, dGt_int, e1, di, dmm, dfm, then_ok2]
  · have e1 : decide (0 < s.rest) = false := decide_eq_false hr
    obtain ⟨u, q⟩ := s
    have hu : 0 ≤ u ∧ u ≤ 1000000 := hs
    have ub : ∀ n : Nat, u.natAbs < 2 ^ n → (Builtin.Int.intBits u : Int) ≤ n := fun n h => bits_small h
    have u20 : (Builtin.Int.intBits u : Int) ≤ 20 := ub 20 (by show u.natAbs < 1048576; omega)
    have mu : ∀ a : Int, a.natAbs < 2 ^ 64 → dMul (.int a) (.int u) = some (.int (a * u)) := fun a ha => dMul_int (by have := bits_small ha; omega)
    have dxx : ∀ (a b : Int), 0 < b → dMod (.int a) (.int b) = some (.int (a % b)) := fun a b h => dMod_int h
    -- the cell
    obtain ⟨cell, hcell, ev4⟩ : ∃ cell : Int, cell.natAbs < 2 ^ 1048577 ∧ (ySeq (yAsg (xOp dAdd (xOp dMul (xC (.int 109941)) (xV 3)) (xC (.int 6825))) (gV 4)) (yIf (xPenNe L 0) (yAsg (xPenCell L 0 (xOp dMod (xCa dInt (xCons (xV 3) xNil)) (xPenLen L 0))) (gV 4)) yNx) : Rho → M PenS Out) [.val (.adr L.p), .val (.int m), .no, .val (.int u), .no, .no, .no] ⟨u + 1, q⟩ = .ok (.nx [.val (.adr L.p), .val (.int m), .no, .val (.int u), .val (.int cell), .no, .no]) ⟨u + 1, q⟩ := by
      have m1 := mu 109941 (by decide)
      cases hl : L.cells with
      | nil =>
        refine ⟨109941 * u + 6825, ?_, ?_⟩
        · exact Nat.lt_of_lt_of_le (show (109941 * u + 6825).natAbs < 2 ^ 64 by show _ < 18446744073709551616; omega) (Nat.pow_le_pow_right (by decide) (by decide))
        · have ne : neA (.lst (L.cells.map D.int)) (.lst []) = some (.bl false) := by rw [neA_ints, hl]; rfl
          simp only [runD, startR, xV, xC, xOp, xUn, xT, xAnd, xOr, xNot, xIf, xAndV, xOrV, xNotV, xCh, xNil, xCons, xTup, xLstN, xL, xCa, xF, xF0, noX, up, x1, xIt, xEn, xNo, xPa, xSl, xM1, xSplit, M.bind, M.ret, M.of, then_ok, then_ex, then_bad, yNx, yRet, yAsg, ySeq, yIf, yFor, yPar, yParK, yRaise, gV, gVt, gVc, gVn, dBl, dIn, strD, wipeR, List.getElem?_cons_zero, List.getElem?_cons_succ, List.set_cons_zero, List.set_cons_succ, Option.bind_some, Option.bind_none, Option.map_some, List.length_cons, List.length_nil, List.map_cons, List.map_nil, List.replicate_succ, List.replicate_zero, List.cons_append, List.nil_append, Nat.zero_add, Nat.reduceAdd, Nat.reduceSub, decide_true, Bool.not_true, Bool.not_false, m1, dAdd_int, xPenNe, pa, ne]
      | cons c0 cs =>
        have ne : neA (.lst (L.cells.map D.int)) (.lst []) = some (.bl true) := by rw [neA_ints, hl]; rfl
        have lp : 0 < (L.cells.length : Int) := by rw [hl, List.length_cons]; omega
        have md := dxx u L.cells.length lp
        have k1 := Int.emod_nonneg u (Int.ne_of_gt lp)
        have k2 := Int.emod_lt_of_pos u lp
        obtain ⟨j, hj⟩ : ∃ j : Nat, u % (L.cells.length : Int) = j := ⟨(u % (L.cells.length : Int)).toNat, by omega⟩
        have jl : j < L.cells.length := by omega
        have gx : atI (L.cells.map D.int) (u % (L.cells.length : Int)) = some (.int L.cells[j]) := by
          rw [hj, atI_nat, List.getElem?_map, List.getElem?_eq_getElem jl]; rfl
        refine ⟨L.cells[j], hc _ (List.getElem_mem jl), ?_⟩
        simp only [runD, startR, xV, xC, xOp, xUn, xT, xAnd, xOr, xNot, xIf, xAndV, xOrV, xNotV, xCh, xNil, xCons, xTup, xLstN, xL, xCa, xF, xF0, noX, up, x1, xIt, xEn, xNo, xPa, xSl, xM1, xSplit, M.bind, M.ret, M.of, then_ok, then_ex, then_bad, yNx, yRet, yAsg, ySeq, yIf, yFor, yPar, yParK, yRaise, gV, gVt, gVc, gVn, dBl, dIn, strD, wipeR, List.getElem?_cons_zero, List.getElem?_cons_succ, List.set_cons_zero, List.set_cons_succ, Option.bind_some, Option.bind_none, Option.map_some, List.length_cons, List.length_nil, List.map_cons, List.map_nil, List.replicate_succ, List.replicate_zero, List.cons_append, List.nil_append, Nat.zero_add, Nat.reduceAdd, Nat.reduceSub, decide_true, Bool.not_true, Bool.not_false, m1, dAdd_int, xPenNe, pa, ne, xPenCell, xPenLen, di, md, dIx_lst, gx, flatOf, flat]
    have p18 : dPow (.int 10) (.int 18) = some (.int 1000000000000000000) := by rw [dPow_int ⟨by decide, by decide, by decide⟩]; rfl
    have ab : dAbs [.int cell] = some (.int (if cell < 0 then -cell else cell)) := rfl
    have fin : ∃ v s', (ySeq (yIf (xAnd (xT (xOp dLt (xV 3) (xPenLen L 0))) (xT (xOp dGe (xCa dAbs (xCons (xV 4) xNil)) (xOp dPow (xC (.int 10)) (xC (.int 18)))))) (ySeq (yAsg (xOp dAdd (xOp dMul (xC (.int 2)) (xOp dSub (xCa dAbs (xCons (xV 4) xNil)) (xOp dPow (xC (.int 10)) (xC (.int 18))))) (xCa dInt (xCons (xOp dLt (xV 4) (xC (.int 0))) xNil))) (gV 5))
  (ySeq (yPen L 0 (fun s n => ⟨s.used, n⟩) (xOp dFdv (xCa dInt (xCons (xV 5) xNil)) (xV 1)))
  (yRet (xOp dMod (xCa dInt (xCons (xV 5) xNil)) (xV 1))))) yNx)
  (ySeq (yAsg (xOp dMod (xCa dInt (xCons (xOp dPow (xOp dAdd (xOp dAdd (xOp dMod (xCa dInt (xCons (xV 4) xNil)) (xC (.int 2147483549))) (xOp dMul (xC (.int 76275)) (xV 3))) (xC (.int 3307))) (xC (.int 5))) xNil)) (xC (.int 2147483629))) (gV 6))
  (ySeq (yAsg (xOp dMod (xCa dInt (xCons (xOp dPow (xOp dAdd (xOp dAdd (xOp dMul (xV 6) (xOp dAdd (xOp dMul (xC (.int 2)) (xV 3)) (xC (.int 489)))) (xOp dMul (xOp dMul (xC (.int 60331)) (xV 3)) (xV 3))) (xC (.int 775))) (xC (.int 3))) xNil)) (xC (.int 2147483587))) (gV 6))
  (yRet (xOp dMod (xCa dInt (xCons (xOp dFdv (xV 6) (xC (.int 32))) xNil)) (xV 1))))) : Rho → M PenS Out) [.val (.adr L.p), .val (.int m), .no, .val (.int u), .val (.int cell), .no, .no] ⟨u + 1, q⟩ = .ok (.rt (.int v)) s' ∧ 0 ≤ v ∧ v < m ∧ 0 ≤ s'.used ∧ s'.used ≤ u + 1 := by
      cases hg : decide (u < (L.cells.length : Int)) && decide (1000000000000000000 ≤ (if cell < 0 then -cell else cell)) with
      | true =>
        rw [Bool.and_eq_true] at hg
        have m2 : dMul (.int 2) (.int ((if cell < 0 then -cell else cell) - 1000000000000000000)) = some (.int (2 * ((if cell < 0 then -cell else cell) - 1000000000000000000))) := dMul_int (by
          have b1 := bits_small (i := 2) (n := 2) (by decide)
          have b2 := bits_small (i := (if cell < 0 then -cell else cell) - 1000000000000000000) (n := 1048577) (Nat.lt_of_le_of_lt (by have := of_decide_eq_true hg.2; split <;> omega) hcell)
          omega)
        refine ⟨(2 * ((if cell < 0 then -cell else cell) - 1000000000000000000) + if decide (cell < 0) = true then 1 else 0) % m, ⟨u + 1, (2 * ((if cell < 0 then -cell else cell) - 1000000000000000000) + if decide (cell < 0) = true then 1 else 0) / m⟩, seq_rt (by
          simp only [runD, startR, xV, xC, xOp, xUn, xT, xAnd, xOr, xNot, xIf, xAndV, xOrV, xNotV, xCh, xNil, xCons, xTup, xLstN, xL, xCa, xF, xF0, noX, up, x1, xIt, xEn, xNo, xPa, xSl, xM1, xSplit, M.bind, M.ret, M.of, then_ok, then_ex, then_bad, yNx, yRet, yAsg, ySeq, yIf, yFor, yPar, yParK, yRaise, gV, gVt, gVc, gVn, dBl, dIn, strD, wipeR, List.getElem?_cons_zero, List.getElem?_cons_succ, List.set_cons_zero, List.set_cons_succ, Option.bind_some, Option.bind_none, Option.map_some, List.length_cons, List.length_nil, List.map_cons, List.map_nil, List.replicate_succ, List.replicate_zero, List.cons_append, List.nil_append, Nat.zero_add, Nat.reduceAdd, Nat.reduceSub, decide_true, Bool.not_true, Bool.not_false, xPen, xPenLen, yPen, pa, dLt_int, dGe_int, hg.1, hg.2, ab, p18, dSub_int, m2, db, dAdd_int, di, dmm, dfm, then_ok2]), (rng _).1, (rng _).2, by show (0 : Int) ≤ u + 1; omega, by show u + 1 ≤ u + 1; omega⟩
      | false =>
        have c1 := dxx cell 2147483549 (by decide)
        have r1 := Int.emod_nonneg cell (show (2147483549 : Int) ≠ 0 by decide)
        have r2 := Int.emod_lt_of_pos cell (show (0 : Int) < 2147483549 by decide)
        generalize cell % 2147483549 = a at c1 r1 r2
        have m1 := mu 76275 (by decide)
        have p1 : dPow (.int (a + 76275 * u + 3307)) (.int 5) = some (.int ((a + 76275 * u + 3307) ^ 5)) := dPow_int ⟨by decide, by decide, by show _ < 18446744073709551616; omega⟩
        have c2 := dxx ((a + 76275 * u + 3307) ^ 5) 2147483629 (by decide)
        have r3 := Int.emod_nonneg ((a + 76275 * u + 3307) ^ 5) (show (2147483629 : Int) ≠ 0 by decide)
        have r4 := Int.emod_lt_of_pos ((a + 76275 * u + 3307) ^ 5) (show (0 : Int) < 2147483629 by decide)
        generalize (a + 76275 * u + 3307) ^ 5 % 2147483629 = b at c2 r3 r4
        have m2 : dMul (.int 2) (.int u) = some (.int (2 * u)) := mu 2 (by decide)
        have bb := bits_small (i := b) (n := 31) (by show _ < 2147483648; omega)
        have b2 := bits_small (i := 2 * u + 489) (n := 31) (by show _ < 2147483648; omega)
        have m3 : dMul (.int b) (.int (2 * u + 489)) = some (.int (b * (2 * u + 489))) := dMul_int (by omega)
        have m4 : dMul (.int 60331) (.int u) = some (.int (60331 * u)) := mu 60331 (by decide)
        have m5 : dMul (.int (60331 * u)) (.int u) = some (.int (60331 * u * u)) := mu _ (by show _ < 18446744073709551616; omega)
        have z1 : 0 ≤ b * (2 * u + 489) := Int.mul_nonneg r3 (by omega)
        have z2 : b * (2 * u + 489) ≤ 2147483629 * 2000489 := Int.mul_le_mul (by omega) (by omega) (by omega) (by decide)
        have z3 : 0 ≤ 60331 * u * u := Int.mul_nonneg (by omega) hu.1
        have z4 : 60331 * u * u ≤ 60331000000 * 1000000 := Int.mul_le_mul (by omega) hu.2 hu.1 (by decide)
        have p2 : dPow (.int (b * (2 * u + 489) + 60331 * u * u + 775)) (.int 3) = some (.int ((b * (2 * u + 489) + 60331 * u * u + 775) ^ 3)) := dPow_int ⟨by decide, by decide, by show _ < 18446744073709551616; omega⟩
        have c3 := dxx ((b * (2 * u + 489) + 60331 * u * u + 775) ^ 3) 2147483587 (by decide)
        have f1 : ∀ x : Int, dFdv (.int x) (.int 32) = some (.int (x / 32)) := fun x => dFdv_int ⟨by decide, by decide⟩
        have gd : (yIf (xAnd (xT (xOp dLt (xV 3) (xPenLen L 0))) (xT (xOp dGe (xCa dAbs (xCons (xV 4) xNil)) (xOp dPow (xC (.int 10)) (xC (.int 18)))))) (ySeq (yAsg (xOp dAdd (xOp dMul (xC (.int 2)) (xOp dSub (xCa dAbs (xCons (xV 4) xNil)) (xOp dPow (xC (.int 10)) (xC (.int 18))))) (xCa dInt (xCons (xOp dLt (xV 4) (xC (.int 0))) xNil))) (gV 5))
  (ySeq (yPen L 0 (fun s n => ⟨s.used, n⟩) (xOp dFdv (xCa dInt (xCons (xV 5) xNil)) (xV 1)))
  (yRet (xOp dMod (xCa dInt (xCons (xV 5) xNil)) (xV 1))))) yNx : Rho → M PenS Out) [.val (.adr L.p), .val (.int m), .no, .val (.int u), .val (.int cell), .no, .no] ⟨u + 1, q⟩ = .ok (.nx [.val (.adr L.p), .val (.int m), .no, .val (.int u), .val (.int cell), .no, .no]) ⟨u + 1, q⟩ := by
          cases h1 : decide (u < (L.cells.length : Int)) with
          | false => simp only [runD, startR, xV, xC, xOp, xUn, xT, xAnd, xOr, xNot, xIf, xAndV, xOrV, xNotV, xCh, xNil, xCons, xTup, xLstN, xL, xCa, xF, xF0, noX, up, x1, xIt, xEn, xNo, xPa, xSl, xM1, xSplit, M.bind, M.ret, M.of, then_ok, then_ex, then_bad, yNx, yRet, yAsg, ySeq, yIf, yFor, yPar, yParK, yRaise, gV, gVt, gVc, gVn, dBl, dIn, strD, wipeR, List.getElem?_cons_zero, List.getElem?_cons_succ, List.set_cons_zero, List.set_cons_succ, Option.bind_some, Option.bind_none, Option.map_some, List.length_cons, List.length_nil, List.map_cons, List.map_nil, List.replicate_succ, List.replicate_zero, List.cons_append, List.nil_append, Nat.zero_add, Nat.reduceAdd, Nat.reduceSub, decide_true, Bool.not_true, Bool.not_false, xPenLen, pa, dLt_int, h1]
          | true =>
            rw [h1, Bool.true_and] at hg
            simp only [runD, startR, xV, xC, xOp, xUn, xT, xAnd, xOr, xNot, xIf, xAndV, xOrV, xNotV, xCh, xNil, xCons, xTup, xLstN, xL, xCa, xF, xF0, noX, up, x1, xIt, xEn, xNo, xPa, xSl, xM1, xSplit, M.bind, M.ret, M.of, then_ok, then_ex, then_bad, yNx, yRet, yAsg, ySeq, yIf, yFor, yPar, yParK, yRaise, gV, gVt, gVc, gVn, dBl, dIn, strD, wipeR, List.getElem?_cons_zero, List.getElem?_cons_succ, List.set_cons_zero, List.set_cons_succ, Option.bind_some, Option.bind_none, Option.map_some, List.length_cons, List.length_nil, List.map_cons, List.map_nil, List.replicate_succ, List.replicate_zero, List.cons_append, List.nil_append, Nat.zero_add, Nat.reduceAdd, Nat.reduceSub, decide_true, Bool.not_true, Bool.not_false, xPenLen, pa, dLt_int, h1, ab, p18, dGe_int, hg]
        refine ⟨((b * (2 * u + 489) + 60331 * u * u + 775) ^ 3 % 2147483587) / 32 % m, ⟨u + 1, q⟩, ?_, (rng _).1, (rng _).2, by show (0 : Int) ≤ u + 1; omega, by show u + 1 ≤ u + 1; omega⟩
        rw [seq_nx gd]
        rw [seq_nx (ρ1 := [.val (.adr L.p), .val (.int m), .no, .val (.int u), .val (.int cell), .no, .val (.int b)]) (s1 := (⟨u + 1, q⟩ : PenS)) (by simp only [runD, startR, xV, xC, xOp, xUn, xT, xAnd, xOr, xNot, xIf, xAndV, xOrV, xNotV, xCh, xNil, xCons, xTup, xLstN, xL, xCa, xF, xF0, noX, up, x1, xIt, xEn, xNo, xPa, xSl, xM1, xSplit, M.bind, M.ret, M.of, then_ok, then_ex, then_bad, yNx, yRet, yAsg, ySeq, yIf, yFor, yPar, yParK, yRaise, gV, gVt, gVc, gVn, dBl, dIn, strD, wipeR, List.getElem?_cons_zero, List.getElem?_cons_succ, List.set_cons_zero, List.set_cons_succ, Option.bind_some, Option.bind_none, Option.map_some, List.length_cons, List.length_nil, List.map_cons, List.map_nil, List.replicate_succ, List.replicate_zero, List.cons_append, List.nil_append, Nat.zero_add, Nat.reduceAdd, Nat.reduceSub, decide_true, Bool.not_true, Bool.not_false, di, c1, m1, dAdd_int, p1, c2])]
        rw [seq_nx (ρ1 := [.val (.adr L.p), .val (.int m), .no, .val (.int u), .val (.int cell), .no, .val (.int ((b * (2 * u + 489) + 60331 * u * u + 775) ^ 3 % 2147483587))]) (s1 := (⟨u + 1, q⟩ : PenS)) (by simp only [runD, startR, xV, xC, xOp, xUn, xT, xAnd, xOr, xNot, xIf, xAndV, xOrV, xNotV, xCh, xNil, xCons, xTup, xLstN, xL, xCa, xF, xF0, noX, up, x1, xIt, xEn, xNo, xPa, xSl, xM1, xSplit, M.bind, M.ret, M.of, then_ok, then_ex, then_bad, yNx, yRet, yAsg, ySeq, yIf, yFor, yPar, yParK, yRaise, gV, gVt, gVc, gVn, dBl, dIn, strD, wipeR, List.getElem?_cons_zero, List.getElem?_cons_succ, List.set_cons_zero, List.set_cons_succ, Option.bind_some, Option.bind_none, Option.map_some, List.length_cons, List.length_nil, List.map_cons, List.map_nil, List.replicate_succ, List.replicate_zero, List.cons_append, List.nil_append, Nat.zero_add, Nat.reduceAdd, Nat.reduceSub, decide_true, Bool.not_true, Bool.not_false, di, m2, dAdd_int, m3, m4, m5, p2, c3])]
        simp only [runD, startR, xV, xC, xOp, xUn, xT, xAnd, xOr, xNot, xIf, xAndV, xOrV, xNotV, xCh, xNil, xCons, xTup, xLstN, xL, xCa, xF, xF0, noX, up, x1, xIt, xEn, xNo, xPa, xSl, xM1, xSplit, M.bind, M.ret, M.of, then_ok, then_ex, then_bad, yNx, yRet, yAsg, ySeq, yIf, yFor, yPar, yParK, yRaise, gV, gVt, gVc, gVn, dBl, dIn, strD, wipeR, List.getElem?_cons_zero, List.getElem?_cons_succ, List.set_cons_zero, List.set_cons_succ, Option.bind_some, Option.bind_none, Option.map_some, List.length_cons, List.length_nil, List.map_cons, List.map_nil, List.replicate_succ, List.replicate_zero, List.cons_append, List.nil_append, Nat.zero_add, Nat.reduceAdd, Nat.reduceSub, decide_true, Bool.not_true, Bool.not_false, di, f1, dmm]
    obtain ⟨v, s', h1, h2, h3, h4, h5⟩ := fin
    refine ⟨v, s', run_rt rfl ?_, h2, h3, h4, h5⟩
    show ySeq _ _ [Sl.val (.adr L.p), .val (.int m), .no, .no, .no, .no, .no] (⟨u, q⟩ : PenS) = _
    rw [seq_nx (ρ1 := [.val (.adr L.p), .val (.int m), .no, .no, .no, .no, .no]) (s1 := (⟨u, q⟩ : PenS)) (by simp only [runD, startR, xV, xC, xOp, xUn, xT, xAnd, xOr, xNot, xIf, xAndV, xOrV, xNotV, xCh, xNil, xCons, xTup, xLstN, xL, xCa, xF, xF0, noX, up, x1, xIt, xEn, xNo, xPa, xSl, xM1, xSplit, M.bind, M.ret, M.of, then_ok, then_ex, then_bad, yNx, yRet, yAsg, ySeq, yIf, yFor, yPar, yParK, yRaise, gV, gVt, gVc, gVn, dBl, dIn, strD, wipeR, List.getElem?_cons_zero, List.getElem?_cons_succ, List.set_cons_zero, List.set_cons_succ, Option.bind_some, Option.bind_none, Option.map_some, List.length_cons, List.length_nil, List.map_cons, List.map_nil, List.replicate_succ, List.replicate_zero, List.cons_append, List.nil_append, Nat.zero_add, Nat.reduceAdd, Nat.reduceSub, decide_true, Bool.not_true, Bool.not_false, xPen, pa, dGt_int, e1])]
    rw [seq_nx (ρ1 := [.val (.adr L.p), .val (.int m), .no, .val (.int u), .no, .no, .no]) (s1 := (⟨u, q⟩ : PenS)) (by simp only [runD, startR, xV, xC, xOp, xUn, xT, xAnd, xOr, xNot, xIf, xAndV, xOrV, xNotV, xCh, xNil, xCons, xTup, xLstN, xL, xCa, xF, xF0, noX, up, x1, xIt, xEn, xNo, xPa, xSl, xM1, xSplit, M.bind, M.ret, M.of, then_ok, then_ex, then_bad, yNx, yRet, yAsg, ySeq, yIf, yFor, yPar, yParK, yRaise, gV, gVt, gVc, gVn, dBl, dIn, strD, wipeR, List.getElem?_cons_zero, List.getElem?_cons_succ, List.set_cons_zero, List.set_cons_succ, Option.bind_some, Option.bind_none, Option.map_some, List.length_cons, List.length_nil, List.map_cons, List.map_nil, List.replicate_succ, List.replicate_zero, List.cons_append, List.nil_append, Nat.zero_add, Nat.reduceAdd, Nat.reduceSub, decide_true, Bool.not_true, Bool.not_false, xPen, pa])]
    rw [seq_nx (ρ1 := [.val (.adr L.p), .val (.int m), .no, .val (.int u), .no, .no, .no]) (s1 := (⟨u + 1, q⟩ : PenS)) (by simp only [runD, startR, xV, xC, xOp, xUn, xT, xAnd, xOr, xNot, xIf, xAndV, xOrV, xNotV, xCh, xNil, xCons, xTup, xLstN, xL, xCa, xF, xF0, noX, up, x1, xIt, xEn, xNo, xPa, xSl, xM1, xSplit, M.bind, M.ret, M.of, then_ok, then_ex, then_bad, yNx, yRet, yAsg, ySeq, yIf, yFor, yPar, yParK, yRaise, gV, gVt, gVc, gVn, dBl, dIn, strD, wipeR, List.getElem?_cons_zero, List.getElem?_cons_succ, List.set_cons_zero, List.set_cons_succ, Option.bind_some, Option.bind_none, Option.map_some, List.length_cons, List.length_nil, List.map_cons, List.map_nil, List.replicate_succ, List.replicate_zero, List.cons_append, List.nil_append, Nat.zero_add, Nat.reduceAdd, Nat.reduceSub, decide_true, Bool.not_true, Bool.not_false, yPen, pa, dAdd_int, then_ok2])]
    rw [seq_two ev4]
    exact h1
end Rk94

namespace Rk94
open PySem L2 Fs TL
def wt (w : Nat → Nat) (l : List Nat) : Nat := (l.map w).sum
def wS (w : Nat → Nat) (t : Str) : Nat := wt w (tl t)
def wL (w : Nat → Nat) (ps : List Str) : Nat := (ps.map (wS w)).sum
section
variable {w : Nat → Nat}
theorem wt_app (a b : List Nat) : wt w (a ++ b) = wt w a + wt w b := by simp [wt]
theorem wt_join (s : Nat) : ∀ {ps : List (List Nat)}, ps ≠ [] → wt w (joinL [s] ps) + w s = (ps.map (wt w)).sum + ps.length * w s
  | [], h => absurd rfl h
  | [p], _ => by simp [joinL]
  | p :: q :: m, _ => by
    have ih := wt_join s (ps := q :: m) (by simp)
    show wt w (p ++ ([s] ++ joinL [s] (q :: m))) + w s = _
    rw [wt_app, wt_app, List.map_cons, List.sum_cons, List.length_cons, Nat.succ_mul]
    have e : wt w [s] = w s := by simp [wt]
    omega
theorem wS_join {y : Str} {s : Nat} (Y : Sep y s) {ps : List Str} (h : ps ≠ []) : wS w (Txt.join y ps) + w s = wL w ps + ps.length * w s := by
  have z := wt_join (w := w) s (ps := ps.map tl) (by simpa using h)
  unfold wS wL
  rw [join_eq, tl_join, Y.tl]
  rw [List.map_map, List.length_map] at z
  exact z
theorem wS_joinN {y : Str} {s : Nat} : wS w (Txt.join y []) = 0 := rfl
theorem wS_split {y : Str} {s : Nat} (Y : Sep y s) (t : Str) : wS w t + w s = wL w (Txt.split t y) + (Txt.split t y).length * w s := by
  have z := wS_join (w := w) Y (Y.ne t)
  rw [Y.back] at z
  exact z
theorem wL_app (a b : List Str) : wL w (a ++ b) = wL w a + wL w b := by simp [wL]
theorem wL_take (k : Nat) (a : List Str) : wL w (a.take k) ≤ wL w a := by
  have e := wL_app (w := w) (a.take k) (a.drop k)
  rw [List.take_append_drop] at e
  omega
theorem wL_drop (k : Nat) (a : List Str) : wL w (a.drop k) ≤ wL w a := by
  have e := wL_app (w := w) (a.take k) (a.drop k)
  rw [List.take_append_drop] at e
  omega
theorem wL_cut {k j : Nat} (h : k ≤ j) (a : List Str) : wL w (a.take k) + wL w (a.drop j) ≤ wL w a := by
  have e := wL_app (w := w) (a.take k) (a.drop k)
  rw [List.take_append_drop] at e
  have e2 := wL_drop (w := w) (j - k) (a.drop k)
  rw [List.drop_drop, show k + (j - k) = j by omega] at e2
  omega
theorem wL_one (o : Str) : wL w [o] = wS w o := by simp [wL]
theorem wL_mem : ∀ {a : List Str} {x : Str}, x ∈ a → wS w x ≤ wL w a
  | [], _, h => by cases h
  | y :: a, x, h => by
    have e : wL w (y :: a) = wS w y + wL w a := by simp [wL]
    rcases List.mem_cons.mp h with rfl | k
    · omega
    · have := wL_mem k
      omega
theorem wL_set : ∀ (a : List Str) (i : Nat) (x : Str), wL w (a.set i x) ≤ wL w a + wS w x
  | [], _, _ => by simp [wL]
  | y :: a, 0, x => by
    show wL w (x :: a) ≤ wL w (y :: a) + wS w x
    have e : ∀ y, wL w (y :: a) = wS w y + wL w a := fun y => by simp [wL]
    rw [e, e]; omega
  | y :: a, i + 1, x => by
    show wL w (y :: a.set i x) ≤ wL w (y :: a) + wS w x
    have e : ∀ y a, wL w (y :: a) = wS w y + wL w a := fun y a => by simp [wL]
    have := wL_set a i x
    rw [e, e]; omega
/-- fewer parts, at most as heavy: no heavier -/
theorem join_le {y : Str} {s : Nat} (Y : Sep y s) {t : Str} {ps : List Str} {x : Nat} (h1 : wL w ps ≤ wL w (Txt.split t y) + x) (h2 : ps.length ≤ (Txt.split t y).length) : wS w (Txt.join y ps) ≤ wS w t + x := by
  by_cases e : ps = []
  · rw [e]; show wt w [] ≤ _; simp [wt]
  · have a := wS_join (w := w) Y e
    have b := wS_split (w := w) Y t
    have c := Nat.mul_le_mul_right (w s) h2
    omega
/-- one part more -/
theorem join_le1 {y : Str} {s : Nat} (Y : Sep y s) {t : Str} {ps : List Str} {x : Nat} (h1 : wL w ps ≤ wL w (Txt.split t y) + x) (h2 : ps.length ≤ (Txt.split t y).length + 1) : wS w (Txt.join y ps) ≤ wS w t + x + w s := by
  by_cases e : ps = []
  · rw [e]; show wt w [] ≤ _; simp [wt]
  · have a := wS_join (w := w) Y e
    have b := wS_split (w := w) Y t
    have c := Nat.mul_le_mul_right (w s) h2
    rw [Nat.succ_mul] at c
    omega
theorem part_le {y : Str} {s : Nat} (Y : Sep y s) {t p : Str} (h : p ∈ Txt.split t y) : wS w p ≤ wS w t := by
  have a := wL_mem (w := w) h
  have b := wS_split (w := w) Y t
  have c := Nat.mul_le_mul_right (w s) (show 1 ≤ (Txt.split t y).length from List.length_pos_iff.mpr (Y.ne t))
  omega
theorem parts_le {y : Str} {s : Nat} (Y : Sep y s) (t : Str) : wL w (Txt.split t y) ≤ wS w t := by
  have b := wS_split (w := w) Y t
  have c := Nat.mul_le_mul_right (w s) (show 1 ≤ (Txt.split t y).length from List.length_pos_iff.mpr (Y.ne t))
  omega
end
def wLen : Nat → Nat := fun _ => 1
def wSp : Nat → Nat := fun c => if c = 32 then 1 else 0
theorem wS_len (t : Str) : wS wLen t = t.length := by
  rw [len_tl]
  show ((tl t).map fun _ => 1).sum = _
  generalize tl t = l
  induction l with
  | nil => rfl
  | cons c l ih => rw [List.map_cons, List.sum_cons, ih, List.length_cons]; omega
theorem wS_free {t : Str} (h : 32 ∉ tl t) : wS wSp t = 0 := by
  unfold wS wt
  have : ∀ l : List Nat, 32 ∉ l → (l.map wSp).sum = 0 := by
    intro l
    induction l with
    | nil => intro _; rfl
    | cons c l ih =>
      intro h
      have h1 : c ≠ 32 := fun e => h (by rw [e]; exact List.mem_cons_self ..)
      have h2 := ih fun m => h (List.mem_cons_of_mem _ m)
      rw [List.map_cons, List.sum_cons, h2]
      simp [wSp, h1]
  exact this _ h
theorem wL_free (r : Str) : wL wSp (WD r) = 0 := by
  have : ∀ l : List Str, (∀ p ∈ l, 32 ∉ tl p) → wL wSp l = 0 := by
    intro l
    induction l with
    | nil => intro _; rfl
    | cons p l ih =>
      intro h
      have e : wL wSp (p :: l) = wS wSp p + wL wSp l := by simp [wL]
      rw [e, wS_free (h p (List.mem_cons_self ..)), ih fun q m => h q (List.mem_cons_of_mem _ m)]
  exact this _ fun p hp => spaceS.free r hp
theorem words_count (r : Str) : (WD r).length = wS wSp r + 1 := by
  have h := wS_split (w := wSp) spaceS r
  have h2 := wL_free r
  have e : wSp 32 = 1 := rfl
  rw [e] at h
  unfold WD at *
  omega
/-- all signs of a text -/
def sgOk (t : Str) : Prop := ∀ c ∈ tl t, c < 0x110000
theorem sg_ok {t : Str} (h : sgOk t) : PyData.strOk t = true := strOk_tl h
theorem sg_split {y : Str} {s : Nat} (Y : Sep y s) {t p : Str} (h : sgOk t) (hp : p ∈ Txt.split t y) : sgOk p := fun c hc => h c ((Y.part t hp).2 c hc)
theorem mem_joinL {s c : Nat} : ∀ {ps : List (List Nat)}, c ∈ joinL [s] ps → c = s ∨ ∃ p ∈ ps, c ∈ p
  | [], h => by cases h
  | [p], h => .inr ⟨p, by simp, h⟩
  | p :: q :: m, h => by
    have h : c ∈ p ++ ([s] ++ joinL [s] (q :: m)) := h
    rcases List.mem_append.mp h with k | k
    · exact .inr ⟨p, by simp, k⟩
    · rcases List.mem_append.mp k with k | k
      · exact .inl (List.mem_singleton.mp k)
      · rcases mem_joinL (ps := q :: m) k with e | ⟨z, hz, hc⟩
        · exact .inl e
        · exact .inr ⟨z, List.mem_cons_of_mem _ hz, hc⟩
theorem sg_join {y : Str} {s : Nat} (Y : Sep y s) {ps : List Str} (h : ∀ p ∈ ps, sgOk p) : sgOk (Txt.join y ps) := fun c hc => by
  rw [join_eq, tl_join, Y.tl] at hc
  rcases mem_joinL hc with e | ⟨p, hp, hq⟩
  · have := Y.lo; omega
  · obtain ⟨z, hz, rfl⟩ := List.mem_map.mp hp
    exact h z hz c hq
theorem sg_app {a b : Str} (h1 : sgOk a) (h2 : sgOk b) : sgOk (a ++ b) := fun c hc => by
  rw [tl_append] at hc
  rcases List.mem_append.mp hc with k | k
  · exact h1 c k
  · exact h2 c k
/-- bounds of a text that may be bent again -/
structure Bt (l c : Nat) (t : Str) : Prop where
  sg : sgOk t
  len : wS wLen t ≤ l
  sp : wS wSp t ≤ c
/-- a word to be put in -/
structure Od (o : Str) : Prop where
  sg : sgOk o
  len : wS wLen o ≤ 61
  sp : wS wSp o = 0
theorem Bt.ok {l c : Nat} {t : Str} (h : Bt l c t) (hl : l ≤ 4000) (hc : c ≤ 99) : TextOk t where
  len := by have := h.len; rw [wS_len] at this; omega
  ok := sg_ok h.sg
  few := fun r hr => by
    rw [words_count]
    have := part_le (w := wSp) lineS hr
    have := h.sp
    omega
section
variable {l c : Nat} {t : Str}
/-- a line made otherwise -/
theorem bent_line (h : Bt l c t) {i : Nat} {r : Str} (hr : r ∈ LN t) {ps : List Str} (h0 : ∀ p ∈ ps, sgOk p) (h1 : wL wLen ps ≤ 2 * wL wLen (WD r) + 61) (h2 : wL wSp ps = 0) (h3 : ps.length ≤ (WD r).length + 1) : Bt (3 * l + 62) (2 * c + 3) (Txt.join "\n" ((LN t).set i (Txt.join " " ps))) := by
  have r1 := part_le (w := wLen) lineS hr
  have r2 := part_le (w := wSp) lineS hr
  have q1 : wL wLen (WD r) ≤ wS wLen r := parts_le spaceS r
  have j1 := join_le1 (w := wLen) spaceS (t := r) (ps := ps) (x := wL wLen (WD r) + 61) (by show _ ≤ wL wLen (WD r) + _; omega) h3
  have j2 := join_le1 (w := wSp) spaceS (t := r) (ps := ps) (x := 0) (by omega) h3
  have e1 : wLen 32 = 1 := rfl
  have e2 : wSp 32 = 1 := rfl
  have s1 := wL_set (w := wLen) (LN t) i (Txt.join " " ps)
  have s2 := wL_set (w := wSp) (LN t) i (Txt.join " " ps)
  have k1 := join_le (w := wLen) lineS (t := t) (ps := (LN t).set i (Txt.join " " ps)) s1 (by rw [List.length_set]; exact Nat.le_refl _)
  have k2 := join_le (w := wSp) lineS (t := t) (ps := (LN t).set i (Txt.join " " ps)) s2 (by rw [List.length_set]; exact Nat.le_refl _)
  have b1 := h.len
  have b2 := h.sp
  refine ⟨sg_join lineS fun p hp => ?_, by omega, by omega⟩
  rcases List.mem_or_eq_of_mem_set hp with m | rfl
  · exact sg_split lineS h.sg m
  · exact sg_join spaceS h0
theorem bent_less (h : Bt l c t) {k : Nat} : Bt (3 * l + 62) (2 * c + 3) (Txt.join "\n" ((LN t).take k ++ (LN t).drop (k + 1))) := by
  have le : ((LN t).take k ++ (LN t).drop (k + 1)).length ≤ (LN t).length := by rw [List.length_append, List.length_take, List.length_drop]; omega
  have k1 := join_le (w := wLen) lineS (t := t) (ps := (LN t).take k ++ (LN t).drop (k + 1)) (x := 0) (by rw [wL_app]; exact wL_cut (by omega) _) le
  have k2 := join_le (w := wSp) lineS (t := t) (ps := (LN t).take k ++ (LN t).drop (k + 1)) (x := 0) (by rw [wL_app]; exact wL_cut (by omega) _) le
  have b1 := h.len
  have b2 := h.sp
  refine ⟨sg_join lineS fun p hp => ?_, by omega, by omega⟩
  rcases List.mem_append.mp hp with m | m
  · exact sg_split lineS h.sg (List.mem_of_mem_take m)
  · exact sg_split lineS h.sg (List.mem_of_mem_drop m)
theorem bent_tail (h : Bt l c t) {o : Str} (h0 : sgOk o) (h1 : wS wLen o ≤ 8) (h2 : wS wSp o ≤ 3) : Bt (3 * l + 62) (2 * c + 3) (t ++ o) := by
  have b1 := h.len
  have b2 := h.sp
  have e : ∀ w, wS w (t ++ o) = wS w t + wS w o := fun w => by unfold wS; rw [tl_append, wt_app]
  exact ⟨sg_app h.sg h0, by rw [e]; omega, by rw [e]; omega⟩
theorem bent_same (h : Bt l c t) : Bt (3 * l + 62) (2 * c + 3) t := ⟨h.sg, by have := h.len; omega, by have := h.sp; omega⟩
/-- words put in, left out, doubled -/
theorem bent_put (h : Bt l c t) {i k j : Nat} {r o : Str} (hr : r ∈ LN t) (ho : Od o) (hj : k ≤ j) : Bt (3 * l + 62) (2 * c + 3) (Txt.join "\n" ((LN t).set i (Txt.join " " ((WD r).take k ++ [o] ++ (WD r).drop j)))) := by
  have hg := sg_split lineS h.sg hr
  have a1 := wL_cut (w := wLen) hj (WD r)
  have a2 := wL_cut (w := wSp) hj (WD r)
  have f := wL_free r
  have o1 := ho.len
  have o2 := ho.sp
  refine bent_line h hr (fun p hp => ?_) ?_ ?_ ?_
  · rcases List.mem_append.mp hp with m | m
    · rcases List.mem_append.mp m with m | m
      · exact sg_split spaceS hg (List.mem_of_mem_take m)
      · rw [List.mem_singleton.mp m]; exact ho.sg
    · exact sg_split spaceS hg (List.mem_of_mem_drop m)
  · rw [wL_app, wL_app, wL_one]; omega
  · rw [wL_app, wL_app, wL_one]; omega
  · rw [List.length_append, List.length_append, List.length_take, List.length_drop]; simp only [List.length_singleton]; omega
theorem bent_cut (h : Bt l c t) {i k j : Nat} {r : Str} (hr : r ∈ LN t) (hj : k ≤ j + 1) : Bt (3 * l + 62) (2 * c + 3) (Txt.join "\n" ((LN t).set i (Txt.join " " ((WD r).take k ++ (WD r).drop j)))) := by
  have hg := sg_split lineS h.sg hr
  have a1 := wL_take (w := wLen) k (WD r)
  have a2 := wL_take (w := wSp) k (WD r)
  have a3 := wL_drop (w := wLen) j (WD r)
  have a4 := wL_drop (w := wSp) j (WD r)
  have f := wL_free r
  refine bent_line h hr (fun p hp => ?_) ?_ ?_ ?_
  · rcases List.mem_append.mp hp with m | m
    · exact sg_split spaceS hg (List.mem_of_mem_take m)
    · exact sg_split spaceS hg (List.mem_of_mem_drop m)
  · rw [wL_app]; omega
  · rw [wL_app]; omega
  · rw [List.length_append, List.length_take, List.length_drop]; omega
end
end Rk94

namespace Rk94
open PySem L2 Fs TL
/-- so many draws so far -/
def Us (n : Nat) (s : PenS) : Prop := 0 ≤ s.used ∧ s.used ≤ (n : Int)
theorem Us.more {n m : Nat} {s : PenS} (h : Us n s) (k : n ≤ m) : Us m s := ⟨h.1, by have := h.2; omega⟩
/-- what draws -/
def Drw (L : PenA) (dr : List D → M PenS D) : Prop := ∀ (m : Int), 0 < m ∧ m < 1073741824 → ∀ (n : Nat) (s : PenS), Us n s → n ≤ 1000000 → ∃ (v : Int) (s' : PenS), dr [.adr L.p, .int m] s = .ok (.int v) s' ∧ 0 ≤ v ∧ v < m ∧ Us (n + 1) s'
theorem drw_nat {L : PenA} {dr : List D → M PenS D} (h : Drw L dr) (m : Nat) (hm : 0 < m ∧ m < 1073741824) (n : Nat) (s : PenS) (u : Us n s) (hn : n ≤ 1000000) : ∃ (v : Nat) (s' : PenS), dr [.adr L.p, .int m] s = .ok (.int v) s' ∧ v < m ∧ Us (n + 1) s' := by
  obtain ⟨v, s', h1, h2, h3, h4⟩ := h m ⟨by omega, by omega⟩ n s u hn
  obtain ⟨k, rfl⟩ : ∃ k : Nat, v = k := ⟨v.toNat, by omega⟩
  exact ⟨k, s', h1, by omega, h4⟩
theorem pick_eq {K : PySem.W.Frag} {A : Ad} {L : PenA} {dr : List D → M PenS D} (h : Drw L dr) {xs : List D} (h0 : xs ≠ []) (hl : xs.length ≤ 1000000) {n : Nat} {s : PenS} (u : Us n s) (hn : n ≤ 1000000) :
    ∃ x ∈ xs, ∃ s', runD 2 2 (b_L_pick K A dr) [.adr L.p, .lst xs] s = .ok x s' ∧ Us (n + 1) s' := by
  obtain ⟨v, s', h1, h2, h3⟩ := drw_nat h xs.length ⟨List.length_pos_iff.mpr h0, by omega⟩ n s u hn
  refine ⟨xs[v], List.getElem_mem h2, s', run_rt rfl ?_, h3⟩
  have e : atI xs (v : Int) = some xs[v] := by rw [atI_nat, List.getElem?_eq_getElem h2]
  show (b_L_pick K A dr : Rho → M PenS Out) [.val (.adr L.p), .val (.lst xs)] s = _
  unfold b_L_pick
  simp only [runD, startR, xV, xC, xOp, xUn, xT, xAnd, xOr, xNot, xIf, xAndV, xOrV, xNotV, xCh, xNil, xCons, xTup, xLstN, xL, xCa, xF, xF0, noX, up, x1, xIt, xEn, xNo, xPa, xSl, xM1, xSplit, M.bind, M.ret, M.of, then_ok, then_ex, then_bad, yNx, yRet, yAsg, ySeq, yIf, yFor, yPar, yParK, yRaise, gV, gVt, gVc, gVn, dBl, dIn, strD, wipeR, List.getElem?_cons_zero, List.getElem?_cons_succ, List.set_cons_zero, List.set_cons_succ, Option.bind_some, Option.bind_none, Option.map_some, List.length_cons, List.length_nil, List.map_cons, List.map_nil, List.replicate_succ, List.replicate_zero, List.cons_append, List.nil_append, Nat.zero_add, Nat.reduceAdd, Nat.reduceSub, decide_true, Bool.not_true, Bool.not_false, dLen_lst, h1, dIx_lst, e]
theorem cut_take (xs : List D) (k : Nat) : dSl (.lst xs) none (some (k : Int)) = some (.lst (xs.take k)) := by
  show some (D.lst (cutD xs none (some (k : Int)))) = _
  unfold cutD
  rw [HT.sIx_nat, HT.sIx_none]
  simp only [List.drop_zero, Nat.sub_zero]
  congr 2
  by_cases h : k ≤ xs.length
  · rw [Nat.min_eq_left h]
  · rw [Nat.min_eq_right (by omega), List.take_of_length_le (Nat.le_refl _), List.take_of_length_le (by omega)]
theorem cut_drop (xs : List D) (k : Nat) : dSl (.lst xs) (some (k : Int)) none = some (.lst (xs.drop k)) := by
  show some (D.lst (cutD xs (some (k : Int)) none)) = _
  unfold cutD
  rw [HT.sIx_nat, HT.sIx_none]
  congr 2
  by_cases h : k ≤ xs.length
  · rw [Nat.min_eq_left h, List.take_of_length_le (by rw [List.length_drop]; omega)]
  · rw [Nat.min_eq_right (by omega), Nat.sub_self, List.take_zero, List.drop_eq_nil_of_le (by omega)]
theorem dAdd_lst {xs ys : List D} (h : lim (xs.length + ys.length) = true) : dAdd (.lst xs) (.lst ys) = some (.lst (xs ++ ys)) := by
  unfold dAdd
  simp only [h]
theorem dAdd_str {x y : Str} (h : lim (x.length + y.length) = true) : dAdd (.str x) (.str y) = some (.str (x ++ y)) := by
  unfold dAdd
  simp only [h]
abbrev NINE : Str := Txt.mul "9" 60
abbrev NOUGHT : Str := Txt.mul "0" 60
abbrev ODD1 : List Str := ["", "-", "a", "b2", "c", "out", "out2", "a5", "p", "0", "-0", "01", "-7", "+1", NINE]
abbrev ODD2 : List Str := ["1" ++ NOUGHT, "-" ++ NINE, "A", "ninesigns", "zzzzzzzz4", "zzzzzzzz44", "1.0", "a\n", "d"]
abbrev ODD3 : List Str := ["\n", " ", "\n-", " a", "\na p b a"]
theorem tl_nine : tl NINE = List.replicate 60 57 := mul_one_list' 57
  where mul_one_list' (c : Nat) : tl (Txt.mul "9" 60) = List.replicate 60 57 := PyProof.Rows.mul_one_list 57 60
theorem tl_nought : tl NOUGHT = List.replicate 60 48 := PyProof.Rows.mul_one_list 48 60
theorem od_of {o : Str} {l : List Nat} (e : tl o = l) (h : ((l.all fun c => decide (c < 0x110000) && decide (c ≠ 32)) && decide (l.length ≤ 61)) = true) : Od o := by
  rw [Bool.and_eq_true, List.all_eq_true] at h
  refine ⟨fun c hc => ?_, ?_, wS_free fun m => ?_⟩
  · rw [e] at hc
    have := h.1 c hc
    rw [Bool.and_eq_true] at this
    exact of_decide_eq_true this.1
  · rw [wS_len, len_tl, e]
    exact of_decide_eq_true h.2
  · rw [e] at m
    have := h.1 32 m
    simp at this
theorem odds : ∀ o ∈ ODD1 ++ ODD2, Od o := by
  have q : ∀ (x : String), (((x.toList.map Char.toNat).all fun c => decide (c < 0x110000) && decide (c ≠ 32)) && decide ((x.toList.map Char.toNat).length ≤ 61)) = true → Od (Str.ofString x) := fun x h => od_of (tl_ofString x) h
  intro o ho
  rcases List.mem_append.mp ho with m | m
  · simp only [ODD1, List.mem_cons, List.not_mem_nil, or_false] at m
    rcases m with rfl | rfl | rfl | rfl | rfl | rfl | rfl | rfl | rfl | rfl | rfl | rfl | rfl | rfl | rfl
    · exact q "" (by decide)
    · exact q "-" (by decide)
    · exact q "a" (by decide)
    · exact q "b2" (by decide)
    · exact q "c" (by decide)
    · exact q "out" (by decide)
    · exact q "out2" (by decide)
    · exact q "a5" (by decide)
    · exact q "p" (by decide)
    · exact q "0" (by decide)
    · exact q "-0" (by decide)
    · exact q "01" (by decide)
    · exact q "-7" (by decide)
    · exact q "+1" (by decide)
    · exact od_of tl_nine (by decide)
  · simp only [ODD2, List.mem_cons, List.not_mem_nil, or_false] at m
    rcases m with rfl | rfl | rfl | rfl | rfl | rfl | rfl | rfl | rfl
    · exact od_of (l := 49 :: List.replicate 60 48) (by rw [tl_append, tl_nought, show tl ("1" : Str) = [49] by rw [tl_ofString]; decide]; rfl) (by decide)
    · exact od_of (l := 45 :: List.replicate 60 57) (by rw [tl_append, tl_nine, show tl ("-" : Str) = [45] by rw [tl_ofString]; decide]; rfl) (by decide)
    · exact q "A" (by decide)
    · exact q "ninesigns" (by decide)
    · exact q "zzzzzzzz4" (by decide)
    · exact q "zzzzzzzz44" (by decide)
    · exact q "1.0" (by decide)
    · exact q "a\n" (by decide)
    · exact q "d" (by decide)
theorem tails : ∀ o ∈ ODD3, sgOk o ∧ wS wLen o ≤ 8 ∧ wS wSp o ≤ 3 := by
  have q : ∀ (x : String), (((x.toList.map Char.toNat).all fun c => decide (c < 0x110000)) && decide ((x.toList.map Char.toNat).length ≤ 8) && decide (((x.toList.map Char.toNat).map wSp).sum ≤ 3)) = true → sgOk (Str.ofString x) ∧ wS wLen (Str.ofString x) ≤ 8 ∧ wS wSp (Str.ofString x) ≤ 3 := fun x h => by
    rw [Bool.and_eq_true, Bool.and_eq_true, List.all_eq_true] at h
    refine ⟨fun c hc => ?_, ?_, ?_⟩
    · rw [tl_ofString] at hc
      exact of_decide_eq_true (h.1.1 c hc)
    · rw [wS_len, len_tl, tl_ofString]
      exact of_decide_eq_true h.1.2
    · unfold wS wt
      rw [tl_ofString]
      exact of_decide_eq_true h.2
  intro o m
  simp only [ODD3, List.mem_cons, List.not_mem_nil, or_false] at m
  rcases m with rfl | rfl | rfl | rfl | rfl
  · exact q "\n" (by decide)
  · exact q " " (by decide)
  · exact q "\n-" (by decide)
  · exact q " a" (by decide)
  · exact q "\na p b a" (by decide)
end Rk94

namespace Rk94
open PySem L2 Fs TL
theorem sum_len (ps : List Str) : (ps.map (·.length)).sum = wL wLen ps := by
  unfold wL
  congr 1
  exact List.map_congr_left fun p _ => (wS_len p).symm
theorem joinD_w {y : Str} {s : Nat} (Y : Sep y s) {ps : List Str} (h : wS wLen (Txt.join y ps) ≤ 1000000) : joinD y (.lst (ps.map D.str)) = some (.str (Txt.join y ps)) := by
  have e : decide ((ps.map (·.length)).sum + ps.length * y.length ≤ 16777216) = true := decide_eq_true (by
    rw [sum_len, len_tl, Y.tl]
    by_cases h0 : ps = []
    · rw [h0]; simp [wL]
    · have z := wS_join (w := wLen) Y h0
      have : wLen s = 1 := rfl
      rw [this] at z
      simp only [List.length_cons, List.length_nil]
      omega)
  show (strsD (ps.map D.str)).bind _ = _
  rw [strsD_map]
  show (match decide _ with | true => some (D.str (Txt.join y ps)) | false => none) = _
  rw [e]
theorem two_joins {l c : Nat} {t : Str} {j : Nat} {ps : List Str} (hb : Bt l c (Txt.join "\n" ((LN t).set j (Txt.join " " ps)))) (hl : l ≤ 1000000) (hj : j < (LN t).length) :
    joinD " " (.lst (ps.map D.str)) = some (.str (Txt.join " " ps)) ∧ joinD "\n" (.lst (((LN t).map D.str).set j (.str (Txt.join " " ps)))) = some (.str (Txt.join "\n" ((LN t).set j (Txt.join " " ps)))) := by
  have b := hb.len
  refine ⟨joinD_w spaceS ?_, ?_⟩
  · have hm : Txt.join " " ps ∈ (LN t).set j (Txt.join " " ps) := by
      have k : j < ((LN t).set j (Txt.join " " ps)).length := by rw [List.length_set]; exact hj
      have e : ((LN t).set j (Txt.join " " ps))[j] = Txt.join " " ps := List.getElem_set_self k
      exact List.mem_of_getElem e
    have z1 := wL_mem (w := wLen) hm
    have ne : (LN t).set j (Txt.join " " ps) ≠ [] := fun e => by rw [e] at hm; cases hm
    have z2 := wS_join (w := wLen) lineS ne
    have : wLen 10 = 1 := rfl
    rw [this] at z2
    have : 0 < ((LN t).set j (Txt.join " " ps)).length := List.length_pos_iff.mpr ne
    omega
  · have z := joinD_w lineS (ps := (LN t).set j (Txt.join " " ps)) (by omega)
    rw [List.map_set] at z
    exact z
/-- what picks -/
def Pkr (L : PenA) (pk : List D → M PenS D) : Prop := ∀ (xs : List D), xs ≠ [] → xs.length ≤ 1000000 → ∀ (n : Nat) (s : PenS), Us n s → n ≤ 1000000 → ∃ x ∈ xs, ∃ s', pk [.adr L.p, .lst xs] s = .ok x s' ∧ Us (n + 1) s'
theorem pkr_of {K : PySem.W.Frag} {A : Ad} {L : PenA} {dr : List D → M PenS D} (h : Drw L dr) : Pkr L (runD 2 2 (b_L_pick K A dr)) := fun xs h0 hl n s u hn => pick_eq h h0 hl u hn
theorem pk_str {L : PenA} {pk : List D → M PenS D} (h : Pkr L pk) {xs : List Str} (h0 : xs ≠ []) (hl : xs.length ≤ 1000000) {n : Nat} {s : PenS} (u : Us n s) (hn : n ≤ 1000000) : ∃ x ∈ xs, ∃ s', pk [.adr L.p, .lst (xs.map D.str)] s = .ok (.str x) s' ∧ Us (n + 1) s' := by
  obtain ⟨x, hx, s', e, v⟩ := h (xs.map D.str) (by simpa using h0) (by simpa using hl) n s u hn
  obtain ⟨y, hy, rfl⟩ := List.mem_map.mp hx
  exact ⟨y, hy, s', e, v⟩
theorem bent_eq {K : PySem.W.Frag} {A : Ad} {L : PenA} {dr pk : List D → M PenS D} (h : Drw L dr) (hp : Pkr L pk) {t : Str} {l c n : Nat} (hb : Bt l c t) (hl : l ≤ 4000) (hc : c ≤ 99) {s : PenS} (u : Us n s) (hn : n + 5 ≤ 1000000) :
    ∃ t' s', runD 8 2 (b_L_bent K A dr pk) [.adr L.p, .str t] s = .ok (.str t') s' ∧ Bt (3 * l + 62) (2 * c + 3) t' ∧ Us (n + 5) s' := by
  suffices H : ∃ t' s', (b_L_bent K A dr pk : Rho → M PenS Out) [.val (.adr L.p), .val (.str t), .no, .no, .no, .no, .no, .no] s = .ok (.rt (.str t')) s' ∧ Bt (3 * l + 62) (2 * c + 3) t' ∧ Us (n + 5) s' by
    obtain ⟨t', s', e, b, v⟩ := H
    exact ⟨t', s', run_rt rfl e, b, v⟩
  have len := hb.len
  rw [wS_len] at len
  have sp1 := lineS.split t (lim_small (by omega))
  have cn := lineS.count t
  rw [show Txt.split t "\n" = LN t from rfl] at cn sp1
  have pos : 0 < (LN t).length := List.length_pos_iff.mpr (lineS.ne t)
  obtain ⟨way, s1, d1, w1, u1⟩ := drw_nat h 7 ⟨by decide, by decide⟩ n s u (by omega)
  have d1 : dr [.adr L.p, .int 7] s = .ok (.int way) s1 := d1
  obtain ⟨j, s2, d2, hj, u2⟩ := drw_nat h (LN t).length ⟨pos, by omega⟩ (n + 1) s1 u1 (by omega)
  obtain ⟨r, hr, er⟩ : ∃ r ∈ LN t, (LN t)[j]? = some r := ⟨(LN t)[j], List.getElem_mem hj, List.getElem?_eq_getElem hj⟩
  have er2 : atI ((LN t).map D.str) (j : Int) = some (.str r) := by rw [atI_nat, List.getElem?_map, er]; rfl
  have rl := (lineS.part t hr).1
  have sp2 := spaceS.split r (lim_small (by omega))
  have cn2 := spaceS.count r
  rw [show Txt.split r " " = WD r from rfl] at cn2 sp2
  have pos2 : 0 < (WD r).length := List.length_pos_iff.mpr (spaceS.ne r)
  obtain ⟨i, s3, d3, hi, u3⟩ := drw_nat h (WD r).length ⟨pos2, by omega⟩ (n + 1 + 1) s2 u2 (by omega)
  have ll : ∀ xs : List Str, dLen [.lst (xs.map D.str)] = some (.int xs.length) := fun xs => by rw [dLen_lst, List.length_map]
  have r9 : dRepS (.str "9") (.int 60) = some (.str NINE) := rfl
  have r0 : dRepS (.str "0") (.int 60) = some (.str NOUGHT) := rfl
  have len9 : NINE.length = 60 := by rw [len_tl, tl_nine]; rfl
  have len0 : NOUGHT.length = 60 := by rw [len_tl, tl_nought]; rfl
  have lx : ∀ x : String, x.toList.length ≤ 10 → (Str.ofString x).length ≤ 10 := fun x hx => by rw [len_tl, tl_ofString, List.length_map]; exact hx
  have a1 : dAdd (.str "1") (.str NOUGHT) = some (.str ("1" ++ NOUGHT)) := dAdd_str (lim_small (by have := lx "1" (by decide); rw [len0]; omega))
  have a2 : dAdd (.str "-") (.str NINE) = some (.str ("-" ++ NINE)) := dAdd_str (lim_small (by have := lx "-" (by decide); rw [len9]; omega))
  have o12 : dAdd (.lst (ODD1.map D.str)) (.lst (ODD2.map D.str)) = some (.lst ((ODD1 ++ ODD2).map D.str)) := by
    rw [dAdd_lst (by decide), List.map_append]
  have l15 : lim 15 = true := rfl
  have l9 : lim 9 = true := rfl
  have fl : ∀ n : Int, flatOf (.int n) = some (.int n) := fun _ => rfl
  have fs : ∀ n : Str, flatOf (.str n) = some (.str n) := fun _ => rfl
  unfold b_L_bent
  rw [seq_nx (ρ1 := [.val (.adr L.p), .val (.str t), .own (.lst ((LN t).map D.str)), .val (.int way), .no, .no, .no, .no]) (s1 := s1) (by simp only [runD, startR, xV, xC, xOp, xUn, xT, xAnd, xOr, xNot, xIf, xAndV, xOrV, xNotV, xCh, xNil, xCons, xTup, xLstN, xL, xCa, xF, xF0, noX, up, x1, xIt, xEn, xNo, xPa, xSl, xM1, xSplit, M.bind, M.ret, M.of, then_ok, then_ex, then_bad, yNx, yRet, yAsg, ySeq, yIf, yFor, yPar, yParK, yRaise, gV, gVt, gVc, gVn, dBl, dIn, strD, wipeR, List.getElem?_cons_zero, List.getElem?_cons_succ, List.set_cons_zero, List.set_cons_succ, Option.bind_some, Option.bind_none, Option.map_some, List.length_cons, List.length_nil, List.map_cons, List.map_nil, List.replicate_succ, List.replicate_zero, List.cons_append, List.nil_append, Nat.zero_add, Nat.reduceAdd, Nat.reduceSub, decide_true, Bool.not_true, Bool.not_false, yParN, sp1, d1])]
  rw [seq_nx (ρ1 := [.val (.adr L.p), .val (.str t), .own (.lst ((LN t).map D.str)), .val (.int way), .val (.int j), .no, .no, .no]) (s1 := s2) (by simp only [runD, startR, xV, xC, xOp, xUn, xT, xAnd, xOr, xNot, xIf, xAndV, xOrV, xNotV, xCh, xNil, xCons, xTup, xLstN, xL, xCa, xF, xF0, noX, up, x1, xIt, xEn, xNo, xPa, xSl, xM1, xSplit, M.bind, M.ret, M.of, then_ok, then_ex, then_bad, yNx, yRet, yAsg, ySeq, yIf, yFor, yPar, yParK, yRaise, gV, gVt, gVc, gVn, dBl, dIn, strD, wipeR, List.getElem?_cons_zero, List.getElem?_cons_succ, List.set_cons_zero, List.set_cons_succ, Option.bind_some, Option.bind_none, Option.map_some, List.length_cons, List.length_nil, List.map_cons, List.map_nil, List.replicate_succ, List.replicate_zero, List.cons_append, List.nil_append, Nat.zero_add, Nat.reduceAdd, Nat.reduceSub, decide_true, Bool.not_true, Bool.not_false, xBor, freeR, oVal, noX, ll, fl, d2, then_ok2])]
  rw [seq_nx (ρ1 := [.val (.adr L.p), .val (.str t), .own (.lst ((LN t).map D.str)), .val (.int way), .val (.int j), .val (.lst ((WD r).map D.str)), .no, .no]) (s1 := s2) (by simp only [runD, startR, xV, xC, xOp, xUn, xT, xAnd, xOr, xNot, xIf, xAndV, xOrV, xNotV, xCh, xNil, xCons, xTup, xLstN, xL, xCa, xF, xF0, noX, up, x1, xIt, xEn, xNo, xPa, xSl, xM1, xSplit, M.bind, M.ret, M.of, then_ok, then_ex, then_bad, yNx, yRet, yAsg, ySeq, yIf, yFor, yPar, yParK, yRaise, gV, gVt, gVc, gVn, dBl, dIn, strD, wipeR, List.getElem?_cons_zero, List.getElem?_cons_succ, List.set_cons_zero, List.set_cons_succ, Option.bind_some, Option.bind_none, Option.map_some, List.length_cons, List.length_nil, List.map_cons, List.map_nil, List.replicate_succ, List.replicate_zero, List.cons_append, List.nil_append, Nat.zero_add, Nat.reduceAdd, Nat.reduceSub, decide_true, Bool.not_true, Bool.not_false, xBor, freeR, oVal, noX, dIx_lst, er2, fs, sp2, then_ok2])]
  rw [seq_nx (ρ1 := [.val (.adr L.p), .val (.str t), .own (.lst ((LN t).map D.str)), .val (.int way), .val (.int j), .val (.lst ((WD r).map D.str)), .val (.int i), .no]) (s1 := s3) (by simp only [runD, startR, xV, xC, xOp, xUn, xT, xAnd, xOr, xNot, xIf, xAndV, xOrV, xNotV, xCh, xNil, xCons, xTup, xLstN, xL, xCa, xF, xF0, noX, up, x1, xIt, xEn, xNo, xPa, xSl, xM1, xSplit, M.bind, M.ret, M.of, then_ok, then_ex, then_bad, yNx, yRet, yAsg, ySeq, yIf, yFor, yPar, yParK, yRaise, gV, gVt, gVc, gVn, dBl, dIn, strD, wipeR, List.getElem?_cons_zero, List.getElem?_cons_succ, List.set_cons_zero, List.set_cons_succ, Option.bind_some, Option.bind_none, Option.map_some, List.length_cons, List.length_nil, List.map_cons, List.map_nil, List.replicate_succ, List.replicate_zero, List.cons_append, List.nil_append, Nat.zero_add, Nat.reduceAdd, Nat.reduceSub, decide_true, Bool.not_true, Bool.not_false, ll, d3])]
  rw [seq_nx (ρ1 := [.val (.adr L.p), .val (.str t), .own (.lst ((LN t).map D.str)), .val (.int way), .val (.int j), .val (.lst ((WD r).map D.str)), .val (.int i), .val (.lst (ODD1.map D.str))]) (s1 := s3) (by simp only [runD, startR, xV, xC, xOp, xUn, xT, xAnd, xOr, xNot, xIf, xAndV, xOrV, xNotV, xCh, xNil, xCons, xTup, xLstN, xL, xCa, xF, xF0, noX, up, x1, xIt, xEn, xNo, xPa, xSl, xM1, xSplit, M.bind, M.ret, M.of, then_ok, then_ex, then_bad, yNx, yRet, yAsg, ySeq, yIf, yFor, yPar, yParK, yRaise, gV, gVt, gVc, gVn, dBl, dIn, strD, wipeR, List.getElem?_cons_zero, List.getElem?_cons_succ, List.set_cons_zero, List.set_cons_succ, Option.bind_some, Option.bind_none, Option.map_some, List.length_cons, List.length_nil, List.map_cons, List.map_nil, List.replicate_succ, List.replicate_zero, List.cons_append, List.nil_append, Nat.zero_add, Nat.reduceAdd, Nat.reduceSub, decide_true, Bool.not_true, Bool.not_false, r9, l15, ODD1])]
  rw [seq_nx (ρ1 := [.val (.adr L.p), .val (.str t), .own (.lst ((LN t).map D.str)), .val (.int way), .val (.int j), .val (.lst ((WD r).map D.str)), .val (.int i), .val (.lst ((ODD1 ++ ODD2).map D.str))]) (s1 := s3) (by
    have o12 := o12
    simp only [ODD1, ODD2, List.map_cons, List.map_nil] at o12
    simp only [runD, startR, xV, xC, xOp, xUn, xT, xAnd, xOr, xNot, xIf, xAndV, xOrV, xNotV, xCh, xNil, xCons, xTup, xLstN, xL, xCa, xF, xF0, noX, up, x1, xIt, xEn, xNo, xPa, xSl, xM1, xSplit, M.bind, M.ret, M.of, then_ok, then_ex, then_bad, yNx, yRet, yAsg, ySeq, yIf, yFor, yPar, yParK, yRaise, gV, gVt, gVc, gVn, dBl, dIn, strD, wipeR, List.getElem?_cons_zero, List.getElem?_cons_succ, List.set_cons_zero, List.set_cons_succ, Option.bind_some, Option.bind_none, Option.map_some, List.length_cons, List.length_nil, List.map_cons, List.map_nil, List.replicate_succ, List.replicate_zero, List.cons_append, List.nil_append, Nat.zero_add, Nat.reduceAdd, Nat.reduceSub, decide_true, Bool.not_true, Bool.not_false, r9, r0, a1, a2, l9, o12, ODD1, ODD2])]
  obtain ⟨OD12, hOD⟩ : ∃ x, x = D.lst ((ODD1 ++ ODD2).map D.str) := ⟨_, rfl⟩
  rw [← hOD]
  have ix : ixN ((LN t).map D.str).length (j : Int) = some j := by
    unfold ixN
    rw [List.length_map, if_pos (by omega), if_pos (by omega), Int.toNat_natCast]
  have ct : ∀ k : Nat, dSl (.lst ((WD r).map D.str)) none (some (k : Int)) = some (.lst (((WD r).take k).map D.str)) := fun k => by rw [cut_take, List.map_take]
  have cd : ∀ k : Nat, dSl (.lst ((WD r).map D.str)) (some (k : Int)) none = some (.lst (((WD r).drop k).map D.str)) := fun k => by rw [cut_drop, List.map_drop]
  have ct1 : dSl (.lst ((WD r).map D.str)) none (some ((i : Int) + 1)) = some (.lst (((WD r).take (i + 1)).map D.str)) := ct (i + 1)
  have cd1 : dSl (.lst ((WD r).map D.str)) (some ((i : Int) + 1)) none = some (.lst (((WD r).drop (i + 1)).map D.str)) := cd (i + 1)
  have cd0 : dSl (.lst ((WD r).map D.str)) (some ((i : Int) + 0)) none = some (.lst (((WD r).drop i).map D.str)) := by rw [Int.add_zero]; exact cd i
  have it : dInt [.bl true] = some (.int 1) := rfl
  have if' : dInt [.bl false] = some (.int 0) := rfl
  have ad : ∀ xs ys : List Str, xs.length ≤ 5000 → ys.length ≤ 5000 → dAdd (.lst (xs.map D.str)) (.lst (ys.map D.str)) = some (.lst ((xs ++ ys).map D.str)) := fun xs ys h1 h2 => by
    rw [dAdd_lst (by rw [List.length_map, List.length_map]; exact lim_small (by omega)), List.map_append]
  have tkl : ∀ k, ((WD r).take k).length ≤ 4001 := fun k => by rw [List.length_take]; omega
  have dkl : ∀ k, ((WD r).drop k).length ≤ 4001 := fun k => by rw [List.length_drop]; omega
  have l1 : lim 1 = true := rfl
  have tw : way < 3 ∨ way = 3 ∨ way = 4 ∨ way = 5 ∨ way = 6 := by omega
  rcases tw with hw | rfl | rfl | rfl | rfl
  · -- a word put in
    have e3 : decide ((way : Int) < 3) = true := decide_eq_true (by omega)
    have n3 : decide ((way : Int) = 3) = false := decide_eq_false (by omega)
    have n4 : decide ((way : Int) = 4) = false := decide_eq_false (by omega)
    have n5 : decide ((way : Int) = 5) = false := decide_eq_false (by omega)
    have e6 : decide ((way : Int) < 6) = true := decide_eq_true (by omega)
    obtain ⟨o, ho, s4, d4, u4⟩ := pk_str hp (xs := ODD1 ++ ODD2) (by simp) (by decide) u3 (by omega)
    have od := odds o ho
    rw [← hOD] at d4
    have p1 := ad ((WD r).take i) [o] (by have := tkl i; omega) (by simp)
    simp only [List.map_cons, List.map_nil] at p1
    cases e2 : decide ((way : Int) < 2) with
    | true =>
      have bt := bent_put hb hr od (i := j) (k := i) (j := i + 1) (by omega)
      obtain ⟨j1, j2⟩ := two_joins bt (by omega) hj
      have p2 := ad ((WD r).take i ++ [o]) ((WD r).drop (i + 1)) (by have := tkl i; rw [List.length_append]; simp; omega) (by have := dkl (i + 1); omega)
      rw [seq_nx (ρ1 := [.val (.adr L.p), .val (.str t), .own (.lst (((LN t).map D.str).set j (.str (Txt.join " " ((WD r).take i ++ [o] ++ (WD r).drop (i + 1)))))), .val (.int way), .val (.int j), .val (.lst ((WD r).map D.str)), .val (.int i), .val OD12]) (s1 := s4) (by simp only [runD, startR, xV, xC, xOp, xUn, xT, xAnd, xOr, xNot, xIf, xAndV, xOrV, xNotV, xCh, xNil, xCons, xTup, xLstN, xL, xCa, xF, xF0, noX, up, x1, xIt, xEn, xNo, xPa, xSl, xM1, xSplit, M.bind, M.ret, M.of, then_ok, then_ex, then_bad, yNx, yRet, yAsg, ySeq, yIf, yFor, yPar, yParK, yRaise, gV, gVt, gVc, gVn, dBl, dIn, strD, wipeR, List.getElem?_cons_zero, List.getElem?_cons_succ, List.set_cons_zero, List.set_cons_succ, Option.bind_some, Option.bind_none, Option.map_some, List.length_cons, List.length_nil, List.map_cons, List.map_nil, List.replicate_succ, List.replicate_zero, List.cons_append, List.nil_append, Nat.zero_add, Nat.reduceAdd, Nat.reduceSub, decide_true, Bool.not_true, Bool.not_false, dLt_int, e3, e2, ySetL, ownL, ct, cd1, d4, l1, it, dAdd_int, p1, p2, j1, ix])]
      refine ⟨_, s4, ?_, bt, u4.more (by omega)⟩
      simp only [runD, startR, xV, xC, xOp, xUn, xT, xAnd, xOr, xNot, xIf, xAndV, xOrV, xNotV, xCh, xNil, xCons, xTup, xLstN, xL, xCa, xF, xF0, noX, up, x1, xIt, xEn, xNo, xPa, xSl, xM1, xSplit, M.bind, M.ret, M.of, then_ok, then_ex, then_bad, yNx, yRet, yAsg, ySeq, yIf, yFor, yPar, yParK, yRaise, gV, gVt, gVc, gVn, dBl, dIn, strD, wipeR, List.getElem?_cons_zero, List.getElem?_cons_succ, List.set_cons_zero, List.set_cons_succ, Option.bind_some, Option.bind_none, Option.map_some, List.length_cons, List.length_nil, List.map_cons, List.map_nil, List.replicate_succ, List.replicate_zero, List.cons_append, List.nil_append, Nat.zero_add, Nat.reduceAdd, Nat.reduceSub, decide_true, Bool.not_true, Bool.not_false, dEq_int, n3, n4, n5, e6, dLt_int, yFree, freeR, oVal, j2]
    | false =>
      have bt := bent_put hb hr od (i := j) (k := i) (j := i) (by omega)
      obtain ⟨j1, j2⟩ := two_joins bt (by omega) hj
      have p2 := ad ((WD r).take i ++ [o]) ((WD r).drop i) (by have := tkl i; rw [List.length_append]; simp; omega) (by have := dkl i; omega)
      rw [seq_nx (ρ1 := [.val (.adr L.p), .val (.str t), .own (.lst (((LN t).map D.str).set j (.str (Txt.join " " ((WD r).take i ++ [o] ++ (WD r).drop i))))), .val (.int way), .val (.int j), .val (.lst ((WD r).map D.str)), .val (.int i), .val OD12]) (s1 := s4) (by simp only [runD, startR, xV, xC, xOp, xUn, xT, xAnd, xOr, xNot, xIf, xAndV, xOrV, xNotV, xCh, xNil, xCons, xTup, xLstN, xL, xCa, xF, xF0, noX, up, x1, xIt, xEn, xNo, xPa, xSl, xM1, xSplit, M.bind, M.ret, M.of, then_ok, then_ex, then_bad, yNx, yRet, yAsg, ySeq, yIf, yFor, yPar, yParK, yRaise, gV, gVt, gVc, gVn, dBl, dIn, strD, wipeR, List.getElem?_cons_zero, List.getElem?_cons_succ, List.set_cons_zero, List.set_cons_succ, Option.bind_some, Option.bind_none, Option.map_some, List.length_cons, List.length_nil, List.map_cons, List.map_nil, List.replicate_succ, List.replicate_zero, List.cons_append, List.nil_append, Nat.zero_add, Nat.reduceAdd, Nat.reduceSub, decide_true, Bool.not_true, Bool.not_false, dLt_int, e3, e2, ySetL, ownL, ct, cd0, d4, l1, if', dAdd_int, p1, p2, j1, ix])]
      refine ⟨_, s4, ?_, bt, u4.more (by omega)⟩
      simp only [runD, startR, xV, xC, xOp, xUn, xT, xAnd, xOr, xNot, xIf, xAndV, xOrV, xNotV, xCh, xNil, xCons, xTup, xLstN, xL, xCa, xF, xF0, noX, up, x1, xIt, xEn, xNo, xPa, xSl, xM1, xSplit, M.bind, M.ret, M.of, then_ok, then_ex, then_bad, yNx, yRet, yAsg, ySeq, yIf, yFor, yPar, yParK, yRaise, gV, gVt, gVc, gVn, dBl, dIn, strD, wipeR, List.getElem?_cons_zero, List.getElem?_cons_succ, List.set_cons_zero, List.set_cons_succ, Option.bind_some, Option.bind_none, Option.map_some, List.length_cons, List.length_nil, List.map_cons, List.map_nil, List.replicate_succ, List.replicate_zero, List.cons_append, List.nil_append, Nat.zero_add, Nat.reduceAdd, Nat.reduceSub, decide_true, Bool.not_true, Bool.not_false, dEq_int, n3, n4, n5, e6, dLt_int, yFree, freeR, oVal, j2]
  · -- a word left out
    have z1 : decide (((3 : Nat) : Int) < 3) = false := by decide
    have z2 : decide (((3 : Nat) : Int) = 3) = true := by decide
    have z3 : decide (((3 : Nat) : Int) = 4) = false := by decide
    have z4 : decide (((3 : Nat) : Int) = 5) = false := by decide
    have z5 : decide (((3 : Nat) : Int) < 6) = true := by decide
    have bt := bent_cut hb hr (i := j) (k := i) (j := i + 1) (by omega)
    obtain ⟨j1, j2⟩ := two_joins bt (by omega) hj
    have p2 := ad ((WD r).take i) ((WD r).drop (i + 1)) (by have := tkl i; omega) (by have := dkl (i + 1); omega)
    rw [seq_nx (ρ1 := [.val (.adr L.p), .val (.str t), .own (.lst ((LN t).map D.str)), .val (.int (3 : Nat)), .val (.int j), .val (.lst ((WD r).map D.str)), .val (.int i), .val OD12]) (s1 := s3) (by simp only [runD, startR, xV, xC, xOp, xUn, xT, xAnd, xOr, xNot, xIf, xAndV, xOrV, xNotV, xCh, xNil, xCons, xTup, xLstN, xL, xCa, xF, xF0, noX, up, x1, xIt, xEn, xNo, xPa, xSl, xM1, xSplit, M.bind, M.ret, M.of, then_ok, then_ex, then_bad, yNx, yRet, yAsg, ySeq, yIf, yFor, yPar, yParK, yRaise, gV, gVt, gVc, gVn, dBl, dIn, strD, wipeR, List.getElem?_cons_zero, List.getElem?_cons_succ, List.set_cons_zero, List.set_cons_succ, Option.bind_some, Option.bind_none, Option.map_some, List.length_cons, List.length_nil, List.map_cons, List.map_nil, List.replicate_succ, List.replicate_zero, List.cons_append, List.nil_append, Nat.zero_add, Nat.reduceAdd, Nat.reduceSub, decide_true, Bool.not_true, Bool.not_false, dLt_int, z1])]
    rw [seq_nx (ρ1 := [.val (.adr L.p), .val (.str t), .own (.lst (((LN t).map D.str).set j (.str (Txt.join " " ((WD r).take i ++ (WD r).drop (i + 1)))))), .val (.int (3 : Nat)), .val (.int j), .val (.lst ((WD r).map D.str)), .val (.int i), .val OD12]) (s1 := s3) (by simp only [runD, startR, xV, xC, xOp, xUn, xT, xAnd, xOr, xNot, xIf, xAndV, xOrV, xNotV, xCh, xNil, xCons, xTup, xLstN, xL, xCa, xF, xF0, noX, up, x1, xIt, xEn, xNo, xPa, xSl, xM1, xSplit, M.bind, M.ret, M.of, then_ok, then_ex, then_bad, yNx, yRet, yAsg, ySeq, yIf, yFor, yPar, yParK, yRaise, gV, gVt, gVc, gVn, dBl, dIn, strD, wipeR, List.getElem?_cons_zero, List.getElem?_cons_succ, List.set_cons_zero, List.set_cons_succ, Option.bind_some, Option.bind_none, Option.map_some, List.length_cons, List.length_nil, List.map_cons, List.map_nil, List.replicate_succ, List.replicate_zero, List.cons_append, List.nil_append, Nat.zero_add, Nat.reduceAdd, Nat.reduceSub, decide_true, Bool.not_true, Bool.not_false, dEq_int, z2, ySetL, ownL, ct, cd1, dAdd_int, p2, j1, ix])]
    refine ⟨_, s3, ?_, bt, u3.more (by omega)⟩
    simp only [runD, startR, xV, xC, xOp, xUn, xT, xAnd, xOr, xNot, xIf, xAndV, xOrV, xNotV, xCh, xNil, xCons, xTup, xLstN, xL, xCa, xF, xF0, noX, up, x1, xIt, xEn, xNo, xPa, xSl, xM1, xSplit, M.bind, M.ret, M.of, then_ok, then_ex, then_bad, yNx, yRet, yAsg, ySeq, yIf, yFor, yPar, yParK, yRaise, gV, gVt, gVc, gVn, dBl, dIn, strD, wipeR, List.getElem?_cons_zero, List.getElem?_cons_succ, List.set_cons_zero, List.set_cons_succ, Option.bind_some, Option.bind_none, Option.map_some, List.length_cons, List.length_nil, List.map_cons, List.map_nil, List.replicate_succ, List.replicate_zero, List.cons_append, List.nil_append, Nat.zero_add, Nat.reduceAdd, Nat.reduceSub, decide_true, Bool.not_true, Bool.not_false, dEq_int, dLt_int, z3, z4, z5, yFree, freeR, oVal, j2]
  · -- a word doubled
    have z1 : decide (((4 : Nat) : Int) < 3) = false := by decide
    have z2 : decide (((4 : Nat) : Int) = 3) = false := by decide
    have z3 : decide (((4 : Nat) : Int) = 4) = true := by decide
    have z4 : decide (((4 : Nat) : Int) = 5) = false := by decide
    have z5 : decide (((4 : Nat) : Int) < 6) = true := by decide
    have bt := bent_cut hb hr (i := j) (k := i + 1) (j := i) (by omega)
    obtain ⟨j1, j2⟩ := two_joins bt (by omega) hj
    have p2 := ad ((WD r).take (i + 1)) ((WD r).drop i) (by have := tkl (i + 1); omega) (by have := dkl i; omega)
    rw [seq_nx (ρ1 := [.val (.adr L.p), .val (.str t), .own (.lst ((LN t).map D.str)), .val (.int (4 : Nat)), .val (.int j), .val (.lst ((WD r).map D.str)), .val (.int i), .val OD12]) (s1 := s3) (by simp only [runD, startR, xV, xC, xOp, xUn, xT, xAnd, xOr, xNot, xIf, xAndV, xOrV, xNotV, xCh, xNil, xCons, xTup, xLstN, xL, xCa, xF, xF0, noX, up, x1, xIt, xEn, xNo, xPa, xSl, xM1, xSplit, M.bind, M.ret, M.of, then_ok, then_ex, then_bad, yNx, yRet, yAsg, ySeq, yIf, yFor, yPar, yParK, yRaise, gV, gVt, gVc, gVn, dBl, dIn, strD, wipeR, List.getElem?_cons_zero, List.getElem?_cons_succ, List.set_cons_zero, List.set_cons_succ, Option.bind_some, Option.bind_none, Option.map_some, List.length_cons, List.length_nil, List.map_cons, List.map_nil, List.replicate_succ, List.replicate_zero, List.cons_append, List.nil_append, Nat.zero_add, Nat.reduceAdd, Nat.reduceSub, decide_true, Bool.not_true, Bool.not_false, dLt_int, z1])]
    rw [seq_nx (ρ1 := [.val (.adr L.p), .val (.str t), .own (.lst ((LN t).map D.str)), .val (.int (4 : Nat)), .val (.int j), .val (.lst ((WD r).map D.str)), .val (.int i), .val OD12]) (s1 := s3) (by simp only [runD, startR, xV, xC, xOp, xUn, xT, xAnd, xOr, xNot, xIf, xAndV, xOrV, xNotV, xCh, xNil, xCons, xTup, xLstN, xL, xCa, xF, xF0, noX, up, x1, xIt, xEn, xNo, xPa, xSl, xM1, xSplit, M.bind, M.ret, M.of, then_ok, then_ex, then_bad, yNx, yRet, yAsg, ySeq, yIf, yFor, yPar, yParK, yRaise, gV, gVt, gVc, gVn, dBl, dIn, strD, wipeR, List.getElem?_cons_zero, List.getElem?_cons_succ, List.set_cons_zero, List.set_cons_succ, Option.bind_some, Option.bind_none, Option.map_some, List.length_cons, List.length_nil, List.map_cons, List.map_nil, List.replicate_succ, List.replicate_zero, List.cons_append, List.nil_append, Nat.zero_add, Nat.reduceAdd, Nat.reduceSub, decide_true, Bool.not_true, Bool.not_false, dEq_int, z2])]
    rw [seq_nx (ρ1 := [.val (.adr L.p), .val (.str t), .own (.lst (((LN t).map D.str).set j (.str (Txt.join " " ((WD r).take (i + 1) ++ (WD r).drop i))))), .val (.int (4 : Nat)), .val (.int j), .val (.lst ((WD r).map D.str)), .val (.int i), .val OD12]) (s1 := s3) (by simp only [runD, startR, xV, xC, xOp, xUn, xT, xAnd, xOr, xNot, xIf, xAndV, xOrV, xNotV, xCh, xNil, xCons, xTup, xLstN, xL, xCa, xF, xF0, noX, up, x1, xIt, xEn, xNo, xPa, xSl, xM1, xSplit, M.bind, M.ret, M.of, then_ok, then_ex, then_bad, yNx, yRet, yAsg, ySeq, yIf, yFor, yPar, yParK, yRaise, gV, gVt, gVc, gVn, dBl, dIn, strD, wipeR, List.getElem?_cons_zero, List.getElem?_cons_succ, List.set_cons_zero, List.set_cons_succ, Option.bind_some, Option.bind_none, Option.map_some, List.length_cons, List.length_nil, List.map_cons, List.map_nil, List.replicate_succ, List.replicate_zero, List.cons_append, List.nil_append, Nat.zero_add, Nat.reduceAdd, Nat.reduceSub, decide_true, Bool.not_true, Bool.not_false, dEq_int, z3, ySetL, ownL, ct1, cd, dAdd_int, p2, j1, ix])]
    refine ⟨_, s3, ?_, bt, u3.more (by omega)⟩
    simp only [runD, startR, xV, xC, xOp, xUn, xT, xAnd, xOr, xNot, xIf, xAndV, xOrV, xNotV, xCh, xNil, xCons, xTup, xLstN, xL, xCa, xF, xF0, noX, up, x1, xIt, xEn, xNo, xPa, xSl, xM1, xSplit, M.bind, M.ret, M.of, then_ok, then_ex, then_bad, yNx, yRet, yAsg, ySeq, yIf, yFor, yPar, yParK, yRaise, gV, gVt, gVc, gVn, dBl, dIn, strD, wipeR, List.getElem?_cons_zero, List.getElem?_cons_succ, List.set_cons_zero, List.set_cons_succ, Option.bind_some, Option.bind_none, Option.map_some, List.length_cons, List.length_nil, List.map_cons, List.map_nil, List.replicate_succ, List.replicate_zero, List.cons_append, List.nil_append, Nat.zero_add, Nat.reduceAdd, Nat.reduceSub, decide_true, Bool.not_true, Bool.not_false, dEq_int, dLt_int, z4, z5, yFree, freeR, oVal, j2]
  · -- a line left out
    have z1 : decide (((5 : Nat) : Int) < 3) = false := by decide
    have z2 : decide (((5 : Nat) : Int) = 3) = false := by decide
    have z3 : decide (((5 : Nat) : Int) = 4) = false := by decide
    have z4 : decide (((5 : Nat) : Int) = 5) = true := by decide
    have z5 : decide (((5 : Nat) : Int) < 6) = true := by decide
    have bt := bent_less hb (k := j)
    have j2 := joinD_w lineS (ps := (LN t).take j ++ (LN t).drop (j + 1)) (by have := bt.len; omega)
    have c1 : dSl (.lst ((LN t).map D.str)) none (some (j : Int)) = some (.lst (((LN t).take j).map D.str)) := by rw [cut_take, List.map_take]
    have c2 : dSl (.lst ((LN t).map D.str)) (some ((j : Int) + 1)) none = some (.lst (((LN t).drop (j + 1)).map D.str)) := by
      rw [show (j : Int) + 1 = ((j + 1 : Nat) : Int) by omega, cut_drop, List.map_drop]
    have p2 := ad ((LN t).take j) ((LN t).drop (j + 1)) (by rw [List.length_take]; omega) (by rw [List.length_drop]; omega)
    refine ⟨_, s3, ?_, bt, u3.more (by omega)⟩
    simp only [runD, startR, xV, xC, xOp, xUn, xT, xAnd, xOr, xNot, xIf, xAndV, xOrV, xNotV, xCh, xNil, xCons, xTup, xLstN, xL, xCa, xF, xF0, noX, up, x1, xIt, xEn, xNo, xPa, xSl, xM1, xSplit, M.bind, M.ret, M.of, then_ok, then_ex, then_bad, yNx, yRet, yAsg, ySeq, yIf, yFor, yPar, yParK, yRaise, gV, gVt, gVc, gVn, dBl, dIn, strD, wipeR, List.getElem?_cons_zero, List.getElem?_cons_succ, List.set_cons_zero, List.set_cons_succ, Option.bind_some, Option.bind_none, Option.map_some, List.length_cons, List.length_nil, List.map_cons, List.map_nil, List.replicate_succ, List.replicate_zero, List.cons_append, List.nil_append, Nat.zero_add, Nat.reduceAdd, Nat.reduceSub, decide_true, Bool.not_true, Bool.not_false, dEq_int, dLt_int, z1, z2, z3, z4, z5, yFree, freeR, oVal, dAdd_int, c1, c2, p2, j2]
  · -- a tail
    have z1 : decide (((6 : Nat) : Int) < 3) = false := by decide
    have z2 : decide (((6 : Nat) : Int) = 3) = false := by decide
    have z3 : decide (((6 : Nat) : Int) = 4) = false := by decide
    have z4 : decide (((6 : Nat) : Int) = 5) = false := by decide
    have z5 : decide (((6 : Nat) : Int) < 6) = false := by decide
    obtain ⟨o, ho, s4, d4, u4⟩ := pk_str hp (xs := ODD3) (by simp) (by decide) u3 (by omega)
    simp only [ODD3, List.map_cons, List.map_nil] at d4
    obtain ⟨q1, q2, q3⟩ := tails o ho
    have l5 : lim 5 = true := rfl
    have ol : o.length ≤ 8 := by rw [wS_len] at q2; exact q2
    have ap : dAdd (.str t) (.str o) = some (.str (t ++ o)) := dAdd_str (lim_small (by omega))
    refine ⟨t ++ o, s4, ?_, bent_tail hb q1 q2 q3, u4.more (by omega)⟩
    simp only [runD, startR, xV, xC, xOp, xUn, xT, xAnd, xOr, xNot, xIf, xAndV, xOrV, xNotV, xCh, xNil, xCons, xTup, xLstN, xL, xCa, xF, xF0, noX, up, x1, xIt, xEn, xNo, xPa, xSl, xM1, xSplit, M.bind, M.ret, M.of, then_ok, then_ex, then_bad, yNx, yRet, yAsg, ySeq, yIf, yFor, yPar, yParK, yRaise, gV, gVt, gVc, gVn, dBl, dIn, strD, wipeR, List.getElem?_cons_zero, List.getElem?_cons_succ, List.set_cons_zero, List.set_cons_succ, Option.bind_some, Option.bind_none, Option.map_some, List.length_cons, List.length_nil, List.map_cons, List.map_nil, List.replicate_succ, List.replicate_zero, List.cons_append, List.nil_append, Nat.zero_add, Nat.reduceAdd, Nat.reduceSub, decide_true, Bool.not_true, Bool.not_false, dEq_int, dLt_int, z1, z2, z3, z4, z5, yFree, freeR, oVal, l5, d4, ap]
end Rk94

namespace Rk94
open PySem L2 Fs TL
/-- values that are no strings -/
def ODDS (A : Ad) : List D := [.non, .int 0, .bl true, .lst [.str "a 0"], .tup [.str "a", .int 0], .dct [], .obj A.c_Stuck [(("fills" : Str), .tup [])]]
structure KF (K : PySem.W.Frag) (A : Ad) : Prop where
  no : ∀ x ∈ ODDS A, dIsk K [x, .ty "str"] = some (.bl false)
def ex00 (A : Ad) : Res Unit D := .ex A.c_BadText [(("word" : Str), .int 0), (("line" : Str), .int 0)] ()
theorem need_odd {K : PySem.W.Frag} {A : Ad} (kf : KF K A) {x : D} (hx : x ∈ ODDS A) : m_need_string K A [x] () = ex00 A := by
  have n := kf.no x hx
  have fd : fldsD ["line", "word"] [D.int 0, D.int 0] = [(("word" : Str), .int 0), (("line" : Str), .int 0)] := fld2 (.int 0) (.int 0)
  unfold m_need_string b_need_string ex00
  simp only [runD, startR, xV, xC, xOp, xUn, xT, xAnd, xOr, xNot, xIf, xAndV, xOrV, xNotV, xCh, xNil, xCons, xTup, xLstN, xL, xCa, xF, xF0, noX, up, x1, xIt, xEn, xNo, xPa, xSl, xM1, xSplit, M.bind, M.ret, M.of, then_ok, then_ex, then_bad, yNx, yRet, yAsg, ySeq, yIf, yFor, yPar, yParK, yRaise, gV, gVt, gVc, gVn, dBl, dIn, strD, wipeR, List.getElem?_cons_zero, List.getElem?_cons_succ, List.set_cons_zero, List.set_cons_succ, Option.bind_some, Option.bind_none, Option.map_some, List.length_cons, List.length_nil, List.map_cons, List.map_nil, List.replicate_succ, List.replicate_zero, List.cons_append, List.nil_append, Nat.zero_add, Nat.reduceAdd, Nat.reduceSub, decide_true, Bool.not_true, Bool.not_false, n, fd, then_ok2]
theorem safe_odd {K : PySem.W.Frag} {A : Ad} (kf : KF K A) {x : D} (hx : x ∈ ODDS A) : m_read_safe K A [x] () = ex00 A := by
  have n := need_odd kf hx
  unfold ex00 at n ⊢
  unfold m_read_safe
  refine run_ex rfl ?_
  unfold b_read_safe
  refine seq_ex ?_
  simp only [runD, startR, xV, xC, xOp, xUn, xT, xAnd, xOr, xNot, xIf, xAndV, xOrV, xNotV, xCh, xNil, xCons, xTup, xLstN, xL, xCa, xF, xF0, noX, up, x1, xIt, xEn, xNo, xPa, xSl, xM1, xSplit, M.bind, M.ret, M.of, then_ok, then_ex, then_bad, yNx, yRet, yAsg, ySeq, yIf, yFor, yPar, yParK, yRaise, gV, gVt, gVc, gVn, dBl, dIn, strD, wipeR, List.getElem?_cons_zero, List.getElem?_cons_succ, List.set_cons_zero, List.set_cons_succ, Option.bind_some, Option.bind_none, Option.map_some, List.length_cons, List.length_nil, List.map_cons, List.map_nil, List.replicate_succ, List.replicate_zero, List.cons_append, List.nil_append, Nat.zero_add, Nat.reduceAdd, Nat.reduceSub, decide_true, Bool.not_true, Bool.not_false, yDrop, n]
theorem stuck_odd {K : PySem.W.Frag} {A : Ad} (kf : KF K A) {x : D} (hx : x ∈ ODDS A) : m_read_stuck K A [x] () = ex00 A := by
  have n := need_odd kf hx
  unfold ex00 at n ⊢
  unfold m_read_stuck
  refine run_ex rfl ?_
  unfold b_read_stuck
  refine seq_ex ?_
  simp only [runD, startR, xV, xC, xOp, xUn, xT, xAnd, xOr, xNot, xIf, xAndV, xOrV, xNotV, xCh, xNil, xCons, xTup, xLstN, xL, xCa, xF, xF0, noX, up, x1, xIt, xEn, xNo, xPa, xSl, xM1, xSplit, M.bind, M.ret, M.of, then_ok, then_ex, then_bad, yNx, yRet, yAsg, ySeq, yIf, yFor, yPar, yParK, yRaise, gV, gVt, gVc, gVn, dBl, dIn, strD, wipeR, List.getElem?_cons_zero, List.getElem?_cons_succ, List.set_cons_zero, List.set_cons_succ, Option.bind_some, Option.bind_none, Option.map_some, List.length_cons, List.length_nil, List.map_cons, List.map_nil, List.replicate_succ, List.replicate_zero, List.cons_append, List.nil_append, Nat.zero_add, Nat.reduceAdd, Nat.reduceSub, decide_true, Bool.not_true, Bool.not_false, yDrop, n]
theorem mk_stuckS {S : Type} {K : PySem.W.Frag} {A : Ad} (kc : KC K A) (d : D) (s : S) : runI A.c_Stuck 1 1 (b_StuckU_initU K A) [d] s = .ok (.obj A.c_Stuck [(("fills" : Str), d)]) s := by
  have c := chk_true kc.stuck
  have l : decide (0 < 900) = true := rfl
  unfold b_StuckU_initU
  simp only [runD, startR, xV, xC, xOp, xUn, xT, xAnd, xOr, xNot, xIf, xAndV, xOrV, xNotV, xCh, xNil, xCons, xTup, xLstN, xL, xCa, xF, xF0, noX, up, x1, xIt, xEn, xNo, xPa, xSl, xM1, xSplit, M.bind, M.ret, M.of, then_ok, then_ex, then_bad, yNx, yRet, yAsg, ySeq, yIf, yFor, yPar, yParK, yRaise, gV, gVt, gVc, gVn, dBl, dIn, strD, wipeR, List.getElem?_cons_zero, List.getElem?_cons_succ, List.set_cons_zero, List.set_cons_succ, Option.bind_some, Option.bind_none, Option.map_some, List.length_cons, List.length_nil, List.map_cons, List.map_nil, List.replicate_succ, List.replicate_zero, List.cons_append, List.nil_append, Nat.zero_add, Nat.reduceAdd, Nat.reduceSub, decide_true, Bool.not_true, Bool.not_false, runI, ySetF, ownI, putO, c, l, Bool.and_self, putFD, initOut]
abbrev SOME : List Str := ["-", "a 0 b 1 c2 -7", "a p b a", "c r a c\na p b a\nb q c b", "a s c e b a\nb2 zzzzzzzz a b2", "outs 5", "m 1"]
abbrev LAST : List Str := ["", "a 0 a 1", "b 0 a 1", "a p b a\n", "a p b", "a 0 b", "-\n-", "- ", "- a", "-\na 0", "a 0\nb 1", "a 0\n"]
theorem bt_of {x : String} (h : (((x.toList.map Char.toNat).all fun c => decide (c < 0x110000)) && decide ((x.toList.map Char.toNat).length ≤ 28) && decide (((x.toList.map Char.toNat).map wSp).sum ≤ 9)) = true) : Bt 28 9 (Str.ofString x) := by
  rw [Bool.and_eq_true, Bool.and_eq_true, List.all_eq_true] at h
  refine ⟨fun c hc => ?_, ?_, ?_⟩
  · rw [tl_ofString] at hc
    exact of_decide_eq_true (h.1.1 c hc)
  · rw [wS_len, len_tl, tl_ofString]
    exact of_decide_eq_true h.1.2
  · unfold wS wt
    rw [tl_ofString]
    exact of_decide_eq_true h.2
theorem bt_some : ∀ o ∈ SOME, Bt 28 9 o := by
  intro o m
  simp only [SOME, List.mem_cons, List.not_mem_nil, or_false] at m
  rcases m with rfl | rfl | rfl | rfl | rfl | rfl | rfl
  · exact bt_of (x := "-") (by decide)
  · exact bt_of (x := "a 0 b 1 c2 -7") (by decide)
  · exact bt_of (x := "a p b a") (by decide)
  · exact bt_of (x := "c r a c\na p b a\nb q c b") (by decide)
  · exact bt_of (x := "a s c e b a\nb2 zzzzzzzz a b2") (by decide)
  · exact bt_of (x := "outs 5") (by decide)
  · exact bt_of (x := "m 1") (by decide)
theorem bt_last : ∀ o ∈ LAST, Bt 28 9 o := by
  intro o m
  simp only [LAST, List.mem_cons, List.not_mem_nil, or_false] at m
  rcases m with rfl | rfl | rfl | rfl | rfl | rfl | rfl | rfl | rfl | rfl | rfl | rfl
  · exact bt_of (x := "") (by decide)
  · exact bt_of (x := "a 0 a 1") (by decide)
  · exact bt_of (x := "b 0 a 1") (by decide)
  · exact bt_of (x := "a p b a\n") (by decide)
  · exact bt_of (x := "a p b") (by decide)
  · exact bt_of (x := "a 0 b") (by decide)
  · exact bt_of (x := "-\n-") (by decide)
  · exact bt_of (x := "- ") (by decide)
  · exact bt_of (x := "- a") (by decide)
  · exact bt_of (x := "-\na 0") (by decide)
  · exact bt_of (x := "a 0\nb 1") (by decide)
  · exact bt_of (x := "a 0\n") (by decide)
section
variable {K : PySem.W.Frag} {A : Ad} {L : PenA} {dr pk : List D → M PenS D}
noncomputable abbrev mBent (K : PySem.W.Frag) (A : Ad) (dr pk : List D → M PenS D) : List D → M PenS D := runD 8 2 (b_L_bent K A dr pk)
noncomputable abbrev mRight (K : PySem.W.Frag) (A : Ad) : List D → M PenS D := runD 6 1 (b_L_right K A)
theorem again_eq (kk : KK K A) (h : Drw L dr) (hp : Pkr L pk) {pe : List D → M PenS D} {t : Str} {l c n : Nat} (hb : Bt l c t) (hl : l ≤ 1000) (hc : c ≤ 47) {s : PenS} (u : Us n s) (hn : n + 5 ≤ 1000000) {x0 x2 x3 x5 x6 x7 : Sl} :
    ∃ t' s', (fb_law_1 K A (mBent K A dr pk) pe pk (mRight K A) : Rho → M PenS Out) [x0, .val (.adr L.p), x2, x3, .val (.str t), x5, x6, x7] s = .ok (.nx [x0, .val (.adr L.p), x2, x3, .val (.str t'), x5, x6, x7]) s' ∧ Bt (3 * l + 62) (2 * c + 3) t' ∧ Us (n + 5) s' := by
  obtain ⟨t', s', e, b, v⟩ := bent_eq (K := K) (A := A) h hp hb (by omega) (by omega) u hn
  refine ⟨t', s', ?_, b, v⟩
  have r : mRight K A [.str t'] s' = .ok (.bl true) s' := right_eq kk (b.ok (by omega) (by omega)) s'
  unfold fb_law_1 mBent mRight at *
  rw [seq_nx (ρ1 := [x0, .val (.adr L.p), x2, x3, .val (.str t'), x5, x6, x7]) (s1 := s') (by simp only [xF, xCons, xV, xNil, yAsg, gV, M.bind, M.ret, M.of, then_ok, List.getElem?_cons_zero, List.getElem?_cons_succ, List.set_cons_zero, List.set_cons_succ, e])]
  simp only [yIf, xNot, xT, xF, xCons, xV, xNil, yNx, M.bind, M.ret, M.of, then_ok, List.getElem?_cons_zero, List.getElem?_cons_succ, r, dBl, Bool.not_true]
theorem told_ne : neA (.lst [.tup [.str "text", .str "0", .str "0"], .tup [.str "text", .str "0", .str "0"]]) (.lst [.tup [.str "text", .str "0", .str "0"], .tup [.str "text", .str "0", .str "0"]]) = some (.bl false) := by
  have e : eqD (.lst [.tup [.str "text", .str "0", .str "0"], .tup [.str "text", .str "0", .str "0"]]) (.lst [.tup [.str "text", .str "0", .str "0"], .tup [.str "text", .str "0", .str "0"]]) = some true := by decide +kernel
  show (eqD _ _).map (fun b => D.bl (!b)) = _
  rw [e]; rfl
theorem numS0 : numS 0 = "0" := by
  apply ext_tl
  unfold numS
  rw [tl_num, numL_lt (by decide), tl_ofString]
  decide
theorem turn_eq (kk : KK K A) (kf : KF K A) (h : Drw L dr) (hp : Pkr L pk) {pe : List D → M PenS D} {n : Nat} {s : PenS} (u : Us n s) (hn : n + 20 ≤ 1000000) {x0 x3 x4 x5 x6 x7 : Sl} :
    ∃ y4 y5 y6 y7 s', (fb_law_2 K A (mBent K A dr pk) pe pk (mRight K A) : Rho → M PenS Out) [x0, .val (.adr L.p), .val (.lst (SOME.map D.str)), x3, x4, x5, x6, x7] s = .ok (.nx [x0, .val (.adr L.p), .val (.lst (SOME.map D.str)), x3, y4, y5, y6, y7]) s' ∧ Us (n + 20) s' := by
  obtain ⟨t, ht, s1, e1, u1⟩ := pk_str hp (xs := SOME) (by simp) (by decide) u (by omega)
  have b0 := bt_some t ht
  have r0 : mRight K A [.str t] s1 = .ok (.bl true) s1 := right_eq kk (b0.ok (by omega) (by omega)) s1
  obtain ⟨t1, s2, e2, b1, u2⟩ := again_eq (x0 := x0) (x2 := .val (.lst (SOME.map D.str))) (x3 := x3) (x5 := .val (.int 0)) (x6 := x6) (x7 := x7) (pe := pe) kk h hp b0 (by omega) (by omega) u1 (by omega)
  obtain ⟨t2, s3, e3, b2, u3⟩ := again_eq (x0 := x0) (x2 := .val (.lst (SOME.map D.str))) (x3 := x3) (x5 := .val (.int 1)) (x6 := x6) (x7 := x7) (pe := pe) kk h hp b1 (by omega) (by omega) u2 (by omega)
  obtain ⟨t3, s4, e4, b3, u4⟩ := again_eq (x0 := x0) (x2 := .val (.lst (SOME.map D.str))) (x3 := x3) (x5 := .val (.int 2)) (x6 := x6) (x7 := x7) (pe := pe) kk h hp b2 (by omega) (by omega) u3 (by omega)
  obtain ⟨o, ho, s5, e5, u5⟩ := hp (ODDS A) (by simp [ODDS]) (by show 7 ≤ 1000000; decide) _ _ u4 (by omega)
  have so := safe_odd kf ho
  have to' := stuck_odd kf ho
  unfold ex00 at so to'
  refine ⟨.val (.str t3), .val (.int 2), .val (.lst [toldD 0 0, toldD 0 0]), .val o, s5, ?_, u5.more (by omega)⟩
  unfold fb_law_2
  rw [seq_nx (ρ1 := [x0, .val (.adr L.p), .val (.lst (SOME.map D.str)), x3, .val (.str t), x5, x6, x7]) (s1 := s1) (by simp only [xF, xCons, xV, xNil, yAsg, gV, M.bind, M.ret, M.of, then_ok, List.getElem?_cons_zero, List.getElem?_cons_succ, List.set_cons_zero, List.set_cons_succ, e1])]
  rw [seq_nx (ρ1 := [x0, .val (.adr L.p), .val (.lst (SOME.map D.str)), x3, .val (.str t), x5, x6, x7]) (s1 := s1) (by simp only [yIf, xNot, xT, xF, xCons, xV, xNil, yNx, M.bind, M.ret, M.of, then_ok, List.getElem?_cons_zero, List.getElem?_cons_succ, r0, dBl, Bool.not_true])]
  have r3 : r1D [.int 3] = some [.int 0, .int 1, .int 2] := rfl
  rw [seq_nx (ρ1 := [x0, .val (.adr L.p), .val (.lst (SOME.map D.str)), x3, .val (.str t3), .val (.int 2), x6, x7]) (s1 := s4) (by
    rw [for_of (ds := [.int 0, .int 1, .int 2]) (s1 := s1) (by simp only [xR1, xCons, xC, xNil, M.bind, M.ret, M.of, then_ok, r3])]
    simp only [loopD, gV, List.set_cons_zero, List.set_cons_succ, M.bind, M.ret, then_ok, e2, e3, e4])]
  have mk := mk_stuck kk.c (.tup [])
  have l7 : lim 7 = true := rfl
  have l1 : lim 1 = true := rfl
  have l2 : lim 2 = true := rfl
  have l0 : lim 0 = true := rfl
  have mk' : (runI A.c_Stuck 1 1 (b_StuckU_initU K A) : List D → M PenS D) [.tup []] s4 = .ok (.obj A.c_Stuck [(("fills" : Str), .tup [])]) s4 := mk_stuckS kk.c (.tup []) s4
  rw [seq_nx (ρ1 := [x0, .val (.adr L.p), .val (.lst (SOME.map D.str)), x3, .val (.str t3), .val (.int 2), x6, .val o]) (s1 := s5) (by
    unfold ODDS at e5
    simp only [runD, startR, xV, xC, xOp, xUn, xT, xAnd, xOr, xNot, xIf, xAndV, xOrV, xNotV, xCh, xNil, xCons, xTup, xLstN, xL, xCa, xF, xF0, noX, up, x1, xIt, xEn, xNo, xPa, xSl, xM1, xSplit, M.bind, M.ret, M.of, then_ok, then_ex, then_bad, yNx, yRet, yAsg, ySeq, yIf, yFor, yPar, yParK, yRaise, gV, gVt, gVc, gVn, dBl, dIn, strD, wipeR, List.getElem?_cons_zero, List.getElem?_cons_succ, List.set_cons_zero, List.set_cons_succ, Option.bind_some, Option.bind_none, Option.map_some, List.length_cons, List.length_nil, List.map_cons, List.map_nil, List.replicate_succ, List.replicate_zero, List.cons_append, List.nil_append, Nat.zero_add, Nat.reduceAdd, Nat.reduceSub, decide_true, Bool.not_true, Bool.not_false, l7, l1, l2, l0, mk', e5])]
  have w0 : xHear K (.ref A.c_ShelfError) 5 1 2 3 (xF (up (m_read_safe K A)) (xCons (xV 7) xNil)) (b_L_heard K A) [x0, .val (.adr L.p), .val (.lst (SOME.map D.str)), x3, .val (.str t3), .val (.int 2), x6, .val o] s5 = .ok (toldD 0 0) s5 :=
    hear_eq (t := "") (o := some (0, 0)) kk.e ⟨by decide, by decide⟩ (by simp only [runD, startR, xV, xC, xOp, xUn, xT, xAnd, xOr, xNot, xIf, xAndV, xOrV, xNotV, xCh, xNil, xCons, xTup, xLstN, xL, xCa, xF, xF0, noX, up, x1, xIt, xEn, xNo, xPa, xSl, xM1, xSplit, M.bind, M.ret, M.of, then_ok, then_ex, then_bad, yNx, yRet, yAsg, ySeq, yIf, yFor, yPar, yParK, yRaise, gV, gVt, gVc, gVn, dBl, dIn, strD, wipeR, List.getElem?_cons_zero, List.getElem?_cons_succ, List.set_cons_zero, List.set_cons_succ, Option.bind_some, Option.bind_none, Option.map_some, List.length_cons, List.length_nil, List.map_cons, List.map_nil, List.replicate_succ, List.replicate_zero, List.cons_append, List.nil_append, Nat.zero_add, Nat.reduceAdd, Nat.reduceSub, decide_true, Bool.not_true, Bool.not_false, so, told0]; rfl)
  rw [seq_nx (ρ1 := [x0, .val (.adr L.p), .val (.lst (SOME.map D.str)), x3, .val (.str t3), .val (.int 2), .own (.lst [toldD 0 0]), .val o]) (s1 := s5) (by simp only [yAsgN, xLstN, xCons, xNil, M.bind, M.ret, M.of, then_ok, w0, List.length_cons, List.length_nil, Nat.zero_add, l1, List.set_cons_zero, List.set_cons_succ])]
  have w1 : xHear K (.ref A.c_ShelfError) 5 1 2 3 (xF (up (m_read_stuck K A)) (xCons (xV 7) xNil)) (b_L_heard K A) [x0, .val (.adr L.p), .val (.lst (SOME.map D.str)), x3, .val (.str t3), .val (.int 2), .own (.lst [toldD 0 0]), .val o] s5 = .ok (toldD 0 0) s5 :=
    hear_eq (t := "") (o := some (0, 0)) kk.e ⟨by decide, by decide⟩ (by simp only [runD, startR, xV, xC, xOp, xUn, xT, xAnd, xOr, xNot, xIf, xAndV, xOrV, xNotV, xCh, xNil, xCons, xTup, xLstN, xL, xCa, xF, xF0, noX, up, x1, xIt, xEn, xNo, xPa, xSl, xM1, xSplit, M.bind, M.ret, M.of, then_ok, then_ex, then_bad, yNx, yRet, yAsg, ySeq, yIf, yFor, yPar, yParK, yRaise, gV, gVt, gVc, gVn, dBl, dIn, strD, wipeR, List.getElem?_cons_zero, List.getElem?_cons_succ, List.set_cons_zero, List.set_cons_succ, Option.bind_some, Option.bind_none, Option.map_some, List.length_cons, List.length_nil, List.map_cons, List.map_nil, List.replicate_succ, List.replicate_zero, List.cons_append, List.nil_append, Nat.zero_add, Nat.reduceAdd, Nat.reduceSub, decide_true, Bool.not_true, Bool.not_false, to', told0]; rfl)
  rw [seq_nx (ρ1 := [x0, .val (.adr L.p), .val (.lst (SOME.map D.str)), x3, .val (.str t3), .val (.int 2), .own (.lst [toldD 0 0, toldD 0 0]), .val o]) (s1 := s5) (by simp only [yApp, ownL, M.bind, M.ret, M.of, then_ok, w1, List.getElem?_cons_zero, List.getElem?_cons_succ, List.length_cons, List.length_nil, Nat.zero_add, l1, List.set_cons_zero, List.set_cons_succ, List.cons_append, List.nil_append])]
  have rp : dMul (.lst [.tup [.str "text", .str "0", .str "0"]]) (.int 2) = some (.lst [.tup [.str "text", .str "0", .str "0"], .tup [.str "text", .str "0", .str "0"]]) := rfl
  have l3 : lim 3 = true := rfl
  have ne := told_ne
  unfold toldD
  rw [numS0]
  simp only [runD, startR, xV, xC, xOp, xUn, xT, xAnd, xOr, xNot, xIf, xAndV, xOrV, xNotV, xCh, xNil, xCons, xTup, xLstN, xL, xCa, xF, xF0, noX, up, x1, xIt, xEn, xNo, xPa, xSl, xM1, xSplit, M.bind, M.ret, M.of, then_ok, then_ex, then_bad, yNx, yRet, yAsg, ySeq, yIf, yFor, yPar, yParK, yRaise, gV, gVt, gVc, gVn, dBl, dIn, strD, wipeR, List.getElem?_cons_zero, List.getElem?_cons_succ, List.set_cons_zero, List.set_cons_succ, Option.bind_some, Option.bind_none, Option.map_some, List.length_cons, List.length_nil, List.map_cons, List.map_nil, List.replicate_succ, List.replicate_zero, List.cons_append, List.nil_append, Nat.zero_add, Nat.reduceAdd, Nat.reduceSub, decide_true, Bool.not_true, Bool.not_false, yFree, freeR, oVal, l3, l1, rp, ne]
theorem turns_eq (kk : KK K A) (kf : KF K A) (h : Drw L dr) (hp : Pkr L pk) {pe : List D → M PenS D} {x0 : Sl} : ∀ (ds : List D) (n : Nat) (s : PenS), Us n s → n + 20 * ds.length ≤ 1000000 → ∀ x3 x4 x5 x6 x7 : Sl,
    ∃ y3 y4 y5 y6 y7 s', (loopD (gV 3) (fb_law_2 K A (mBent K A dr pk) pe pk (mRight K A)) ds : Rho → M PenS Out) [x0, .val (.adr L.p), .val (.lst (SOME.map D.str)), x3, x4, x5, x6, x7] s = .ok (.nx [x0, .val (.adr L.p), .val (.lst (SOME.map D.str)), y3, y4, y5, y6, y7]) s'
  | [], n, s, u, hn, x3, x4, x5, x6, x7 => ⟨x3, x4, x5, x6, x7, s, rfl⟩
  | d :: ds, n, s, u, hn, x3, x4, x5, x6, x7 => by
    rw [List.length_cons] at hn
    obtain ⟨y4, y5, y6, y7, s1, e1, u1⟩ := turn_eq (x0 := x0) (x3 := .val d) (x4 := x4) (x5 := x5) (x6 := x6) (x7 := x7) (pe := pe) kk kf h hp u (by omega)
    obtain ⟨z3, z4, z5, z6, z7, s2, e2⟩ := turns_eq kk kf h hp (pe := pe) (x0 := x0) ds (n + 20) s1 u1 (by omega) (.val d) y4 y5 y6 y7
    refine ⟨z3, z4, z5, z6, z7, s2, ?_⟩
    simp only [loopD, gV, List.set_cons_zero, List.set_cons_succ, M.bind, then_ok, e1, e2]
theorem law_eq (kk : KK K A) (kf : KF K A) (h : Drw L dr) (hp : Pkr L pk) {pe : List D → M PenS D} {s : PenS} (u : Us 0 s) {x0 : Sl} :
    ∃ s', (b_law K A (mBent K A dr pk) pe pk (mRight K A) : Rho → M PenS Out) [x0, .val (.adr L.p), .no, .no, .no, .no, .no, .no] s = .ok (.rt (.bl true)) s' := by
  have r10 : r1D [.int 10] = some (rngD 0 10) := rfl
  obtain ⟨y3, y4, y5, y6, y7, s', e⟩ := turns_eq kk kf h hp (pe := pe) (x0 := x0) (rngD 0 10) 0 s u (by decide) .no .no .no .no .no
  refine ⟨s', ?_⟩
  have l5 : lim 5 = true := rfl
  have l2 : lim 2 = true := rfl
  have l12 : lim 12 = true := rfl
  have l0 : lim 0 = true := rfl
  have a7 : dAdd (.lst [.str "-", .str "a 0 b 1 c2 -7", .str "a p b a", .str "c r a c\na p b a\nb q c b", .str "a s c e b a\nb2 zzzzzzzz a b2"]) (.lst [.str "outs 5", .str "m 1"]) = some (.lst [.str "-", .str "a 0 b 1 c2 -7", .str "a p b a", .str "c r a c\na p b a\nb q c b", .str "a s c e b a\nb2 zzzzzzzz a b2", .str "outs 5", .str "m 1"]) := rfl
  unfold b_law
  rw [seq_nx (ρ1 := [x0, .val (.adr L.p), .val (.lst [.str "-", .str "a 0 b 1 c2 -7", .str "a p b a", .str "c r a c\na p b a\nb q c b", .str "a s c e b a\nb2 zzzzzzzz a b2"]), .no, .no, .no, .no, .no]) (s1 := s) (by simp only [runD, startR, xV, xC, xOp, xUn, xT, xAnd, xOr, xNot, xIf, xAndV, xOrV, xNotV, xCh, xNil, xCons, xTup, xLstN, xL, xCa, xF, xF0, noX, up, x1, xIt, xEn, xNo, xPa, xSl, xM1, xSplit, M.bind, M.ret, M.of, then_ok, then_ex, then_bad, yNx, yRet, yAsg, ySeq, yIf, yFor, yPar, yParK, yRaise, gV, gVt, gVc, gVn, dBl, dIn, strD, wipeR, List.getElem?_cons_zero, List.getElem?_cons_succ, List.set_cons_zero, List.set_cons_succ, Option.bind_some, Option.bind_none, Option.map_some, List.length_cons, List.length_nil, List.map_cons, List.map_nil, List.replicate_succ, List.replicate_zero, List.cons_append, List.nil_append, Nat.zero_add, Nat.reduceAdd, Nat.reduceSub, decide_true, Bool.not_true, Bool.not_false, l5])]
  rw [seq_nx (ρ1 := [x0, .val (.adr L.p), .val (.lst (SOME.map D.str)), .no, .no, .no, .no, .no]) (s1 := s) (by simp only [runD, startR, xV, xC, xOp, xUn, xT, xAnd, xOr, xNot, xIf, xAndV, xOrV, xNotV, xCh, xNil, xCons, xTup, xLstN, xL, xCa, xF, xF0, noX, up, x1, xIt, xEn, xNo, xPa, xSl, xM1, xSplit, M.bind, M.ret, M.of, then_ok, then_ex, then_bad, yNx, yRet, yAsg, ySeq, yIf, yFor, yPar, yParK, yRaise, gV, gVt, gVc, gVn, dBl, dIn, strD, wipeR, List.getElem?_cons_zero, List.getElem?_cons_succ, List.set_cons_zero, List.set_cons_succ, Option.bind_some, Option.bind_none, Option.map_some, List.length_cons, List.length_nil, List.map_cons, List.map_nil, List.replicate_succ, List.replicate_zero, List.cons_append, List.nil_append, Nat.zero_add, Nat.reduceAdd, Nat.reduceSub, decide_true, Bool.not_true, Bool.not_false, l2, a7, SOME])]
  rw [seq_nx (ρ1 := [x0, .val (.adr L.p), .val (.lst (SOME.map D.str)), y3, y4, y5, y6, y7]) (s1 := s') (by
    rw [for_of (ds := rngD 0 10) (s1 := s) (by simp only [xR1, xCons, xC, xNil, M.bind, M.ret, M.of, then_ok, r10])]
    exact e)]
  rw [seq_nx (ρ1 := [x0, .val (.adr L.p), .val (.lst (LAST.map D.str)), y3, y4, y5, y6, y7]) (s1 := s') (by simp only [runD, startR, xV, xC, xOp, xUn, xT, xAnd, xOr, xNot, xIf, xAndV, xOrV, xNotV, xCh, xNil, xCons, xTup, xLstN, xL, xCa, xF, xF0, noX, up, x1, xIt, xEn, xNo, xPa, xSl, xM1, xSplit, M.bind, M.ret, M.of, then_ok, then_ex, then_bad, yNx, yRet, yAsg, ySeq, yIf, yFor, yPar, yParK, yRaise, gV, gVt, gVc, gVn, dBl, dIn, strD, wipeR, List.getElem?_cons_zero, List.getElem?_cons_succ, List.set_cons_zero, List.set_cons_succ, Option.bind_some, Option.bind_none, Option.map_some, List.length_cons, List.length_nil, List.map_cons, List.map_nil, List.replicate_succ, List.replicate_zero, List.cons_append, List.nil_append, Nat.zero_add, Nat.reduceAdd, Nat.reduceSub, decide_true, Bool.not_true, Bool.not_false, l12, LAST])]
  have cp : compD (gV 4) (xNot (xT (xF0 (mRight K A) (xCons (xV 4) xNil)))) (xV 4) (wipeR [x0, .val (.adr L.p), .val (.lst (LAST.map D.str)), y3, y4, y5, y6, y7] [4]) (LAST.map D.str) s' = .ok [] s' := by
    have z := comp_pure (g := gV 4) (t := xNot (xT (xF0 (mRight K A) (xCons (xV 4) xNil)))) (e := xV 4) (ρ := wipeR [x0, .val (.adr L.p), .val (.lst (LAST.map D.str)), y3, y4, y5, y6, y7] [4]) (s := s') (fun _ => false) id (LAST.map D.str) (fun d hd => by
      obtain ⟨t, ht, rfl⟩ := List.mem_map.mp hd
      refine ⟨_, rfl, ?_, fun q => by cases q⟩
      have r : mRight K A [.str t] s' = .ok (.bl true) s' := right_eq kk ((bt_last t ht).ok (by omega) (by omega)) s'
      simp only [xNot, xT, xF0, noX, xCons, xV, xNil, wipeR, M.bind, M.ret, M.of, then_ok, List.set_cons_zero, List.set_cons_succ, List.getElem?_cons_zero, List.getElem?_cons_succ, then_ok2, r, dBl, Bool.not_true])
    rw [z]
    simp
  have ll : lim (LAST.map D.str).length = true := rfl
  have eq : dEq (.lst []) (.lst []) = some (.bl true) := by
    have z := dEq_nil (xs := []) (by simp)
    simpa using z
  have xl : (xLcV 2 (gV 4) (xNot (xT (xF0 (mRight K A) (xCons (xV 4) xNil)))) (xV 4) [4] : Rho → M PenS (List D)) [x0, .val (.adr L.p), .val (.lst (LAST.map D.str)), y3, y4, y5, y6, y7] s' = .ok [] s' := by
    show (xLc (xIt (xV 2)) _ _ _ _ : Rho → M PenS (List D)) _ _ = _
    unfold xLc
    show ((xIt (xV 2) : Rho → M PenS (List D)) [x0, .val (.adr L.p), .val (.lst (LAST.map D.str)), y3, y4, y5, y6, y7] s').then _ = _
    rw [show (xIt (xV 2) : Rho → M PenS (List D)) [x0, .val (.adr L.p), .val (.lst (LAST.map D.str)), y3, y4, y5, y6, y7] s' = .ok (LAST.map D.str) s' from rfl]
    rw [then_ok]
    simp only [ll]
    exact cp
  simp only [yRet, xOp, xL, xLstN, xNil, M.bind, M.ret, M.of, then_ok, xl, List.length_nil, l0, eq]
end
end Rk94

namespace Rk94
open PySem PySem.Spec PyProof.Rows L2 Fs
def hfa0 : List He.Fa := [.free "ValueError",
  .free "abs",
  .free "all",
  .free "bool",
  .free "dict",
  .free "enumerate",
  .free "int",
  .free "isinstance",
  .free "len",
  .free "list",
  .free "range",
  .free "repr",
  .free "sorted",
  .free "str",
  .free "tuple",
  .str "FIGURES" "0123456789"]
def hfa1 : List He.Fa := [.int "GREATEST" v_GREATEST,
  .str "LANES" "234",
  .str "LETTERS" "abcdefghijklmnopqrstuvwxyz",
  .int "LONGEST_checks" v_LONGEST_checks,
  .int "LONGEST_reader" v_LONGEST_reader,
  .glo "_law_draw",
  .glo "_law_pick",
  .glo "_law_bent",
  .glo "_law_heard",
  .glo "_law_pen",
  .glo "_law_is_name",
  .glo "_law_is_shelf",
  .glo "_law_is_whole",
  .glo "_law_safe_due",
  .glo "_law_stuck_due",
  .glo "is_name"]
def hfa2 : List He.Fa := [.glo "is_shelf",
  .glo "is_figures",
  .glo "is_whole",
  .glo "need_string",
  .glo "words_of_line",
  .glo "read_safe",
  .glo "read_fill",
  .glo "read_stuck",
  .glo "is_integer",
  .glo "is_numbers",
  .glo "pairs_text",
  .glo "write_safe",
  .glo "is_fill",
  .glo "write_stuck",
  .glo "_law_right",
  .glo "law"]
def hfa3 : List He.Fa := [.glo "BadPaper",
  .glo "BadText",
  .glo "Fill",
  .glo "Safe",
  .glo "ShelfError",
  .glo "Stuck",
  .mkr "Fill",
  .mkr "Safe",
  .mkr "Stuck",
  .free "super",
  .cls "Safe",
  .cls "Fill",
  .cls "Stuck",
  .noat "Safe" "numbers",
  .noat "Fill" "shelf",
  .noat "Fill" "flow"]
def hfa4 : List He.Fa := [.noat "Fill" "way",
  .noat "Fill" "want",
  .noat "Stuck" "fills"]
def hfa : List He.Fa := hfa0 ++ (hfa1 ++ (hfa2 ++ (hfa3 ++ (hfa4))))
def hfn0 : List He.DefD := [⟨("Stuck", some "__init__"), "__init__", "Stuck.__init__", defArgs st_StuckU_initU, defBody st_StuckU_initU, defScope st_StuckU_initU, [], []⟩,
  ⟨("_law_draw", none), "_law_draw", "_law_draw", defArgs st_L_draw, defBody st_L_draw, defScope st_L_draw, [], []⟩,
  ⟨("_law_pick", none), "_law_pick", "_law_pick", defArgs st_L_pick, defBody st_L_pick, defScope st_L_pick, [], []⟩,
  ⟨("_law_bent", none), "_law_bent", "_law_bent", defArgs st_L_bent, defBody st_L_bent, defScope st_L_bent, [], []⟩,
  ⟨("_law_heard", none), "_law_heard", "_law_heard", defArgs st_L_heard, defBody st_L_heard, defScope st_L_heard, [], []⟩,
  ⟨("_law_pen", none), "_law_pen", "_law_pen", defArgs st_L_pen, defBody st_L_pen, defScope st_L_pen, [], []⟩,
  ⟨("_law_is_name", none), "_law_is_name", "_law_is_name", defArgs st_L_is_name, defBody st_L_is_name, defScope st_L_is_name, [], []⟩,
  ⟨("_law_is_shelf", none), "_law_is_shelf", "_law_is_shelf", defArgs st_L_is_shelf, defBody st_L_is_shelf, defScope st_L_is_shelf, [], []⟩,
  ⟨("_law_is_whole", none), "_law_is_whole", "_law_is_whole", defArgs st_L_is_whole, defBody st_L_is_whole, defScope st_L_is_whole, [], []⟩,
  ⟨("_law_safe_due", none), "_law_safe_due", "_law_safe_due", defArgs st_L_safe_due, defBody st_L_safe_due, defScope st_L_safe_due, [], []⟩,
  ⟨("_law_stuck_due", none), "_law_stuck_due", "_law_stuck_due", defArgs st_L_stuck_due, defBody st_L_stuck_due, defScope st_L_stuck_due, [], []⟩,
  ⟨("Safe", some "__init__"), "__init__", "Safe.__init__", defArgs st_SafeU_initU, defBody st_SafeU_initU, defScope st_SafeU_initU, [], []⟩]
def hfn1 : List He.DefD := [⟨("is_name", none), "is_name", "is_name", defArgs st_is_name, defBody st_is_name, defScope st_is_name, [], []⟩,
  ⟨("is_shelf", none), "is_shelf", "is_shelf", defArgs st_is_shelf, defBody st_is_shelf, defScope st_is_shelf, [], []⟩,
  ⟨("is_figures", none), "is_figures", "is_figures", defArgs st_is_figures, defBody st_is_figures, defScope st_is_figures, [], []⟩,
  ⟨("is_whole", none), "is_whole", "is_whole", defArgs st_is_whole, defBody st_is_whole, defScope st_is_whole, [], []⟩,
  ⟨("need_string", none), "need_string", "need_string", defArgs st_need_string, defBody st_need_string, defScope st_need_string, [], []⟩,
  ⟨("words_of_line", none), "words_of_line", "words_of_line", defArgs st_words_of_line, defBody st_words_of_line, defScope st_words_of_line, [], []⟩,
  ⟨("read_safe", none), "read_safe", "read_safe", defArgs st_read_safe, defBody st_read_safe, defScope st_read_safe, [], []⟩,
  ⟨("Fill", some "__init__"), "__init__", "Fill.__init__", defArgs st_FillU_initU, defBody st_FillU_initU, defScope st_FillU_initU, [], []⟩,
  ⟨("read_fill", none), "read_fill", "read_fill", defArgs st_read_fill, defBody st_read_fill, defScope st_read_fill, [], []⟩,
  ⟨("read_stuck", none), "read_stuck", "read_stuck", defArgs st_read_stuck, defBody st_read_stuck, defScope st_read_stuck, [], []⟩,
  ⟨("is_integer", none), "is_integer", "is_integer", defArgs st_is_integer, defBody st_is_integer, defScope st_is_integer, [], []⟩,
  ⟨("is_numbers", none), "is_numbers", "is_numbers", defArgs st_is_numbers, defBody st_is_numbers, defScope st_is_numbers, [], []⟩]
def hfn2 : List He.DefD := [⟨("pairs_text", none), "pairs_text", "pairs_text", defArgs st_pairs_text, defBody st_pairs_text, defScope st_pairs_text, [], []⟩,
  ⟨("write_safe", none), "write_safe", "write_safe", defArgs st_write_safe, defBody st_write_safe, defScope st_write_safe, [], []⟩,
  ⟨("is_fill", none), "is_fill", "is_fill", defArgs st_is_fill, defBody st_is_fill, defScope st_is_fill, [], []⟩,
  ⟨("write_stuck", none), "write_stuck", "write_stuck", defArgs st_write_stuck, defBody st_write_stuck, defScope st_write_stuck, [], []⟩,
  ⟨("_law_right", none), "_law_right", "_law_right", defArgs st_L_right, defBody st_L_right, defScope st_L_right, [], []⟩,
  ⟨("law", none), "law", "law", defArgs st_law, defBody st_law, defScope st_law, [], []⟩]
def hfn : List He.DefD := hfn0 ++ (hfn1 ++ (hfn2))
abbrev st_BadPaper_ini : Stmt := inClass (top 2) 0
def in_BadPaper : InD := ⟨"BadPaper", "BadPaper.__init__", defArgs st_BadPaper_ini, defBody st_BadPaper_ini, defScope st_BadPaper_ini⟩
theorem is_BadPaper : InS in_BadPaper ["part"] := ⟨by decide, ⟨_, _, _, _, _, _, _, _, _, _, rfl, rfl, ⟨_, _, _, _, _, rfl, rfl⟩, rfl, rfl⟩, rfl, rfl, rfl, by decide +kernel, by decide +kernel, ⟨rfl, rfl, rfl⟩, fun _ _ _ _ _ _ _ _ _ us hu => match us, hu with | [_], _ => .of_eq rfl⟩
abbrev st_BadText_ini : Stmt := inClass (top 3) 0
def in_BadText : InD := ⟨"BadText", "BadText.__init__", defArgs st_BadText_ini, defBody st_BadText_ini, defScope st_BadText_ini⟩
theorem is_BadText : InS in_BadText ["line", "word"] := ⟨by decide, ⟨_, _, _, _, _, _, _, _, _, _, rfl, rfl, ⟨_, _, _, _, _, rfl, ⟨_, _, _, _, _, rfl, rfl⟩⟩, rfl, rfl⟩, rfl, rfl, rfl, by decide +kernel, by decide +kernel, ⟨rfl, rfl, rfl⟩, fun _ _ _ _ _ _ _ _ _ us hu => match us, hu with | [_, _], _ => .of_eq rfl⟩
def hin0 : List InD := [in_BadPaper,
  in_BadText]
def hin : List InD := hin0
def hex (K : PySem.W.Frag) : List Bool := [inB PROG.main.file K in_BadPaper ["part"],
  inB PROG.main.file K in_BadText ["line", "word"],
  !decide (He.tabOf K (He.codeOf K ("_law_right", none)) = He.tabOf K (He.codeOf K ("law", none))),
  isTB K "str" "str" true,
  isTB K "dict" "dict" true,
  isTB K "int" "int" true,
  isTB K "int" "bool" false,
  isTB K "tuple" "tuple" true,
  insB K (He.ga K "Safe"),
  insB K (He.ga K "Fill"),
  insB K (He.ga K "Stuck"),
  isCB K (.ref (He.ga K "Safe")) (He.ga K "Safe") true,
  isCB K (.ref (He.ga K "Fill")) (He.ga K "Fill") true,
  isCB K (.ref (He.ga K "Stuck")) (He.ga K "Stuck") true,
  decide (PySem.W.exmOne K (.ref (He.ga K "BadText")) (.ref (He.ga K "ShelfError")) = some true),
  exB K (He.ga K "BadText"),
  isCB K (.ref (He.ga K "BadText")) (He.ga K "BadText") true,
  kitB K (.ref (He.ga K "BadText")) (.type "ValueError") true,
  xfB K (He.ga K "BadText"),
  He.eqO (PySem.W.findIn K (.ref (He.ga K "BadText")) "line") (some none),
  He.eqO (PySem.W.findIn K (.ref (He.ga K "BadText")) "word") (some none),
  isTB K "NoneType" "str" false,
  isTB K "int" "str" false,
  isTB K "bool" "str" false,
  isTB K "list" "str" false,
  isTB K "tuple" "str" false,
  isTB K "dict" "str" false,
  kitB K (.ref (He.ga K "Stuck")) (.type "str") false]
def htf : List He.Defn := [("_law_right", none), ("law", none)]
def hd : Hd := ⟨5, hfa, hfn, hin, htf, fun K => (hex K).all id⟩
def mkAd (K : PySem.W.Frag) : Ad where
  f_StuckU_initU := He.ma K (He.ga K "Stuck") "__init__"
  f_L_draw := He.ga K "_law_draw"
  f_L_pick := He.ga K "_law_pick"
  f_L_bent := He.ga K "_law_bent"
  f_L_heard := He.ga K "_law_heard"
  f_L_pen := He.ga K "_law_pen"
  f_L_is_name := He.ga K "_law_is_name"
  f_L_is_shelf := He.ga K "_law_is_shelf"
  f_L_is_whole := He.ga K "_law_is_whole"
  f_L_safe_due := He.ga K "_law_safe_due"
  f_L_stuck_due := He.ga K "_law_stuck_due"
  f_SafeU_initU := He.ma K (He.ga K "Safe") "__init__"
  f_is_name := He.ga K "is_name"
  f_is_shelf := He.ga K "is_shelf"
  f_is_figures := He.ga K "is_figures"
  f_is_whole := He.ga K "is_whole"
  f_need_string := He.ga K "need_string"
  f_words_of_line := He.ga K "words_of_line"
  f_read_safe := He.ga K "read_safe"
  f_FillU_initU := He.ma K (He.ga K "Fill") "__init__"
  f_read_fill := He.ga K "read_fill"
  f_read_stuck := He.ga K "read_stuck"
  f_is_integer := He.ga K "is_integer"
  f_is_numbers := He.ga K "is_numbers"
  f_pairs_text := He.ga K "pairs_text"
  f_write_safe := He.ga K "write_safe"
  f_is_fill := He.ga K "is_fill"
  f_write_stuck := He.ga K "write_stuck"
  f_L_right := He.ga K "_law_right"
  f_law := He.ga K "law"
  c_BadPaper := He.ga K "BadPaper"
  c_BadText := He.ga K "BadText"
  c_Fill := He.ga K "Fill"
  c_Safe := He.ga K "Safe"
  c_ShelfError := He.ga K "ShelfError"
  c_Stuck := He.ga K "Stuck"
  i_BadPaper := He.ma K (He.ga K "BadPaper") "__init__"
  i_BadText := He.ma K (He.ga K "BadText") "__init__"
  cd_L_right := He.codeOf K ("_law_right", none)
  tb_L_right := He.tabOf K (He.codeOf K ("_law_right", none))
  cd_law := He.codeOf K ("law", none)
  tb_law := He.tabOf K (He.codeOf K ("law", none))
  d_L_heard := fdOf K ("_law_heard", none)
  dummy := 0
theorem txt_of {K : PySem.W.Frag} {h : Heap} {mg : Str → Option Value} (X : K.In h) (G : h.Ns mainGlobals mg) (c : SaysZ hd h K) : Txt K mg (mkAd K) where
  n_ValueError := He.free_ok X G (c.d.fact 0 (f := .free "ValueError") rfl)
  n_abs := He.free_ok X G (c.d.fact 1 (f := .free "abs") rfl)
  n_all := He.free_ok X G (c.d.fact 2 (f := .free "all") rfl)
  n_bool := He.free_ok X G (c.d.fact 3 (f := .free "bool") rfl)
  n_dict := He.free_ok X G (c.d.fact 4 (f := .free "dict") rfl)
  n_enumerate := He.free_ok X G (c.d.fact 5 (f := .free "enumerate") rfl)
  n_int := He.free_ok X G (c.d.fact 6 (f := .free "int") rfl)
  n_isinstance := He.free_ok X G (c.d.fact 7 (f := .free "isinstance") rfl)
  n_len := He.free_ok X G (c.d.fact 8 (f := .free "len") rfl)
  n_list := He.free_ok X G (c.d.fact 9 (f := .free "list") rfl)
  n_range := He.free_ok X G (c.d.fact 10 (f := .free "range") rfl)
  n_repr := He.free_ok X G (c.d.fact 11 (f := .free "repr") rfl)
  n_sorted := He.free_ok X G (c.d.fact 12 (f := .free "sorted") rfl)
  n_str := He.free_ok X G (c.d.fact 13 (f := .free "str") rfl)
  n_tuple := He.free_ok X G (c.d.fact 14 (f := .free "tuple") rfl)
  c_FIGURES := He.str_ok X G (c.d.fact 15 (f := .str "FIGURES" "0123456789") rfl)
  c_GREATEST := He.int_ok X G (c.d.fact 16 (f := .int "GREATEST" v_GREATEST) rfl)
  c_LANES := He.str_ok X G (c.d.fact 17 (f := .str "LANES" "234") rfl)
  c_LETTERS := He.str_ok X G (c.d.fact 18 (f := .str "LETTERS" "abcdefghijklmnopqrstuvwxyz") rfl)
  c_LONGEST_checks := He.int_ok X G (c.d.fact 19 (f := .int "LONGEST_checks" v_LONGEST_checks) rfl)
  c_LONGEST_reader := He.int_ok X G (c.d.fact 20 (f := .int "LONGEST_reader" v_LONGEST_reader) rfl)
  F_StuckU_initU := (He.SaysD.def_ c.d 0 (d := ⟨("Stuck", some "__init__"), "__init__", "Stuck.__init__", defArgs st_StuckU_initU, defBody st_StuckU_initU, defScope st_StuckU_initU, [], []⟩) rfl).imp fun fd F => fun_of F
  F_L_draw := (He.SaysD.def_ c.d 1 (d := ⟨("_law_draw", none), "_law_draw", "_law_draw", defArgs st_L_draw, defBody st_L_draw, defScope st_L_draw, [], []⟩) rfl).imp fun fd F => fun_of F
  g_L_draw := He.glo_ok X G (c.d.fact 21 (f := .glo "_law_draw") rfl)
  k_L_draw := (He.SaysD.def_ c.d 1 (d := ⟨("_law_draw", none), "_law_draw", "_law_draw", defArgs st_L_draw, defBody st_L_draw, defScope st_L_draw, [], []⟩) rfl).elim fun fd F => F.kp
  F_L_pick := (He.SaysD.def_ c.d 2 (d := ⟨("_law_pick", none), "_law_pick", "_law_pick", defArgs st_L_pick, defBody st_L_pick, defScope st_L_pick, [], []⟩) rfl).imp fun fd F => fun_of F
  g_L_pick := He.glo_ok X G (c.d.fact 22 (f := .glo "_law_pick") rfl)
  k_L_pick := (He.SaysD.def_ c.d 2 (d := ⟨("_law_pick", none), "_law_pick", "_law_pick", defArgs st_L_pick, defBody st_L_pick, defScope st_L_pick, [], []⟩) rfl).elim fun fd F => F.kp
  F_L_bent := (He.SaysD.def_ c.d 3 (d := ⟨("_law_bent", none), "_law_bent", "_law_bent", defArgs st_L_bent, defBody st_L_bent, defScope st_L_bent, [], []⟩) rfl).imp fun fd F => fun_of F
  g_L_bent := He.glo_ok X G (c.d.fact 23 (f := .glo "_law_bent") rfl)
  k_L_bent := (He.SaysD.def_ c.d 3 (d := ⟨("_law_bent", none), "_law_bent", "_law_bent", defArgs st_L_bent, defBody st_L_bent, defScope st_L_bent, [], []⟩) rfl).elim fun fd F => F.kp
  F_L_heard := by
    obtain ⟨fd, F⟩ := He.SaysD.def_ c.d 4 (d := ⟨("_law_heard", none), "_law_heard", "_law_heard", defArgs st_L_heard, defBody st_L_heard, defScope st_L_heard, [], []⟩) rfl
    have e := fd_of (p := ("_law_heard", none)) F
    have F2 := fun_of (st := st_L_heard) F
    rw [e] at F2
    exact F2
  b_L_heard := by
    obtain ⟨fd, F⟩ := He.SaysD.def_ c.d 4 (d := ⟨("_law_heard", none), "_law_heard", "_law_heard", defArgs st_L_heard, defBody st_L_heard, defScope st_L_heard, [], []⟩) rfl
    have e := fd_of (p := ("_law_heard", none)) F
    have B := F.bindsN (ps := ["_law_ask"]) fun _ _ _ _ _ _ us hl => match us, hl with | [_], _ => rfl
    rw [e] at B
    exact B
  g_L_heard := He.glo_ok X G (c.d.fact 24 (f := .glo "_law_heard") rfl)
  k_L_heard := (He.SaysD.def_ c.d 4 (d := ⟨("_law_heard", none), "_law_heard", "_law_heard", defArgs st_L_heard, defBody st_L_heard, defScope st_L_heard, [], []⟩) rfl).elim fun fd F => F.kp
  F_L_pen := (He.SaysD.def_ c.d 5 (d := ⟨("_law_pen", none), "_law_pen", "_law_pen", defArgs st_L_pen, defBody st_L_pen, defScope st_L_pen, [], []⟩) rfl).imp fun fd F => fun_of F
  g_L_pen := He.glo_ok X G (c.d.fact 25 (f := .glo "_law_pen") rfl)
  k_L_pen := (He.SaysD.def_ c.d 5 (d := ⟨("_law_pen", none), "_law_pen", "_law_pen", defArgs st_L_pen, defBody st_L_pen, defScope st_L_pen, [], []⟩) rfl).elim fun fd F => F.kp
  F_L_is_name := (He.SaysD.def_ c.d 6 (d := ⟨("_law_is_name", none), "_law_is_name", "_law_is_name", defArgs st_L_is_name, defBody st_L_is_name, defScope st_L_is_name, [], []⟩) rfl).imp fun fd F => fun_of F
  g_L_is_name := He.glo_ok X G (c.d.fact 26 (f := .glo "_law_is_name") rfl)
  k_L_is_name := (He.SaysD.def_ c.d 6 (d := ⟨("_law_is_name", none), "_law_is_name", "_law_is_name", defArgs st_L_is_name, defBody st_L_is_name, defScope st_L_is_name, [], []⟩) rfl).elim fun fd F => F.kp
  F_L_is_shelf := (He.SaysD.def_ c.d 7 (d := ⟨("_law_is_shelf", none), "_law_is_shelf", "_law_is_shelf", defArgs st_L_is_shelf, defBody st_L_is_shelf, defScope st_L_is_shelf, [], []⟩) rfl).imp fun fd F => fun_of F
  g_L_is_shelf := He.glo_ok X G (c.d.fact 27 (f := .glo "_law_is_shelf") rfl)
  k_L_is_shelf := (He.SaysD.def_ c.d 7 (d := ⟨("_law_is_shelf", none), "_law_is_shelf", "_law_is_shelf", defArgs st_L_is_shelf, defBody st_L_is_shelf, defScope st_L_is_shelf, [], []⟩) rfl).elim fun fd F => F.kp
  F_L_is_whole := (He.SaysD.def_ c.d 8 (d := ⟨("_law_is_whole", none), "_law_is_whole", "_law_is_whole", defArgs st_L_is_whole, defBody st_L_is_whole, defScope st_L_is_whole, [], []⟩) rfl).imp fun fd F => fun_of F
  g_L_is_whole := He.glo_ok X G (c.d.fact 28 (f := .glo "_law_is_whole") rfl)
  k_L_is_whole := (He.SaysD.def_ c.d 8 (d := ⟨("_law_is_whole", none), "_law_is_whole", "_law_is_whole", defArgs st_L_is_whole, defBody st_L_is_whole, defScope st_L_is_whole, [], []⟩) rfl).elim fun fd F => F.kp
  F_L_safe_due := (He.SaysD.def_ c.d 9 (d := ⟨("_law_safe_due", none), "_law_safe_due", "_law_safe_due", defArgs st_L_safe_due, defBody st_L_safe_due, defScope st_L_safe_due, [], []⟩) rfl).imp fun fd F => fun_of F
  g_L_safe_due := He.glo_ok X G (c.d.fact 29 (f := .glo "_law_safe_due") rfl)
  k_L_safe_due := (He.SaysD.def_ c.d 9 (d := ⟨("_law_safe_due", none), "_law_safe_due", "_law_safe_due", defArgs st_L_safe_due, defBody st_L_safe_due, defScope st_L_safe_due, [], []⟩) rfl).elim fun fd F => F.kp
  F_L_stuck_due := (He.SaysD.def_ c.d 10 (d := ⟨("_law_stuck_due", none), "_law_stuck_due", "_law_stuck_due", defArgs st_L_stuck_due, defBody st_L_stuck_due, defScope st_L_stuck_due, [], []⟩) rfl).imp fun fd F => fun_of F
  g_L_stuck_due := He.glo_ok X G (c.d.fact 30 (f := .glo "_law_stuck_due") rfl)
  k_L_stuck_due := (He.SaysD.def_ c.d 10 (d := ⟨("_law_stuck_due", none), "_law_stuck_due", "_law_stuck_due", defArgs st_L_stuck_due, defBody st_L_stuck_due, defScope st_L_stuck_due, [], []⟩) rfl).elim fun fd F => F.kp
  F_SafeU_initU := (He.SaysD.def_ c.d 11 (d := ⟨("Safe", some "__init__"), "__init__", "Safe.__init__", defArgs st_SafeU_initU, defBody st_SafeU_initU, defScope st_SafeU_initU, [], []⟩) rfl).imp fun fd F => fun_of F
  F_is_name := (He.SaysD.def_ c.d 12 (d := ⟨("is_name", none), "is_name", "is_name", defArgs st_is_name, defBody st_is_name, defScope st_is_name, [], []⟩) rfl).imp fun fd F => fun_of F
  g_is_name := He.glo_ok X G (c.d.fact 31 (f := .glo "is_name") rfl)
  k_is_name := (He.SaysD.def_ c.d 12 (d := ⟨("is_name", none), "is_name", "is_name", defArgs st_is_name, defBody st_is_name, defScope st_is_name, [], []⟩) rfl).elim fun fd F => F.kp
  F_is_shelf := (He.SaysD.def_ c.d 13 (d := ⟨("is_shelf", none), "is_shelf", "is_shelf", defArgs st_is_shelf, defBody st_is_shelf, defScope st_is_shelf, [], []⟩) rfl).imp fun fd F => fun_of F
  g_is_shelf := He.glo_ok X G (c.d.fact 32 (f := .glo "is_shelf") rfl)
  k_is_shelf := (He.SaysD.def_ c.d 13 (d := ⟨("is_shelf", none), "is_shelf", "is_shelf", defArgs st_is_shelf, defBody st_is_shelf, defScope st_is_shelf, [], []⟩) rfl).elim fun fd F => F.kp
  F_is_figures := (He.SaysD.def_ c.d 14 (d := ⟨("is_figures", none), "is_figures", "is_figures", defArgs st_is_figures, defBody st_is_figures, defScope st_is_figures, [], []⟩) rfl).imp fun fd F => fun_of F
  g_is_figures := He.glo_ok X G (c.d.fact 33 (f := .glo "is_figures") rfl)
  k_is_figures := (He.SaysD.def_ c.d 14 (d := ⟨("is_figures", none), "is_figures", "is_figures", defArgs st_is_figures, defBody st_is_figures, defScope st_is_figures, [], []⟩) rfl).elim fun fd F => F.kp
  F_is_whole := (He.SaysD.def_ c.d 15 (d := ⟨("is_whole", none), "is_whole", "is_whole", defArgs st_is_whole, defBody st_is_whole, defScope st_is_whole, [], []⟩) rfl).imp fun fd F => fun_of F
  g_is_whole := He.glo_ok X G (c.d.fact 34 (f := .glo "is_whole") rfl)
  k_is_whole := (He.SaysD.def_ c.d 15 (d := ⟨("is_whole", none), "is_whole", "is_whole", defArgs st_is_whole, defBody st_is_whole, defScope st_is_whole, [], []⟩) rfl).elim fun fd F => F.kp
  F_need_string := (He.SaysD.def_ c.d 16 (d := ⟨("need_string", none), "need_string", "need_string", defArgs st_need_string, defBody st_need_string, defScope st_need_string, [], []⟩) rfl).imp fun fd F => fun_of F
  g_need_string := He.glo_ok X G (c.d.fact 35 (f := .glo "need_string") rfl)
  k_need_string := (He.SaysD.def_ c.d 16 (d := ⟨("need_string", none), "need_string", "need_string", defArgs st_need_string, defBody st_need_string, defScope st_need_string, [], []⟩) rfl).elim fun fd F => F.kp
  F_words_of_line := (He.SaysD.def_ c.d 17 (d := ⟨("words_of_line", none), "words_of_line", "words_of_line", defArgs st_words_of_line, defBody st_words_of_line, defScope st_words_of_line, [], []⟩) rfl).imp fun fd F => fun_of F
  g_words_of_line := He.glo_ok X G (c.d.fact 36 (f := .glo "words_of_line") rfl)
  k_words_of_line := (He.SaysD.def_ c.d 17 (d := ⟨("words_of_line", none), "words_of_line", "words_of_line", defArgs st_words_of_line, defBody st_words_of_line, defScope st_words_of_line, [], []⟩) rfl).elim fun fd F => F.kp
  F_read_safe := (He.SaysD.def_ c.d 18 (d := ⟨("read_safe", none), "read_safe", "read_safe", defArgs st_read_safe, defBody st_read_safe, defScope st_read_safe, [], []⟩) rfl).imp fun fd F => fun_of F
  g_read_safe := He.glo_ok X G (c.d.fact 37 (f := .glo "read_safe") rfl)
  k_read_safe := (He.SaysD.def_ c.d 18 (d := ⟨("read_safe", none), "read_safe", "read_safe", defArgs st_read_safe, defBody st_read_safe, defScope st_read_safe, [], []⟩) rfl).elim fun fd F => F.kp
  F_FillU_initU := (He.SaysD.def_ c.d 19 (d := ⟨("Fill", some "__init__"), "__init__", "Fill.__init__", defArgs st_FillU_initU, defBody st_FillU_initU, defScope st_FillU_initU, [], []⟩) rfl).imp fun fd F => fun_of F
  F_read_fill := (He.SaysD.def_ c.d 20 (d := ⟨("read_fill", none), "read_fill", "read_fill", defArgs st_read_fill, defBody st_read_fill, defScope st_read_fill, [], []⟩) rfl).imp fun fd F => fun_of F
  g_read_fill := He.glo_ok X G (c.d.fact 38 (f := .glo "read_fill") rfl)
  k_read_fill := (He.SaysD.def_ c.d 20 (d := ⟨("read_fill", none), "read_fill", "read_fill", defArgs st_read_fill, defBody st_read_fill, defScope st_read_fill, [], []⟩) rfl).elim fun fd F => F.kp
  F_read_stuck := (He.SaysD.def_ c.d 21 (d := ⟨("read_stuck", none), "read_stuck", "read_stuck", defArgs st_read_stuck, defBody st_read_stuck, defScope st_read_stuck, [], []⟩) rfl).imp fun fd F => fun_of F
  g_read_stuck := He.glo_ok X G (c.d.fact 39 (f := .glo "read_stuck") rfl)
  k_read_stuck := (He.SaysD.def_ c.d 21 (d := ⟨("read_stuck", none), "read_stuck", "read_stuck", defArgs st_read_stuck, defBody st_read_stuck, defScope st_read_stuck, [], []⟩) rfl).elim fun fd F => F.kp
  F_is_integer := (He.SaysD.def_ c.d 22 (d := ⟨("is_integer", none), "is_integer", "is_integer", defArgs st_is_integer, defBody st_is_integer, defScope st_is_integer, [], []⟩) rfl).imp fun fd F => fun_of F
  g_is_integer := He.glo_ok X G (c.d.fact 40 (f := .glo "is_integer") rfl)
  k_is_integer := (He.SaysD.def_ c.d 22 (d := ⟨("is_integer", none), "is_integer", "is_integer", defArgs st_is_integer, defBody st_is_integer, defScope st_is_integer, [], []⟩) rfl).elim fun fd F => F.kp
  F_is_numbers := (He.SaysD.def_ c.d 23 (d := ⟨("is_numbers", none), "is_numbers", "is_numbers", defArgs st_is_numbers, defBody st_is_numbers, defScope st_is_numbers, [], []⟩) rfl).imp fun fd F => fun_of F
  g_is_numbers := He.glo_ok X G (c.d.fact 41 (f := .glo "is_numbers") rfl)
  k_is_numbers := (He.SaysD.def_ c.d 23 (d := ⟨("is_numbers", none), "is_numbers", "is_numbers", defArgs st_is_numbers, defBody st_is_numbers, defScope st_is_numbers, [], []⟩) rfl).elim fun fd F => F.kp
  F_pairs_text := (He.SaysD.def_ c.d 24 (d := ⟨("pairs_text", none), "pairs_text", "pairs_text", defArgs st_pairs_text, defBody st_pairs_text, defScope st_pairs_text, [], []⟩) rfl).imp fun fd F => fun_of F
  g_pairs_text := He.glo_ok X G (c.d.fact 42 (f := .glo "pairs_text") rfl)
  k_pairs_text := (He.SaysD.def_ c.d 24 (d := ⟨("pairs_text", none), "pairs_text", "pairs_text", defArgs st_pairs_text, defBody st_pairs_text, defScope st_pairs_text, [], []⟩) rfl).elim fun fd F => F.kp
  F_write_safe := (He.SaysD.def_ c.d 25 (d := ⟨("write_safe", none), "write_safe", "write_safe", defArgs st_write_safe, defBody st_write_safe, defScope st_write_safe, [], []⟩) rfl).imp fun fd F => fun_of F
  g_write_safe := He.glo_ok X G (c.d.fact 43 (f := .glo "write_safe") rfl)
  k_write_safe := (He.SaysD.def_ c.d 25 (d := ⟨("write_safe", none), "write_safe", "write_safe", defArgs st_write_safe, defBody st_write_safe, defScope st_write_safe, [], []⟩) rfl).elim fun fd F => F.kp
  F_is_fill := (He.SaysD.def_ c.d 26 (d := ⟨("is_fill", none), "is_fill", "is_fill", defArgs st_is_fill, defBody st_is_fill, defScope st_is_fill, [], []⟩) rfl).imp fun fd F => fun_of F
  g_is_fill := He.glo_ok X G (c.d.fact 44 (f := .glo "is_fill") rfl)
  k_is_fill := (He.SaysD.def_ c.d 26 (d := ⟨("is_fill", none), "is_fill", "is_fill", defArgs st_is_fill, defBody st_is_fill, defScope st_is_fill, [], []⟩) rfl).elim fun fd F => F.kp
  F_write_stuck := (He.SaysD.def_ c.d 27 (d := ⟨("write_stuck", none), "write_stuck", "write_stuck", defArgs st_write_stuck, defBody st_write_stuck, defScope st_write_stuck, [], []⟩) rfl).imp fun fd F => fun_of F
  g_write_stuck := He.glo_ok X G (c.d.fact 45 (f := .glo "write_stuck") rfl)
  k_write_stuck := (He.SaysD.def_ c.d 27 (d := ⟨("write_stuck", none), "write_stuck", "write_stuck", defArgs st_write_stuck, defBody st_write_stuck, defScope st_write_stuck, [], []⟩) rfl).elim fun fd F => F.kp
  FC_L_right := (He.SaysD.def_ c.d 28 (d := ⟨("_law_right", none), "_law_right", "_law_right", defArgs st_L_right, defBody st_L_right, defScope st_L_right, [], []⟩) rfl).imp fun fd F => ⟨fun_of F, code_of (p := ("_law_right", none)) F⟩
  g_L_right := He.glo_ok X G (c.d.fact 46 (f := .glo "_law_right") rfl)
  k_L_right := (He.SaysD.def_ c.d 28 (d := ⟨("_law_right", none), "_law_right", "_law_right", defArgs st_L_right, defBody st_L_right, defScope st_L_right, [], []⟩) rfl).elim fun fd F => F.kp
  FC_law := (He.SaysD.def_ c.d 29 (d := ⟨("law", none), "law", "law", defArgs st_law, defBody st_law, defScope st_law, [], []⟩) rfl).imp fun fd F => ⟨fun_of F, code_of (p := ("law", none)) F⟩
  g_law := He.glo_ok X G (c.d.fact 47 (f := .glo "law") rfl)
  k_law := (He.SaysD.def_ c.d 29 (d := ⟨("law", none), "law", "law", defArgs st_law, defBody st_law, defScope st_law, [], []⟩) rfl).elim fun fd F => F.kp
  g_BadPaper := He.glo_ok X G (c.d.fact 48 (f := .glo "BadPaper") rfl)
  g_BadText := He.glo_ok X G (c.d.fact 49 (f := .glo "BadText") rfl)
  g_Fill := He.glo_ok X G (c.d.fact 50 (f := .glo "Fill") rfl)
  g_Safe := He.glo_ok X G (c.d.fact 51 (f := .glo "Safe") rfl)
  g_ShelfError := He.glo_ok X G (c.d.fact 52 (f := .glo "ShelfError") rfl)
  g_Stuck := He.glo_ok X G (c.d.fact 53 (f := .glo "Stuck") rfl)
  k_Fill := He.mkr_ok (c.d.fact 54 (f := .mkr "Fill") rfl)
  k_Safe := He.mkr_ok (c.d.fact 55 (f := .mkr "Safe") rfl)
  k_Stuck := He.mkr_ok (c.d.fact 56 (f := .mkr "Stuck") rfl)
  x_BadPaper := in_sx (P := PROG) is_BadPaper (all_at c.more 0 rfl) (c.ini 0 rfl) (He.free_ok X G (c.d.fact 57 (f := .free "super") rfl)) (by decide +kernel)
  x_BadText := in_sx (P := PROG) is_BadText (all_at c.more 1 rfl) (c.ini 1 rfl) (He.free_ok X G (c.d.fact 57 (f := .free "super") rfl)) (by decide +kernel)
def loose0 : List Str := ["ShelfError",
  "BadPaper",
  "BadText",
  "LETTERS",
  "LANES",
  "LONGEST_checks",
  "is_integer",
  "is_name",
  "is_shelf",
  "Verdict",
  "Safe",
  "Fill",
  "Stuck",
  "FIGURES",
  "LONGEST_reader",
  "is_figures"]
def loose1 : List Str := ["is_whole",
  "need_string",
  "words_of_line",
  "read_safe",
  "read_fill",
  "read_stuck",
  "GREATEST",
  "is_numbers",
  "is_fill",
  "pairs_text",
  "write_safe",
  "write_stuck",
  "_law_pen",
  "_law_draw",
  "_law_pick",
  "_law_heard"]
def loose2 : List Str := ["_law_is_name",
  "_law_is_shelf",
  "_law_is_whole",
  "_law_safe_due",
  "_law_stuck_due",
  "_law_bent",
  "_law_right"]
def loose : List Str := loose0 ++ (loose1 ++ (loose2))
abbrev ROW : PySem.W.OpenRow := PySem.W.OpenLaw.row PySem.Challenge.rw_fullshelves_k94_spoilt_texts_of_papers
abbrev hk : PySem.W.Hook := hookZ hd
def ob (s : PySem.W.SharedT) : AlZ := obsZ hd (HandSHeadRun.getT s)
theorem ob_eq (s : PySem.W.SharedT) : ob s = hk.obs s.abs := obsZ_eq (HandSHeadRun.getT_eq s)
theorem run (w : World) : HandSHeadRun.RunEq ROW (PySem.W.view ROW.prog [46]) hk ob 3000 loose w := by
  intro os
  kernel_rfl
def lawI : Nat := 46
end Rk94

namespace Rk94
open PySem PySem.Spec PyProof.Rows L2 Fs
theorem dIsk_obj {K : PySem.W.Frag} {C D' : Addr} {fs : List (Str × D)} {b : Bool} (h : InsTy K C) (e : isCD K (.ref C) (.adr D') = some b) : dIsk K [.obj C fs, .adr D'] = some (.bl b) := by
  show (match chk (InsTy K C) with | true => (isCD K (.ref C) (.adr D')).map D.bl | false => none) = _
  rw [chk_true h, e]; rfl
theorem dIsx_exc {K : PySem.W.Frag} {C : Addr} {fs : List (Str × D)} {d : D} {b : Bool} (h : ExcC K C) (e : isCD K (.ref C) d = some b) : dIsx K [.exc C fs, d] = some (.bl b) := by
  show (match chk (ExcC K C) with | true => (isCD K (.ref C) d).map D.bl | false => none) = _
  rw [chk_true h, e]; rfl
theorem dIsk_ty {K : PySem.W.Frag} {x d : D} {T : Value} {b : Bool} (h : tyD x = some T) (hx : ∀ C fs, x ≠ .exc C fs) (ho : ∀ C fs, x ≠ .obj C fs) (e : isCD K T d = some b) : dIsk K [x, d] = some (.bl b) := by
  have e2 : (match tyD x with | some T => (isCD K T d).map D.bl | none => none) = some (.bl b) := by rw [h]; show (isCD K T d).map D.bl = _; rw [e]; rfl
  cases x with
  | exc C fs => exact absurd rfl (hx C fs)
  | obj C fs => exact absurd rfl (ho C fs)
  | _ => exact e2
theorem kk_of {K : PySem.W.Frag} {h : Heap} (c : SaysZ hd h K) : KK K (mkAd K) where
  t := ⟨isTB_ok (all_at c.more 3 rfl)⟩
  a := ⟨He.cls_ok (c.d.fact 58 (f := .cls "Safe") rfl), He.noat_ok (c.d.fact 61 (f := .noat "Safe" "numbers") rfl)⟩
  b := ⟨isTB_ok (all_at c.more 4 rfl), isTB_ok (all_at c.more 5 rfl), isTB_ok (all_at c.more 6 rfl), fun fs => dIsk_obj (insB_ok (He.cls_ok (c.d.fact 58 (f := .cls "Safe") rfl)) (all_at c.more 8 rfl)) (isCB_ok (all_at c.more 11 rfl))⟩
  c := ⟨⟨He.cls_ok (c.d.fact 59 (f := .cls "Fill") rfl), He.noat_ok (c.d.fact 62 (f := .noat "Fill" "shelf") rfl), He.noat_ok (c.d.fact 63 (f := .noat "Fill" "flow") rfl), He.noat_ok (c.d.fact 64 (f := .noat "Fill" "way") rfl), He.noat_ok (c.d.fact 65 (f := .noat "Fill" "want") rfl)⟩,
    ⟨He.cls_ok (c.d.fact 60 (f := .cls "Stuck") rfl), He.noat_ok (c.d.fact 66 (f := .noat "Stuck" "fills") rfl)⟩⟩
  d := ⟨fun fs => dIsk_obj (insB_ok (He.cls_ok (c.d.fact 59 (f := .cls "Fill") rfl)) (all_at c.more 9 rfl)) (isCB_ok (all_at c.more 12 rfl)), fun fs => dIsk_obj (insB_ok (He.cls_ok (c.d.fact 60 (f := .cls "Stuck") rfl)) (all_at c.more 10 rfl)) (isCB_ok (all_at c.more 13 rfl)), isTB_ok (all_at c.more 7 rfl)⟩
  e := ⟨fun fs hf => by
      have e : PySem.W.exmOne K (.ref (mkAd K).c_BadText) (.ref (mkAd K).c_ShelfError) = some true := of_decide_eq_true (all_at c.more 14 rfl)
      unfold caughtD
      rw [chk_true e, hf]; rfl,
    fun fs => dIsx_exc (exB_ok (all_at c.more 15 rfl)) (isCB_ok (all_at c.more 16 rfl)),
    fun fs => dIsx_exc (exB_ok (all_at c.more 15 rfl)) (kitB_ok (all_at c.more 17 rfl)),
    ⟨xfB_ok (all_at c.more 18 rfl), He.eqO_ok (all_at c.more 19 rfl)⟩, ⟨xfB_ok (all_at c.more 18 rfl), He.eqO_ok (all_at c.more 20 rfl)⟩⟩
theorem kf_of {K : PySem.W.Frag} {h : Heap} (c : SaysZ hd h K) : KF K (mkAd K) := ⟨fun x hx => by
  unfold ODDS at hx
  simp only [List.mem_cons, List.not_mem_nil, or_false] at hx
  rcases hx with rfl | rfl | rfl | rfl | rfl | rfl | rfl
  · exact dIsk_ty (T := .type "NoneType") rfl (by intro _ _ z; cases z) (by intro _ _ z; cases z) (isTB_ok (all_at c.more 21 rfl))
  · exact dIsk_ty (T := .type "int") rfl (by intro _ _ z; cases z) (by intro _ _ z; cases z) (isTB_ok (all_at c.more 22 rfl))
  · exact dIsk_ty (T := .type "bool") rfl (by intro _ _ z; cases z) (by intro _ _ z; cases z) (isTB_ok (all_at c.more 23 rfl))
  · exact dIsk_ty (T := .type "list") rfl (by intro _ _ z; cases z) (by intro _ _ z; cases z) (isTB_ok (all_at c.more 24 rfl))
  · exact dIsk_ty (T := .type "tuple") rfl (by intro _ _ z; cases z) (by intro _ _ z; cases z) (isTB_ok (all_at c.more 25 rfl))
  · exact dIsk_ty (T := .type "dict") rfl (by intro _ _ z; cases z) (by intro _ _ z; cases z) (isTB_ok (all_at c.more 26 rfl))
  · show (match chk (InsTy K (mkAd K).c_Stuck) with | true => (isCD K (.ref (mkAd K).c_Stuck) (.ty "str")).map D.bl | false => none) = _
    have e : isCD K (.ref (mkAd K).c_Stuck) (.ty "str") = some false := kitB_ok (all_at c.more 27 rfl)
    have i : InsTy K (mkAd K).c_Stuck := insB_ok (He.cls_ok (c.d.fact 60 (f := .cls "Stuck") rfl)) (all_at c.more 10 rfl)
    rw [chk_true i, e]; rfl⟩
theorem law_at {w : World} {mg : Str → Option Value} {fa : Addr} {h : Heap} (Y : ∃ K : PySem.W.Frag, K.In h ∧ SaysZ hd h K) (G : h.Ns mainGlobals mg) (hmg : mg ("law" : Str) = some (.ref fa)) :
    ∃ K : PySem.W.Frag, K.In h ∧ LamX.LawAtS PySem.Challenge.rw_fullshelves_k94_spoilt_texts_of_papers w K (L2.CX PROG w) 12 63 "_law_script" mg fa h := by
  obtain ⟨K, X, c⟩ := Y
  have T := txt_of X G c
  have kk := kk_of c
  have kf := kf_of c
  obtain ⟨fd, F, hcd⟩ := T.FC_law
  have ef : (mkAd K).f_law = fa := by
    have e := T.g_law.symm.trans hmg
    cases e; rfl
  have ne : (mkAd K).tb_L_right ≠ (mkAd K).tb_law := by
    have e : (!decide ((mkAd K).tb_L_right = (mkAd K).tb_law)) = true := all_at c.more 2 rfl
    simpa using e
  have m1 : (mkAd K).tabs = [((mkAd K).tb_L_right, (("_law_right" ++ ".<locals>.") ++ "<lambda>" : Str)), ((mkAd K).tb_law, (("law" ++ ".<locals>.") ++ "<lambda>" : Str))] := rfl
  have cs : htf.map (fun p => He.cT K p) = [((mkAd K).cd_L_right, (mkAd K).tb_L_right), ((mkAd K).cd_law, (mkAd K).tb_law)] := rfl
  have hm : ∀ p ∈ [((mkAd K).cd_L_right, (mkAd K).tb_L_right), ((mkAd K).cd_law, (mkAd K).tb_law)], ∃ q ∈ htf, He.cT K q = p := fun p hp => by
    rw [← cs] at hp
    obtain ⟨q, hq, e⟩ := List.mem_map.mp hp
    exact ⟨q, hq, e⟩
  refine ⟨K, X, fd, [((mkAd K).cd_L_right, (mkAd K).tb_L_right), ((mkAd K).cd_law, (mkAd K).tb_law)], sp_law K (mkAd K), fun p hp => ?_, fun p hp => ?_, fun p hp => ?_, fun s u => ?_, fun H a ns hl hb hT hS => ?_, fun base hK hN hTB => ?_⟩
  · obtain ⟨q, hq, rfl⟩ := hm p hp
    exact c.empty q hq
  · obtain ⟨q, hq, rfl⟩ := hm p hp
    exact c.out q hq
  · obtain ⟨q, hq, rfl⟩ := hm p hp
    exact PySem.W.codeHd_of_K X (c.hd q hq)
  · obtain ⟨oc, od, kV, doc, pm, an, cdv, ct, osl, rfl, lk, hc⟩ := F.ex
    exact .of_eq rfl
  · have hT2 : ∀ t ∈ (mkAd K).tabs, H t.1 = some (.tbl #[]) := fun t ht => by
      rw [m1] at ht
      simp only [List.mem_cons, List.not_mem_nil, or_false] at ht
      rcases ht with rfl | rfl
      · exact hT ((mkAd K).cd_L_right, (mkAd K).tb_L_right) (by simp)
      · exact hT ((mkAd K).cd_law, (mkAd K).tb_law) (by simp)
    refine law_sp (Np := N_L_pen) (N := N_law) (T := (mkAd K).tabs) (rt := rt_law K (mkAd K)) (f := fun L => b_law K (mkAd K) (mBent K (mkAd K) (runD 7 2 (b_L_draw K (mkAd K) L)) (runD 2 2 (b_L_pick K (mkAd K) (runD 7 2 (b_L_draw K (mkAd K) L))))) (fun _ _ => .bad) (runD 2 2 (b_L_pick K (mkAd K) (runD 7 2 (b_L_draw K (mkAd K) L)))) (mRight K (mkAd K))) (by decide) hT2 hS hl hb ?_ ?_
    · intro L hL hpc hpt
      have tabs : ∀ s H, (penC K L).I s H → LamX.Tabs (mkAd K).tabs H := fun s H I => by rw [← hL]; exact pen_tabs s H I
      have lam : ∀ (q : Str) s H H1 cl, (penC K L).I s H → LamTo (mkAd K).tabs q H H1 cl → (penC K L).I s H1 ∧ Ext (penC K L).keep H H1 := fun q s H H1 cl I l => pen_lam s H H1 cl I (by rw [hL]; exact l)
      exact S_law (SP_L_bent (SP_L_draw hpc hpt) (SP_L_pick (SP_L_draw hpc hpt))) (mm_L_pen := fun _ _ => .bad) (fun A H vs ds s Q E _ _ _ _ W => W.elim) (SP_L_pick (SP_L_draw hpc hpt)) (SP_L_right tabs (lam _)) tabs (lam _)
    · intro L hL hpc hpt hcl
      have dr : Drw L (runD 7 2 (b_L_draw K (mkAd K) L)) := fun m hm n s u hn => by
        obtain ⟨v, s', h1, h2, h3, h4, h5⟩ := draw_eq K (mkAd K) L (fun x hx => by
          rw [hcl] at hx
          exact Nat.lt_of_lt_of_le (bits_nat (hb x hx)) (Nat.pow_le_pow_right (by decide) (by decide))) hm s ⟨u.1, by have := u.2; omega⟩
        exact ⟨v, s', h1, h2, h3, h4, by have := u.2; omega⟩
      exact law_eq kk kf dr (pkr_of dr) (s := ⟨0, 0⟩) ⟨by decide, by decide⟩
  · rw [← ef]
    have tb1 := hTB ((mkAd K).cd_L_right, (mkAd K).tb_L_right) (by simp)
    have tb2 := hTB ((mkAd K).cd_law, (mkAd K).tb_law) (by simp)
    refine G_law T F hcd tb1 (by rw [m1]; simp) (fun p hp e => ?_) tb2 (by rw [m1]; simp) (fun p hp e => ?_)
    · rw [m1] at hp
      simp only [List.mem_cons, List.not_mem_nil, or_false] at hp
      rcases hp with rfl | rfl
      · rfl
      · exact absurd e.symm ne
    · rw [m1] at hp
      simp only [List.mem_cons, List.not_mem_nil, or_false] at hp
      rcases hp with rfl | rfl
      · exact absurd e ne
      · rfl
end Rk94
open PySem PySem.W PySem.Calls PyProof.Rows
theorem PySem.Challenge.cw_fullshelves_k94_spoilt_texts_of_papers_holds : PySem.Challenge.rw_fullshelves_k94_spoilt_texts_of_papers.Holds := by
  w_on; o_law
  refine HandSHeadRun.head_any (r := Rk94.ROW) (q := view Rk94.ROW.prog [46]) (H := Rk94.hk) (ob := Rk94.ob) (M := 3000) (loose := Rk94.loose) (d := HandSHeadRun.topDef Rk94.ROW.prog 46) (kwd := []) Rk94.ob_eq
    (by kernel_rfl) (fun s => by kernel_rfl) Rk94.run (by kernel_rfl) (by kernel_rfl) (by kernel_rfl) (by rfl) (by first | assumption | decide +kernel) (by decide +kernel) ⟨rfl, rfl, rfl, rfl, rfl, by decide +kernel⟩ ?hw ?hc
  case hw => w_witness2
  case hc =>
    refine LamX.walk_ofTsE (l := PySem.Challenge.rw_fullshelves_k94_spoilt_texts_of_papers) (n := 63) (k := 12) (x := "_law_script") (CX := fun w => L2.CX Rk94.PROG w) rfl (by decide) (by kernel_rfl) ⟨rfl, by decide, by decide⟩ ?F (fun w H s e s' z => ?_)
    case F =>
      intro w mg fa h Y G hmg0
      have hmg : mg ("law" : PySem.Str) = some (.ref fa) := by
        have e : (HandSHeadRun.topDef Rk94.ROW.prog 46).name = ("law" : PySem.Str) := by kernel_rfl
        rw [← e]
        exact hmg0
      exact Rk94.law_at Y G hmg
    · obtain ⟨a, B, H', cls, d, _, _, _, _, _, _, _, q⟩ := z
      exact q
