import PyProof.Rows.All
import Wide.All
import OpenK.AllK
import Wide.FinOn
import HandS.ForMost
import HandS.ForExc
import HandS.Wide
import HandS.WideBits
import HandS.FStr
import HandS.Star
import HandS.IsInst
import HandS.DictComp
import HandS.RaiseMore
import HandS.Small
import HandS.Deep
import HandS.Lambda
import PyProof.StrOps2
import KE.KExcSuper
import KE.KSuper
import HandS.ExcInit
import HandS.ExcSuper
import KE.KExcIs
import HandS.ExcIs
import HandS.ExcField
import HandS.ExcValue
import HandS.EndTab
import KE.GoesRaise
import PyProof.StrBlock2
import KE.IntTextText
import KE.KStateDown
import HandS.Head0
import HandS.Head1
import HandS.Head2
import HandS.HeadHook1
import HandS.HeadHook2
import HandS.HeadHook3
import HandS.HeadHook4
import HandS.HeadWalk
import HandS.NestedK
import HandS.MakeKwOnly
import PyProof.ReprRoads
import PySem.Challenge.RW_fullshelves_k01_errors_kept
set_option Elab.async false
set_option linter.all false
set_option maxRecDepth 100000
set_option maxHeartbeats 0
namespace Fs
open PySem PySem.Spec PyProof.Rows L2
section
variable {X : Cx}
theorem opr_or {f : Value → Value → Sem Value} {r r' : R2} (h : OpR X f r) (h' : OpR X f r') : OpR X f (fun x y H Q => r x y H Q ∨ r' x y H Q) :=
  fun pins s σ H x y v u Q I rx ry q => q.elim (fun q => h pins s σ H x y v u Q I rx ry q) fun q => h' pins s σ H x y v u Q I rx ry q
theorem callr_or {f : Value} {r r' : List V → Hp → VK → Prop} (h : CallR X f r) (h' : CallR X f r') : CallR X f (fun xs H Q => r xs H Q ∨ r' xs H Q) :=
  fun pins s σ H xs us Q I rx q => q.elim (fun q => h pins s σ H xs us Q I rx q) fun q => h' pins s σ H xs us Q I rx q

def rInDct : R2 := fun x y H Q => ∃ a o, y = .ref a ∧ DGet H a x o ∧ Q (.bl o.isSome) H
def rNiDct : R2 := fun x y H Q => ∃ a o, y = .ref a ∧ DGet H a x o ∧ Q (.bl (!o.isSome)) H
theorem op_inDct (hu : X.A.units + 1 < cLine) : OpR X (compareOp .In) rInDct := by
  intro pins s σ H x y v u Q I rx ry q
  obtain ⟨a, o, rfl, g, q⟩ := q
  obtain rfl : u = Value.ref a := ry
  exact d_in hu I g rx fun s3 I3 => ⟨.bl o.isSome, H, I3, rfl, q⟩
theorem op_niDct (hu : X.A.units + 1 < cLine) : OpR X (compareOp .NotIn) rNiDct := by
  intro pins s σ H x y v u Q I rx ry q
  obtain ⟨a, o, rfl, g, q⟩ := q
  obtain rfl : u = Value.ref a := ry
  exact d_notIn hu I g rx fun s3 I3 => ⟨.bl (!o.isSome), H, I3, rfl, q⟩
def rInSt : R2 := fun x y H Q => ∃ i j, x = .str i ∧ y = .str j ∧ Q (.bl (!(Builtin.Str.occurrences j i 0 j.length 1).isEmpty)) H
def rNiSt : R2 := fun x y H Q => ∃ i j, x = .str i ∧ y = .str j ∧ Q (.bl (!(!(Builtin.Str.occurrences j i 0 j.length 1).isEmpty))) H
def rInSg : R2 := fun x y H Q => ∃ (c : Nat) (z : Str), x = .str ⟨#[c]⟩ ∧ y = .str z ∧ Q (.bl (decide (c ∈ z.cps.toList))) H
def rNiSg : R2 := fun x y H Q => ∃ (c : Nat) (z : Str), x = .str ⟨#[c]⟩ ∧ y = .str z ∧ Q (.bl (!decide (c ∈ z.cps.toList))) H
/-- in: a sign or a text in a text, a flat value in a list or tuple, data in a list of data, a key in a dict -/
def rInG (K : PySem.W.Frag) : R2 := fun x y H Q => rInSg x y H Q ∨ rInSt x y H Q ∨ rIn K false x y H Q ∨ rInDct x y H Q ∨ rInD K x y H Q
def rNiG (K : PySem.W.Frag) : R2 := fun x y H Q => rNiSg x y H Q ∨ rNiSt x y H Q ∨ rIn K true x y H Q ∨ rNiDct x y H Q ∨ rNotInD K x y H Q
theorem op_inG (hu : X.A.units + 65 < cLine) : OpR X (compareOp .In) (rInG X.K) :=
  opr_or op_in_sign (opr_or op_in_str (opr_or op_in_seq (opr_or (op_inDct (by omega)) (op_inD hu))))
theorem op_niG (hu : X.A.units + 65 < cLine) : OpR X (compareOp .NotIn) (rNiG X.K) :=
  opr_or op_notIn_sign (opr_or op_notIn_str (opr_or op_notIn_seq (opr_or (op_niDct (by omega)) (op_notInD hu))))
def rEqG (K : PySem.W.Frag) : R2 := fun x y H Q => rEq x y H Q ∨ rEqD K x y H Q
def rNeG (K : PySem.W.Frag) : R2 := fun x y H Q => rNe x y H Q ∨ rNeD K x y H Q
theorem op_eqA (hu : X.A.units + 64 < cLine) : OpR X (compareOp .Eq) (rEqG X.K) := opr_or op_eq (op_eqD hu)
theorem op_neA (hu : X.A.units + 64 < cLine) : OpR X (compareOp .NotEq) (rNeG X.K) := opr_or op_ne (op_neD hu)
def rLtG : R2 := fun x y H Q => rI0 (fun i j => .bl (decide (i < j))) x y H Q ∨ ∃ i j, x = .str i ∧ y = .str j ∧ Q (.bl (decide (i.cps.toList < j.cps.toList))) H
def rLeG : R2 := fun x y H Q => rI0 (fun i j => .bl (decide (i ≤ j))) x y H Q ∨ ∃ i j, x = .str i ∧ y = .str j ∧ Q (.bl (!decide (j.cps.toList < i.cps.toList))) H
def rGtG : R2 := fun x y H Q => rI0 (fun i j => .bl (decide (j < i))) x y H Q ∨ ∃ i j, x = .str i ∧ y = .str j ∧ Q (.bl (decide (j.cps.toList < i.cps.toList))) H
def rGeG : R2 := fun x y H Q => rI0 (fun i j => .bl (decide (j ≤ i))) x y H Q ∨ ∃ i j, x = .str i ∧ y = .str j ∧ Q (.bl (!decide (i.cps.toList < j.cps.toList))) H
theorem op_ltA : OpR X (compareOp .Lt) rLtG := opr_or op_lt op_lt_str
theorem op_leA : OpR X (compareOp .LtE) rLeG := opr_or op_le op_le_str
theorem op_gtA : OpR X (compareOp .Gt) rGtG := opr_or op_gt op_gt_str
theorem op_geA : OpR X (compareOp .GtE) rGeG := opr_or op_ge op_ge_str
def rIsNG : R2 := fun x y H Q => y = .non ∧ Q (.bl (decide (x = .non))) H
def rNoNG : R2 := fun x y H Q => y = .non ∧ Q (.bl (!decide (x = .non))) H
theorem op_isNA : OpR X (compareOp .Is) rIsNG := op_isN
theorem op_noNA : OpR X (compareOp .IsNot) rNoNG := op_notN

def rAddG (K : PySem.W.Frag) : R2 := fun x y H Q => rI0 (fun i j => .int (i + j)) x y H Q ∨ (∃ i j, x = .str i ∧ y = .str j ∧ i.length + j.length ≤ sizeLine ∧ Q (.str (i ++ j)) H) ∨ rCat x y H Q ∨ rCatT K x y H Q
theorem op_addA : OpR X (binaryOp .Add) (rAddG X.K) := opr_or op_add (opr_or op_add_str (opr_or op_cat op_catT))
def rSubG : R2 := rI0 fun i j => .int (i - j)
theorem op_subA : OpR X (binaryOp .Sub) rSubG := op_sub
def rMulG : R2 := fun x y H Q => rI CMulX (fun i j => .int (i * j)) x y H Q ∨ rRep x y H Q
theorem op_mulA : OpR X (binaryOp .Mult) rMulG := opr_or op_mulX op_rep
def rModG : R2 := rI (fun _ j => 0 < j) fun i j => .int (i % j)
theorem op_modA : OpR X (binaryOp .Mod) rModG := op_mod
def rFdvG : R2 := rI CDiv fun i j => .int (i / j)
theorem op_fdvA : OpR X (binaryOp .FloorDiv) rFdvG := op_fdiv
def rPowG : R2 := rI CPow fun i j => .int (i ^ j.toNat)
theorem op_powA : OpR X (binaryOp .Pow) rPowG := op_pow
def rNegG : V → Hp → VK → Prop := rU fun i => .int (-i)
theorem un_negA : UnR X (unaryOp .USub) rNegG := un_neg

def rIxDct : R2 := fun x y H Q => ∃ a v, x = .ref a ∧ DGet H a y (some v) ∧ Q v H
theorem ix_dct (hu : X.A.units + 1 < cLine) : IxR X rIxDct := by
  intro value slice pins s σ H x y v u Q I rx ry q hs
  obtain ⟨a, w', rfl, g, q⟩ := q
  obtain rfl : v = Value.ref a := rx
  have hT := dict_typeIs I g
  exact tail_any hT PySem.F.slot_dict_getitem.lookup (d_getItem hu I g ry fun w2 s3 I3 rw' => ⟨w', H, I3, rw', q⟩) hs
def rIxG (K : PySem.W.Frag) : R2 := fun x y H Q => rIxL K x y H Q ∨ rIxT K x y H Q ∨ rIxS x y H Q ∨ rIxDct x y H Q
theorem ix_any (hu : X.A.units + 1 < cLine) : IxR X (rIxG X.K) := ix_list.or (ix_tup.or (ix_str.or (ix_dct hu)))
def rSlG (K : PySem.W.Frag) : V → Option Int → Option Int → Hp → VK → Prop := fun x lo hi H Q => rSlL K x lo hi H Q ∨ rSlT K x lo hi H Q ∨ rSlS x lo hi H Q
theorem sl_any : SlR X (rSlG X.K) := sl_list.or (sl_tup.or sl_str)

def PIV (X : Cx) (tg : Expr) (r : V → Hp → (It → Hp → Prop) → Prop) : Prop :=
  ∀ (pins : List (Addr × Obj)) (s : Shared) (σ : L2.St) (H : Hp) (x : V) (v : Value) (R : It → Hp → Prop), Inv X pins σ H s → RelV x v → r x H R → wpAny (model X.prog X.w) X.A (pyIter v) (PIE X pins σ tg R) X.xe s
def iOf (te : TE) (r : V → Hp → (It → Hp → Prop) → Prop) : TI := fun σ H R => te σ H fun x H1 => r x H1 R
theorem pi_of {tg e : Expr} {te : TE} {r : V → Hp → (It → Hp → Prop) → Prop} (hr : PIV X tg r) (he : PE X e te) : PI X tg e (iOf te r) :=
  ⟨fun pins s σ H R I h => thn (he.run pins s σ H _ I h) fun v s1 ⟨x, H1, I1, r1, q1⟩ => hr pins s1 σ H1 x v R I1 r1 q1⟩
theorem piv_or {tg : Expr} {r r' : V → Hp → (It → Hp → Prop) → Prop} (h : PIV X tg r) (h' : PIV X tg r') : PIV X tg (fun x H R => r x H R ∨ r' x H R) :=
  fun pins s σ H x v R I rx q => q.elim (fun q => h pins s σ H x v R I rx q) fun q => h' pins s σ H x v R I rx q
def rWL (K : PySem.W.Frag) : V → Hp → (It → Hp → Prop) → Prop := fun x H R => ∃ a, x = .ref a ∧ (∃ xs, SqL K H a xs) ∧ R (Itl K a) H
def rWT (K : PySem.W.Frag) : V → Hp → (It → Hp → Prop) → Prop := fun x H R => ∃ a, x = .ref a ∧ (∃ xs, SqT K H a xs) ∧ R (Itt K a) H
def rWS : V → Hp → (It → Hp → Prop) → Prop := fun x H R => ∃ z, x = .str z ∧ R (Its z) H
/-- the keys of a dict that is not written any more (it stays locked) -/
def rWK : V → Hp → (It → Hp → Prop) → Prop := fun x H R => ∃ d kvs, x = .ref d ∧ ((∃ o, H d = some (.frz o (.dK kvs)) ∧ R (Itk d o kvs) H) ∨ (H d = some (.dK kvs) ∧ ∀ o, R (Itk d o kvs) (upd H d (.frz o (.dK kvs)))))
theorem piv_list {tg : Expr} : PIV X tg (rWL X.K) := by
  intro pins s1 σ H1 x v R I1 r1 q1
  obtain ⟨a, e, ⟨xs, hq⟩, q⟩ := q1
  subst e
  cases r1
  obtain ⟨its, rv, p, hz⟩ := I1.list hq
  refine wpAny_pyIter_list p.isList ?_
  refine ⟨s1.heap.objs.size, [s1.heap.objs.size], _, _, H1, rfl, I1.kept (t' := s1.toks) fun b o e => Heap.get?_push_of_some _ e, turn_list a _, ⟨_, Heap.get?_push_size _ rfl, rfl, rfl⟩, fun b hb => ?_, q⟩
  have e : b = s1.heap.objs.size := by simpa using hb
  subst e
  exact I1.fpOk (Nat.le_refl _) (I1.hok.fresh (Nat.le_refl _))
theorem piv_tup {tg : Expr} : PIV X tg (rWT X.K) := by
  intro pins s1 σ H1 x v R I1 r1 q1
  obtain ⟨a, e, ⟨xs, hq⟩, q⟩ := q1
  subst e
  cases r1
  obtain ⟨its, rv, p, hz⟩ := I1.tuple hq
  refine wpAny_pyIter_tuple (show s1.heap.IsTuple a its.toArray from p) ?_
  refine ⟨s1.heap.objs.size, [s1.heap.objs.size], _, _, H1, rfl, I1.kept (t' := s1.toks) fun b o e => Heap.get?_push_of_some _ e, turn_tuple a _, ⟨_, Heap.get?_push_size _ rfl, rfl, rfl⟩, fun b hb => ?_, q⟩
  have e : b = s1.heap.objs.size := by simpa using hb
  subst e
  exact I1.fpOk (Nat.le_refl _) (I1.hok.fresh (Nat.le_refl _))
theorem piv_str {tg : Expr} : PIV X tg rWS := by
  intro pins s1 σ H1 y v R I1 r1 q1
  obtain ⟨x, ex, q⟩ := q1
  subst ex
  obtain ⟨t, rfl⟩ := r1
  cases ha : x.cps.all (· < 128)
  · exact wpAny_pyIter_wide ha (pi_one (tk := s1.toks) I1 _ (turn_str _ x t "str_iterator" (.inr rfl)) ⟨_, Heap.get?_push_size _ rfl, rfl, rfl⟩ q)
  · exact wpAny_pyIter_ascii ha (pi_one (tk := s1.toks) I1 _ (turn_str _ x t "str_ascii_iterator" (.inl rfl)) ⟨_, Heap.get?_push_size _ rfl, rfl, rfl⟩ q)
theorem piv_frzK {tg : Expr} {pins : List (Addr × Obj)} {s1 : Shared} {σ : L2.St} {H1 : Hp} {d : Addr} {o : Obj} {kvs : List (Key × V)} {R : It → Hp → Prop} (I1 : Inv X pins σ H1 s1) (hd : H1 d = some (.frz o (.dK kvs))) (q : R (Itk d o kvs) H1) :
    wpAny (model X.prog X.w) X.A (pyIter (.ref d)) (PIE X pins σ tg R) X.xe s1 := by
  obtain ⟨hs, hgd, hx, es, ep, vs, hdt, hsz, kv, hm⟩ := I1.frzK hd
  refine iter_keys hs hgd hx hdt (pi_one (tk := s1.toks) I1 _ (turn_keys _ hdt) ⟨_, Heap.get?_push_size _ rfl, rfl, ?_⟩ q)
  rw [hsz] <;> rfl
theorem piv_keys {tg : Expr} : PIV X tg rWK := by
  intro pins s1 σ H1 y v R I1 r1 q1
  obtain ⟨d, kvs, rfl, q⟩ := q1
  obtain rfl : v = Value.ref d := r1
  rcases q with ⟨o, hd, q⟩ | ⟨hd, q⟩
  · exact piv_frzK I1 hd q
  · obtain ⟨od, I2⟩ := I1.lock hd True.intro
    exact piv_frzK I2 upd_same (q od)
def rWG (K : PySem.W.Frag) : V → Hp → (It → Hp → Prop) → Prop := fun x H R => rWL K x H R ∨ rWT K x H R ∨ rWS x H R ∨ rWK x H R
theorem piv_any {tg : Expr} : PIV X tg (rWG X.K) := piv_or piv_list (piv_or piv_tup (piv_or piv_str piv_keys))
/-- run with a thing locked, or not -/
def tLkO (t : TE) : TE := fun σ H Q => t σ H Q ∨ tLockE t σ H Q
def sLkO (t : TS) : TS := fun D σ H => t D σ H ∨ tLock t D σ H
theorem pe_lkO {e : Expr} {t : TE} (h : PE X e t) : PE X e (tLkO t) := ⟨fun pins s σ H Q I q => q.elim (h.run pins s σ H Q I) ((pe_lock h).run pins s σ H Q I)⟩
theorem ps_lkO {st : Stmt} {t : TS} (h : PS X st t) : PS X st (sLkO t) := ⟨fun pins s σ H D I q => q.elim (h.run pins s σ H D I) ((ps_lock h).run pins s σ H D I)⟩

def rLenG (K : PySem.W.Frag) : List V → Hp → VK → Prop := fun xs H Q => (∃ x n, xs = [x] ∧ LenV K x H n ∧ Q (.int n) H) ∨ ∃ a kvs, xs = [.ref a] ∧ Rd H a (.dK kvs) ∧ Q (.int kvs.length) H
theorem call_lenA : CallR X (.builtin "len") (rLenG X.K) := callr_or call_len (by
  intro pins s σ H xs us Q I r h
  obtain ⟨a, kvs, rfl, ha, q⟩ := h
  obtain ⟨u, rfl, ru⟩ := vals1 r
  cases ru
  exact d_len I ha fun t s' I' => ⟨.int kvs.length, H, I', ⟨t, rfl⟩, q⟩)
def rIntG : List V → Hp → VK → Prop := fun xs H Q => (∃ i, xs = [.int i] ∧ Q (.int i) H) ∨ ∃ k, xs = [.bl k] ∧ Q (.int (if k then 1 else 0)) H
theorem call_intA : CallR X (.type "int") rIntG := call_int1
def rAbsG : List V → Hp → VK → Prop := fun xs H Q => ∃ i, xs = [.int i] ∧ Q (.int (if i < 0 then -i else i)) H
theorem call_absA : CallR X (.builtin "abs") rAbsG := call_abs
def rIsiG (K : PySem.W.Frag) : List V → Hp → VK → Prop := fun xs H Q => rIsi K xs H Q ∨ rIsiT K xs H Q
theorem call_isiA : CallR X (.builtin "isinstance") (rIsiG X.K) := callr_or call_isi call_isiT
def rListG (K : PySem.W.Frag) : List V → Hp → VK → Prop := fun xs H Q => ∃ p ys, xs = [.ref p] ∧ (SqL K H p ys ∨ SqT K H p ys) ∧ ∀ l, H l = none → Q (.ref l) (upd H l (.lst ys))
theorem call_listA : CallR X (.type "list") (rListG X.K) := call_list_of
def rTupG (K : PySem.W.Frag) : List V → Hp → VK → Prop := fun xs H Q => ∃ p ys, xs = [.ref p] ∧ ((SqL K H p ys ∧ ∀ l, H l = none → Q (.ref l) (upd H l (.tup ys))) ∨ (SqT K H p ys ∧ Q (.ref p) H))
theorem call_tupA : CallR X (.type "tuple") (rTupG X.K) := call_tuple_of
end
section
variable {X : Cx}
theorem pe_imp {e : Expr} {t t' : TE} (h : PE X e t) (i : ∀ σ H Q, t' σ H Q → t σ H Q) : PE X e t' := ⟨fun pins s σ H Q I q => h.run pins s σ H Q I (i σ H Q q)⟩
theorem pt_imp {e : Expr} {t t' : TT} (h : PT X e t) (i : ∀ σ H Q, t' σ H Q → t σ H Q) : PT X e t' := ⟨fun pins s σ H Q I q => h.run pins s σ H Q I (i σ H Q q)⟩
theorem pw_imp {e : Expr} {t t' : TT} (h : PW X e t) (i : ∀ σ H Q, t' σ H Q → t σ H Q) : PW X e t' := ⟨fun wh pins s σ H Q I q => h.run wh pins s σ H Q I (i σ H Q q)⟩
theorem ps_imp {e : Stmt} {t t' : TS} (h : PS X e t) (i : ∀ D σ H, t' D σ H → t D σ H) : PS X e t' := ⟨fun pins s σ H D I q => h.run pins s σ H D I (i D σ H q)⟩
theorem pg_imp {e : Expr} {t t' : TG} (h : PG X e t) (i : ∀ v σ H Q, t' v σ H Q → t v σ H Q) : PG X e t' := ⟨fun pins s σ H v u Q I r q => h.run pins s σ H v u Q I r (i v σ H Q q)⟩
theorem pgs_imp {e : List Expr} {t t' : TGs} (h : PGs X e t) (i : ∀ v σ H Q, t' v σ H Q → t v σ H Q) : PGs X e t' := ⟨fun pins s σ H v u Q I r q => h.run pins s σ H v u Q I r (i v σ H Q q)⟩
theorem po_imp {e : Option Expr} {t t' : TO} (h : PO X e t) (i : ∀ σ H Q, t' σ H Q → t σ H Q) : PO X e t' := ⟨fun pins s σ H Q I q => h.run pins s σ H Q I (i σ H Q q)⟩
theorem op_imp {f : Value → Value → Sem Value} {r r' : R2} (h : OpR X f r) (i : ∀ x y H Q, r' x y H Q → r x y H Q) : OpR X f r' := fun pins s σ H x y v u Q I rx ry q => h pins s σ H x y v u Q I rx ry (i x y H Q q)
theorem ix_imp {r r' : R2} (h : IxR X r) (i : ∀ x y H Q, r' x y H Q → r x y H Q) : IxR X r' := fun value slice pins s σ H x y v u Q I rx ry q hs => h value slice pins s σ H x y v u Q I rx ry (i x y H Q q) hs
theorem sl_imp {r r' : V → Option Int → Option Int → Hp → VK → Prop} (h : SlR X r) (i : ∀ x a b H Q, r' x a b H Q → r x a b H Q) : SlR X r' := fun pins s σ H x v vl vu lo hi sl Q I rx hs pl pu q => h pins s σ H x v vl vu lo hi sl Q I rx hs pl pu (i x lo hi H Q q)
theorem cr_imp {f : Value} {r r' : List V → Hp → VK → Prop} (h : CallR X f r) (i : ∀ x H Q, r' x H Q → r x H Q) : CallR X f r' := fun pins s σ H xs us Q I rx q => h pins s σ H xs us Q I rx (i xs H Q q)
theorem un_imp {f : Value → Sem Value} {r r' : V → Hp → VK → Prop} (h : UnR X f r) (i : ∀ x H Q, r' x H Q → r x H Q) : UnR X f r' := fun pins s σ H x v Q I rx q => h pins s σ H x v Q I rx (i x H Q q)
theorem mt_imp {id : String} {r r' : V → List V → Hp → VK → Prop} (h : MtR X id r) (i : ∀ x xs H Q, r' x xs H Q → r x xs H Q) : MtR X id r' := fun pins s σ H x xs v us Q I rx rs q => h pins s σ H x xs v us Q I rx rs (i x xs H Q q)
theorem piv_imp {tg : Expr} {r r' : V → Hp → (It → Hp → Prop) → Prop} (h : PIV X tg r) (i : ∀ x H R, r' x H R → r x H R) : PIV X tg r' := fun pins s σ H x v R I rx q => h pins s σ H x v R I rx (i x H R q)

/-- what stands at a, a lock looked through -/
def look (H : Hp) (a : Addr) : Option HO := match H a with
  | some (.frz _ u) => some u
  | o => o
theorem look_rd {H : Hp} {a : Addr} {u : HO} (h : look H a = some u) : Rd H a u := by
  unfold look at h
  split at h
  · rename_i o u' e
    injection h with h
    subst h
    exact .inr ⟨o, e⟩
  · exact .inl h
def keyOf : V → Option Key
  | .int i => some (.inl i)
  | .str x => some (.inr x)
  | _ => none
theorem keyOf_kV {y : V} {k : Key} (h : keyOf y = some k) : y = kV k := by
  cases y <;> simp only [keyOf, Option.some.injEq, reduceCtorEq] at h
  · subst h; rfl
  · subst h; rfl
/-- the continuations that want a bool, an int -/
def bK (Q : Bool → Hp → Prop) : VK := fun x H => match x with | .bl k => Q k H | _ => False
def iK (Q : Int → Hp → Prop) : VK := fun x H => match x with | .int k => Q k H | _ => False
theorem bK_ex {Q : Bool → Hp → Prop} : (bK Q) = fun x H => ∃ k, x = .bl k ∧ Q k H := by
  funext x H
  apply propext
  cases x <;> simp [bK]
theorem iK_ex {Q : Int → Hp → Prop} : (iK Q) = fun x H => ∃ k, x = .int k ∧ Q k H := by
  funext x H
  apply propext
  cases x <;> simp [iK]

def tV (i : Nat) : TE := fun σ H Q => match σ[i]? with
  | some (some v) => Q v H
  | _ => False
theorem pvx (i : Nat) {x : Str} {pos : Pos} (hN : X.N[i]? = some x := by rfl) (hv : Vis X.env.scope x := by first | exact Or.inl rfl | exact Or.inr (Or.inl rfl) | exact Or.inr (Or.inr rfl)) (hd : (x == ("__debug__" : Str)) = false := by decide)
    (hcd : (x == ("__classdict__" : Str)) = false := by decide) : PE X (.Name x pos) (tV i) := pe_imp (pv i hN hv hd hcd) fun σ H Q h => by
  unfold tV at h
  split at h
  · exact ⟨_, by assumption, h⟩
  · exact h.elim
def tTs (t : TE) : TT := fun σ H Q => t σ H (bK Q)
theorem tTs_eq (t : TE) : tTs t = tB t := by funext σ H Q; unfold tTs tB; rw [bK_ex]
theorem tTs_eq2 (t : TE) : tTs t = tTest t := by funext σ H Q; unfold tTs tTest; rw [bK_ex]
theorem ptv {e : Expr} {t : TE} (h : PE X e t) (he : ∀ whole, isTrue e X.env whole = (do let v ← whole; standAt e.pos; holding [v] (truthy v)) := by intro _; rfl) : PT X e (tTs t) := by
  rw [tTs_eq]; exact pt_val h he
theorem ptcmp {op : CmpOp} {r : R2} {a b : Expr} {ta tb : TE} {pos : Pos} (ho : OpR X (compareOp op) r) (ha : PE X a ta) (hb : PE X b tb) (hm : behindInMarks op b = false) : PT X (.Compare a [op] [b] pos) (tTs (tOp r ta tb)) := by
  rw [tTs_eq2]; exact pt_cmpR ho ha hb hm
def tCh (r r' : R2) (ta tb tc : TE) : TE := fun σ H Q => ta σ H fun x H1 => tb σ H1 fun y H2 => r x y H2 (bK fun k H3 => match k with | true => tc σ H3 fun w' H4 => r' y w' H4 Q | false => Q (.bl false) H3)
theorem tCh_eq (r r' : R2) (ta tb tc : TE) : tCh r r' ta tb tc = tChain r r' ta tb tc := by
  funext σ H Q
  unfold tCh tChain
  congr 1; funext x H1
  congr 1; funext y H2
  rw [bK_ex]
  congr 1; funext z H3
  apply propext
  constructor
  · rintro ⟨k, e, h⟩; refine ⟨k, e, ?_⟩; cases k <;> simpa using h
  · rintro ⟨k, e, h⟩; refine ⟨k, e, ?_⟩; cases k <;> simpa using h
theorem pech {op op' : CmpOp} {r r' : R2} {a b c : Expr} {ta tb tc : TE} {pos : Pos} (ho : OpR X (compareOp op) r) (ho' : OpR X (compareOp op') r') (ha : PE X a ta) (hb : PE X b tb) (hc : PE X c tc)
    (hm : lastMarks [op, op'] [b, c] = false := by with_unfolding_all rfl) : PE X (.Compare a [op, op'] [b, c] pos) (tCh r r' ta tb tc) := by
  rw [tCh_eq]; exact pe_chain ho ho' ha hb hc hm
theorem ptch {op op' : CmpOp} {r r' : R2} {a b c : Expr} {ta tb tc : TE} {pos : Pos} (ho : OpR X (compareOp op) r) (ho' : OpR X (compareOp op') r') (ha : PE X a ta) (hb : PE X b tb) (hc : PE X c tc)
    (hm : lastMarks [op, op'] [b, c] = false := by with_unfolding_all rfl) : PT X (.Compare a [op, op'] [b, c] pos) (tTs (tCh r r' ta tb tc)) := by
  rw [tTs_eq2, tCh_eq]; exact pt_chain ho ho' ha hb hc hm
def tAn (t u : TT) : TT := fun σ H Q => t σ H fun c H1 => match c with | true => u σ H1 Q | false => Q false H1
def tOr' (t u : TT) : TT := fun σ H Q => t σ H fun c H1 => match c with | true => Q true H1 | false => u σ H1 Q
theorem tAn_eq (t u : TT) : tAn t u = tAnd t u := by
  funext σ H Q; unfold tAn tAnd; congr 1; funext c H1; cases c <;> simp
theorem tOr_eq (t u : TT) : tOr' t u = tOr t u := by
  funext σ H Q; unfold tOr' tOr; congr 1; funext c H1; cases c <;> simp
theorem pwand {a b : Expr} {rest : List Expr} {tA tB' : TT} {pos : Pos} (ha : PT X a tA) (hb : PW X (.BoolOp .And (b :: rest) pos) tB') : PW X (.BoolOp .And (a :: b :: rest) pos) (tAn tA tB') := by rw [tAn_eq]; exact pw_and ha hb
theorem pwor {a b : Expr} {rest : List Expr} {tA tB' : TT} {pos : Pos} (ha : PT X a tA) (hb : PW X (.BoolOp .Or (b :: rest) pos) tB') : PW X (.BoolOp .Or (a :: b :: rest) pos) (tOr' tA tB') := by rw [tOr_eq]; exact pw_or ha hb
def tAnV (ta tb : TE) : TE := fun σ H Q => ta σ H (bK fun c H1 => match c with | true => tb σ H1 Q | false => Q (.bl false) H1)
def tOrV' (ta tb : TE) : TE := fun σ H Q => ta σ H (bK fun c H1 => match c with | true => Q (.bl true) H1 | false => tb σ H1 Q)
def tNoV (ta : TE) : TE := fun σ H Q => ta σ H (bK fun c H1 => Q (.bl (!c)) H1)
theorem tAnV_eq (ta tb : TE) : tAnV ta tb = tAndV ta tb := by
  funext σ H Q; unfold tAnV tAndV; rw [bK_ex]; congr 1; funext x H1; apply propext
  constructor
  · rintro ⟨k, e, h⟩; refine ⟨k, e, ?_⟩; cases k <;> simpa using h
  · rintro ⟨k, e, h⟩; refine ⟨k, e, ?_⟩; cases k <;> simpa using h
theorem tOrV_eq (ta tb : TE) : tOrV' ta tb = tOrV ta tb := by
  funext σ H Q; unfold tOrV' tOrV; rw [bK_ex]; congr 1; funext x H1; apply propext
  constructor
  · rintro ⟨k, e, h⟩; refine ⟨k, e, ?_⟩; cases k <;> simpa using h
  · rintro ⟨k, e, h⟩; refine ⟨k, e, ?_⟩; cases k <;> simpa using h
theorem tNoV_eq (ta : TE) : tNoV ta = tNotV ta := by funext σ H Q; unfold tNoV tNotV; rw [bK_ex]
theorem peand {a b : Expr} {rest : List Expr} {ta tb : TE} {pos : Pos} (ha : PE X a ta) (hb : PE X (.BoolOp .And (b :: rest) pos) tb) : PE X (.BoolOp .And (a :: b :: rest) pos) (tAnV ta tb) := by rw [tAnV_eq]; exact pe_and ha hb
theorem peor {a b : Expr} {rest : List Expr} {ta tb : TE} {pos : Pos} (ha : PE X a ta) (hb : PE X (.BoolOp .Or (b :: rest) pos) tb) : PE X (.BoolOp .Or (a :: b :: rest) pos) (tOrV' ta tb) := by rw [tOrV_eq]; exact pe_or ha hb
theorem penot {a : Expr} {ta : TE} {pos : Pos} (ha : PE X a ta) : PE X (.UnaryOp .Not a pos) (tNoV ta) := by rw [tNoV_eq]; exact pe_not ha
def tIf' (t : TT) (ta tb : TE) : TE := fun σ H Q => t σ H fun c H1 => match c with | true => ta σ H1 Q | false => tb σ H1 Q
theorem tIf_eq (t : TT) (ta tb : TE) : tIf' t ta tb = tIf t ta tb := by funext σ H Q; unfold tIf' tIf; congr 1; funext c H1; cases c <;> simp
theorem peif {c a b : Expr} {tA : TT} {ta tb : TE} {pos : Pos} (hc : PT X c tA) (ha : PE X a ta) (hb : PE X b tb) : PE X (.IfExp c a b pos) (tIf' tA ta tb) := by rw [tIf_eq]; exact pe_ifExp hc ha hb
def sIf (c : TT) (t u : TS) : TS := fun D σ H => c σ H fun b H1 => match b with | true => t D σ H1 | false => u D σ H1
theorem sIf_eq (c : TT) (t u : TS) : sIf c t u = tIfS c t u := by funext D σ H; unfold sIf tIfS; congr 1; funext b H1; cases b <;> simp
theorem psif {c : Expr} {a b : List Stmt} {tc : TT} {t u : TS} {pos : Pos} (hc : PT X c tc) (ha : PSs X a t) (hb : PSs X b u) : PS X (.If c a b pos) (sIf tc t u) := by rw [sIf_eq]; exact ps_if hc ha hb
def tPa (t : TE) : TO := fun σ H Q => t σ H (iK fun i H1 => Q (some i) H1)
theorem posome {e : Expr} {te : TE} (h : PE X e te) : PO X (some e) (tPa te) := by
  have e1 : tPa te = tPart te := by funext σ H Q; unfold tPa tPart; rw [iK_ex]
  rw [e1]; exact po_some h

def mI2 (g : Int → Int → V) : R2 := fun x y H Q => match x, y with | .int i, .int j => Q (g i j) H | _, _ => False
def mEq (K : PySem.W.Frag) : R2 := fun x y H Q => match scal x y with | true => Q (.bl (decide (x = y))) H | false => rEqD K x y H Q
def mNe (K : PySem.W.Frag) : R2 := fun x y H Q => match scal x y with | true => Q (.bl (!decide (x = y))) H | false => rNeD K x y H Q
theorem op_mEq (hu : X.A.units + 64 < cLine) : OpR X (compareOp .Eq) (mEq X.K) := op_imp (op_eqA hu) fun x y H Q h => by
  unfold mEq at h
  split at h
  · exact .inl ⟨by assumption, h⟩
  · exact .inr h
theorem op_mNe (hu : X.A.units + 64 < cLine) : OpR X (compareOp .NotEq) (mNe X.K) := op_imp (op_neA hu) fun x y H Q h => by
  unfold mNe at h
  split at h
  · exact .inl ⟨by assumption, h⟩
  · exact .inr h
/-- a text in a text -/
def inS (i j : Str) : Bool := !(Builtin.Str.occurrences j i 0 j.length 1).isEmpty
theorem inS_one (c : Nat) (z : Str) : inS ⟨#[c]⟩ z = decide (c ∈ z.cps.toList) := PySem.StrLaws.found_one z c
def mIn (K : PySem.W.Frag) : R2 := fun x y H Q => match y with
  | .str j => (match x with | .str i => Q (.bl (inS i j)) H | _ => False)
  | .ref a => (match look H a with
    | some (.lst xs) => (match flatV x && xs.all flatV with | true => Q (.bl (inV x xs)) H | false => rInD K x y H Q)
    | some (.tup xs) => (match flatV x && xs.all flatV with | true => Q (.bl (inV x xs)) H | false => False)
    | some (.dK kvs) => (match keyOf x with | some k => Q (.bl (valV kvs k).isSome) H | none => False)
    | _ => False)
  | _ => False
def mNi (K : PySem.W.Frag) : R2 := fun x y H Q => match y with
  | .str j => (match x with | .str i => Q (.bl (!inS i j)) H | _ => False)
  | .ref a => (match look H a with
    | some (.lst xs) => (match flatV x && xs.all flatV with | true => Q (.bl (!inV x xs)) H | false => rNotInD K x y H Q)
    | some (.tup xs) => (match flatV x && xs.all flatV with | true => Q (.bl (!inV x xs)) H | false => False)
    | some (.dK kvs) => (match keyOf x with | some k => Q (.bl (!(valV kvs k).isSome)) H | none => False)
    | _ => False)
  | _ => False
theorem op_mIn (hu : X.A.units + 65 < cLine) : OpR X (compareOp .In) (mIn X.K) := op_imp (op_inG hu) fun x y H Q h => by
  unfold mIn at h
  split at h
  · split at h
    · exact .inr (.inl ⟨_, _, rfl, rfl, h⟩)
    · exact h.elim
  · split at h
    · rename_i a xs e
      split at h
      · rename_i f
        rw [Bool.and_eq_true] at f
        exact .inr (.inr (.inl ⟨_, xs, rfl, .inl (.inl (look_rd e)), f.1, f.2, h⟩))
      · exact .inr (.inr (.inr (.inr h)))
    · rename_i a xs e
      split at h
      · rename_i f
        rw [Bool.and_eq_true] at f
        exact .inr (.inr (.inl ⟨_, xs, rfl, .inr (.inl (look_rd e)), f.1, f.2, h⟩))
      · exact h.elim
    · rename_i a kvs e
      split at h
      · rename_i k f
        exact .inr (.inr (.inr (.inl ⟨_, _, rfl, .inl ⟨kvs, k, look_rd e, keyOf_kV f, rfl⟩, h⟩)))
      · exact h.elim
    · exact h.elim
  · exact h.elim
theorem op_mNi (hu : X.A.units + 65 < cLine) : OpR X (compareOp .NotIn) (mNi X.K) := op_imp (op_niG hu) fun x y H Q h => by
  unfold mNi at h
  split at h
  · split at h
    · exact .inr (.inl ⟨_, _, rfl, rfl, h⟩)
    · exact h.elim
  · split at h
    · rename_i a xs e
      split at h
      · rename_i f
        rw [Bool.and_eq_true] at f
        exact .inr (.inr (.inl ⟨_, xs, rfl, .inl (.inl (look_rd e)), f.1, f.2, h⟩))
      · exact .inr (.inr (.inr (.inr h)))
    · rename_i a xs e
      split at h
      · rename_i f
        rw [Bool.and_eq_true] at f
        exact .inr (.inr (.inl ⟨_, xs, rfl, .inr (.inl (look_rd e)), f.1, f.2, h⟩))
      · exact h.elim
    · rename_i a kvs e
      split at h
      · rename_i k f
        exact .inr (.inr (.inr (.inl ⟨_, _, rfl, .inl ⟨kvs, k, look_rd e, keyOf_kV f, rfl⟩, h⟩)))
      · exact h.elim
    · exact h.elim
  · exact h.elim
/-- the order of texts -/
def ltS (i j : Str) : Bool := decide (i.cps.toList < j.cps.toList)
def mCp (f : Int → Int → Bool) (g : Str → Str → Bool) : R2 := fun x y H Q => match x, y with
  | .int i, .int j => Q (.bl (f i j)) H
  | .str i, .str j => Q (.bl (g i j)) H
  | _, _ => False
def mLt : R2 := mCp (fun i j => decide (i < j)) fun i j => ltS i j
def mLe : R2 := mCp (fun i j => decide (i ≤ j)) fun i j => !ltS j i
def mGt : R2 := mCp (fun i j => decide (j < i)) fun i j => ltS j i
def mGe : R2 := mCp (fun i j => decide (j ≤ i)) fun i j => !ltS i j
theorem mCp_or {f : Int → Int → Bool} {g : Str → Str → Bool} {x y : V} {H : Hp} {Q : VK} (h : mCp f g x y H Q) : rI0 (fun i j => .bl (f i j)) x y H Q ∨ ∃ i j, x = .str i ∧ y = .str j ∧ Q (.bl (g i j)) H := by
  unfold mCp at h
  split at h
  · exact .inl ⟨_, _, rfl, rfl, h⟩
  · exact .inr ⟨_, _, rfl, rfl, h⟩
  · exact h.elim
theorem op_mLt : OpR X (compareOp .Lt) mLt := op_imp op_ltA fun _ _ _ _ h => mCp_or h
theorem op_mLe : OpR X (compareOp .LtE) mLe := op_imp op_leA fun _ _ _ _ h => mCp_or h
theorem op_mGt : OpR X (compareOp .Gt) mGt := op_imp op_gtA fun _ _ _ _ h => mCp_or h
theorem op_mGe : OpR X (compareOp .GtE) mGe := op_imp op_geA fun _ _ _ _ h => mCp_or h
def mIsN : R2 := fun x y H Q => match y with | .non => Q (.bl (decide (x = .non))) H | _ => False
def mNoN : R2 := fun x y H Q => match y with | .non => Q (.bl (!decide (x = .non))) H | _ => False
theorem op_mIsN : OpR X (compareOp .Is) mIsN := op_imp op_isNA fun x y H Q h => by
  unfold mIsN at h
  split at h
  · exact ⟨rfl, h⟩
  · exact h.elim
theorem op_mNoN : OpR X (compareOp .IsNot) mNoN := op_imp op_noNA fun x y H Q h => by
  unfold mNoN at h
  split at h
  · exact ⟨rfl, h⟩
  · exact h.elim
def mAdd (K : PySem.W.Frag) : R2 := fun x y H Q => match x, y with
  | .int i, .int j => Q (.int (i + j)) H
  | .str i, .str j => i.length + j.length ≤ sizeLine ∧ Q (.str (i ++ j)) H
  | .ref a, .ref b => (match H a, H b with
    | some (.lst xs), some (.lst ys) => xs.length + ys.length ≤ sizeLine ∧ ∀ p, H p = none → Q (.ref p) (upd H p (.lst (xs ++ ys)))
    | some (.tup _), some (.tup _) => rCatT K x y H Q
    | _, _ => False)
  | _, _ => False
theorem op_mAdd : OpR X (binaryOp .Add) (mAdd X.K) := op_imp op_addA fun x y H Q h => by
  unfold mAdd at h
  split at h
  · exact .inl ⟨_, _, rfl, rfl, h⟩
  · exact .inr (.inl ⟨_, _, rfl, rfl, h.1, h.2⟩)
  · split at h
    · rename_i e1 e2
      exact .inr (.inr (.inl ⟨_, _, _, _, rfl, rfl, e1, e2, h.1, h.2⟩))
    · exact .inr (.inr (.inr h))
    · exact h.elim
  · exact h.elim
def mSub : R2 := mI2 fun i j => .int (i - j)
theorem mI2_ex {g : Int → Int → V} {x y : V} {H : Hp} {Q : VK} (h : mI2 g x y H Q) : rI0 g x y H Q := by
  unfold mI2 at h
  split at h
  · exact ⟨_, _, rfl, rfl, h⟩
  · exact h.elim
theorem op_mSub : OpR X (binaryOp .Sub) mSub := op_imp op_subA fun _ _ _ _ h => mI2_ex h
def mC2 (C : Int → Int → Prop) (g : Int → Int → V) : R2 := fun x y H Q => match x, y with | .int i, .int j => C i j ∧ Q (g i j) H | _, _ => False
theorem mC2_ex {C : Int → Int → Prop} {g : Int → Int → V} {x y : V} {H : Hp} {Q : VK} (h : mC2 C g x y H Q) : rI C g x y H Q := by
  unfold mC2 at h
  split at h
  · exact ⟨_, _, rfl, rfl, h.1, h.2⟩
  · exact h.elim
def mMul : R2 := fun x y H Q => match x, y with
  | .int i, .int j => CMulX i j ∧ Q (.int (i * j)) H
  | .ref _, .int _ => rRep x y H Q
  | _, _ => False
theorem op_mMul : OpR X (binaryOp .Mult) mMul := op_imp op_mulA fun x y H Q h => by
  unfold mMul at h
  split at h
  · exact .inl ⟨_, _, rfl, rfl, h.1, h.2⟩
  · exact .inr h
  · exact h.elim
def mMod : R2 := mC2 (fun _ j => 0 < j) fun i j => .int (i % j)
theorem op_mMod : OpR X (binaryOp .Mod) mMod := op_imp op_modA fun _ _ _ _ h => mC2_ex h
def mFdv : R2 := mC2 CDiv fun i j => .int (i / j)
theorem op_mFdv : OpR X (binaryOp .FloorDiv) mFdv := op_imp op_fdvA fun _ _ _ _ h => mC2_ex h
def mPow : R2 := mC2 CPow fun i j => .int (i ^ j.toNat)
theorem op_mPow : OpR X (binaryOp .Pow) mPow := op_imp op_powA fun _ _ _ _ h => mC2_ex h
def mNeg : V → Hp → VK → Prop := fun x H Q => match x with | .int i => Q (.int (-i)) H | _ => False
theorem un_mNeg : UnR X (unaryOp .USub) mNeg := un_imp un_negA fun x H Q h => by
  unfold mNeg at h
  split at h
  · exact ⟨_, rfl, h⟩
  · exact h.elim

def mIx : R2 := fun x y H Q => match x with
  | .str z => (match y with | .int i => (match atI z.cps.toList i with | some c => z.length ≤ sizeLine ∧ Q (.str ⟨#[c]⟩) H | none => False) | _ => False)
  | .ref a => (match look H a with
    | some (.lst xs) => (match y with | .int i => (match atI xs i with | some v => Q v H | none => False) | _ => False)
    | some (.tup xs) => (match y with | .int i => (match atI xs i with | some v => Q v H | none => False) | _ => False)
    | some (.dK kvs) => (match keyOf y with | some k => (match valV kvs k with | some v => Q v H | none => False) | none => False)
    | _ => False)
  | _ => False
theorem ix_m (hu : X.A.units + 1 < cLine) : IxR X mIx := ix_imp (ix_any hu) fun x y H Q h => by
  unfold mIx at h
  split at h
  · split at h
    · split at h
      · rename_i c e
        exact .inr (.inr (.inl ⟨_, _, c, rfl, rfl, h.1, e, h.2⟩))
      · exact h.elim
    · exact h.elim
  · split at h
    · rename_i a xs e
      split at h
      · split at h
        · rename_i v e2
          exact .inl ⟨_, xs, _, v, rfl, rfl, .inl (look_rd e), e2, h⟩
        · exact h.elim
      · exact h.elim
    · rename_i a xs e
      split at h
      · split at h
        · rename_i v e2
          exact .inr (.inl ⟨_, xs, _, v, rfl, rfl, .inl (look_rd e), e2, h⟩)
        · exact h.elim
      · exact h.elim
    · rename_i a kvs e
      split at h
      · rename_i k f
        split at h
        · rename_i v e2
          exact .inr (.inr (.inr ⟨_, v, rfl, .inl ⟨kvs, k, look_rd e, keyOf_kV f, e2.symm⟩, h⟩))
        · exact h.elim
      · exact h.elim
    · exact h.elim
  · exact h.elim
def mSl (K : PySem.W.Frag) : V → Option Int → Option Int → Hp → VK → Prop := fun x lo hi H Q => match x with
  | .str z => z.length ≤ sizeLine ∧ Q (.str (cutS z lo hi)) H
  | .ref a => (match look H a with
    | some (.lst xs) => ∀ p, H p = none → Q (.ref p) (upd H p (.lst (cutV xs lo hi)))
    | some (.tup _) => rSlT K x lo hi H Q
    | _ => False)
  | _ => False
theorem sl_m : SlR X (mSl X.K) := sl_imp sl_any fun x lo hi H Q h => by
  unfold mSl at h
  split at h
  · exact .inr (.inr ⟨_, rfl, h.1, h.2⟩)
  · split at h
    · rename_i a xs e
      exact .inl ⟨_, xs, rfl, .inl (look_rd e), h⟩
    · exact .inr (.inl h)
    · exact h.elim
  · exact h.elim

def mW (K : PySem.W.Frag) : V → Hp → (It → Hp → Prop) → Prop := fun x H R => match x with
  | .str z => R (Its z) H
  | .ref a => (match look H a with
    | some (.lst _) => R (Itl K a) H
    | some (.tup _) => R (Itt K a) H
    | some (.dK kvs) => (match H a with
      | some (.frz o _) => R (Itk a o kvs) H
      | _ => ∀ o, R (Itk a o kvs) (upd H a (.frz o (.dK kvs))))
    | _ => False)
  | _ => False
theorem look_dK {H : Hp} {a : Addr} {kvs : List (Key × V)} (h : look H a = some (.dK kvs)) : (∃ o, H a = some (.frz o (.dK kvs))) ∨ H a = some (.dK kvs) := by
  rcases look_rd h with e | ⟨o, e⟩
  · exact .inr e
  · exact .inl ⟨o, e⟩
theorem piv_m {tg : Expr} : PIV X tg (mW X.K) := piv_imp piv_any fun x H R h => by
  unfold mW at h
  split at h
  · exact .inr (.inr (.inl ⟨_, rfl, h⟩))
  · split at h
    · rename_i a xs e
      exact .inl ⟨_, rfl, ⟨xs, .inl (look_rd e)⟩, h⟩
    · rename_i a xs e
      exact .inr (.inl ⟨_, rfl, ⟨xs, .inl (look_rd e)⟩, h⟩)
    · rename_i a kvs e
      rcases look_dK e with ⟨o, e2⟩ | e2
      · rw [e2] at h
        exact .inr (.inr (.inr ⟨_, kvs, rfl, .inl ⟨o, e2, h⟩⟩))
      · rw [e2] at h
        exact .inr (.inr (.inr ⟨_, kvs, rfl, .inr ⟨e2, h⟩⟩))
    · exact h.elim
  · exact h.elim

def gTp (t : TGs) : TG := fun v σ H Q => match v with
  | .ref a => (match look H a with | some (.tup xs) => t xs σ H Q | _ => False)
  | _ => False
def gNl : TGs := fun vs σ H Q => match vs with | [] => Q σ H | _ => False
def gCs (t : TG) (u : TGs) : TGs := fun vs σ H Q => match vs with | v :: r => t v σ H fun σ' H' => u r σ' H' Q | [] => False
theorem pgnil : PGs X [] gNl := pgs_imp pgs_nil fun vs σ H Q h => by
  unfold gNl at h
  split at h
  · exact ⟨rfl, h⟩
  · exact h.elim
theorem pgcons {e : Expr} {es : List Expr} {t : TG} {u : TGs} (h1 : PG X e t) (h2 : PGs X es u) (hs : (assignEach (e :: es) X.env).map (·.2) = assign e X.env :: (assignEach es X.env).map (·.2) := by rfl) : PGs X (e :: es) (gCs t u) :=
  pgs_imp (pgs_cons h1 h2 hs) fun vs σ H Q h => by
    unfold gCs at h
    split at h
    · exact ⟨_, _, rfl, h⟩
    · exact h.elim
/-- the targets' number is the list's -/
def Lng (n : Nat) (t : TGs) : Prop := ∀ vs σ H Q, t vs σ H Q → vs.length = n
theorem lng_nil : Lng 0 gNl := fun vs σ H Q h => by
  unfold gNl at h
  split at h
  · rfl
  · exact h.elim
def gNum (n : Nat) (t : TGs) : TGs := fun vs σ H Q => match decide (vs.length = n) with | true => t vs σ H Q | false => False
theorem pgtup {es : List Expr} {k : Nat} {pos : Pos} {t : TGs} {n : Nat} (hc : X.calm = true) (h : PGs X es t) (hn : (assignEach es X.env).length = n := by rfl) (hst : List.findIdx? (fun x => x.fst) (assignEach es X.env) = none := by rfl) : PG X (.Tuple es k pos) (gTp (gNum n t)) :=
  pg_imp (pg_tup hc h hn hst) fun v σ H Q h => by
    unfold gTp at h
    split at h
    · split at h
      · rename_i a xs e
        unfold gNum at h
        split at h
        · rename_i q
          exact ⟨_, xs, rfl, .inl (look_rd e), of_decide_eq_true q, h⟩
        · exact h.elim
      · exact h.elim
    · exact h.elim
def tFd (K : PySem.W.Frag) (ta : TE) (f : Str) : TE := fun σ H Q => ta σ H fun x H1 => match x with
  | .ref a => (match H1 a with
    | some (.ins C dx fs) => Cls K C ∧ NoAttr K C f ∧ (match fs.lookup f with | some v => Q v H1 | none => False)
    | _ => False)
  | _ => False
theorem pefld {e : Expr} {f : Str} {ta : TE} {pos : Pos} (he : PE X e ta) (hb : attributeBase e f X.env (eval e X.env) = eval e X.env := by rfl) : PE X (.Attribute e f pos) (tFd X.K ta f) := by
  have q : ∀ (Q : VK), (fun (x : V) (H1 : Hp) => match x with
      | .ref a => (match H1 a with
        | some (.ins C dx fs) => Cls X.K C ∧ NoAttr X.K C f ∧ (match fs.lookup f with | some v => Q v H1 | none => False)
        | _ => False)
      | _ => False) = fun x H1 => ∃ a C dx fs v, x = .ref a ∧ H1 a = some (.ins C dx fs) ∧ Cls X.K C ∧ NoAttr X.K C f ∧ fs.lookup f = some v ∧ Q v H1 := fun Q => by
    funext x H1
    apply propext
    constructor
    · intro h
      split at h
      · split at h
        · rename_i a C dx fs e
          obtain ⟨h1, h2, h3⟩ := h
          split at h3
          · exact ⟨_, C, dx, fs, _, rfl, e, h1, h2, by assumption, h3⟩
          · exact h3.elim
        · exact h.elim
      · exact h.elim
    · rintro ⟨a, C, dx, fs, v, rfl, e, h1, h2, h3, h4⟩
      simp only [e, h3]
      exact ⟨h1, h2, h4⟩
  have e1 : tFd X.K ta f = tFld X.K ta f := by
    funext σ H Q
    show ta σ H _ = ta σ H _
    rw [q Q]
  rw [e1]; exact pe_fld he hb

def one (r : V → Hp → VK → Prop) : List V → Hp → VK → Prop := fun xs H Q => match xs with | [x] => r x H Q | _ => False
def mLen : List V → Hp → VK → Prop := one fun x H Q => match x with
  | .str z => z.length ≤ sizeLine ∧ Q (.int z.length) H
  | .ref a => (match look H a with
    | some (.lst xs) => Q (.int xs.length) H
    | some (.tup xs) => Q (.int xs.length) H
    | some (.dK kvs) => Q (.int kvs.length) H
    | _ => False)
  | _ => False
theorem call_mLen : CallR X (.builtin "len") mLen := cr_imp call_lenA fun xs H Q h => by
  unfold mLen one at h
  split at h
  · split at h
    · exact .inl ⟨_, _, rfl, ⟨h.1, rfl⟩, h.2⟩
    · split at h
      · rename_i a xs e
        exact .inl ⟨_, _, rfl, .inl ⟨xs, .inl (look_rd e), rfl⟩, h⟩
      · rename_i a xs e
        exact .inl ⟨_, _, rfl, .inr ⟨xs, .inl (look_rd e), rfl⟩, h⟩
      · rename_i a kvs e
        exact .inr ⟨_, kvs, rfl, look_rd e, h⟩
      · exact h.elim
    · exact h.elim
  · exact h.elim
def mInt : List V → Hp → VK → Prop := one fun x H Q => match x with
  | .int i => Q (.int i) H
  | .bl k => Q (.int (if k then 1 else 0)) H
  | _ => False
theorem call_mInt : CallR X (.type "int") mInt := cr_imp call_intA fun xs H Q h => by
  unfold mInt one at h
  split at h
  · split at h
    · exact .inl ⟨_, rfl, h⟩
    · exact .inr ⟨_, rfl, h⟩
    · exact h.elim
  · exact h.elim
def mAbs : List V → Hp → VK → Prop := one fun x H Q => match x with
  | .int i => Q (.int (if i < 0 then -i else i)) H
  | _ => False
theorem call_mAbs : CallR X (.builtin "abs") mAbs := cr_imp call_absA fun xs H Q h => by
  unfold mAbs one at h
  split at h
  · split at h
    · exact ⟨_, rfl, h⟩
    · exact h.elim
  · exact h.elim
def mLst : List V → Hp → VK → Prop := one fun x H Q => match x with
  | .ref a => (match look H a with
    | some (.lst ys) => ∀ l, H l = none → Q (.ref l) (upd H l (.lst ys))
    | some (.tup ys) => ∀ l, H l = none → Q (.ref l) (upd H l (.lst ys))
    | _ => False)
  | _ => False
theorem call_mLst : CallR X (.type "list") mLst := cr_imp call_listA fun xs H Q h => by
  unfold mLst one at h
  split at h
  · split at h
    · split at h
      · rename_i a ys e
        exact ⟨_, ys, rfl, .inl (.inl (look_rd e)), h⟩
      · rename_i a ys e
        exact ⟨_, ys, rfl, .inr (.inl (look_rd e)), h⟩
      · exact h.elim
    · exact h.elim
  · exact h.elim
def mTup : List V → Hp → VK → Prop := one fun x H Q => match x with
  | .ref a => (match look H a with
    | some (.lst ys) => ∀ l, H l = none → Q (.ref l) (upd H l (.tup ys))
    | some (.tup _) => Q (.ref a) H
    | _ => False)
  | _ => False
theorem call_mTup : CallR X (.type "tuple") mTup := cr_imp call_tupA fun xs H Q h => by
  unfold mTup one at h
  split at h
  · split at h
    · split at h
      · rename_i a ys e
        exact ⟨_, ys, rfl, .inl ⟨.inl (look_rd e), h⟩⟩
      · rename_i a ys e
        exact ⟨_, ys, rfl, .inr ⟨.inl (look_rd e), h⟩⟩
      · exact h.elim
    · exact h.elim
  · exact h.elim
/-- bools in a list -/
def bools : List V → Option (List Bool)
  | [] => some []
  | .bl b :: r => (bools r).map (b :: ·)
  | _ => none
theorem bools_map : ∀ {xs : List V} {bs : List Bool}, bools xs = some bs → xs = bs.map V.bl
  | [], bs, h => by simp [bools] at h; subst h; rfl
  | .bl b :: r, bs, h => by
    cases e : bools r with
    | none => rw [bools, e] at h; cases h
    | some cs =>
      rw [bools, e] at h
      cases h
      rw [bools_map e]; rfl
  | .non :: _, _, h => by cases h
  | .int _ :: _, _, h => by cases h
  | .str _ :: _, _, h => by cases h
  | .byt _ :: _, _, h => by cases h
  | .flt _ :: _, _, h => by cases h
  | .ref _ :: _, _, h => by cases h
  | .ty _ :: _, _, h => by cases h
theorem bools_of (bs : List Bool) : bools (bs.map V.bl) = some bs := by
  induction bs with
  | nil => rfl
  | cons b r ih => simp [bools, ih]
def mAll : List V → Hp → VK → Prop := one fun x H Q => match x with
  | .ref a => (match look H a with
    | some (.lst ys) => (match bools ys with | some bs => Q (.bl (bs.all id)) H | none => False)
    | _ => False)
  | _ => False
def mAny : List V → Hp → VK → Prop := one fun x H Q => match x with
  | .ref a => (match look H a with
    | some (.lst ys) => (match bools ys with | some bs => Q (.bl (bs.any id)) H | none => False)
    | _ => False)
  | _ => False
theorem call_mAll (hc : X.calm = true) : CallR X (.builtin "all") mAll := cr_imp (cr_all hc) fun xs H Q h => by
  unfold mAll one at h
  split at h
  · split at h
    · split at h
      · rename_i a ys e
        split at h
        · rename_i bs f
          exact ⟨_, bs, rfl, by rw [← bools_map f]; exact .inl (look_rd e), h⟩
        · exact h.elim
      · exact h.elim
    · exact h.elim
  · exact h.elim
theorem call_mAny (hc : X.calm = true) : CallR X (.builtin "any") mAny := cr_imp (cr_any hc) fun xs H Q h => by
  unfold mAny one at h
  split at h
  · split at h
    · split at h
      · rename_i a ys e
        split at h
        · rename_i bs f
          exact ⟨_, bs, rfl, by rw [← bools_map f]; exact .inl (look_rd e), h⟩
        · exact h.elim
      · exact h.elim
    · exact h.elim
  · exact h.elim

structure InsTy (K : PySem.W.Frag) (C : Addr) : Prop where
  cl : Cls K C
  ha : PySem.W.findIn K (.ref C) "__class__" = some (some (.builtin "object.__class__"))
  hn : PySem.W.specialIn K (.builtin "object.__class__") "__get__" = some (some (.builtin "getset_descriptor.__get__"))
  htk : PySem.W.takesIn K (.builtin "object.__class__") = some true
  hm : PySem.W.mroIn K C (.type "object") = some true
/-- the name of a value's built-in type -/
def tyNm (H : Hp) : V → Option String
  | .non => some "NoneType"
  | .bl _ => some "bool"
  | .int _ => some "int"
  | .str _ => some "str"
  | .ref a => (match look H a with
    | some (.lst _) => some "list"
    | some (.tup _) => some "tuple"
    | some (.dK _) => some "dict"
    | _ => none)
  | _ => none
theorem tyNm_x {K : PySem.W.Frag} {H : Hp} {x : V} {n : String} (h : tyNm H x = some n) : TyX K H x (.type n) := by
  cases x with
  | non => cases h; exact .base .non
  | bl b => cases h; exact .base (.bl b)
  | int i => cases h; exact .base (.int i)
  | str z => cases h; exact .base (.str z)
  | byt b => cases h
  | flt b => cases h
  | ty b => cases h
  | ref a =>
    unfold tyNm at h
    simp only at h
    split at h
    · rename_i xs e
      cases h
      rcases look_rd e with q | ⟨o, q⟩
      · exact .base (.lst q)
      · exact .base (.frz q)
    · rename_i xs e
      cases h
      rcases look_rd e with q | ⟨o, q⟩
      · exact .base (.tup q)
      · exact .fTuple q
    · rename_i xs e
      cases h
      rcases look_rd e with q | ⟨o, q⟩
      · exact .base (.dK q)
      · exact .fDict q
    · cases h
/-- a class as a value -/
def clsOf : V → Option Value
  | .ty n => some (.type n)
  | .ref C => some (.ref C)
  | _ => none
theorem clsOf_v {c : V} {u : Value} (h : clsOf c = some u) : ClsV c u := by
  cases c <;> first | (cases h; done) | (cases h; first | exact .ty _ | exact .own _)
def clsOfs : List V → Option (List Value)
  | [] => some []
  | c :: r => (match clsOf c, clsOfs r with | some u, some us => some (u :: us) | _, _ => none)
theorem clsOfs_v : ∀ {cs : List V} {us : List Value}, clsOfs cs = some us → Paired ClsV cs us
  | [], us, h => by cases h; exact .nil
  | c :: r, us, h => by
    unfold clsOfs at h
    split at h
    · rename_i u vs e1 e2
      cases h
      exact .cons (clsOf_v e1) (clsOfs_v e2)
    · cases h
/-- isinstance(x, c), c a class or a tuple of classes -/
def mIsi (K : PySem.W.Frag) : List V → Hp → VK → Prop := fun xs H Q => match xs with
  | [x, c] => (match x with
    | .ref a => (match H a with
      | some (.ins C _ _) => InsTy K C ∧ ∃ u b, clsOf c = some u ∧ PySem.W.kitOne K (.ref C) u = some b ∧ Q (.bl b) H
      | _ => (match tyNm H x with
        | some n => (match c with
          | .ref t => (match H t with
            | some (.tup cs) => ∃ us b, clsOfs cs = some us ∧ PySem.W.kitAny K (.type n) us = some b ∧ Q (.bl b) H
            | _ => ∃ b, PySem.W.kitOne K (.type n) (.ref t) = some b ∧ Q (.bl b) H)
          | .ty m => (match kitB n m with | some b => Q (.bl b) H | none => False)
          | _ => False)
        | none => False))
    | _ => (match tyNm H x with
        | some n => (match c with
          | .ref t => (match H t with
            | some (.tup cs) => ∃ us b, clsOfs cs = some us ∧ PySem.W.kitAny K (.type n) us = some b ∧ Q (.bl b) H
            | _ => ∃ b, PySem.W.kitOne K (.type n) (.ref t) = some b ∧ Q (.bl b) H)
          | .ty m => (match kitB n m with | some b => Q (.bl b) H | none => False)
          | _ => False)
        | none => False))
  | _ => False
theorem call_mIsi : CallR X (.builtin "isinstance") (mIsi X.K) := cr_imp call_isiA fun xs H Q h => by
  have fin : ∀ (x c : V) (n : String), tyNm H x = some n → (match c with
          | .ref t => (match H t with
            | some (.tup cs) => ∃ us b, clsOfs cs = some us ∧ PySem.W.kitAny X.K (.type n) us = some b ∧ Q (.bl b) H
            | _ => ∃ b, PySem.W.kitOne X.K (.type n) (.ref t) = some b ∧ Q (.bl b) H)
          | .ty m => (match kitB n m with | some b => Q (.bl b) H | none => False)
          | _ => False) → rIsiG X.K [x, c] H Q := fun x c n hn h => by
    split at h
    · split at h
      · rename_i t cs e
        obtain ⟨us, b, h1, h2, h3⟩ := h
        exact .inr ⟨x, _, cs, _, us, b, rfl, e, clsOfs_v h1, tyNm_x hn, h2, h3⟩
      · obtain ⟨b, h2, h3⟩ := h
        exact .inl ⟨x, _, _, _, b, rfl, .own _, tyNm_x hn, h2, h3⟩
    · split at h
      · rename_i m b e
        exact .inl ⟨x, _, _, _, b, rfl, .ty _, tyNm_x hn, kit_ty e, h⟩
      · exact h.elim
    · exact h.elim
  unfold mIsi at h
  split at h
  · split at h
    · split at h
      · rename_i a C dx fs e
        obtain ⟨T, u, b, h1, h2, h3⟩ := h
        exact .inl ⟨_, _, _, u, b, rfl, clsOf_v h1, .base (.ins e T.cl T.ha T.hn T.htk T.hm), h2, h3⟩
      · split at h
        · rename_i n hn
          exact fin _ _ n hn h
        · exact h.elim
    · split at h
      · rename_i n hn
        exact fin _ _ n hn h
      · exact h.elim
  · exact h.elim
end

section
variable {k : Nat} {A : Around}
theorem u1 (hr : Room k A) : A.units + 1 < cLine := by have := hr.un; omega
theorem u64 (hr : Room k A) : A.units + 64 < cLine := by have := hr.un; omega
theorem u65 (hr : Room k A) : A.units + 65 < cLine := by have := hr.un; omega
end

/-- the promise of a def of n parameters whose local names are N and whose body reads as rd -/
def spR (N : List Str) (n : Nat) (rd : XK → TS) : Sp := fun vs H Q E => vs.length = n ∧ rd E { nx := fun _ H' => Q .non H', rt := Q } (start N vs) H
section
variable {P : Program} {w : World} {K : PySem.W.Frag} {mg : Str → Option Value} {base : Heap}
/-- a def of the text keeps its own reading -/
theorem fnr_of {x qual : Str} {st : Stmt} {f : Addr} {fd : FuncData} {N ps : List Str} {k : Nat} {rd : XK → TS} (F : Fun K x qual st f fd) (S : FnScope N ps (defScope st)) (hb : Binds K fd ps [])
    (hbody : ∀ (cdv : Value) (A : Around) (outer : List Env) (s : Shared) (H : Hp) (E : XK), Room k (A.deeper (envOfC qual (defScope st) s.heap.objs.size f cdv)) →
      PSs (cxOf (L2.CX P w) P w K mg base N qual (defScope st) f cdv A outer s H E) (defBody st) (rd E)) : FnR P w K mg base (L2.CX P w) (k + 1) f (spR N ps.length rd) := by
  have G : FnOk P w K mg base (L2.CX P w) (k + 1) f fd ps (spR N ps.length rd) :=
    F.okX S (fun vs H Q E h => h.1) fun cdv A outer s H vs Q E hr h => ⟨rd E, hbody cdv A outer s H E hr, h.2⟩
  exact (G.raw hb .nil).imp fun vs H Q E h => by rw [List.append_nil]; exact h
end
section
variable {X : Cx} {CX : CXT} {k j i : Nat} {f C : Addr} {sp : Sp} {E : XK} {x m : Str} {e o : Expr} {es : List Expr} {te ta : TE} {t : TA} {p pos apos : Pos}
/-- f(e, ..) by a positional promise -/
def tCallF (sp : Sp) (E : XK) (t : TA) : TE := fun σ H Q => t σ H fun vs H1 => sp vs H1 Q E
theorem pe_callF (F : FnR X.prog X.w X.K X.mg X.base CX k f sp) (hr : Room j X.A) (hj : k ≤ j) (hm : X.mg x = some (.ref f)) (hk : PySem.W.keepIn X.K (.ref f) = true) (hx : Passes CX X E) (ha : PA X (e :: es) t) (hg : Gl X x := by rfl) (hd : (x == ("__debug__" : Str)) = false := by decide)
    (he : starEach (e :: es) X.env = (false, eval e X.env) :: starEach es X.env := by rfl) (hpl : (backTo pos (starEach es X.env)).any (·.1) = false := by rfl) :
    PE X (.Call (.Name x p) (e :: es) [] pos) (tCallF sp E t) := by
  refine ⟨fun pins s σ H Q I h => ?_⟩
  refine wpAny_Call_Name_kw (ld_glob I hg hm ?_ hd)
  refine PySem.W.callWith_K (h₀ := X.base) I.ok.mod.kin hk (thn (ha.run pos pins s σ H _ I h) fun us s1 ⟨vs, H1, I1, r, q⟩ => ⟨I1.kIn, ?_⟩) he hpl
  exact wpAny_call (run_fnR F (hr.mono hj) hx I1 r q)
theorem pe_callF0 (F : FnR X.prog X.w X.K X.mg X.base CX k f sp) (hr : Room j X.A) (hj : k ≤ j) (hm : X.mg x = some (.ref f)) (hk : PySem.W.keepIn X.K (.ref f) = true) (hx : Passes CX X E) (hg : Gl X x := by rfl) (hd : (x == ("__debug__" : Str)) = false := by decide) :
    PE X (.Call (.Name x p) [] [] pos) (tCallF sp E tNil) := by
  refine ⟨fun pins s σ H Q I h => ?_⟩
  refine wpAny_Call_Name_kw (ld_glob I hg hm ?_ hd)
  exact PySem.W.callWith_K0 I.kIn hk (wpAny_call (run_fnR (us := []) F (hr.mono hj) hx I .nil h))
/-- a module's constant: a text, a number -/
theorem pe_gs {z : Str} (hm : ∃ u, X.mg x = some (.str z u)) (hg : Gl X x := by rfl) (hd : (x == ("__debug__" : Str)) = false := by decide) : PE X (.Name x pos) (tC (.str z)) := by
  obtain ⟨u, hm⟩ := hm
  exact pe_glob hg hm ⟨u, rfl⟩ hd
theorem pe_gi {z : Int} (hm : ∃ u, X.mg x = some (.int z u)) (hg : Gl X x := by rfl) (hd : (x == ("__debug__" : Str)) = false := by decide) : PE X (.Name x pos) (tC (.int z)) := by
  obtain ⟨u, hm⟩ := hm
  exact pe_glob hg hm ⟨u, rfl⟩ hd
theorem pe_gr {a : Addr} (hm : X.mg x = some (.ref a)) (hg : Gl X x := by rfl) (hd : (x == ("__debug__" : Str)) = false := by decide) : PE X (.Name x pos) (tC (.ref a)) := pe_glob hg hm rfl hd
theorem pe_gt {n : String} (hm : X.mg x = none) (hg : Gl X x := by rfl) (hv : bootBuiltins x = some (.type n) := by decide +kernel) (hn : x ≠ "__name__" := by decide) (hd : (x == ("__debug__" : Str)) = false := by decide) : PE X (.Name x pos) (tC (.ty n)) := pe_bltn hg hm hv rfl hn hd
/-- what a call lets out leaves this def, too -/
theorem passE {W : WX} (tk : Takes X W) (hW : ∀ cls d σ H, E cls d H → W cls d σ H) : Passes (L2.CX X.prog X.w) X E := passes_call tk hW
end
end Fs

namespace Fs
open PySem PySem.W PySem.Calls PyProof.Rows PySem.HandSPX
/-- self.n = n, for each name -/
def FldSts : List Str → List Stmt → Prop
  | [], sts => sts = []
  | n :: ns, sts => ∃ p1 p2 p3 p4 r, sts = .Assign [.Attribute (.Name "self" p1) n p2] (.Name n p3) p4 :: r ∧ FldSts ns r
def putAll (l : List (Str × Value)) (m : Str → Option Value) : Str → Option Value := l.foldl (fun m p => fun y => if y = p.1 then some p.2 else m y) m
def supSt (msg : Str) (k : Nat) (q0 q1 q2 q3 q4 q5 : Pos) : Stmt := .Expr (.Call (.Attribute (.Call (.Name "super" q0) [] [] q1) "__init__" q2) [.Constant (.str msg) k q3] [] q4) q5
structure SxTxt (prog : Program) (K : Frag) (mg : Str → Option Value) (C fI : Addr) (names : List Str) : Prop where
  cls : ∃ nm q N bs bm sn sub ab col dd k0 k1 k2 k3 k5, K.lookup C = some (excClassObj nm q C N bs bm true sn sub ab col dd k0 k1 k2 k3 k5 "ValueError.__new__") ∧ refsVE bm = true
  sa : findIn K (.ref C) "__setattr__" = some (some (.builtin "object.__setattr__"))
  exC : subIn K (.ref C) (.type "BaseException") = some true
  tyC : typeIn K (.ref C) = some (.type "type")
  kC : keepIn K (.ref C) = true
  iC : findIn K (.ref C) "__init__" = some (some (.ref fI))
  tC : typeIn K (.ref fI) = some (.type "function")
  noN : ∀ n ∈ names, findIn K (.ref C) n = some none
  nd : names.Nodup
  sup : ks_superIn K C C "__init__" = some (some (.builtin "ValueError.__init__"))
  sub : subIn K (.ref C) (.type "ValueError") = some true
  opq : nsIn K cStatics "thirdparty.any" = some none
  mro : mroIn K C (.ref C) = some true
  nsu : mg "super" = none
  top : (prog.main.scope.names.lookup ("super" : Str)).isSome = false
  fn : ∃ (params : Arguments) (msg : Str) (kk : Nat) (q0 q1 q2 q3 q4 q5 : Pos) (sts : List Stmt) (scope : Scope) (ar : Arg) (oc : Value) (od : Option Addr) (dV kV doc pm : Value) (an : Option Addr) (cda : Addr) (ct : Value) (cc : Addr) (osl : Array (Option Value)) (qual : Str)
      (ccl cl : Value) (cdd cld : Option Addr) (ccs csl : Array (Option Value)) (vs : Array Value) (file : Str) (tf : Tok),
    K.lookup fI = some ⟨oc, od, .func (ksFn "__init__" qual params (supSt msg kk q0 q1 q2 q3 q4 q5 :: sts) scope dV kV doc pm an (.ref cda) ct cc), osl⟩ ∧ codeIn K (.ref cda) qual = true ∧
    K.lookup cda = some ⟨ccl, cdd, .fields vs, ccs⟩ ∧ vs[2]? = some (.str file tf) ∧ ((prog.main.file : Str) == file) = true ∧ K.lookup cc = some ⟨cl, cld, .cell (some (.ref C)), csl⟩ ∧
    (q2.endLine == q4.line) = true ∧ FldSts names sts ∧ (params.posonlyargs ++ params.args).head? = some ar ∧ ar.arg = "self" ∧ scope.names.lookup ("super" : Str) = some .globalImplicit ∧ scope.names.lookup ("__class__" : Str) = some .free ∧ scope.names.lookup ("self" : Str) = some .local ∧
    (∀ n ∈ names, scope.names.lookup n = some .local ∧ n ≠ "self") ∧ (∀ y ∈ scope.names, y.2 ≠ .cell) ∧ scope.kind = .function ∧ scope.isCoroutine = false ∧ scope.isGenerator = false ∧
    (∀ (s : Shared) (self : Value) (us : List Value), us.length = names.length → BindsTo s (ksFn "__init__" qual params (supSt msg kk q0 q1 q2 q3 q4 q5 :: sts) scope dV kV doc pm an (.ref cda) ct cc) ⟨self :: us, []⟩ (("self", self) :: names.zip us))
theorem SxTxt.binds {prog : Program} {K : Frag} {mg : Str → Option Value} {C fI : Addr} {names : List Str} (T : SxTxt prog K mg C fI names) {oc : Value} {od : Option Addr} {fd : FuncData} {osl : Array (Option Value)} (lk : K.lookup fI = some ⟨oc, od, .func fd, osl⟩) {s : Shared} {self : Value} {us : List Value} (hl : us.length = names.length) :
    BindsTo s fd ⟨self :: us, []⟩ (("self", self) :: names.zip us) := by
  obtain ⟨params, msg, kk, q0, q1, q2, q3, q4, q5, sts, scope, ar, oc, od, dV, kV, doc, pm, an, cda, ct, cc, osl, qual, ccl, cl, cdd, cld, ccs, csl, vs, file, tf, ho, hcd, hcode, hvs, hfile, hcell, hln, hF, hp, har, hks, hkc, hkself, hkn, hncell, hk, hco, hgen, hbind⟩ := T.fn
  rw [ho] at lk
  cases lk
  exact hbind s _ us hl
section
variable {names : List Str} {prog : Program} {w : World} {A : Around} {E : Value → Shared → Prop} {R : Result → Shared → Prop} {K : Frag} {mg : Str → Option Value} {C fI : Addr} {g : Array GenState} {d : Drawn} {os : OsState}
variable {nm q : Str} {N : Addr} {bs bm : List Value} {hdct : Bool} {sn : List Str} {sub : List Value} {ab : Bool} {col : Option Bool} {dd : Option Addr} {k0 k1 k2 k3 k5 : Option Value}
theorem call_mw {h : Heap} {t : Nat} {u e t0 : Addr} {rest : List Value} {Q : Value → Shared → Prop}
    (hC : h.get? C = some (excClassObj nm q C N bs bm hdct sn sub ab col dd k0 k1 k2 k3 k5 "ValueError.__new__")) (he : h.get? e = some (excO C t0)) (hu : h.get? u = some (kxs_mw "ValueError.__init__" e)) (hrest : rest.length ≤ sizeLine)
    (hq : ∀ h' t1, (∀ b o, b ≠ e → h.get? b = some o → h'.get? b = some o) → h'.get? e = some (excO C t1) → Q .none ⟨h', g, d, t, os⟩) :
    wpAny (model prog w) A (call (.ref u) rest) Q E ⟨h, g, d, t, os⟩ := by
  refine wpAny_call (codeAny_of_tree ?_)
  show wpAny _ A.in1 (callAny (.ref u) ⟨rest, []⟩) _ _ _
  simp only [callAny]
  refine wpAny_bind (wpAny_load hu ?_)
  simp only [kxs_mw, show (Value.type "method-wrapper" == Value.type "method" || Value.type "method-wrapper" == Value.type "builtin_function_or_method" || Value.type "method-wrapper" == Value.type "method-wrapper") = true by decide, if_true]
  refine W.KFB.if_so (by decide) ?_
  refine wpAny_bind (ESX.check_bound PySem.F.excBase_ValueError hC he rfl ?_)
  refine wpAny_bind (wpAny_pure (wpAny_pure ?_))
  refine ⟨Code.quiet_builtin _ (by decide +kernel), codeAny_builtin PySem.F.excBase_ValueError.initEntry ?_⟩
  rw [Around.under_plainId PySem.F.excBase_ValueError.init.plain _]
  wp_walk
  refine hq _ h.objs.size (fun b o hb ho => ?_) ?_
  · rw [Heap.get?_update_other _ _ (Ne.symm hb)]
    exact Heap.get?_push_of_some _ ho
  · rw [Heap.get?_update_self _ (Heap.get?_push_of_some _ he) rfl]
    rfl
abbrev excD (C t0 : Addr) (d : Option Addr) : Obj := { cls := .ref C, dict := d, data := .fields #[.ref t0, .none, .none, .none, .bool false, .none] }

theorem ns_kept {h h' : Heap} {L : Addr} {m : Str → Option Value} (hn : h.Ns L m) (k : ∀ o, h.get? L = some o → h'.get? L = some o) : h'.Ns L m := by
  obtain ⟨o, es, ep, ho, r⟩ := hn
  exact ⟨o, es, ep, k _ ho, r⟩
theorem putAll_cons (p : Str × Value) (l : List (Str × Value)) (m : Str → Option Value) : putAll (p :: l) m = putAll l (fun y => if y = p.1 then some p.2 else m y) := rfl
/-- further fields, behind the first -/
theorem sx_more (T : SxTxt prog K mg C fI names) {env : Env} (hk : env.scope.kind = .function) {x t0 dx L : Addr} (hL : env.locals = L) {m : Str → Option Value} (hself : m "self" = some (.ref x)) (hks : env.kindOf "self" = some .local)
    {cd : ClassData} (hcl : clsIn K C = some cd) (hm : refsVE cd.mro = true) (hh : cd.hasDict = true) (hdx : dx ≠ x) (hdL : dx ≠ L) (hnK : K.lookup dx = none) :
    ∀ (l : List (Str × Value)) (sts : List Stmt), FldSts (l.map (·.1)) sts → ∀ (h : Heap) (tk : Tok) (m0 : Str → Option Value) (nl : List Str) (Q : Flow → Shared → Prop), nl.length + l.length ≤ 900 → K.In h → h.Ns L m → h.get? x = some (excD C t0 (some dx)) → h.Ns1 dx m0 → Within m0 nl →
      (∀ p ∈ l, m p.1 = some p.2 ∧ env.kindOf p.1 = some .local ∧ findIn K (.ref C) p.1 = some none ∧ (p.1 == ("__debug__" : Str)) = false) →
      (∀ h' tk', (∀ b o, b ≠ dx → h.get? b = some o → h'.get? b = some o) → h'.Ns1 dx (putAll l m0) → Q .next ⟨h', g, d, tk', os⟩) →
      wpAny (model prog w) A (execs sts env) Q E ⟨h, g, d, tk, os⟩ := by
  intro l
  induction l with
  | nil =>
    intro sts hs h tk m0 nl Q hz X hn hx hns hw hp hq
    obtain rfl : sts = [] := hs
    exact wpAny_execs_nil (hq h tk (fun b o _ e => e) hns)
  | cons p l ih =>
    intro sts hs h tk m0 nl Q hz X hn hx hns hw hp hq
    obtain ⟨p1, p2, p3, p4, r, rfl, hr⟩ := hs
    obtain ⟨hm1, hk1, hno, hdb⟩ := hp p List.mem_cons_self
    refine wpAny_execs_cons (plainObj_wpAny_Assign_Attribute ?_)
    refine wpAny_Name (wpAny_loadName_local hk hk1 (by rw [hL]; exact hn) hm1 ?_) hdb
    refine wpAny_Name (wpAny_loadName_local hk hks (by rw [hL]; exact hn) hself ?_)
    obtain ⟨oD, es, ep, hoD, hrD⟩ := hns.count hw
    refine set_plain X (ox := excD C t0 (some dx)) (od := some oD) ⟨hx, rfl, rfl, hoD⟩ T.sa ?_
    refine PySem.OEX.osa_old X hx hns hw (by rw [List.length_cons] at hz; omega) hcl hm hh hno fun h' tk' kk hn' => ?_
    have X' : K.In h' := fun a o e => kk a o (fun z => by rw [z, hnK] at e; cases e) (X a o e)
    refine ih r hr h' tk' _ (p.1 :: nl) Q (by rw [List.length_cons] at hz ⊢; omega) X' (ns_kept hn fun o e => kk L o (Ne.symm hdL) e) (kk x _ (Ne.symm hdx) hx) hn' (Within.cons p.1 p.2 hw) (fun p' hp' => hp p' (List.mem_cons_of_mem _ hp')) fun h'' tk'' k2 hn2 => ?_
    exact hq h'' tk'' (fun b o hb e => k2 b o hb (kk b o hb e)) hn2
/-- what __init__ leaves of a fresh exception at x -/
structure SxEnd (h h' : Heap) (x C t1 : Addr) (od : Option Addr) (l : List (Str × Value)) : Prop where
  keep : ∀ b o, b ≠ x → h.get? b = some o → h'.get? b = some o
  obj : h'.get? x = some (excD C t1 od)
  dict : match od with
    | none => l = []
    | some dx => l ≠ [] ∧ h.objs.size ≤ dx ∧ dx ≠ x ∧ h'.Ns1 dx (putAll l fun _ => none)
/-- self.n = n, for each name, from a fresh exception on -/
theorem sx_all (T : SxTxt prog K mg C fI names) {env : Env} (hk : env.scope.kind = .function) {x t0 L : Addr} (hL : env.locals = L) {m : Str → Option Value} (hself : m "self" = some (.ref x)) (hks : env.kindOf "self" = some .local)
    {cd : ClassData} (hcl : clsIn K C = some cd) (hm : refsVE cd.mro = true) (hh : cd.hasDict = true) (hxL : x ≠ L) (l : List (Str × Value)) (sts : List Stmt) (hs : FldSts (l.map (·.1)) sts) (h : Heap) (tk : Tok) (Q : Flow → Shared → Prop) (hz : l.length ≤ 800) (X : K.In h)
    (hn : h.Ns L m) (hx : h.get? x = some (excD C t0 none)) (hnK : ∀ dx, h.objs.size ≤ dx → K.lookup dx = none) (hnx : K.lookup x = none)
    (hp : ∀ p ∈ l, m p.1 = some p.2 ∧ env.kindOf p.1 = some .local ∧ findIn K (.ref C) p.1 = some none ∧ (p.1 == ("__debug__" : Str)) = false)
    (hq : ∀ h' tk' od, SxEnd h h' x C t0 od l → Q .next ⟨h', g, d, tk', os⟩) : wpAny (model prog w) A (execs sts env) Q E ⟨h, g, d, tk, os⟩ := by
  cases l with
  | nil =>
    obtain rfl : sts = [] := hs
    exact wpAny_execs_nil (hq h tk none ⟨fun b o _ e => e, hx, rfl⟩)
  | cons p l =>
    obtain ⟨p1, p2, p3, p4, r, rfl, hr⟩ := hs
    obtain ⟨hm1, hk1, hno, hdb⟩ := hp p List.mem_cons_self
    refine wpAny_execs_cons (plainObj_wpAny_Assign_Attribute ?_)
    refine wpAny_Name (wpAny_loadName_local hk hk1 (by rw [hL]; exact hn) hm1 ?_) hdb
    refine wpAny_Name (wpAny_loadName_local hk hks (by rw [hL]; exact hn) hself ?_)
    refine set_plain X (ox := excD C t0 none) (od := none) ⟨hx, rfl, rfl, trivial⟩ T.sa ?_
    refine PySem.HandSPX.exc_osa X hx hcl hm hh hno fun h' tk' dx kk dn dne hx' hn' => ?_
    have X' : K.In h' := fun a o e => kk a o (fun z => by rw [z, hnx] at e; cases e) (X a o e)
    have dL : dx ≠ L := fun z => by
      have y := hn.lt
      rw [z] at dn
      exact absurd y (Nat.not_lt.mpr dn)
    refine sx_more T hk hL hself hks hcl hm hh dne dL (hnK dx dn) l r hr h' tk' _ [p.1] Q (by rw [List.length_cons] at hz; simp; omega) X' (ns_kept hn fun o e => kk L o (Ne.symm hxL) e) hx' hn' (Within.cons p.1 p.2 (fun y hy => absurd rfl hy)) (fun p' hp' => hp p' (List.mem_cons_of_mem _ hp')) fun h'' tk'' k2 hn2 => ?_
    refine hq h'' tk'' (some dx) ⟨fun b o hb e => k2 b o (fun z => ?_) (kk b o hb e), k2 x _ (Ne.symm dne) hx', by simp, dn, dne, hn2⟩
    have y := Heap.lt_size e
    rw [z] at y
    exact absurd y (Nat.not_lt.mpr dn)
theorem zip_look {self : Value} : ∀ {ns : List Str} {us : List Value} {p : Str × Value}, ns.Nodup → p ∈ ns.zip us → (∀ n ∈ ns, n ≠ "self") → ((("self" : Str), self) :: ns.zip us).reverse.lookup p.1 = some p.2 := by
  intro ns us p nd hp hn
  have hns : p.1 ∈ ns := (List.of_mem_zip hp).1
  have key : ∀ (l : List (Str × Value)), (l.map (·.1)).Nodup → p ∈ l → l.reverse.lookup p.1 = some p.2 := by
    intro l
    induction l with
    | nil => intro _ h; cases h
    | cons a l ih =>
      intro nd h
      rw [List.map_cons, List.nodup_cons] at nd
      rw [List.reverse_cons]
      rcases List.mem_cons.mp h with rfl | h
      · have : l.reverse.lookup p.1 = none := by
          rw [List.lookup_eq_none_iff]
          intro b hb
          have hb' : b ∈ l := List.mem_reverse.mp hb
          have : b.1 ≠ p.1 := fun z => nd.1 (List.mem_map.mpr ⟨b, hb', z⟩)
          simpa using Ne.symm this
        rw [List.lookup_append, this]
        simp [List.lookup]
      · rw [List.lookup_append, ih nd.2 h]
        rfl
  refine key _ ?_ (List.mem_cons_of_mem _ hp)
  rw [List.map_cons, List.nodup_cons]
  have hsub : ((ns.zip us).map (·.1)).Sublist ns := by
    have : ∀ (ns : List Str) (us : List Value), ((ns.zip us).map (·.1)).Sublist ns := by
      intro ns
      induction ns with
      | nil => intro us; simp
      | cons a ns ih =>
        intro us
        cases us with
        | nil => simp
        | cons u us => simpa using ih us
    exact this ns us
  exact ⟨fun z => hn _ (hsub.subset z) rfl, nd.sublist hsub⟩
theorem zip_self {self : Value} {ns : List Str} {us : List Value} (hn : ∀ n ∈ ns, n ≠ "self") : ((("self" : Str), self) :: ns.zip us).reverse.lookup (Str.ofString "self") = some self := by
  rw [List.reverse_cons, List.lookup_append]
  have : (ns.zip us).reverse.lookup (Str.ofString "self") = none := by
    rw [List.lookup_eq_none_iff]
    intro b hb
    have hb' : b ∈ ns.zip us := List.mem_reverse.mp hb
    have : b.1 ≠ "self" := hn _ (List.of_mem_zip hb').1
    simpa using Ne.symm this
  rw [this]
  simp [List.lookup]
theorem zip_fst : ∀ {ns : List Str} {us : List Value}, us.length = ns.length → (ns.zip us).map (·.1) = ns
  | [], _, _ => by simp
  | a :: ns, [], h => by simp at h
  | a :: ns, u :: us, h => by simpa using zip_fst (ns := ns) (us := us) (by simpa using h)
theorem sup_call {env : Env} {msg : Str} {kk : Nat} {q0 q1 q2 q3 q4 : Pos} (hln : (q2.endLine == q4.line) = true) : eval (.Call (.Attribute (.Call (.Name "super" q0) [] [] q1) "__init__" q2) [.Constant (.str msg) kk q3] [] q4) env = (do
      let ov ← attributeBase (.Call (.Name "super" q0) [] [] q1) "__init__" env (eval (.Call (.Name "super" q0) [] [] q1) env)
      standAt q2.atName
      let (f, first) ← holding [ov] (getMethod ov "__init__" (do return (← importBound (.Call (.Name "super" q0) [] [] q1) env).getD true))
      callWith q4 f first (backTo q4 (starEach [.Constant (.str msg) kk q3] env)) []) := by
  rw [arm_eval_Call]
  have e : ∀ o env, methodCallPos true o env q2 q4 = pure q4 := fun o env => by unfold methodCallPos; rw [hln]; rfl
  unfold methodCall
  rw [show methodCallForm ([Expr.Constant (.str msg) kk q3].length + ([] : List Keyword).length) (backTo q4 (starEach [.Constant (.str msg) kk q3] env)) (backToKw q4 (keywordEach [] env)) = true from rfl, e]
  rfl
theorem sx_init (T : SxTxt prog K mg C fI names) {s : Shared} {x t0 : Addr} {us : List Value} (hl : us.length = names.length) (hz : names.length ≤ 800) (hdb : ∀ n ∈ names, (n == ("__debug__" : Str)) = false) (X : K.In s.heap) (hlim : s.heap.NoLimit)
    (hgl : s.heap.Ns mainGlobals mg) (hbl : ∃ mb, s.heap.Ns builtinsNs mb ∧ ∀ x : Str, x ≠ "__name__" → mb x = bootBuiltins x) (hx : s.heap.get? x = some (excO C t0)) (hnx : K.lookup x = none) (hnC : x ≠ C) (hroom : A.depth < recursionLimit) {args : Args} (hb0 : ∀ oc od fd osl, K.lookup fI = some ⟨oc, od, .func fd, osl⟩ → BindsTo s fd args (("self", Value.ref x) :: names.zip us))
    (hq : ∀ h' tk od t1, SxEnd s.heap h' x C t1 od (names.zip us) → R (.ok (.ret .none)) { s with heap := h', toks := tk }) :
    codeAny (model prog w) A (.call (.ref fI) args) R s := by
  obtain ⟨params, msg, kk, q0, q1, q2, q3, q4, q5, sts, scope, ar, oc, od, dV, kV, doc, pm, an, cda, ct, cc, osl, qual, ccl, cl, cdd, cld, ccs, csl, vs, file, tf, ho, hcd, hcode, hvs, hfile, hcell, hln, hF, hp, har, hks, hkc, hkself, hkn, hncell, hk, hco, hgen, hbind⟩ := T.fn
  obtain ⟨skind, snames, sgen, sco, smore⟩ := scope
  dsimp only at hk hco hgen
  subst hk hco hgen
  generalize hscope : ({ kind := .function, names := snames, isGenerator := false, isCoroutine := false, more := smore } : Scope) = scope at *
  have hk : scope.kind = .function := by rw [← hscope]
  have hco : scope.isCoroutine = false := by rw [← hscope]
  have hgen : scope.isGenerator = false := by rw [← hscope]
  obtain ⟨nm, q, N, bs, bm, sn, sub, ab, col, dd, k0, k1, k2, k3, k5, hC, hbm⟩ := T.cls
  have hcl : clsIn K C = some { name := nm, bases := bs, mro := .ref C :: bm, ns := N, qualname := q, hasDict := true, slotNames := sn, subclasses := sub, abstract := ab, collection := col, hasDel := false } := by unfold clsIn; rw [hC] <;> rfl
  have hloc : ∀ y ∈ ((("self" : Str), Value.ref x) :: names.zip us), scope.names.lookup y.1 = some .local := fun y hy => by
    rcases List.mem_cons.mp hy with rfl | hy
    · exact hkself
    · exact (hkn _ (List.of_mem_zip hy).1).1
  refine ks_codeAny_call_defAt (fd := ksFn "__init__" qual params (supSt msg kk q0 q1 q2 q3 q4 q5 :: sts) scope dV kV doc pm an (.ref cda) ct cc) (body := supSt msg kk q0 q1 q2 q3 q4 q5 :: sts) (binds := (("self" : Str), Value.ref x) :: names.zip us) hroom (X _ _ ho) rfl hlim
    (codeRec_of X hcd) rfl (hb0 _ _ _ _ ho) hncell hloc (fun h₁ hns hk₁ => ?_) hco hgen hk
  have X₁ : K.In h₁ := X.keeps hk₁
  have hx₁ := hk₁ _ _ hx
  have hxL : x ≠ s.heap.objs.size := Nat.ne_of_lt (Heap.lt_size hx)
  have hLn : s.heap.objs.size < h₁.objs.size := hns.lt
  have I₁ : InstAt h₁ x (excO C t0) C none := ⟨hx₁, rfl, rfl, trivial⟩
  obtain ⟨mb, hb1, hb2⟩ := hbl
  refine ks_wpAt_execs_cons (ks_wpAt_Expr_any (ks_wpAt_MethodCall ?_ (sup_call hln)) (by subst hscope; rfl))
  refine ks_wpAt_super_base (env := ksEnv qual scope s.heap.objs.size fI (.ref cda) cc) hks hkc rfl rfl (X₁ _ _ ho) rfl hp rfl (X₁ _ _ hcode) rfl hvs hfile T.top ?_
  refine ks_loadName_global hk hks (loadGlobal_builtin (env := ksEnv qual scope s.heap.objs.size fI (.ref cda) cc) (hgl.keeps hk₁) T.nsu (hb1.keeps hk₁) ((hb2 _ (by decide)).trans PyProof.Rows.Boot.«super») ⟨rfl, ?_⟩)
  refine wpAny_loadName_free hk hkc rfl ⟨_, X₁ _ _ hcell, rfl⟩ ?_
  rw [har]
  refine wpAny_loadName_local hk hkself hns (zip_self fun n hn => (hkn n hn).2) ?_
  refine ks_wpAny_isType_cls (X₁ _ _ hC) rfl ⟨rfl, ?_⟩
  refine ks_wpAny_call_super (X₁ _ _ hC) rfl hx₁ rfl (fun c e => by cases e) (looks_mroIn X₁ T.mro) (fun h₂ hso hk₂ => ?_)
  have X₂ : K.In h₂ := X₁.keeps hk₂
  have hx₂ := hk₂ _ _ hx₁
  have I₂ : InstAt h₂ x (excO C t0) C none := ⟨hx₂, rfl, rfl, trivial⟩
  have hsup := T.sup
  unfold ks_superIn at hsup
  rw [hcl] at hsup
  refine kxs_getMethod kxs_ValueError hso (looks_opaque X₂ T.opq) (l₀ := .ref C :: bm) ?_ rfl X₂ hsup (I₂.type.andThen (looks_subIn X₂ T.sub)) hnC (by decide) ?_
  · exact fun A Q E s k q => wpAny_bind ((looks_clsIn X₂ hcl) A _ E s k (wpAny_pure q))
  have hu : (h₂.push (kxs_mw "ValueError.__init__" x)).get? h₂.objs.size = some (kxs_mw "ValueError.__init__" x) := Heap.get?_push_at rfl rfl
  refine kxs_callWith (i := "ValueError.__init__") (x := x) rfl (evalArgs_plain ?_)
  show wpAny _ _ (spliced ((false, eval (.Constant (.str msg) kk q3) _) :: [])) _ _ _
  refine spliced_cons (Constant_str (spliced_nil ⟨hu, ?_⟩))
  have hk₃ : ∀ b o, h₂.get? b = some o → (h₂.push (kxs_mw "ValueError.__init__" x)).get? b = some o := fun b o e => Heap.get?_push_of_some _ e
  refine call_mw (X₂.keeps hk₃ _ _ hC) (hk₃ _ _ hx₂) hu (by rw [sizeLine_eq]; exact (by decide : 1 ≤ 16777216)) fun h₄ t1 hk₄ hx₄ => ?_
  refine wpAt_of_wpAny ?_
  have X₄ : K.In h₄ := fun a o e => hk₄ a o (fun z => by rw [z, hnx] at e; cases e) (X₂.keeps hk₃ a o e)
  have kall : ∀ b o, b ≠ x → h₁.get? b = some o → h₄.get? b = some o := fun b o hb e => hk₄ b o hb (hk₃ b o (hk₂ b o e))
  refine sx_all T (env := ksEnv qual scope s.heap.objs.size fI (.ref cda) cc) hk rfl (m := fun y => ((("self" : Str), Value.ref x) :: names.zip us).reverse.lookup y) (zip_self fun n hn => (hkn n hn).2) hkself hcl (show refsVE (.ref C :: bm) = true from hbm) rfl hxL (names.zip us) sts (by rw [zip_fst hl]; exact hF) h₄ _ _ (by rw [List.length_zip]; omega) X₄
    (ns_kept hns fun o e => kall _ o (Ne.symm hxL) e) hx₄ (fun dx hdx => ?_) hnx (fun p hp => ⟨zip_look T.nd hp (fun n hn => (hkn n hn).2), (hkn _ (List.of_mem_zip hp).1).1, T.noN _ (List.of_mem_zip hp).1, hdb _ (List.of_mem_zip hp).1⟩) fun h' tk' od' S => ?_
  · cases e : K.lookup dx with
    | none => rfl
    | some o => exact absurd (Heap.lt_size (X₄ _ _ e)) (Nat.not_lt.mpr hdx)
  · have ex : ∀ b o, b ≠ x → s.heap.get? b = some o → h'.get? b = some o := fun b o hb e => S.keep b o hb (kall b o hb (hk₁ b o e))
    have hsz : s.heap.objs.size ≤ h₄.objs.size := by
      obtain ⟨oL, _, _, hoL, _⟩ := (ns_kept hns fun o e => kall _ o (Ne.symm hxL) e : h₄.Ns s.heap.objs.size _)
      exact Nat.le_of_lt (Heap.lt_size hoL)
    refine hq h' tk' od' t1 ⟨ex, S.obj, ?_⟩
    have z := S.dict
    cases od' with
    | none => exact z
    | some dx => exact ⟨z.1, Nat.le_trans hsz z.2.1, z.2.2⟩
/-- a made exception -/
structure SxMade (h h' : Heap) (e C : Addr) (od : Option Addr) (l : List (Str × Value)) : Prop where
  keep : ∀ b o, h.get? b = some o → h'.get? b = some o
  new : h.objs.size ≤ e
  obj : ∃ t1, h'.get? e = some (excD C t1 od)
  dict : match od with
    | none => l = []
    | some dx => l ≠ [] ∧ h.objs.size ≤ dx ∧ dx ≠ e ∧ h'.Ns1 dx (putAll l fun _ => none)
theorem sx_made (T : SxTxt prog K mg C fI names) {s : Shared} {us : List Value} (hl : us.length = names.length) (hz : names.length ≤ 800) (hdb : ∀ n ∈ names, (n == ("__debug__" : Str)) = false) (X : K.In s.heap) (hlim : s.heap.NoLimit)
    (hgl : s.heap.Ns mainGlobals mg) (hbl : ∃ mb, s.heap.Ns builtinsNs mb ∧ ∀ x : Str, x ≠ "__name__" → mb x = bootBuiltins x) (hroom : A.depth + 1 < recursionLimit)
    (hq : ∀ h' tk e od, SxMade s.heap h' e C od (names.zip us) → R (.ok (.ret (.ref e))) { s with heap := h', toks := tk }) :
    codeAny (model prog w) A (.call (.ref C) ⟨us, []⟩) R s := by
  obtain ⟨nm, q, N, bs, bm, sn, sub, ab, col, dd, k0, k1, k2, k3, k5, hC, hbm⟩ := T.cls
  obtain ⟨hp, g, dr, tk, os⟩ := s
  have k : ∀ b o, hp.get? b = some o → ((hp.push (kdv_tup us)).push (excO C hp.objs.size)).get? b = some o := fun b o e => Heap.get?_push_of_some _ (Heap.get?_push_of_some _ e)
  have hget : ((hp.push (kdv_tup us)).push (excO C hp.objs.size)).get? (hp.objs.size + 1) = some (excO C hp.objs.size) := by heap_get
  have hnx : K.lookup (hp.objs.size + 1) = none := by
    cases e : K.lookup (hp.objs.size + 1) with
    | none => rfl
    | some o =>
      have z : hp.get? (hp.objs.size + 1) = some o := X _ _ e
      exact absurd (Nat.lt_of_succ_lt (Heap.lt_size z)) (Nat.lt_irrefl _)
  have hnC : hp.objs.size + 1 ≠ C := fun z => by
    rw [z, hC] at hnx
    cases hnx
  refine call_own PySem.F.excBase_ValueError (fun X => refsVE_contains X bm hbm) (X _ _ hC) (looks_findIn X T.iC) (fun self => bind_fn X self T.tC) (by rw [hl, sizeLine_eq]; omega) ?_
  refine sx_init (s := ⟨(hp.push (kdv_tup us)).push (excO C hp.objs.size), g, dr, tk, os⟩) T hl hz hdb (X.keeps k) (hlim.keeps k) (hgl.keeps k) ?_ hget hnx hnC ?_ (fun oc od fd osl lk => T.binds lk hl) fun h' tk' od t1 S => ?_
  · obtain ⟨mb, b1, b2⟩ := hbl
    exact ⟨mb, b1.keeps k, b2⟩
  · show A.depth + 1 < recursionLimit
    exact hroom
  · have old : ∀ b o, hp.get? b = some o → h'.get? b = some o := fun b o e => S.keep b o (Nat.ne_of_lt (Nat.lt_succ_of_lt (Heap.lt_size e))) (k b o e)
    refine ⟨rfl, hq h' tk' (hp.objs.size + 1) od ⟨old, Nat.le_succ _, ⟨_, S.obj⟩, ?_⟩⟩
    have z := S.dict
    cases od with
    | none => exact z
    | some dx =>
      have y : hp.objs.size + 1 + 1 ≤ dx := by
        first
          | (simpa only [Heap.size_push] using z.2.1)
          | exact z.2.1
          | (have q := z.2.1; rw [Heap.size_push, Heap.size_push] at q; exact q)
      exact ⟨z.1, Nat.le_trans (Nat.le_trans (Nat.le_succ _) (Nat.le_succ _)) y, z.2.2⟩
end
end Fs

namespace Fs
open PySem PySem.Spec PyProof.Rows L2
theorem relO_all : ∀ {ns : List Str} {vs : List V} {us : List Value}, Vals vs us → ∀ (fs : List (Str × V)) (m : Str → Option Value), (∀ f, RelO (fs.lookup f) (m f)) → ∀ f, RelO (((ns.zip vs).foldl (fun r p => p :: r) fs).lookup f) (putAll (ns.zip us) m f)
  | [], vs, us, r, fs, m, h, f => by simpa [putAll] using h f
  | n :: ns, [], us, r, fs, m, h, f => by cases r; simpa [putAll] using h f
  | n :: ns, v :: vs, us, r, fs, m, h, f => by
    cases r with
    | cons rv r =>
      rename_i u us
      show RelO (List.lookup f (List.foldl _ ((n, v) :: fs) (ns.zip vs))) (putAll (ns.zip us) (fun y => if y = n then some u else m y) f)
      exact relO_all r _ _ (fun g => relO_put rv h g) f
/-- the fields of an exception -/
def fldsOf (ns : List Str) (vs : List V) : List (Str × V) := (ns.zip vs).foldl (fun r p => p :: r) []
def mkQ (C : Addr) (ns : List Str) (vs : List V) (H : Hp) (Q : XK) : Prop := match ns with
  | [] => Q (.ref C) none H
  | _ => ∀ d, H d = none → Q (.ref C) (some d) (upd H d (.xd (fldsOf ns vs)))
/-- C(e, ..) -/
def tMkS (C : Addr) (ns : List Str) (ta : TA) : L2.St → Hp → XK → Prop := fun σ H Q => ta σ H fun vs H1 => match decide (vs.length = ns.length) with
  | true => mkQ C ns vs H1 Q
  | false => False
section
variable {X : Cx} {C fI : Addr} {names : List Str} {x : Str} {e : Expr} {es : List Expr} {ta : TA} {p pos : Pos} {k : Nat}
theorem mks_end {pins : List (Addr × Obj)} {σ : L2.St} {H1 : Hp} {Q : XK} {s1 : Shared} {vs : List V} {us : List Value} {h' : Heap} {tk' : Tok} {a : Addr} {od : Option Addr} (T : SxTxt X.prog X.K X.mg C fI names) (I1 : Inv X pins σ H1 s1) (r : Vals vs us) (hl : us.length = names.length)
    (M : SxMade s1.heap h' a C od (names.zip us)) (h : mkQ C names vs H1 Q) : MkP X pins σ Q (.ref a) { s1 with heap := h', toks := tk' } := by
  obtain ⟨hp, g, dr, tk, os⟩ := s1
  obtain ⟨t1, hoe⟩ := M.obj
  have hna : H1 a = none := I1.hok.fresh M.new
  obtain ⟨G', g1, g2⟩ := restrict h' fun b => decide (b ≠ a)
  have gk : ∀ b, b ≠ a → G'.get? b = h'.get? b := fun b hb => g1 b (decide_eq_true hb)
  have ge : G'.get? a = none := g2 a (by simp)
  have old : ∀ b o, hp.get? b = some o → G'.get? b = some o := fun b o q => (gk b (Nat.ne_of_lt (Nat.lt_of_lt_of_le (Heap.lt_size q) M.new))).trans (M.keep b o q)
  have kG : ∀ b o, G'.get? b = some o → h'.get? b = some o := fun b o q => by
    by_cases hb : b = a
    · rw [hb, ge] at q; cases q
    · exact (gk b hb).symm.trans q
  have z := M.dict
  cases od with
  | none =>
    have hn0 : names = [] := by
      cases names with
      | nil => rfl
      | cons n ns =>
        cases us with
        | nil => simp at hl
        | cons u us => cases z
    subst hn0
    exact ⟨a, _, _, ⟨G', g, dr, tk', os⟩, H1, .ref C, none, rfl, I1.kept old, kG, ge, hoe, ⟨rfl, rfl⟩, rfl, rfl, hna, rfl, I1.bare, raises_own T.exC T.tyC, h⟩
  | some d =>
    obtain ⟨dz, dn, dne, hns⟩ := z
    have hnd : H1 d = none := I1.hok.fresh dn
    have q : Q (.ref C) (some d) (upd H1 d (.xd (fldsOf names vs))) := by
      cases names with
      | nil => exact absurd rfl dz
      | cons n ns => exact h d hnd
    have ob : ObjOk X.prog X.w (upd H1 d (.xd (fldsOf names vs))) G' d (.xd (fldsOf names vs)) :=
      ⟨_, hns.at (fun o q => (gk d dne).trans q), fun f => relO_all r [] (fun _ => none) (fun _ => (True.intro : RelO none none)) f⟩
    have J : Inv X pins σ (upd H1 d (.xd (fldsOf names vs))) ⟨G', g, dr, tk', os⟩ := I1.laid (t' := tk') old dn ob
    refine ⟨a, _, _, ⟨G', g, dr, tk', os⟩, _, .ref C, some d, rfl, J, kG, ge, hoe, ⟨rfl, rfl⟩, rfl, rfl, ?_, rfl, I1.bare, raises_own T.exC T.tyC, q⟩
    rw [upd_ne (Ne.symm dne)]
    exact hna
theorem pmk_sx (T : SxTxt X.prog X.K X.mg C fI names) (hm : X.mg x = some (.ref C)) (hr : Room k X.A) (hz : names.length ≤ 800) (hdb : ∀ n ∈ names, (n == ("__debug__" : Str)) = false) (ha : PA X (e :: es) ta) (hg : Gl X x := by rfl) (hd : (x == ("__debug__" : Str)) = false := by decide)
    (he : starEach (e :: es) X.env = (false, eval e X.env) :: starEach es X.env := by rfl) (hpl : (backTo pos (starEach es X.env)).any (·.1) = false := by rfl) : PMk X (.Call (.Name x p) (e :: es) [] pos) (tMkS C names ta) := by
  intro pins s σ H Q I h
  refine wpAny_Call_Name_kw (ld_glob I hg hm ?_ hd)
  refine PySem.W.callWith_K (h₀ := X.base) I.ok.mod.kin T.kC (thn (ha.run pos pins s σ H _ I h) fun us s1 hh => ?_) he hpl
  obtain ⟨vs, H1, I1, r1, q1⟩ := hh
  refine ⟨I1.kIn, ?_⟩
  show wpAny _ _ (call (.ref C) us) _ _ _
  split at q1
  · rename_i hl
    have hl' : us.length = names.length := by rw [← r1.length]; exact of_decide_eq_true hl
    refine wpAny_call (sx_made T hl' hz hdb I1.kIn I1.nolimit (I1.mod.glob.keeps I1.bk) ?_ (by have := hr.dp; omega) fun h' tk' a od M => ?_)
    · obtain ⟨mb, b1, b2⟩ := I1.mod.blt
      exact ⟨mb, b1.keeps I1.bk, b2⟩
    · exact mks_end T I1 r1 hl' M q1
  · exact q1.elim
end
end Fs

namespace Fs
open PySem PySem.Spec PyProof.Rows L2
/-- a caught exception of the class cls with the dict d, at a -/
def EXO (cls : Value) (d : Option Addr) (a : Addr) : HO := .ext fun h => ∃ (oe : Obj) (vs : Array Value), h.get? a = some oe ∧ Zc cls d oe ∧ oe.data = .fields vs
theorem EXO_ne_lst {cls d a xs} : EXO cls d a ≠ .lst xs := fun z => by unfold EXO at z; cases z
theorem EXO_ne_tup {cls d a xs} : EXO cls d a ≠ .tup xs := fun z => by unfold EXO at z; cases z
theorem EXO_ne_own {cls d a x} : EXO cls d a ≠ .own x := fun z => by unfold EXO at z; cases z
theorem exo_okT {P : Program} {w : World} {H : Hp} {h : Heap} {a : Addr} {cls : Value} {d : Option Addr} {oe : Obj} {vs : Array Value} (e : h.get? a = some oe) (z : Zc cls d oe) (hd : oe.data = .fields vs) : ObjOk P w H h a (EXO cls d a) :=
  ⟨⟨oe, vs, e, z, hd⟩, ⟨oe, e⟩, fun _ _ ⟨o, v, q, r⟩ k => ⟨o, v, k o q, r⟩⟩
section
variable {X : Cx} {pins : List (Addr × Obj)} {σ : L2.St} {H : Hp} {s : Shared}
theorem claim {a : Addr} {oe : Obj} {vs : Array Value} {cls : Value} {d : Option Addr} (I : Inv X pins σ H s) (ha : s.heap.get? a = some oe) (hz : Zc cls d oe) (hd : oe.data = .fields vs) (na : H a = none) (n0 : X.s_0.heap.get? a = none) (nL : a ≠ X.env.locals)
    (np : ∀ p ∈ X.pn ++ pins, p.1 ≠ a) : Inv X pins σ (upd H a (EXO cls d a)) s := by
  have ne0 : ∀ b o, X.s_0.heap.get? b = some o → b ≠ a := fun b o e z => by
    rw [z, n0] at e; cases e
  have neS : ∀ b u, H b = some u → b ≠ a := fun b u e => ne_of_none e na
  have ncell : ∀ x c, X.env.cells.lookup x = some c → c ≠ a := fun x c e z => by
    obtain ⟨v, o, ho, hdo⟩ := I.cell x c e
    rw [z, ha] at ho; cases ho
    rw [hd] at hdo; cases hdo
  refine ⟨I.ok, I.os, I.bare, ⟨I.base.keep, I.base.slot, fun b o e n hx => ?_, I.base.there, fun b xs e => ?_, fun b o u e => ?_, fun b ps e => ?_⟩, I.loc, I.cell, ?_, fun x c e => ?_, fun p hp => ?_, fun b u e => ?_, I.len⟩
  · rw [upd_ne (ne0 b o e)]; exact I.base.free b o e n hx
  · have q := I.base.tups b xs e
    rw [upd_ne (neS b _ q)]; exact q
  · have q := I.base.frzs b o u e
    rw [upd_ne (neS b _ q)]; exact q
  · obtain ⟨more, q⟩ := I.base.tbls b ps e
    exact ⟨more, by rw [upd_ne (neS b _ q)]; exact q⟩
  · rw [upd_ne (Ne.symm nL)]; exact I.free
  · rw [upd_ne (ncell x c e)]; exact I.freeC x c e
  · obtain ⟨e, n, r⟩ := I.pin p hp
    exact ⟨e, by rw [upd_ne (np p hp)]; exact n, r⟩
  · by_cases hb : b = a
    · subst hb
      rw [upd_same] at e
      cases e
      exact exo_okT ha hz hd
    · rw [upd_ne hb] at e
      exact (I.hok b u e).stay (fun _ _ _ q => q) (fun c q => by rw [upd_ne (neS c _ q)]; exact q) fun c xs q => by rw [upd_ne (neS c _ q)]; exact q
end
/-- what the clause 'except x as n' wishes of an exception of the body: the exception is known behind the suite, too -/
def wKp (K : PySem.W.Frag) (c : Value) (i : Nat) (ts : Addr → Value → Option Addr → TS) (Wout : WX) (D : Ends) : WX := fun cls d σ H => match PySem.W.exmOne K cls c with
  | some true => ∀ a, H a = none → ts a cls d { nx := fun σ' H' => D.nx (σ'.set i none) (upd H' a (EXO cls d a)), rt := fun v H' => D.rt v (upd H' a (EXO cls d a)), bk := fun σ' H' => D.bk (σ'.set i none) (upd H' a (EXO cls d a)), ct := fun σ' H' => D.ct (σ'.set i none) (upd H' a (EXO cls d a)) } (σ.set i (some (.ref a))) H
  | some false => Wout cls d σ H
  | none => False
section
variable {X : Cx} {x n : Str} {c : Value} {i : Nat} {body suite : List Stmt} {b₀ : Stmt} {np pos pos' : Pos} {tb : WX → TS} {ts : Addr → Value → Option Addr → TS} {Wout : WX}
theorem ps_try_keep (hs : X.stack = X.env :: X.outer) (hf : X.env.frame = some X.env.locals) (hex : X.ex = []) (hN : X.N.Nodup) (hi : X.N[i]? = some n) (hln : X.env.kindOf n = some .local) (hc : Names X x c) (tk : Takes X Wout)
    (hb : ∀ (W : WX) (pn : List (Addr × Obj)) (xe : Value → Shared → Prop), Takes (X.tr pn xe) W → PassesOwn (model X.prog X.w) X.A X.env xe → PSs (X.tr pn xe) body (tb W))
    (hsu : ∀ (a : Addr) (oe : Obj) (cls : Value) (d : Option Addr) (pn : List (Addr × Obj)), Zc cls d oe → (∃ vs, oe.data = .fields vs) → PSs (X.suite a ((a, oe) :: pn)) (b₀ :: suite) (ts a cls d)) :
    PS X (.Try body [.ExceptHandler (some (.Name x np)) (some n) (b₀ :: suite) pos'] [] [] pos) (fun D σ H => tb (wKp X.K c i ts Wout D) D σ H) := by
  refine ⟨fun pins s σ H D I h => ?_⟩
  have ok := I.ok
  have hfr : X.A.frames = some (X.env :: X.outer) := by rw [ok.frames, hs]
  have hloc : Loc X.env.scope n := .inl hln
  refine wpAny_Try_except ?_
  refine wpAny_mono ((hb (wKp X.K c i ts Wout D) (X.pn ++ pins) (fun e s₁ => wpAny (model X.prog X.w) X.A (noteFrame e X.env) (fun _ s₂ => wpAny (model X.prog X.w) X.A (setFlight e none) (fun _ s₃ =>
    wpAny (model X.prog X.w) X.A (handleBy e X.env [.ExceptHandler (some (.Name x np)) (some n) (b₀ :: suite) pos']) (SP X pins D) X.xe s₃) X.xe s₂) X.xe s₁) (fun u s' xx => ?_) PassesOwn.looking).run [] s σ H D (I.toTry _) h) (fun f s1 hsp => ?_) (fun e s1 he => he)
  · obtain ⟨a, B, sI, pins', σ', H', cls, d, rfl, J', nb, up, sky, na, os, ag, hw⟩ := xx
    have J : Inv X pins σ' H' sI := J'.ofTry ok
    have sky' : Sky B (X.env :: X.outer) a (Zc cls d) X.env.locals s'.heap := by rw [← hs]; exact sky
    show wpAny (model X.prog X.w) X.A (noteFrame (.ref a) X.env) _ _ _
    refine Sky.land Zc.steady hfr hf sky' fun h3 fl3 up3 => ?_
    have J3 : Inv X pins σ' H' { s' with heap := h3 } := J.landed nb fl3.1 (up.trans up3) os ag
    obtain ⟨oe3, vs3, he3, hz3, hd3⟩ := fl3.there
    have notFr : ∀ {h : Heap} {o : Obj} {vs : Array Value}, h.FunFrames B (X.env :: X.outer) → h.get? a = some o → o.data = .fields vs → a ∉ frs (X.env :: X.outer) := fun {h o vs} ff e dd hm => by
      obtain ⟨_, o', e', hnf⟩ := ff.mem hm
      rw [e] at e'; cases e'
      exact hnf _ dd
    have nfr := notFr fl3.2.2.1 he3 hd3
    have nL : a ≠ X.env.locals := fun z => nfr (List.mem_filterMap.mpr ⟨X.env, List.mem_cons_self, by rw [hf, z]⟩)
    have nF : a ∉ X.fs := fun hm => by
      obtain ⟨e, he, q⟩ := List.mem_filterMap.mp hm
      exact nfr (List.mem_filterMap.mpr ⟨e, List.mem_cons_of_mem _ he, q⟩)
    have nB : B.get? a = none := fl3.2.1
    have n0 : X.s_0.heap.get? a = none := by
      cases e : X.s_0.heap.get? a with
      | none => rfl
      | some o =>
        obtain ⟨o', e'⟩ := J.base.there a o e (by rw [hex]; exact fun z => nomatch z)
        have z := nb a o' e' (by rw [hs]; exact nfr)
        rw [nB] at z; cases z
    have npin : ∀ p ∈ X.pn ++ pins, p.1 ≠ a := fun p hp z => by
      obtain ⟨e, _, _, _, _⟩ := J.pin p hp
      have y := nb p.1 p.2 e (by rw [z, hs]; exact nfr)
      rw [z, nB] at y; cases y
    have S3 := J3.suite he3 hd3 na nL nF
    refine wpAny_handleBy_cons (codeAny_handlers_test ?_) (by intro q; cases q)
    have LT : PySem.W.Looks (model X.prog X.w) h3 (typeOf (.ref a)) cls := fun A Q E s k q => wpAny_typeOf_ref (k _ _ he3) (by rw [hz3.1]; exact q)
    have test : ∀ {Q : Value → Shared → Prop} {E : Value → Shared → Prop}, Q c { s' with heap := h3 } → wpAny (model X.prog X.w) (X.A.mark (some (.ref a))) (eval (.Name x np) X.env) Q E { s' with heap := h3 } := fun {Q E} q => by
      obtain ⟨hg, hdbg, hm | ⟨hm, hv, hnn⟩⟩ := hc
      · exact ld_glob (X := X.suite a ((a, oe3) :: (X.pn ++ pins))) S3 hg hm q hdbg
      · exact ld_blt (X := X.suite a ((a, oe3) :: (X.pn ++ pins))) S3 hg hm hv q hnn hdbg
    unfold wKp at hw
    cases hb1 : PySem.W.exmOne X.K cls c with
    | none => rw [hb1] at hw; exact hw.elim
    | some b =>
    rw [hb1] at hw
    have LM := PySem.W.exm_one (M := model X.prog X.w) (J3.kIn) LT hb1
    refine test (LM.here ?_)
    cases b with
    | true =>
      refine codeAny_handlers_suite_as ?_
      refine HandSPX.lands_againZ fl3 fun h4 fl4 up4 => ?_
      have J4 : Inv X pins σ' H' { s' with heap := h4 } := J.landed nb fl4.1 ((up.trans up3).trans up4) os ag
      obtain ⟨oe4, vs4, he4, hz4, hd4⟩ := fl4.there
      have S4 := J4.suite he4 hd4 na nL nF
      refine store_ok (X := X.suite a ((a, oe4) :: (X.pn ++ pins))) (v := .ref a) S4 hN hi hloc rfl (fun s5 S5 => ?_) (.inr hln)
      refine wpAny_mono ((hsu a oe4 cls d (X.pn ++ pins) hz4 ⟨_, hd4⟩).run [] s5 _ H' _ S5 (hw a na)) (fun f s6 hsp => ?_) (fun _ _ z => False.elim z)
      have end_ : ∀ {σ6 : L2.St} {H6 : Hp} {Q : Shared → Prop}, Inv (X.suite a ((a, oe4) :: (X.pn ++ pins))) [] σ6 H6 s6 → (∀ s7, Inv X pins (σ6.set i none) (upd H6 a (EXO cls d a)) s7 → Q s7) →
          wpAny (model X.prog X.w) X.A (do bindName X.env n .none; unbindBehindTheSuite X.env n pos') (fun _ s7 => Q s7) X.xe s6 := fun {σ6 H6 Q} S6 hq => by
        obtain ⟨e6, n6, _⟩ := S6.pin (a, oe4) (List.mem_append_left _ List.mem_cons_self)
        exact gone_ok (claim (S6.unsuite ok) e6 hz4 hd4 n6 n0 nL npin) hN hi hln hq
      cases f with
      | next =>
        obtain ⟨σ6, H6, S6, q6⟩ := hsp
        exact end_ S6 fun s7 J7 => ⟨_, _, J7, q6⟩
      | brk =>
        obtain ⟨σ6, H6, S6, q6⟩ := hsp
        exact end_ S6 fun s7 J7 => ⟨_, _, J7, q6⟩
      | cont =>
        obtain ⟨σ6, H6, S6, q6⟩ := hsp
        exact end_ S6 fun s7 J7 => ⟨_, _, J7, q6⟩
      | ret u =>
        obtain ⟨v6, σ6, H6, S6, r6, q6⟩ := hsp
        exact end_ S6 fun s7 J7 => ⟨_, _, _, J7, r6, q6⟩
    | false =>
      show wpAny _ X.A (handleBy (.ref a) X.env []) _ _ _
      refine wpAny_handleBy_nil ?_
      obtain ⟨k1, k2, k3, oe, vs, T, oT, ts', he, hz, hd, h1, hr⟩ := id fl3
      unfold PySem.passOn
      refine wpAny_bind (wpAny_field he hd h1 ?_)
      rw [if_neg (show ¬ ((Value.ref T == Value.none) = true) from by simp)]
      have fin : wpAny (model X.prog X.w) X.A (setFlight (.ref a) X.env.frame) (fun _ s4 => wpAny (model X.prog X.w) X.A (throw (.ref a) : Sem Flow) (SP X pins D) X.xe s4) X.xe { s' with heap := h3 } := by
        rw [hf]
        refine HandSPX.setFlight_upZ fl3 fun h4 hh4 up4 => wpAny_throw (tk _ _ ?_)
        exact ⟨a, B, sI, pins, σ', H', cls, d, rfl, J, nb, (up.trans up3).trans up4, .inr (.inr (by rw [hs]; exact hh4)), na, os, ag, hw⟩
      first
        | exact wpAny_bind (wpAny_pure (wpAny_bind fin))
        | exact wpAny_bind fin
  · cases f with
    | next =>
      obtain ⟨σ', H', J', q⟩ := hsp
      exact wpAny_execs_nil ⟨σ', H', J'.ofTry ok, q⟩
    | brk =>
      obtain ⟨σ', H', J', q⟩ := hsp
      exact ⟨σ', H', J'.ofTry ok, q⟩
    | cont =>
      obtain ⟨σ', H', J', q⟩ := hsp
      exact ⟨σ', H', J'.ofTry ok, q⟩
    | ret u =>
      obtain ⟨v, σ', H', J', r, q⟩ := hsp
      exact ⟨v, σ', H', J'.ofTry ok, r, q⟩
end
/-- e.f, e a caught exception -/
def tXo (K : PySem.W.Frag) (f : Str) (te : TE) : TE := fun σ H Q => te σ H fun x H1 => match x with
  | .ref a => ∃ (C d : Addr) (fs : List (Str × V)), H1 a = some (EXO (.ref C) (some d) a) ∧ H1 d = some (.xd fs) ∧ XfC K C ∧ PySem.W.findIn K (.ref C) f = some none ∧ (match fs.lookup f with | some v => Q v H1 | none => False)
  | _ => False
theorem pe_xo {X : Cx} {e : Expr} {te : TE} {pos : Pos} {n : Str} (he : PE X e te) (hb : attributeBase e n X.env (eval e X.env) = eval e X.env := by rfl) : PE X (.Attribute e n pos) (tXo X.K n te) := by
  refine ⟨fun pins s σ H Q I h => ?_⟩
  refine attr_of hb (thn (he.run pins s σ H _ I h) fun u s1 hh => ?_)
  obtain ⟨x, H1, I1, rx, q⟩ := hh
  split at q
  · rename_i a
    obtain ⟨C, d, fs, ea, ed, T, hno, q⟩ := q
    obtain rfl : u = Value.ref a := rx
    split at q
    · rename_i v l
      obtain ⟨⟨oe, vs, ha, hz, hd⟩, _, _⟩ := (show ObjOk X.prog X.w H1 s1.heap a (EXO (.ref C) (some d) a) from I1.hok a _ ea)
      have hx : ObjOk X.prog X.w H1 s1.heap d (.xd fs) := I1.hok d _ ed
      obtain ⟨mA, hns, hr⟩ := hx
      obtain ⟨od, ho, hl⟩ := lookIn_ns hns
      obtain ⟨u, hu, ru⟩ := RelO.some_of (v := v) (o := mA n) (by rw [← l]; exact hr n)
      have J : PySem.W.InstAt s1.heap a oe C (some od) := ⟨ha, hz.1, by unfold PySem.W.notCls; rw [hd] <;> rfl, by rw [hz.2]; exact ho⟩
      exact HandSPX.exc_get I1.kIn J T.ga T.gg T.exC (PySem.W.findObj_own T.hdC hno rfl (by rw [hl, hu])) (handed_of ru) ⟨v, H1, I1.tok _, ru, q⟩
    · exact q.elim
  · exact q.elim
theorem kit_exc {X : Cx} {pins : List (Addr × Obj)} {σ : L2.St} {H : Hp} {s : Shared} {a C : Addr} {d : Option Addr} (I : Inv X pins σ H s) (T : ExcC X.K C) (ea : H a = some (EXO (.ref C) d a)) (ed : ∀ dd, d = some dd → ∃ fs, H dd = some (.xd fs)) :
    ∃ P : Heap → Prop, PySem.W.KitX X.K (.ref a) (.ref C) P ∧ P s.heap := by
  obtain ⟨⟨oe, vs, ha, hz, hd⟩, _, _⟩ := (show ObjOk X.prog X.w H s.heap a (EXO (.ref C) d a) from I.hok a _ ea)
  have key : ∀ od : Option Obj, PySem.W.InstAt s.heap a oe C od → ∃ P : Heap → Prop, PySem.W.KitX X.K (.ref a) (.ref C) P ∧ P s.heap := fun od J =>
    ⟨fun h => PySem.W.InstAt h a oe C od, {
      ty := fun _ _ _ I => I.type
      it := fun _ _ X _ => by
        obtain ⟨cdD, hcD, _⟩ := PySem.W.any_some T.hd
        unfold PySem.W.clsIn at hcD
        split at hcD
        · rename_i c' d' cd' sl' ho
          intro A' Q' E' s' k q
          unfold isType loadHead
          exact wpAny_bind (wpAny_loadPart (k _ _ (X _ _ ho)) (wpAny_pure q))
        · cases hcD
      ne := fun h tp dd its n sl X htp => by
        obtain ⟨cdD, hcD, _⟩ := PySem.W.any_some T.hd
        refine Bool.eq_false_iff.mpr fun q => ?_
        have e : C = tp := Value.ref.inj (beq_iff_eq.mp q)
        subst e
        unfold PySem.W.clsIn at hcD
        split at hcD
        · rename_i c' d' cd' sl' ho
          have z := (X _ _ ho).symm.trans htp
          cases z
        · cases hcD
      ca := fun X I k => PySem.W.kx_classE X I T.hg T.hk T.hs (PySem.W.findObj_dataE (by obtain ⟨cd, hc, _⟩ := PySem.W.any_some T.hd; rw [hc]; rfl) T.ha T.hn T.ht) T.hm k }, J⟩
  cases d with
  | none => exact key none ⟨ha, hz.1, by unfold PySem.W.notCls; rw [hd] <;> rfl, by rw [hz.2]; trivial⟩
  | some dd =>
    obtain ⟨fs, e2⟩ := ed dd rfl
    obtain ⟨mA, hns, hr⟩ := (show ObjOk X.prog X.w H s.heap dd (.xd fs) from I.hok dd _ e2)
    obtain ⟨od, ho, hl⟩ := lookIn_ns hns
    exact key (some od) ⟨ha, hz.1, by unfold PySem.W.notCls; rw [hd] <;> rfl, by rw [hz.2]; exact ho⟩
/-- isinstance(e, c), e a caught exception, c a class or a tuple of such -/
def mIsx (K : PySem.W.Frag) : List V → Hp → VK → Prop := fun xs H Q => match xs with
  | [.ref a, c] => ∃ (C : Addr) (d : Option Addr), H a = some (EXO (.ref C) d a) ∧ ExcC K C ∧ (∀ dd, d = some dd → ∃ fs, H dd = some (.xd fs)) ∧ (match c with
    | .ref t => (match H t with
      | some (.tup cs) => ∃ us b, clsOfs cs = some us ∧ PySem.W.kitAny K (.ref C) us = some b ∧ Q (.bl b) H
      | _ => ∃ b, PySem.W.kitOne K (.ref C) (.ref t) = some b ∧ Q (.bl b) H)
    | .ty m => ∃ b, PySem.W.kitOne K (.ref C) (.type m) = some b ∧ Q (.bl b) H
    | _ => False)
  | _ => False
theorem call_mIsx {X : Cx} : CallR X (.builtin "isinstance") (mIsx X.K) := by
  intro pins s σ H xs us Q I r h
  unfold mIsx at h
  split at h
  · rename_i a c
    obtain ⟨C, d, ea, T, ed, h⟩ := h
    obtain ⟨u1, u2, rfl, r1, r2⟩ := vals2 r
    obtain rfl : u1 = Value.ref a := r1
    obtain ⟨P, Z, p⟩ := kit_exc I T ea ed
    split at h
    · rename_i t
      obtain rfl : u2 = Value.ref t := r2
      split at h
      · rename_i cs hT
        obtain ⟨ws, b, k, e, q⟩ := h
        obtain ⟨_, its, rv, o, h1, h2, n, h3⟩ := (show ObjOk X.prog X.w H s.heap t (.tup cs) from I.hok t _ hT)
        have e3 := ClsV.all (clsOfs_v k) rv
        subst e3
        obtain ⟨oc, od, dt, sl⟩ := o
        simp only at h2 h3
        subst h2 h3
        exact PySem.W.kia_tup Z I.kIn p h1 e (fun z => nomatch z) fun tk => ⟨.bl b, H, I.tok tk, rfl, q⟩
      · obtain ⟨b, e, q⟩ := h
        exact PySem.W.kia_one Z I.kIn p e (fun z => nomatch z) fun tk => ⟨.bl b, H, I.tok tk, rfl, q⟩
    · rename_i m
      obtain ⟨b, e, q⟩ := h
      obtain rfl : u2 = Value.type m := r2
      exact PySem.W.kia_one Z I.kIn p e (fun z => nomatch z) fun tk => ⟨.bl b, H, I.tok tk, rfl, q⟩
    · exact h.elim
  · exact h.elim
end Fs

namespace Fs
open PySem PySem.Spec PyProof.Rows L2
open LamX (CodeO Tabs TabS ExtN TabB LamS lamCx lamEnv)
/-- x() of the lambda at f, whose code object is at cl; tl: the lambda's reading, told at the maker's slots -/
def tAct (f cl : Addr) (q : Str) (tl : XK → Hp → VK → Prop) (W : WX) : TE := fun σ H Q => σ[0]? = some (some (.ref f)) ∧ H cl = some (CodeO cl q) ∧ tl (WE W σ) H Q
abbrev hearCx (X : Cx) (Ng : List Str) (x : Str) (sg : Scope) (g : Addr) (cdg : Value) (s : Shared) (H : Hp) : Cx := cxOf C8.CX0 X.prog X.w X.K X.mg X.base Ng x sg g cdg X.A X.stack s H C8.E0
section
variable {X : Cx} {pins : List (Addr × Obj)} {σ : L2.St} {H : Hp} {s : Shared}
theorem pe_actS {Ng : List Str} {x : Str} {sg : Scope} {g f cl : Addr} {cdg pm ctv : Value} {params : Arguments} {body : Expr} {scope : Scope} {k : Nat} {a : Str} {pn : List (Addr × Obj)} {xe : Value → Shared → Prop} {W : WX} {tb : XK → TE} {p1 p2 : Pos}
    (I : Inv X pins σ H s) (L : LamS X.env.scope scope)
    (hf : s.heap.get? f = some (PySem.W.kla_obj "<lambda>" (X.env.qual ++ "<lambda>") params body scope (cloFrom X.env.cells scope.names []) pm cl ctv)) (fn : H f = none) (fr : f ∉ frs X.stack)
    (hbind : bindArgs (PySem.W.kla_fn "<lambda>" (X.env.qual ++ "<lambda>") params body scope (cloFrom X.env.cells scope.names []) pm (.ref cl) ctv) ⟨[], []⟩ = pure [])
    (tk : Takes ((hearCx X Ng x sg g cdg s H).tr pn xe) W) (hr : Room (k + 1) (X.A.deeper (envOfC x sg s.heap.objs.size g cdg)))
    (hbody : ∀ (A : Around) (outer : List Env) (sb : Shared) (Hb : Hp) (E : XK), Room k (A.deeper (lamEnv X scope sb.heap.objs.size f cl)) → PE (lamCx X A outer sb Hb E scope f cl) body (tb E))
    (hN : Ng[0]? = some a) (hv : Vis sg a) (hd : (a == ("__debug__" : Str)) = false := by decide) (hcd : (a == ("__classdict__" : Str)) = false := by decide) :
    PE ((hearCx X Ng x sg g cdg s H).tr pn xe) (.Call (.Name a p1) [] [] p2) (tAct f cl (X.env.qual ++ "<lambda>") (fun E HZ Q => tb E σ HZ Q) W) := by
  refine ⟨fun pinsZ sZ σZ HZ Q IZ h => ?_⟩
  obtain ⟨h0, hc, ht⟩ := h
  have hvar := (pe_var (X := (hearCx X Ng x sg g cdg s H).tr pn xe) (pos := p1) (i := 0) hN hv hd hcd).run pinsZ sZ σZ HZ (fun v H1 => v = .ref f ∧ H1 = HZ) IZ ⟨.ref f, h0, rfl, rfl⟩
  refine wpAny_Call_Name_kw (thn hvar fun u s1 hu => ?_)
  obtain ⟨v, H1, I1, r1, ev, eH⟩ := hu
  rw [eH] at I1
  rw [ev] at r1
  have eu : u = Value.ref f := r1
  rw [eu]
  have of1 := I1.base.keep f _ hf fn fr (fun z => nomatch (show f ∈ ([] : List Addr) from z))
  refine PySem.W.callWith_F0 ⟨_, _, _, _, of1⟩ ?_
  have un : Un (frs X.stack) [] H HZ s.heap s1.heap := I1.base
  obtain ⟨⟨oc, vs, t, hoc, hdc, hvc⟩, _, _⟩ := I1.hok cl _ hc
  have run : codeAny (model X.prog X.w) (X.A.deeper (envOfC x sg s.heap.objs.size g cdg)) (.call (.ref f) ⟨[], []⟩) (CR (L2.CX X.prog X.w) (envOfC x sg s.heap.objs.size g cdg :: X.stack) X.prog X.w HZ s1 Q (WE W σZ)) s1 := by
    refine PySem.W.kla_callFunE hr.depth of1 rfl L.co L.gen rfl ⟨cl, oc, vs, t, rfl, hoc, hdc, hvc⟩ ?_
    rw [hbind]
    refine wpAny_pure (wpAny_newFunctionEnv (fun y hy => (L.own y hy).2) (fun y hy => absurd hy (by simp)) (fun hz hns hsb => ?_) L.kind)
    refine ⟨I1.nolimit.fresh _ hsb, ?_⟩
    show codeAny _ _ (.expr body (lamEnv X scope s1.heap.objs.size f cl)) _ _
    have kp : ∀ b o, s1.heap.get? b = some o → hz.get? b = some o := fun b o e => hsb.extBut b o (Nat.ne_of_lt (Heap.lt_size e)) (Heap.get?_push_of_some _ e)
    have J := LamX.lam_start2 (E := WE W σZ) (f := f) (c' := cl) (tk := s1.toks + ([] : List (Str × Value)).length) I L I1.env0 hr.hd un hns kp
    refine PySem.W.kla_codeExpr (wpAny_mono ((hbody _ _ s1 HZ (WE W σZ) (hr.deeper _)).run [] _ _ HZ Q J ht) (fun v s' hq => ?_) fun e s' hq => hq)
    obtain ⟨y, H2, J2, rv, q⟩ := hq
    exact ⟨y, H2, J2.os, J2.bare, J2.base, J2.hok, rv, q⟩
  have hx := passAt tk σZ
  refine wpAny_call (codeAny_mono run fun r s' hq => ?_)
  match r, hq with
  | .error e, hq => exact hx pinsZ HZ s1 e s' I1 hq
  | .ok (.ret u), hq => exact I1.after hq
  | .ok .next, hq => exact False.elim hq
  | .ok .brk, hq => exact False.elim hq
  | .ok .cont, hq => exact False.elim hq
end
/-- from H to H1 where a lambda of the name q is made: nothing new but a code object at cl, perhaps; the table told of it -/
def LamTo (T : List (Addr × Str)) (q : Str) (H H1 : Hp) (cl : Addr) : Prop := H1 cl = some (CodeO cl q) ∧ Tabs T H1 ∧ (H1 = H ∨ ∃ (P : Addr) (ps more : Array Value), (P, q) ∈ T ∧ H P = some (.tbl ps) ∧ H cl = none ∧ H1 = upd (upd H P (.tbl (ps ++ more))) cl (CodeO cl q))
section
variable {X : Cx} {pins : List (Addr × Obj)} {σ : L2.St} {H : Hp} {s : Shared}
theorem lam_made {T : List (Addr × Str)} {c P : Addr} {params : Arguments} {body : Expr} {scope : Scope} {pos : Pos} {E : Value → Shared → Prop} {Q : Value → Shared → Prop} (I : Inv X pins σ H s) (TB : TabB X.base X.mg c P) (hcode : X.env.code = .ref c)
    (hm : (P, X.env.qual ++ "<lambda>") ∈ T) (hu : ∀ p ∈ T, p.1 = P → p.2 = X.env.qual ++ "<lambda>") (hT : Tabs T H) (hdef : defaultsOf params X.env = ([], [])) (hfree : ∀ y ∈ scope.names, y.2 = .free → ∃ c, X.env.cells.lookup y.1 = some c)
    (h : ∀ (f cl : Addr) (pm ctv : Value) (H1 : Hp) (s1 : Shared), Inv X pins σ H1 s1 → LamTo T (X.env.qual ++ "<lambda>") H H1 cl →
      s1.heap.get? f = some (PySem.W.kla_obj "<lambda>" (X.env.qual ++ "<lambda>") params body scope (cloFrom X.env.cells scope.names []) pm cl ctv) → H1 f = none → f ∉ frs X.stack → Q (.ref f) s1) :
    wpAny (model X.prog X.w) X.A (eval (.Lambda params body scope pos) X.env) Q E s := by
  obtain ⟨ps, hP, ht, ha⟩ := hT _ hm
  refine PySem.W.kla_eval hdef ?_
  have atP : s.heap.get? P = some { cls := .none, data := .fields ps } := I.hok P _ hP
  have young : ∀ f, s.heap.objs.size ≤ f → f ∉ frs X.stack := fun f hf z => (List.mem_cons.mp (I.stkSub _ z)).elim (fun e => by
    have l := I.lt
    rw [← e] at l
    exact absurd (Nat.lt_of_lt_of_le l hf) (Nat.lt_irrefl _)) (I.nofs hf)
  match hc : codeAmong pos ps.toList with
  | some cv =>
    obtain ⟨cl, e, hco⟩ := ha pos cv hc
    cases e
    refine PySem.W.kla_makeFunctionHit (mg := X.mg) (c := c) (P := P) (ps := ps) (closure_ok hfree) I.ok.glob (I.mod.glob.keeps I.bk) hcode (TB.code.keeps I.bk) atP ht hc (TB.bm.keeps I.bk) fun ctv hz tk hx hsz => ?_
    refine h hz.objs.size cl ((X.mg "__name__").getD .none) ctv H _ (I.kept (t' := tk) fun b o e => Heap.get?_push_of_some _ (hx b o e)) ⟨hco, hT, .inl rfl⟩ (Heap.get?_push_size _ rfl) (I.hok.fresh hsz) (young _ hsz)
  | none =>
    refine PySem.W.kla_makeFunction (mg := X.mg) (c := c) (P := P) (ps := ps) (closure_ok hfree) I.ok.glob (I.mod.glob.keeps I.bk) hcode (TB.code.keeps I.bk) atP ht hc TB.gP (TB.bm.keeps I.bk) fun cl ctv hz tk hx hge hlt hrec htb => ?_
    obtain ⟨c2, oc, vs, t, e2, hoc, hd, hv⟩ := hrec
    cases e2
    have hsz : s.heap.objs.size ≤ hz.objs.size := Nat.le_trans hge (Nat.le_of_lt hlt)
    have nC : H cl = none := I.hok.fresh hge
    have kept : ∀ b o, H b = some o → (∀ ps, o ≠ .tbl ps) → (upd (upd H P (.tbl (ps ++ #[rawInt pos.line, rawInt pos.col, .ref cl]))) cl (CodeO cl (X.env.qual ++ "<lambda>"))) b = some o := fun b o e n => by
      rw [upd_ne (ne_of_none e nC), upd_ne (fun z => n ps (Option.some.inj (e.symm.trans (by rw [z]; exact hP))))]
      exact e
    refine h hz.objs.size cl ((X.mg "__name__").getD .none) ctv _ _ (LamX.inv_table (t' := tk) (q := X.env.qual ++ "<lambda>") (more := #[rawInt pos.line, rawInt pos.col, .ref cl]) (h' := hz.push (PySem.W.kla_obj "<lambda>" (X.env.qual ++ "<lambda>") params body scope (cloFrom X.env.cells scope.names []) ((X.mg "__name__").getD .none) cl ctv)) I hP
      (fun b o hb e => Heap.get?_push_of_some _ (hx b o hb e)) (Heap.get?_push_of_some _ htb) hge ⟨oc, vs, t, Heap.get?_push_of_some _ hoc, hd, hv⟩) ⟨upd_same, fun p hp => ?_, .inr ⟨P, ps, _, hm, hP, nC, rfl⟩⟩ (Heap.get?_push_size _ rfl) ?_ (young _ hsz)
    · have toL : (ps ++ #[rawInt pos.line, rawInt pos.col, .ref cl]).toList = ps.toList ++ [rawInt pos.line, rawInt pos.col, .ref cl] := by simp
      by_cases hb : p.1 = P
      · rw [hu p hp hb, hb]
        refine ⟨_, by rw [upd_ne (ne_of_none hP nC), upd_same], by rw [toL]; exact PySem.TriplesOk_snoc _ _ _ _ ht, fun p2 cv hcv => ?_⟩
        rw [toL] at hcv
        rcases LamX.among_app _ ht hcv with z | z
        · obtain ⟨c0, e1, e2⟩ := ha p2 cv z
          exact ⟨c0, e1, kept _ _ e2 LamX.codeO_ne⟩
        · exact ⟨cl, z, upd_same⟩
      · obtain ⟨qs, a1, a2, a3⟩ := hT p hp
        refine ⟨qs, by rw [upd_ne (ne_of_none a1 nC), upd_ne hb]; exact a1, a2, fun p2 cv hcv => ?_⟩
        obtain ⟨c0, e1, e2⟩ := a3 p2 cv hcv
        exact ⟨c0, e1, kept _ _ e2 LamX.codeO_ne⟩
    · rw [upd_ne (Nat.ne_of_gt hlt), upd_ne (Nat.ne_of_gt (Nat.lt_of_lt_of_le (Heap.lt_size atP) hsz))]
      exact I.hok.fresh hsz
end
/-- the def x (of one parameter a) whose body is bg reads as rd, whatever lambda it gets -/
def Hears (X : Cx) (k : Nat) (Ng : List Str) (x : Str) (sg : Scope) (g : Addr) (cdg : Value) (bg : List Stmt) (a : Str) (rd : Addr → Addr → Str → (XK → Hp → VK → Prop) → TS) : Prop :=
  ∀ (f cl : Addr) (q : Str) (tl : XK → Hp → VK → Prop) (s : Shared) (H : Hp), Room k (X.A.deeper (envOfC x sg s.heap.objs.size g cdg)) →
    (∀ (W : WX) (pn : List (Addr × Obj)) (xe : Value → Shared → Prop) (p1 p2 : Pos), Takes ((hearCx X Ng x sg g cdg s H).tr pn xe) W → PE ((hearCx X Ng x sg g cdg s H).tr pn xe) (.Call (.Name a p1) [] [] p2) (tAct f cl q tl W)) →
    PSs (hearCx X Ng x sg g cdg s H).nox bg (rd f cl q tl)
/-- x(lambda: e) -/
def tHear (T : List (Addr × Str)) (q : Str) (Ng : List Str) (rd : Addr → Addr → Str → (XK → Hp → VK → Prop) → TS) (t : XK → TE) : TE := fun σ H Q => Tabs T H ∧
  ∀ (f cl : Addr) (H1 : Hp), LamTo T q H H1 cl → rd f cl q (fun E H2 Q2 => t E σ H2 Q2) { nx := fun _ H2 => Q .non H2, rt := Q } (L2.start Ng [.ref f]) H1
section
variable {X : Cx}
theorem pe_hear {T : List (Addr × Str)} {rd : Addr → Addr → Str → (XK → Hp → VK → Prop) → TS} {x a : Str} {g c P : Addr} {k : Nat} {st : Stmt} {fd : FuncData} {Ng : List Str} {params : Arguments} {body : Expr} {scope : Scope} {t : XK → TE} {p lpos pos : Pos}
    (F : Fun X.K x x st g fd) (hm : X.mg x = some (.ref g)) (S : FnScope Ng [a] (defScope st)) (hb : L2.Binds X.K fd [a] []) (hNg : Ng[0]? = some a) (hva : Vis (defScope st) a)
    (hG : ∀ cdg, Hears X (k + 1) Ng x (defScope st) g cdg (defBody st) a rd)
    (TB : TabB X.base X.mg c P) (hcode : X.env.code = .ref c) (hmT : (P, X.env.qual ++ "<lambda>") ∈ T) (hu : ∀ p ∈ T, p.1 = P → p.2 = X.env.qual ++ "<lambda>") (hr : Room (k + 2) X.A) (L : LamS X.env.scope scope) (hdef : defaultsOf params X.env = ([], []))
    (hbind : ∀ (q : Str) (cl : List (Str × Addr)) (pm cv ctv : Value), bindArgs (PySem.W.kla_fn "<lambda>" q params body scope cl pm cv ctv) ⟨[], []⟩ = pure [])
    (hbody : ∀ (A : Around) (outer : List Env) (s : Shared) (H : Hp) (E : XK) (f cl : Addr), Room k (A.deeper (lamEnv X scope s.heap.objs.size f cl)) → PE (lamCx X A outer s H E scope f cl) body (t E))
    (hg : Gl X x := by rfl) (hdb : (x == ("__debug__" : Str)) = false := by decide) (hd : (a == ("__debug__" : Str)) = false := by decide) (hcd : (a == ("__classdict__" : Str)) = false := by decide) :
    PE X (.Call (.Name x p) [.Lambda params body scope lpos] [] pos) (tHear T (X.env.qual ++ "<lambda>") Ng rd t) := by
  obtain ⟨oc, od, kV, doc, pm, an, cdv, ct, osl, rfl, lk, hcd2⟩ := F.ex
  refine ⟨fun pins s σ H Q I h => ?_⟩
  obtain ⟨hT, h⟩ := h
  refine wpAny_Call_Name_kw (ld_glob I hg hm ?_ hdb)
  refine PySem.W.callWith_K I.ok.mod.kin F.kp ?_ (by rfl) (by rfl)
  show wpAny _ _ (spliced ((false, eval (.Lambda params body scope lpos) X.env) :: backTo pos (starEach [] X.env))) _ _ s
  refine Calls.spliced_cons (lam_made I TB hcode hmT hu hT hdef (L.has I.ok) fun f cl pm2 ctv H1 s1 I1 lt hf fn fr => ?_)
  refine Calls.spliced_nil ⟨I1.kIn, ?_⟩
  have run : codeAny (model X.prog X.w) X.A (.call (.ref g) ⟨[.ref f], []⟩) (CR C8.CX0 X.stack X.prog X.w H1 s1 Q C8.E0) s1 := by
    refine LamX.run_ofS (N := Ng) (ps := [a]) (us := [.ref f]) (vs := [.ref f]) lk hcd2 S hr I1.env0 (hb s1 [.ref f] I1.kIn rfl) (.cons rfl .nil) rfl fun hr1 => ?_
    have hP := hG cdv f cl (X.env.qual ++ "<lambda>") (fun E H2 Q2 => t E σ H2 Q2) s1 H1 hr1 fun W pn xe p1 p2 tk =>
      pe_actS I1 L hf fn fr (hbind _ _ _ _ _) tk hr1 (fun A outer sb Hb E hr2 => hbody A outer sb Hb E f cl hr2) hNg hva hd hcd
    exact ⟨_, hP.nox, h f cl H1 lt⟩
  refine wpAny_call (codeAny_mono run fun r s2 hq => ?_)
  match r, hq with
  | .error e, hq => exact (show False from hq).elim
  | .ok (.ret u), hq => exact I1.after hq
  | .ok .next, hq => exact False.elim hq
  | .ok .brk, hq => exact False.elim hq
  | .ok .cont, hq => exact False.elim hq
end
end Fs

namespace Fs
open PySem PySem.Spec PyProof.Rows L2
theorem Held_but {B h h2 : Heap} {l : List Env} {a L C : Addr} {Z : Obj → Prop} {m m2 : Str → Option Value} (x : HandSPX.HeldZ B l a Z L h) (hn : h.Ns C m) (hn2 : h2.Ns C m2) (sb : Heap.SameBut C h h2) (nC : B.get? C = none) : HandSPX.HeldZ B l a Z L h2 := by
  obtain ⟨f1, f2, f3, oe, vs, T, oT, ts, he, hz, hd, h1, hnT, hTe, hT, hdT, h3⟩ := x
  obtain ⟨oC, es, ep, hC, hdC, _⟩ := hn
  have nf : ∀ {b : Addr} {o : Obj} {us : Array Value}, h.get? b = some o → o.data = .fields us → b ≠ C := fun {b o us} e q z => by
    rw [z, hC] at e
    cases e
    rw [hdC] at q
    cases q
  refine ⟨fun b o e => (sb.2 b fun z => ?_).trans (f1 b o e), f2, Heap.FunFrames.sameBut sb hn2 f3, oe, vs, T, oT, ts, (sb.2 a (nf he hd)).trans he, hz, hd, h1, hnT, hTe, (sb.2 T (nf hT hdT)).trans hT, hdT, h3⟩
  rw [z, nC] at e
  cases e
section
variable {X : Cx}
/-- what a block hands on of an exception out of a call -/
theorem blk_fails {EB : XK} {pins : List (Addr × Obj)} {σ : L2.St} {H3 : Hp} {s3 : Shared} {scope : Scope} {cl : List (Str × Addr)} {fp : List Addr} {R : Value → Shared → Prop} (hs : X.stack = X.env :: X.outer) (hf : X.env.frame = some X.env.locals)
    (tk : Takes X (fun cls d _ H => EB cls d H)) (I3 : Inv X pins σ H3 s3) (f3 : ∀ b ∈ fp, FpOk X pins H3 b ∧ b < s3.heap.objs.size) :
    ∀ (pb : List (Addr × Obj)) (σb : L2.St) (HB : Hp) (sB : Shared) (e : Value) (s' : Shared), Inv ((X.blk s3 H3 scope (compEnvC scope cl s3.heap.objs.size X.env) fp).wish R) pb σb HB sB → L2.CX X.prog X.w X.stack HB sB EB e s' →
      notedBy (model X.prog X.w) X.A (compEnvC scope cl s3.heap.objs.size X.env) (CompFails (model X.prog X.w) X.A X.xe (compEnvC scope cl s3.heap.objs.size X.env)) e s' := by
  intro pb σb HB sB e s' IB c
  obtain ⟨a, B, H2, cls, d, rfl, fl, hok, ub, na, os, ag, hE⟩ := c
  generalize hC : s3.heap.objs.size = C at IB ⊢
  have hfr : X.A.frames = some (X.env :: X.outer) := by rw [I3.ok.frames, hs]
  have nCst : C ∉ frs X.stack := fun hm => by
    obtain ⟨_, o, e, _⟩ := I3.stack.mem hm
    have := Heap.lt_size e
    rw [hC] at this
    exact Nat.lt_irrefl _ this
  obtain ⟨mB, hnB, _⟩ := IB.loc
  have hnB : sB.heap.Ns C mB := hnB
  have fC : HB C = none := IB.free
  obtain ⟨oB, esB, epB, hoB, hdB, hrB⟩ := id hnB
  have f2C : H2 C = none := ub.free C oB hoB fC
  have keepC : B.get? C = some oB := ub.keep C oB hoB fC nCst
  obtain ⟨B2, b1, b2⟩ := restrict B fun b => decide (b ≠ C)
  have bC : B2.get? C = none := b2 C (by simp)
  have bk : ∀ b, b ≠ C → B2.get? b = B.get? b := fun b hb => b1 b (decide_eq_true hb)
  have bs : ∀ b o, B2.get? b = some o → B.get? b = some o := fun b o e => by
    by_cases hb : b = C
    · rw [hb, bC] at e; cases e
    · rw [← bk b hb]; exact e
  have fl2 : HandSPX.FlyingZ B2 (X.env :: X.outer) a (Zc cls d) s'.heap := by
    obtain ⟨x1, x2, x3, oe, vs, T, oT, ts, he, hz, hd, h1, hnT, r⟩ := fl
    have nn : ∀ b, B.get? b = none → B2.get? b = none := fun b e => by
      cases q : B2.get? b with
      | none => rfl
      | some o => rw [bs b o q] at e; cases e
    rw [← hs]
    refine ⟨fun b o e => x1 b o (bs b o e), nn a x2, funFrames_none x3 fun b hb => nn b (x3.mem hb).1, oe, vs, T, oT, ts, he, hz, hd, h1, nn T hnT, r⟩
  show wpAny _ _ (noteFrame (.ref a) _) _ _ s'
  rw [noteFrame_env (.ref a) (show (compEnvC scope cl C X.env).frame = X.env.frame from rfl)]
  refine HandSPX.looks_onZ Zc.steady hfr hf fl2 fun h3 held3 up3 => ?_
  have hn3 : h3.Ns C mB := Heap.Ns.upToSlots (show s'.heap.Ns C mB from ⟨oB, esB, epB, fl.1 C oB keepC, hdB, hrB⟩) up3
  refine ⟨mB, hn3, fun h4 m4 hn4 sb4 => ?_⟩
  have held4 := Held_but held3 hn3 hn4 sb4 bC
  unfold PySem.passOn
  obtain ⟨_, _, _, oe, vs, T, oT, ts, he, hz, hd, h1, _⟩ := id held4
  refine wpAny_bind (wpAny_field he hd h1 ?_)
  rw [if_neg (show ¬ ((Value.ref T == Value.none) = true) from by simp)]
  have fin : wpAny (model X.prog X.w) X.A (setFlight (.ref a) (compEnvC scope cl C X.env).frame) (fun _ s5 => wpAny (model X.prog X.w) X.A (throw (.ref a) : Sem Value) (fun _ _ => False) X.xe s5) X.xe { s' with heap := h4 } := by
    rw [show (compEnvC scope cl C X.env).frame = some X.env.locals from hf]
    refine HandSPX.setFlight_onZ held4 fun h5 held5 up5 => wpAny_throw (tk _ _ ?_)
    obtain ⟨G, g1, g2⟩ := restrict s'.heap fun b => (B2.get? b).isSome || decide (b ∈ frs X.stack)
    have gB : ∀ b o, B2.get? b = some o → G.get? b = some o := fun b o e => by
      rw [g1 b (by simp [e])]
      exact fl2.1 b o e
    have gF : ∀ b, b ∈ frs X.stack → G.get? b = s'.heap.get? b := fun b hb => g1 b (by simp [hb])
    have og : ∀ b o, G.get? b = some o → s'.heap.get? b = some o ∧ ((B2.get? b).isSome = true ∨ b ∈ frs X.stack) := fun b o e => by
      cases q : ((B2.get? b).isSome || decide (b ∈ frs X.stack)) with
      | false => rw [g2 b q] at e; cases e
      | true =>
        rw [g1 b q] at e
        exact ⟨e, by simpa [Bool.or_eq_true] using q⟩
    have gC : ∀ b o, G.get? b = some o → b ≠ C := fun b o e z => by
      rcases (og b o e).2 with q | q
      · rw [z, bC] at q; cases q
      · rw [z] at q; exact nCst q
    have lt3 : ∀ b o, s3.heap.get? b = some o → b ≠ C := fun b o e z => by
      have := Heap.lt_size e
      rw [z, ← hC] at this
      exact Nat.lt_irrefl _ this
    have UB0 : Un (frs X.stack) fp H3 HB s3.heap sB.heap := IB.base
    have U : Un (frs X.stack) fp H3 H2 s3.heap G := {
      keep := fun b o e n hb hx => gB b o ((bk b (lt3 b o e)).trans (ub.keep b o (UB0.keep b o e n hb hx) (UB0.free b o e n hx) hb))
      slot := fun b o e n hb hx => by
        obtain ⟨sl, e1⟩ := UB0.slot b o e n hb hx
        obtain ⟨sl2, e2⟩ := ub.slot b _ e1 hb
        exact ⟨sl2, by rw [gF b hb]; exact e2⟩
      free := fun b o e n hx => by
        obtain ⟨o2, e2⟩ := UB0.there b o e hx
        exact ub.free b o2 e2 (UB0.free b o e n hx)
      there := fun b o e hx => by
        obtain ⟨o2, e2⟩ := UB0.there b o e hx
        by_cases hb : b ∈ frs X.stack
        · obtain ⟨sl, e3⟩ := ub.slot b o2 e2 hb
          exact ⟨_, (gF b hb).trans e3⟩
        · obtain ⟨o3, e3⟩ := ub.there b o2 e2 hb
          exact ⟨o3, gB b o3 ((bk b (lt3 b o e)).trans e3)⟩
      tups := fun b xs e => ub.tups b xs (UB0.tups b xs e)
      frzs := fun b o u e => ub.frzs b o u (UB0.frzs b o u e)
      tbls := fun b ps e => by
        obtain ⟨m1, e1⟩ := UB0.tbls b ps e
        obtain ⟨m2, e2⟩ := ub.tbls b _ e1
        exact ⟨m1 ++ m2, by rw [e2]; simp [Array.append_assoc]⟩ }
    have hokG : HOk X.prog X.w H2 G := fun b o q => (hok b o q).stay (fun c u hc e => gB c u ((bk c fun z => by
        rcases hc with hc | hc
        · rw [← hc, z, f2C] at q; cases q
        · rw [z, f2C] at hc; cases hc).trans e)) (fun _ y => y) fun _ _ y => y
    have J : Inv X pins σ H2 { s' with heap := G } := I3.call' (ch := fp) (os.trans IB.os) U hokG ag fun b hb => ⟨(f3 b hb).1.2.2.2.1, (f3 b hb).1.2.1, (f3 b hb).1.2.2.2.2.1, (f3 b hb).1.2.2.2.2.2⟩
    refine ⟨a, B2, { s' with heap := G }, pins, σ, H2, cls, d, rfl, J, fun b o e hb => ?_, fun b o e hnf => ?_, .inr (.inr (by rw [hs]; exact held5)), na, rfl, ag, hE⟩
    · obtain ⟨e1, q⟩ := og b o e
      rcases q with q | q
      · obtain ⟨o2, q2⟩ := Option.isSome_iff_exists.mp q
        have z := fl2.1 b o2 q2
        rw [e1] at z
        cases z
        exact q2
      · exact absurd q hb
    · obtain ⟨sl1, e1⟩ := up3 b o (og b o e).1 hnf
      obtain ⟨sl2, e2⟩ := up5 b _ ((sb4.2 b (gC b o e)).trans e1) hnf
      exact ⟨sl2, e2⟩
  first
    | exact wpAny_bind (wpAny_pure (wpAny_bind fin))
    | exact wpAny_bind fin
/-- the context of a block whose exceptions are wished for by R -/
abbrev blkW (X : Cx) (s : Shared) (H : Hp) (scope : Scope) (cl : List (Str × Addr)) (C : Addr) (fp : List Addr) (R : Value → Shared → Prop) : Cx := (X.blk s H scope (compEnvC scope cl C X.env) fp).wish R
/-- [elt for tg in iter if ..], elt may raise as EB says -/
theorem pe_lcR {EB : XK} {elt tg iter : Expr} {ifs : List Expr} {scope : Scope} {own : List (Str × Nat)} {pos : Pos} {wi : TI} {g : TG} {tt : TT} {te : TE} (hst : X.stack = X.env :: X.outer) (hf : X.env.frame = some X.env.locals) (tk : Takes X (fun cls d _ H => EB cls d H)) (hc : X.calm = true) (hN : X.N.Nodup)
    (hi : PI X tg iter wi) (ok : BlkOk X.N X.env.scope scope own)
    (hg : ∀ (s : Shared) (H : Hp) (C : Addr) (cl : List (Str × Addr)) (fp : List Addr) (R : Value → Shared → Prop), PG (blkW X s H scope cl C fp R) tg g)
    (ht : ∀ (s : Shared) (H : Hp) (C : Addr) (cl : List (Str × Addr)) (fp : List Addr) (R : Value → Shared → Prop), PTs (blkW X s H scope cl C fp R) ifs tt)
    (he : ∀ (s : Shared) (H : Hp) (C : Addr) (cl : List (Str × Addr)) (fp : List Addr) (R : Value → Shared → Prop), Passes (L2.CX X.prog X.w) (blkW X s H scope cl C fp R) EB → PE (blkW X s H scope cl C fp R) elt te)
    (hs : ∀ x, foldedSetIterable iter X.env x = pure x := by intro _; rfl) : PE X (.ListComp elt [⟨tg, iter, ifs, 0⟩] scope pos) (tLc wi g tt te (own.map (·.2))) := by
  refine ⟨fun pins s σ H Q I h => ?_⟩
  have hfree : ∀ y ∈ scope.names, y.2 = .free → ∃ c, X.env.cells.lookup y.1 = some c := fun y hy e => I.ok.has _ (ok.free y hy e)
  rw [eval_ListComp]
  refine comprehension_at (use := none) rfl hs (closure_ok hfree) ok.kind (fun y hy e => by rw [ok.uniq y hy, e]) (thn (hi.run pins s σ H _ I h) fun xv s1 hx => thn hx fun itv s2 h2 => ?_)
  obtain ⟨it, fp, tn, J, H2, rfl, I2, T, st2, f2, q⟩ := h2
  refine wpAny_newObj_type (newEnv_comp ?_) (by show 0 ≤ sizeLine; decide)
  generalize hD : s2.heap.objs.size = D
  obtain ⟨W, ⟨m0, w0⟩, turn⟩ := q D (I2.hok.fresh (Nat.le_of_eq hD))
  have hlt : ∀ b ∈ fp, b < s2.heap.objs.size := fun b hb => by
    obtain ⟨o, e, _⟩ := T.obj _ _ st2 b hb
    exact Heap.lt_size e
  -- the new list stands
  obtain ⟨s3, hs3⟩ : ∃ s3 : Shared, s3 = { s2 with heap := s2.heap.push { cls := .type "list", data := .seq ([] : List Value).toArray } } := ⟨_, rfl⟩
  have I3 : Inv X pins σ (upd H2 D (.lst [])) s3 := by
    subst hs3
    exact I2.laid (t' := s2.toks) (fun b o e => Heap.get?_push_of_some _ e) (Nat.le_of_eq hD) ⟨Nat.zero_le _, [], 0, .nil, by rw [← hD]; exact Heap.get?_push_size _ rfl⟩
  have hsz : s3.heap.objs.size = s2.heap.objs.size + 1 := by rw [hs3]; exact Heap.size_push ..
  have f3 : ∀ b ∈ fp, FpOk X pins (upd H2 D (.lst [])) b ∧ b < s3.heap.objs.size := fun b hb => by
    have := hlt b hb
    refine ⟨⟨?_, (f2 b hb).2⟩, by rw [hsz]; exact Nat.lt_succ_of_lt this⟩
    rw [upd_ne (by rw [← hD]; exact Nat.ne_of_lt this)]
    exact (f2 b hb).1
  have st3 : tn 0 s3.heap := T.keep _ _ _ st2 fun b _ o e => by rw [hs3]; exact Heap.get?_push_of_some _ e
  obtain ⟨H3, hH3⟩ : ∃ H3, H3 = upd H2 D (.lst []) := ⟨_, rfl⟩
  rw [← hH3] at I3 f3 w0
  rw [← hs3]
  obtain ⟨cl, hcl⟩ : ∃ cl, cl = cellsFrom (s3.heap.objs.size + 1) scope.names (cloFrom X.env.cells scope.names []) := ⟨_, rfl⟩
  have I4 := block_start I3 ok hN f3
  rw [← hcl] at I4 ⊢
  -- the wish for an exception, and what a turn keeps
  obtain ⟨ce, hce⟩ : ∃ ce, ce = compEnvC scope cl s3.heap.objs.size X.env := ⟨_, rfl⟩
  obtain ⟨R, hR⟩ : ∃ R, R = notedBy (model X.prog X.w) X.A ce (CompFails (model X.prog X.w) X.A X.xe ce) := ⟨_, rfl⟩
  obtain ⟨XB, hXB⟩ : ∃ XB, XB = blkW X s3 H3 scope cl s3.heap.objs.size fp R := ⟨_, rfl⟩
  have pass : Passes (L2.CX X.prog X.w) (blkW X s3 H3 scope cl s3.heap.objs.size fp R) EB := fun pb σb HB sB e s' IB c => by
    rw [hR, hce]
    exact blk_fails hst hf tk I3 f3 pb σb HB sB e s' IB c
  have pg := hg s3 H3 s3.heap.objs.size cl fp R
  have pt := ht s3 H3 s3.heap.objs.size cl fp R
  have pe := he s3 H3 s3.heap.objs.size cl fp R pass
  have I5 := I4.wish R
  show codeAny _ _ (.compStart _ 0 (.ref it) (.ref D) (compEnvC scope cl s3.heap.objs.size X.env)) (compEnds (model X.prog X.w) X.A X.xe none _ (.ref D) (compEnvC scope cl s3.heap.objs.size X.env)) _
  rw [← hce]
  obtain ⟨s4, hs4⟩ : ∃ s4 : Shared, s4 = { s3 with heap := pushCells (s3.heap.push { cls := .type "dict", data := .dict #[] }) scope.names } := ⟨_, rfl⟩
  rw [← hs4] at I5 ⊢
  have st4 : tn 0 s4.heap := T.keep _ _ _ st3 fun b _ o e => by rw [hs4]; exact pushCells_keeps _ _ _ _ (Heap.get?_push_of_some _ e)
  have cC : ce.locals = s3.heap.objs.size := by rw [hce]; rfl
  have eX : ∀ Y : Cx, Y = blkW X s3 H3 scope cl s3.heap.objs.size fp R → Y.env = ce ∧ Y.xe = R ∧ Y.A = X.A ∧ Y.prog = X.prog ∧ Y.w = X.w ∧ Y.calm = X.calm ∧ Y.K = X.K := fun Y e => by
    rw [e]
    exact ⟨hce.symm, rfl, rfl, rfl, rfl, rfl, rfl⟩
  have fpk : ∀ {σ1 : L2.St} {H1 : Hp} {sx : Shared}, Inv (blkW X s3 H3 scope cl s3.heap.objs.size fp R) [] σ1 H1 sx → (∀ b ∈ fp, H1 b = none) → ∀ b ∈ fp, FpOk (blkW X s3 H3 scope cl s3.heap.objs.size fp R) [] H1 b := fun {σ1 H1 sx} I' hn b hb =>
    ⟨hn b hb, (I'.ok.exf b hb).1, I'.ok.exfs b hb, .inl hb, fun x c e => (I'.ok.exf b hb).2 x c e, fun p hp => absurd (show p ∈ ([] : List (Addr × Obj)) ++ [] from hp) (by simp)⟩
  have n3 : ∀ b ∈ fp, H3 b = none := fun b hb => (f3 b hb).1.1
  subst hR
  have loop : codeAny (model X.prog X.w) X.A (.compLoop (.ListComp elt [⟨tg, iter, ifs, 0⟩] scope pos) 0 (.ref it) (.ref D) ce) (compEnds (model X.prog X.w) X.A X.xe none (EP X pins σ Q) (.ref D) ce) s4 := by
    refine compLoop_any (fun n sx => ∃ i Hx, Inv (blkW X s3 H3 scope cl s3.heap.objs.size fp (notedBy (model X.prog X.w) X.A ce (CompFails (model X.prog X.w) X.A X.xe ce))) [] (wipe σ (own.map (·.2))) Hx sx ∧ tn i sx.heap ∧ (∀ b ∈ fp, Hx b = none) ∧ W i n Hx) ?_ m0 ⟨0, H3, I5, st4, n3, w0⟩
    rintro n s5 ⟨i, H5, J5, t5, n5, w5⟩
    rcases turn i n H5 w5 with ⟨stop, qq⟩ | ⟨go, Nx, hNx, step⟩
    · refine thnF (T.done (blkW X s3 H3 scope cl s3.heap.objs.size fp (notedBy (model X.prog X.w) X.A ce (CompFails (model X.prog X.w) X.A X.xe ce))) rfl rfl rfl hc i [] s5 _ H5 (fun _ _ => False) J5 (fpk J5 n5) t5 stop) fun r s6 h6 => ?_
      obtain ⟨rfl, J6⟩ := h6
      have J7 : Inv X pins σ H5 s6 := I3.call' (ch := fp) J6.os J6.base J6.hok J6.bare fun b hb => ⟨(f3 b hb).1.2.2.2.1, (f3 b hb).1.2.1, (f3 b hb).1.2.2.2.2.1, (f3 b hb).1.2.2.2.2.2⟩
      have nC : H5 s3.heap.objs.size = none := J6.free
      obtain ⟨m, hm, _⟩ := J6.loc
      have hm : s6.heap.Ns s3.heap.objs.size m := hm
      obtain ⟨y0, y1, y2, y3, y4, y5⟩ := I3.fpOk (Nat.le_refl _) nC
      refine ⟨m, by rw [cC]; exact hm, fun h8 sb => ?_⟩
      rw [cC] at sb
      exact ⟨.ref D, H5, J7.turned (t' := s6.toks) (fun b o hb e => (sb.2 b hb).trans e) y0 y1 y3 y4 y5, rfl, qq⟩
    · refine thnF (T.item (blkW X s3 H3 scope cl s3.heap.objs.size fp (notedBy (model X.prog X.w) X.A ce (CompFails (model X.prog X.w) X.A X.xe ce))) rfl rfl rfl hc i [] s5 _ H5 (fun _ _ => False) J5 (fpk J5 n5) t5 go) fun r s6 h6 => ?_
      obtain ⟨u, rfl, h6⟩ := h6
      refine thnF h6 fun _ s7 h7 => ?_
      obtain ⟨x, H7, J7, r7, y7, t7, n7⟩ := h7
      have J7p := J7.pinned (fpk J7 n7) (T.obj _ _ t7)
      have hgo := pg.run _ s7 _ H7 x u _ J7p r7 (step x H7 y7)
      rw [show (blkW X s3 H3 scope cl s3.heap.objs.size fp (notedBy (model X.prog X.w) X.A ce (CompFails (model X.prog X.w) X.A X.xe ce))).env = ce from hce.symm] at hgo
      refine thn hgo fun _ s8 h8 => ?_
      obtain ⟨σ8, H8, J8, hw8, q8⟩ := h8
      have hto := pt.run _ s8 σ8 H8 _ J8 q8
      rw [show (blkW X s3 H3 scope cl s3.heap.objs.size fp (notedBy (model X.prog X.w) X.A ce (CompFails (model X.prog X.w) X.A X.xe ce))).env = ce from hce.symm] at hto
      refine thn hto fun b s9 h9 => ?_
      obtain ⟨H9, J9, q9⟩ := h9
      have fin : ∀ {sx : Shared} {Hx : Hp}, Inv (blkW X s3 H3 scope cl s3.heap.objs.size fp (notedBy (model X.prog X.w) X.A ce (CompFails (model X.prog X.w) X.A X.xe ce))) ([] ++ pinsAt fp s7.heap) σ8 Hx sx → Nx Hx → ∃ m, m < n ∧ ∃ i Hy, Inv (blkW X s3 H3 scope cl s3.heap.objs.size fp (notedBy (model X.prog X.w) X.A ce (CompFails (model X.prog X.w) X.A X.xe ce))) [] (wipe σ (own.map (·.2))) Hy sx ∧ tn i sx.heap ∧ (∀ b ∈ fp, Hy b = none) ∧ W i m Hy := fun {sx Hx} J nx => by
        obtain ⟨m', hm, w'⟩ := hNx Hx nx
        have pin' : ∀ b ∈ fp, ∀ o, s7.heap.get? b = some o → sx.heap.get? b = some o ∧ Hx b = none := fun b hb o e =>
          let z := J.pin (b, o) (List.mem_append_right _ (List.mem_append_right _ (mem_pinsAt hb e)))
          ⟨z.1, z.2.1⟩
        have hl : (wipe σ (own.map (·.2))).length = σ8.length := by rw [← hw8, wipe_length]
        refine ⟨m', hm, i + 1, Hx, (J.unpinned (pins := [])).weak hl (fun j v e => ?_), T.keep _ _ _ t7 fun b hb o e => (pin' b hb o e).1, fun b hb => ?_, w'⟩
        · rw [← hw8] at e
          exact (wipe_some e).1
        · obtain ⟨o, e, _⟩ := T.obj _ _ t7 b hb
          exact (pin' b hb o e).2
      cases b with
      | false => exact fin J9 (by simpa using q9)
      | true =>
        have q9 : te σ8 H9 fun y H4 => ∃ acc, H4 D = some (.lst acc) ∧ acc.length < sizeLine ∧ Nx (upd H4 D (.lst (acc ++ [y]))) := by simpa using q9
        have heo := pe.run _ s9 σ8 H9 _ J9 q9
        rw [show (blkW X s3 H3 scope cl s3.heap.objs.size fp (notedBy (model X.prog X.w) X.A ce (CompFails (model X.prog X.w) X.A X.xe ce))).env = ce from hce.symm] at heo
        simp only [if_true]
        refine thn heo fun z s10 h10 => ?_
        obtain ⟨yv, H10, J10, r10, acc, hD10, hz10, nx⟩ := h10
        exact app_ok (X := blkW X s3 H3 scope cl s3.heap.objs.size fp (notedBy (model X.prog X.w) X.A ce (CompFails (model X.prog X.w) X.A X.xe ce))) J10 hD10 hz10 r10 fun s11 J11 => fin J11 nx
  exact codeAny_compStart_list loop (T.self X.A 0 _ _ _ st4 loop)
end
end Fs

namespace Fs
open PySem PySem.Spec PyProof.Rows L2
/-- the words of a lambda -/
structure LF where
  qual : Str
  params : Arguments
  body : Expr
  scope : Scope
/-- the object at f is the lambda F that captured nothing, its code object at c -/
def LmO (f : Addr) (F : LF) (c : Addr) : HO := .ext fun h => ∃ (pm ctv : Value) (od : Option Addr) (sl : Array (Option Value)), h.get? f = some (⟨.type "function", od, .func (PySem.W.kla_fn "<lambda>" F.qual F.params F.body F.scope [] pm (.ref c) ctv), sl⟩ : Obj)
inductive D where
  | non | bl (b : Bool) | int (i : Int) | str (x : Str) | ty (n : String) | adr (a : Addr)
  | lst (xs : List D) | tup (xs : List D) | dct (kvs : List (Key × D)) | obj (C : Addr) (fs : List (Str × D)) | exc (C : Addr) (fs : List (Str × D)) | fn (k : Nat) (F : LF)
mutual
/-- the value v is the data d in the heap H, all its objects at places in A -/
inductive Is (A : Addr → Prop) (H : Hp) : V → D → Prop
  | non : Is A H .non .non
  | bl (b : Bool) : Is A H (.bl b) (.bl b)
  | int (i : Int) : Is A H (.int i) (.int i)
  | str (x : Str) : Is A H (.str x) (.str x)
  | ty (n : String) : Is A H (.ty n) (.ty n)
  | adr (a : Addr) : Is A H (.ref a) (.adr a)
  | lst {a : Addr} {vs : List V} {ds : List D} (h1 : A a) (h2 : H a = some (.lst vs)) (h3 : IsL A H vs ds) : Is A H (.ref a) (.lst ds)
  | tup {a : Addr} {vs : List V} {ds : List D} (h1 : A a) (h2 : H a = some (.tup vs)) (h3 : IsL A H vs ds) : Is A H (.ref a) (.tup ds)
  | dct {a : Addr} {vs : List (Key × V)} {ds : List (Key × D)} (h1 : A a) (h2 : look H a = some (.dK vs)) (h3 : IsK A H vs ds) : Is A H (.ref a) (.dct ds)
  | obj {a C dx : Addr} {vs : List (Str × V)} {ds : List (Str × D)} (h1 : A a) (h2 : H a = some (.ins C dx vs)) (h3 : IsF A H vs ds) : Is A H (.ref a) (.obj C ds)
  | exn {a C : Addr} (h1 : A a) (h2 : H a = some (EXO (.ref C) none a)) : Is A H (.ref a) (.exc C [])
  | fn {a c : Addr} {k : Nat} {F : LF} (h1 : A a) (h2 : H a = some (LmO a F c)) (h3 : H c = some (LamX.CodeO c F.qual)) : Is A H (.ref a) (.fn k F)
  | exc {a C d : Addr} {vs : List (Str × V)} {ds : List (Str × D)} (h1 : A a) (h2 : H a = some (EXO (.ref C) (some d) a)) (h3 : A d) (h4 : H d = some (.xd vs)) (h5 : IsF A H vs ds) : Is A H (.ref a) (.exc C ds)
inductive IsL (A : Addr → Prop) (H : Hp) : List V → List D → Prop
  | nil : IsL A H [] []
  | cons {v : V} {d : D} {vs : List V} {ds : List D} (h : Is A H v d) (t : IsL A H vs ds) : IsL A H (v :: vs) (d :: ds)
inductive IsK (A : Addr → Prop) (H : Hp) : List (Key × V) → List (Key × D) → Prop
  | nil : IsK A H [] []
  | cons {k : Key} {v : V} {d : D} {vs : List (Key × V)} {ds : List (Key × D)} (h : Is A H v d) (t : IsK A H vs ds) : IsK A H ((k, v) :: vs) ((k, d) :: ds)
inductive IsF (A : Addr → Prop) (H : Hp) : List (Str × V) → List (Str × D) → Prop
  | nil : IsF A H [] []
  | cons {k : Str} {v : V} {d : D} {vs : List (Str × V)} {ds : List (Str × D)} (h : Is A H v d) (t : IsF A H vs ds) : IsF A H ((k, v) :: vs) ((k, d) :: ds)
end
/-- what stood stands on; a dict may be locked from now on -/
def Sm (o : HO) (w : Option HO) : Prop := w = some o ∨ ∃ kvs ob, o = .dK kvs ∧ w = some (.frz ob (.dK kvs))
theorem Sm.rfl' {o : HO} : Sm o (some o) := .inl rfl
theorem Sm.of {o : HO} {w : Option HO} (h : w = some o) : Sm o w := .inl h
theorem Sm.eq {o : HO} {w : Option HO} (h : Sm o w) (hn : ∀ kvs, o ≠ .dK kvs) : w = some o := by
  rcases h with e | ⟨kvs, ob, e, _⟩
  · exact e
  · exact absurd e (hn kvs)
theorem Sm.trans {o : HO} {H1 H2 : Hp} {a : Addr} (x : Sm o (H1 a)) (y : ∀ u, H1 a = some u → Sm u (H2 a)) : Sm o (H2 a) := by
  rcases x with e | ⟨kvs, ob, rfl, e⟩
  · exact y o e
  · have z := (y _ e).eq (fun kvs z => by cases z)
    exact .inr ⟨kvs, ob, rfl, z⟩
theorem Sm.ne {o : HO} {w : Option HO} (h : Sm o w) : w ≠ none := by
  rcases h with e | ⟨_, _, _, e⟩ <;> rw [e] <;> simp
/-- objects told by their heap alone: functions, code objects, exceptions; they stay, wherever they lie -/
def xt : HO → Prop
  | .ext _ => True
  | _ => False
/-- from (A, H) to (A', H'): what stood in A stands on, in A' -/
def Stp (A : Addr → Prop) (H : Hp) (A' : Addr → Prop) (H' : Hp) : Prop := ∀ a o, (A a ∨ xt o) → H a = some o → (A a → A' a) ∧ Sm o (H' a)
theorem Stp.refl (A : Addr → Prop) (H : Hp) : Stp A H A H := fun _ _ _ e => ⟨id, .inl e⟩
theorem Stp.same {A A' : Addr → Prop} {H : Hp} (h : ∀ a, A a → A' a) : Stp A H A' H := fun a _ _ e => ⟨h a, .inl e⟩
theorem Stp.put {A A' : Addr → Prop} {H : Hp} {p : Addr} {u : HO} (h : ∀ a o, H a = some o → A a → A' a) (n : ∀ o, H p = some o → A p ∨ xt o → False) : Stp A H A' (upd H p u) := fun a o q e => ⟨h a o e, .inl (by rw [upd_ne (fun z => by rw [z] at e q; exact n o e q)]; exact e)⟩
/-- an object at a fresh place -/
theorem Stp.neu {A A' : Addr → Prop} {H : Hp} {p : Addr} {u : HO} (hp : H p = none) (h : ∀ a o, H a = some o → A a → A' a) : Stp A H A' (upd H p u) := Stp.put h fun o e _ => by rw [hp] at e; cases e
theorem Stp.trans {A A1 A2 : Addr → Prop} {H H1 H2 : Hp} (x : Stp A H A1 H1) (y : Stp A1 H1 A2 H2) : Stp A H A2 H2 := fun a o h e => by
  obtain ⟨h1, e1⟩ := x a o h e
  rcases e1 with e1 | ⟨kvs, ob, rfl, e1⟩
  · obtain ⟨h2, e2⟩ := y a o (h.imp h1 id) e1
    exact ⟨fun z => h2 (h1 z), e2⟩
  · have h : A a := h.elim id fun z => z.elim
    obtain ⟨h2, e2⟩ := y a _ (.inl (h1 h)) e1
    exact ⟨fun _ => h2 (h1 h), .inr ⟨kvs, ob, rfl, e2.eq (fun _ z => by cases z)⟩⟩
theorem look_some {H : Hp} {a : Addr} {u : HO} (h : look H a = some u) : ∃ o, H a = some o := by
  cases e : H a with
  | none => simp [look, e] at h
  | some o => exact ⟨o, rfl⟩
theorem Stp.look {A A' : Addr → Prop} {H H' : Hp} (x : Stp A H A' H') {a : Addr} {u : HO} (h : A a) (e : look H a = some u) : A' a ∧ look H' a = some u := by
  obtain ⟨o, q⟩ := look_some e
  obtain ⟨y, z⟩ := x a o (.inl h) q
  refine ⟨y h, ?_⟩
  unfold Fs.look at e ⊢
  rw [q] at e
  rcases z with z | ⟨kvs, ob, rfl, z⟩
  · rw [z]; exact e
  · rw [z]; exact e
theorem Stp.lst {A A' : Addr → Prop} {H H' : Hp} (x : Stp A H A' H') {a : Addr} {vs : List V} (h : A a) (e : H a = some (.lst vs)) : A' a ∧ H' a = some (.lst vs) := ⟨(x a _ (.inl h) e).1 h, (x a _ (.inl h) e).2.eq (fun _ z => by cases z)⟩
theorem Stp.tup {A A' : Addr → Prop} {H H' : Hp} (x : Stp A H A' H') {a : Addr} {vs : List V} (h : A a) (e : H a = some (.tup vs)) : A' a ∧ H' a = some (.tup vs) := ⟨(x a _ (.inl h) e).1 h, (x a _ (.inl h) e).2.eq (fun _ z => by cases z)⟩
theorem Stp.ins {A A' : Addr → Prop} {H H' : Hp} (x : Stp A H A' H') {a c d : Addr} {vs : List (Str × V)} (h : A a) (e : H a = some (.ins c d vs)) : A' a ∧ H' a = some (.ins c d vs) := ⟨(x a _ (.inl h) e).1 h, (x a _ (.inl h) e).2.eq (fun _ z => by cases z)⟩
theorem Stp.exo {A A' : Addr → Prop} {H H' : Hp} (x : Stp A H A' H') {a : Addr} {c : Value} {d : Option Addr} {b : Addr} (h : A a) (e : H a = some (EXO c d b)) : A' a ∧ H' a = some (EXO c d b) := ⟨(x a _ (.inl h) e).1 h, (x a _ (.inl h) e).2.eq (fun _ z => by unfold EXO at z; cases z)⟩
theorem Stp.ext {A A' : Addr → Prop} {H H' : Hp} (x : Stp A H A' H') {a : Addr} {g : Heap → Prop} (e : H a = some (.ext g)) : H' a = some (.ext g) := (x a (.ext g) (.inr trivial) e).2.eq (fun _ z => by cases z)
theorem Stp.xd {A A' : Addr → Prop} {H H' : Hp} (x : Stp A H A' H') {a : Addr} {vs : List (Str × V)} (h : A a) (e : H a = some (.xd vs)) : A' a ∧ H' a = some (.xd vs) := ⟨(x a _ (.inl h) e).1 h, (x a _ (.inl h) e).2.eq (fun _ z => by cases z)⟩
mutual
theorem Is.stp {A A' : Addr → Prop} {H H' : Hp} (x : Stp A H A' H') : ∀ {v : V} {d : D}, Is A H v d → Is A' H' v d
  | _, _, .non => .non
  | _, _, .bl b => .bl b
  | _, _, .int i => .int i
  | _, _, .str y => .str y
  | _, _, .ty n => .ty n
  | _, _, .adr a => .adr a
  | _, _, .lst h1 h2 h3 => .lst (x.lst h1 h2).1 (x.lst h1 h2).2 (IsL.stp x h3)
  | _, _, .tup h1 h2 h3 => .tup (x.tup h1 h2).1 (x.tup h1 h2).2 (IsL.stp x h3)
  | _, _, .dct h1 h2 h3 => .dct (x.look h1 h2).1 (x.look h1 h2).2 (IsK.stp x h3)
  | _, _, .obj h1 h2 h3 => .obj (x.ins h1 h2).1 (x.ins h1 h2).2 (IsF.stp x h3)
  | _, _, .exn h1 h2 => .exn (x.exo h1 h2).1 (x.exo h1 h2).2
  | _, _, .fn h1 h2 h3 => .fn ((x _ _ (.inl h1) h2).1 h1) (x.ext h2) (x.ext h3)
  | _, _, .exc h1 h2 h3 h4 h5 => .exc (x.exo h1 h2).1 (x.exo h1 h2).2 (x.xd h3 h4).1 (x.xd h3 h4).2 (IsF.stp x h5)
theorem IsL.stp {A A' : Addr → Prop} {H H' : Hp} (x : Stp A H A' H') : ∀ {v : List V} {d : List D}, IsL A H v d → IsL A' H' v d
  | _, _, .nil => .nil
  | _, _, .cons h t => .cons (Is.stp x h) (IsL.stp x t)
theorem IsK.stp {A A' : Addr → Prop} {H H' : Hp} (x : Stp A H A' H') : ∀ {v : List (Key × V)} {d : List (Key × D)}, IsK A H v d → IsK A' H' v d
  | _, _, .nil => .nil
  | _, _, .cons h t => .cons (Is.stp x h) (IsK.stp x t)
theorem IsF.stp {A A' : Addr → Prop} {H H' : Hp} (x : Stp A H A' H') : ∀ {v : List (Str × V)} {d : List (Str × D)}, IsF A H v d → IsF A' H' v d
  | _, _, .nil => .nil
  | _, _, .cons h t => .cons (Is.stp x h) (IsF.stp x t)
end
/-- kept at the places of P; nothing that stood is gone -/
def Ext (P : Addr → Prop) (H H' : Hp) : Prop := (∀ a o, (P a ∨ xt o) → H a = some o → H' a = some o) ∧ ∀ a, H' a = none → H a = none
theorem Ext.refl (P : Addr → Prop) (H : Hp) : Ext P H H := ⟨fun _ _ _ h => h, fun _ h => h⟩
theorem Ext.trans {P : Addr → Prop} {H H1 H2 : Hp} (x : Ext P H H1) (y : Ext P H1 H2) : Ext P H H2 := ⟨fun a o h e => y.1 a o h (x.1 a o h e), fun a h => x.2 a (y.2 a h)⟩
theorem Ext.sub {P P' : Addr → Prop} {H H' : Hp} (x : Ext P H H') (h : ∀ a, P' a → P a) : Ext P' H H' := ⟨fun a o q e => x.1 a o (q.imp (h a) id) e, x.2⟩
/-- kept at the places of P, but that a dict at a place of L may be locked; nothing that stood is gone -/
def ExL (P L : Addr → Prop) (H H' : Hp) : Prop := (∀ a o, (P a ∨ xt o) → H a = some o → H' a = some o ∨ (L a ∧ Sm o (H' a))) ∧ ∀ a, H' a = none → H a = none
theorem ExL.refl (P L : Addr → Prop) (H : Hp) : ExL P L H H := ⟨fun _ _ _ h => .inl h, fun _ h => h⟩
theorem ExL.sm {P L : Addr → Prop} {H H' : Hp} (x : ExL P L H H') {a : Addr} {o : HO} (h : P a) (e : H a = some o) : Sm o (H' a) := (x.1 a o (.inl h) e).elim .inl (·.2)
theorem ExL.smx {P L : Addr → Prop} {H H' : Hp} (x : ExL P L H H') {a : Addr} {o : HO} (h : P a ∨ xt o) (e : H a = some o) : Sm o (H' a) := (x.1 a o h e).elim .inl (·.2)
theorem ExL.xto {P L : Addr → Prop} {H H' : Hp} (x : ExL P L H H') {a : Addr} {g : Heap → Prop} (e : H a = some (.ext g)) : H' a = some (.ext g) := (x.smx (o := .ext g) (.inr trivial) e).eq (fun _ z => by cases z)
theorem ExL.at {P L : Addr → Prop} {H H' : Hp} (x : ExL P L H H') {a : Addr} {o : HO} (h : P a) (e : H a = some o) (hn : ∀ kvs, o ≠ .dK kvs) : H' a = some o := (x.sm h e).eq hn
theorem ExL.out {P L : Addr → Prop} {H H' : Hp} (x : ExL P L H H') {a : Addr} {o : HO} (h : P a) (hl : ¬ L a) (e : H a = some o) : H' a = some o := (x.1 a o (.inl h) e).elim id fun z => absurd z.1 hl
theorem ExL.trans {P L : Addr → Prop} {H H1 H2 : Hp} (x : ExL P L H H1) (y : ExL P L H1 H2) : ExL P L H H2 := ⟨fun a o h e => by
  rcases x.1 a o h e with e1 | ⟨l, s⟩
  · exact y.1 a o h e1
  · refine .inr ⟨l, ?_⟩
    rcases h with h | h
    · exact s.trans fun u e => y.sm h e
    · rcases s with e1 | ⟨_, _, rfl, _⟩
      · exact y.smx (.inr h) e1
      · exact h.elim, fun a h => x.2 a (y.2 a h)⟩
theorem ExL.sub {P L L' : Addr → Prop} {H H' : Hp} (x : ExL P L H H') (h : ∀ a, L a → L' a) : ExL P L' H H' := ⟨fun a o q e => (x.1 a o q e).imp id fun z => ⟨h a z.1, z.2⟩, x.2⟩
theorem ExL.stp {P L A : Addr → Prop} {H H' : Hp} (x : ExL P L H H') (h : ∀ a, A a → P a) : Stp A H A H' := fun a o q e => ⟨id, x.smx (q.imp (h a) id) e⟩
theorem ExL.wk {P P' L : Addr → Prop} {H H' : Hp} (x : ExL P L H H') (h : ∀ a, P' a → P a) : ExL P' L H H' := ⟨fun a o q e => x.1 a o (q.imp (h a) id) e, x.2⟩
theorem Ext.lk {P L : Addr → Prop} {H H' : Hp} (x : Ext P H H') : ExL P L H H' := ⟨fun a o k e => .inl (x.1 a o k e), x.2⟩
theorem ExL.lock {P L : Addr → Prop} {H : Hp} {a : Addr} {kvs : List (Key × V)} {ob : Obj} (h : H a = some (.dK kvs)) (l : L a) : ExL P L H (upd H a (.frz ob (.dK kvs))) := ⟨fun b o _ e => by
  by_cases z : b = a
  · rw [z] at e ⊢
    rw [h] at e
    cases e
    exact .inr ⟨l, .inr ⟨kvs, ob, rfl, upd_same⟩⟩
  · exact .inl (by rw [upd_ne z]; exact e), fun b e => by
  by_cases z : b = a
  · rw [z, upd_same] at e; cases e
  · rw [upd_ne z] at e; exact e⟩
abbrev All : Addr → Prop := fun _ => True
theorem Ext.new {H : Hp} {p : Addr} {o : HO} (h : H p = none) : Ext All H (upd H p o) := ⟨fun a u _ e => by rw [upd_ne (ne_of_none e h)]; exact e, fun a e => by
  by_cases q : a = p
  · rw [q]; exact h
  · rw [upd_ne q] at e; exact e⟩
theorem Ext.all {P L : Addr → Prop} {H H' : Hp} (x : Ext All H H') : ExL P L H H' := ⟨fun a o _ e => .inl (x.1 a o (.inl trivial) e), x.2⟩
theorem Ext.stp {A : Addr → Prop} {H H' : Hp} (x : Ext All H H') : Stp A H A H' := fun a o _ e => ⟨id, .inl (x.1 a o (.inl trivial) e)⟩
inductive Res (S α : Type) where
  | ok (a : α) (s : S) | ex (C : Addr) (fs : List (Str × D)) (s : S) | bad
def M (S α : Type) := S → Res S α
def M.ret {S α : Type} (a : α) : M S α := fun s => .ok a s
def Res.then {S α β : Type} (r : Res S α) (g : α → M S β) : Res S β := match r with
  | .ok a s => g a s
  | .ex C fs s => .ex C fs s
  | .bad => .bad
def M.bind {S α β : Type} (m : M S α) (g : α → M S β) : M S β := fun s => (m s).then g
def M.of {S α : Type} (o : Option α) : M S α := fun s => match o with | some a => .ok a s | none => .bad
@[simp] theorem then_ok {S α β : Type} {a : α} {s : S} {g : α → M S β} : (Res.ok a s).then g = g a s := rfl
@[simp] theorem then_ex {S α β : Type} {C : Addr} {fs : List (Str × D)} {s : S} {g : α → M S β} : (Res.ex C fs s : Res S α).then g = .ex C fs s := rfl
@[simp] theorem then_bad {S α β : Type} {g : α → M S β} : (Res.bad : Res S α).then g = .bad := rfl
/-- an object that this frame alone knows -/
inductive OD where
  | lst (xs : List D) | dct (kvs : List (Key × D)) | ins (C : Addr) (fs : List (Str × D))
/-- what a slot holds -/
inductive Sl where
  | no | val (d : D) | own (o : OD)
abbrev Rho := List Sl
/-- the places that stay as they are; among them those that data may lie at -/
structure Pl where
  keep : Addr → Prop
  ok : Addr → Prop
  okk : ∀ a, ok a → keep a
/-- what may be written: neither a code object nor a table of them -/
def tgt : Option HO → Bool
  | some (.ext _) => false
  | some (.tbl _) => false
  | _ => true
structure Cfg (S : Type) extends Pl where
  K : PySem.W.Frag
  I : S → Hp → Prop
  stL : ∀ s H H', I s H → ExL All All H H' → I s H'
  st2 : ∀ s H a o, ok a → tgt (H a) = true → I s H → I s (upd H a o)
theorem Cfg.st {S : Type} (C : Cfg S) (s : S) (H H' : Hp) (I : C.I s H) (x : Ext All H H') : C.I s H' := C.stL s H H' I x.all
/-- ahead of the frame: its heap, the places it may touch -/
structure Bs where
  H0 : Hp
  A0 : Addr → Prop
  me : Option Addr := none
def OwnAt (me : Option Addr) (A : Addr → Prop) (H : Hp) (a : Addr) : OD → Prop
  | .lst ds => ∃ vs, H a = some (.lst vs) ∧ IsL A H vs ds
  | .dct ds => ∃ vs, H a = some (.dK vs) ∧ IsK A H vs ds
  | .ins C ds => me = some a ∧ ∃ dx vs, H a = some (.ins C dx vs) ∧ IsF A H vs ds
def SlotAt (keep : Addr → Prop) (B : Bs) (A : Addr → Prop) (H : Hp) (w : Option (Option V)) : Sl → Prop
  | .no => True
  | .val d => ∃ v, w = some (some v) ∧ Is A H v d
  | .own o => ∃ a, w = some (some (.ref a)) ∧ ¬ A a ∧ keep a ∧ B.A0 a ∧ B.H0 a = none ∧ OwnAt B.me A H a o
structure Rel (P : Pl) (B : Bs) (A : Addr → Prop) (ρ : Rho) (σ : L2.St) (H : Hp) : Prop where
  len : ρ.length = σ.length
  ext : ExL P.keep B.A0 B.H0 H
  nw : ∀ a, H a = none → A a
  n0 : ∀ a, B.H0 a = none → B.A0 a
  sub : ∀ a, A a → B.A0 a
  kp : ∀ a, B.A0 a → P.ok a
  slot : ∀ (i : Nat) (sl : Sl), ρ[i]? = some sl → SlotAt P.keep B A H σ[i]? sl
  apart : ∀ (i j : Nat) (oi oj : OD) (a : Addr), ρ[i]? = some (.own oi) → ρ[j]? = some (.own oj) → σ[i]? = some (some (.ref a)) → σ[j]? = some (some (.ref a)) → i = j
section
variable {P : Pl} {B : Bs} {A : Addr → Prop} {ρ : Rho} {σ : L2.St} {H H' : Hp}
theorem Rel.ao (R : Rel P B A ρ σ H) : ∀ a, A a → P.ok a := fun a h => R.kp a (R.sub a h)
theorem Rel.ak (R : Rel P B A ρ σ H) : ∀ a, A a → P.keep a := fun a h => P.okk a (R.ao a h)
theorem OwnAt.stp {me : Option Addr} {A A' : Addr → Prop} {H H' : Hp} {a : Addr} {o : OD} (x : Stp A H A' H') (e : ∀ u, H a = some u → H' a = some u) (h : OwnAt me A H a o) : OwnAt me A' H' a o := by
  cases o with
  | lst ds => obtain ⟨vs, h1, h2⟩ := h; exact ⟨vs, e _ h1, h2.stp x⟩
  | dct ds => obtain ⟨vs, h1, h2⟩ := h; exact ⟨vs, e _ h1, h2.stp x⟩
  | ins C ds => obtain ⟨h0, dx, vs, h1, h2⟩ := h; exact ⟨h0, dx, vs, e _ h1, h2.stp x⟩
/-- an expression changes nothing of the frame's -/
theorem Rel.step (R : Rel P B A ρ σ H) (x : ExL P.keep A H H') : Rel P B A ρ σ H' where
  len := R.len
  ext := R.ext.trans (x.sub R.sub)
  nw := fun a h => R.nw a (x.2 a h)
  n0 := R.n0
  sub := R.sub
  kp := R.kp
  slot := fun i sl e => by
    have h := R.slot i sl e
    cases sl with
    | no => trivial
    | val d => obtain ⟨v, h1, h2⟩ := h; exact ⟨v, h1, h2.stp (x.stp R.ak)⟩
    | own o => obtain ⟨a, h1, h2, h3, h4, h5, h6⟩ := h; exact ⟨a, h1, h2, h3, h4, h5, h6.stp (x.stp R.ak) fun u e => x.out h3 h2 e⟩
  apart := R.apart
end
/-- the fields of an exception -/
def ExcIs (A : Addr → Prop) (H : Hp) (od : Option Addr) (fs : List (Str × D)) : Prop := match od with
  | none => fs = []
  | some d => A d ∧ ∃ vs, H d = some (.xd vs) ∧ IsF A H vs fs
variable {S : Type}
def Wish {α : Type} (C : Cfg S) (B : Bs) (E : XK) (r : Res S α) (P : α → S → Prop) : Prop := match r with
  | .ok a s => P a s
  | .ex c fs s => ∀ od H', ExL C.keep B.A0 B.H0 H' → C.I s H' → ExcIs B.A0 H' od fs → E (.ref c) od H'
  | .bad => False
theorem Wish.then {α β : Type} {C : Cfg S} {B : Bs} {E : XK} {r : Res S α} {g : α → M S β} {P : β → S → Prop} (h : Wish C B E (r.then g) P) : Wish C B E r fun a s => Wish C B E (g a s) P := by
  cases r <;> exact h
theorem ExcIs.sub {A A' : Addr → Prop} {H : Hp} {od : Option Addr} {fs : List (Str × D)} (h : ExcIs A H od fs) (k : ∀ a, A a → A' a) : ExcIs A' H od fs := by
  cases od with
  | none => exact h
  | some d =>
    obtain ⟨a1, ws, a2, a3⟩ := h
    exact ⟨k d a1, ws, a2, a3.stp (.same k)⟩
/-- further on, in fewer places -/
theorem Wish.to {α : Type} {C : Cfg S} {B B' : Bs} {E : XK} {r : Res S α} {P : α → S → Prop} (h : Wish C B E r P) (x : ExL C.keep B.A0 B.H0 B'.H0) (k : ∀ a, B'.A0 a → B.A0 a) : Wish C B' E r P := by
  cases r with
  | ok a s => exact h
  | ex c fs s => exact fun od H' e I q => h od H' (x.trans (e.sub k)) I (q.sub k)
  | bad => exact h
theorem Wish.step {α : Type} {C : Cfg S} {A : Addr → Prop} {H H1 : Hp} {E : XK} {r : Res S α} {P : α → S → Prop} (h : Wish C ⟨H, A, none⟩ E r P) (x : ExL C.keep A H H1) : Wish C ⟨H1, A, none⟩ E r P := h.to x fun _ q => q
theorem Wish.mono {α : Type} {C : Cfg S} {B : Bs} {E : XK} {r : Res S α} {P P' : α → S → Prop} (h : Wish C B E r P) (i : ∀ a s, P a s → P' a s) : Wish C B E r P' := by
  cases r with
  | ok a s => exact i a s h
  | ex c fs s => exact h
  | bad => exact h
def EvD (C : Cfg S) (te : XK → TE) (f : Rho → M S D) : Prop := ∀ (B : Bs) (A : Addr → Prop) (ρ : Rho) (σ : L2.St) (H : Hp) (s : S) (E : XK) (Q : VK), Rel C.toPl B A ρ σ H → C.I s H →
  Wish C ⟨H, A, none⟩ E (f ρ s) (fun d s' => ∀ v H', ExL C.keep A H H' → C.I s' H' → Is A H' v d → Q v H') → te E σ H Q
def EvA (C : Cfg S) (ta : XK → TA) (f : Rho → M S (List D)) : Prop := ∀ (B : Bs) (A : Addr → Prop) (ρ : Rho) (σ : L2.St) (H : Hp) (s : S) (E : XK) (Q : List V → Hp → Prop), Rel C.toPl B A ρ σ H → C.I s H →
  Wish C ⟨H, A, none⟩ E (f ρ s) (fun d s' => ∀ v H', ExL C.keep A H H' → C.I s' H' → IsL A H' v d → Q v H') → ta E σ H Q
def EvT (C : Cfg S) (tt : XK → TT) (f : Rho → M S Bool) : Prop := ∀ (B : Bs) (A : Addr → Prop) (ρ : Rho) (σ : L2.St) (H : Hp) (s : S) (E : XK) (Q : Bool → Hp → Prop), Rel C.toPl B A ρ σ H → C.I s H →
  Wish C ⟨H, A, none⟩ E (f ρ s) (fun b s' => ∀ H', ExL C.keep A H H' → C.I s' H' → Q b H') → tt E σ H Q
def EvO (C : Cfg S) (to : XK → TO) (f : Rho → M S (Option Int)) : Prop := ∀ (B : Bs) (A : Addr → Prop) (ρ : Rho) (σ : L2.St) (H : Hp) (s : S) (E : XK) (Q : Option Int → Hp → Prop), Rel C.toPl B A ρ σ H → C.I s H →
  Wish C ⟨H, A, none⟩ E (f ρ s) (fun b s' => ∀ H', ExL C.keep A H H' → C.I s' H' → Q b H') → to E σ H Q
/-- a new list whose items are data, known to nobody else -/
def EvN (C : Cfg S) (te : XK → TE) (f : Rho → M S (List D)) : Prop := ∀ (B : Bs) (A : Addr → Prop) (ρ : Rho) (σ : L2.St) (H : Hp) (s : S) (E : XK) (Q : VK), Rel C.toPl B A ρ σ H → C.I s H →
  Wish C ⟨H, A, none⟩ E (f ρ s) (fun ds s' => ∀ p H1 vs, H1 p = none → ExL C.keep A H H1 → C.I s' (upd H1 p (.lst vs)) → IsL A H1 vs ds → Q (.ref p) (upd H1 p (.lst vs))) → te E σ H Q
/-- operations on data, whatever the frame -/
def OpD (r : R2) (op : D → D → Option D) : Prop := ∀ (A : Addr → Prop) (H : Hp) (v w : V) (x y d : D) (Q : VK), Is A H v x → Is A H w y → (∀ a, H a = none → A a) → op x y = some d → (∀ u H', Ext All H H' → Is A H' u d → Q u H') → r v w H Q
def UnD (r : V → Hp → VK → Prop) (op : D → Option D) : Prop := ∀ (A : Addr → Prop) (H : Hp) (v : V) (x d : D) (Q : VK), Is A H v x → (∀ a, H a = none → A a) → op x = some d → (∀ u H', Ext All H H' → Is A H' u d → Q u H') → r v H Q
def CaD (r : List V → Hp → VK → Prop) (op : List D → Option D) : Prop := ∀ (A : Addr → Prop) (H : Hp) (vs : List V) (xs : List D) (d : D) (Q : VK), IsL A H vs xs → (∀ a, H a = none → A a) → op xs = some d → (∀ u H', Ext All H H' → Is A H' u d → Q u H') → r vs H Q
/-- a def's promise on data -/
def SpD (C : Cfg S) (sp : Sp) (m : List D → M S D) : Prop := ∀ (A : Addr → Prop) (H : Hp) (vs : List V) (ds : List D) (s : S) (Q : VK) (E : XK), IsL A H vs ds → (∀ a, H a = none → A a) → (∀ a, A a → C.ok a) → C.I s H →
  Wish C ⟨H, A, none⟩ E (m ds s) (fun d s' => ∀ v H', ExL C.keep A H H' → C.I s' H' → Is A H' v d → Q v H') → sp vs H Q E
theorem Rel.fr {α : Type} {C : Cfg S} {B : Bs} {A : Addr → Prop} {ρ : Rho} {σ : L2.St} {H : Hp} {E : XK} {r : Res S α} {P : α → S → Prop} (R : Rel C.toPl B A ρ σ H) (h : Wish C B E r P) : Wish C ⟨H, A, none⟩ E r P := h.to R.ext R.sub
section
variable {C : Cfg S} {ta tb tc : XK → TE} {fa fb fc : Rho → M S D}
def xV (i : Nat) : Rho → M S D := fun ρ s => match ρ[i]? with
  | some (.val d) => .ok d s
  | _ => .bad
theorem e_var (i : Nat) : EvD C (fun _ => tV i) (xV i) := fun B A ρ σ H s E Q R I W => by
  unfold xV at W
  split at W
  · rename_i d e
    obtain ⟨v, h1, h2⟩ := R.slot i _ e
    unfold tV
    rw [h1]
    exact W v H (ExL.refl _ _ _) I h2
  · exact W.elim
def xC (d : D) : Rho → M S D := fun _ => .ret d
theorem e_str {x : Str} : EvD C (fun _ => tC (.str x)) (xC (.str x)) := fun B A ρ σ H s E Q R I W => W _ H (ExL.refl _ _ _) I (.str x)
theorem e_int {x : Int} : EvD C (fun _ => tC (.int x)) (xC (.int x)) := fun B A ρ σ H s E Q R I W => W _ H (ExL.refl _ _ _) I (.int x)
theorem e_bl {x : Bool} : EvD C (fun _ => tC (.bl x)) (xC (.bl x)) := fun B A ρ σ H s E Q R I W => W _ H (ExL.refl _ _ _) I (.bl x)
theorem e_non : EvD C (fun _ => tC .non) (xC .non) := fun B A ρ σ H s E Q R I W => W _ H (ExL.refl _ _ _) I .non
theorem e_ty {x : String} : EvD C (fun _ => tC (.ty x)) (xC (.ty x)) := fun B A ρ σ H s E Q R I W => W _ H (ExL.refl _ _ _) I (.ty x)
theorem e_adr {a : Addr} : EvD C (fun _ => tC (.ref a)) (xC (.adr a)) := fun B A ρ σ H s E Q R I W => W _ H (ExL.refl _ _ _) I (.adr a)
def xOp (op : D → D → Option D) (f g : Rho → M S D) : Rho → M S D := fun ρ => (f ρ).bind fun x => (g ρ).bind fun y => .of (op x y)
theorem e_op {r : R2} {op : D → D → Option D} (ho : OpD r op) (ha : EvD C ta fa) (hb : EvD C tb fb) : EvD C (fun E => tOp r (ta E) (tb E)) (xOp op fa fb) := fun B A ρ σ H s E Q R I W => by
  refine ha B A ρ σ H s E _ R I ((Wish.then W).mono fun x s1 W1 v H1 e1 I1 h1 => ?_)
  refine hb B A ρ σ H1 s1 E _ (R.step e1) I1 ((Wish.then (W1.step e1)).mono fun y s2 W2 w H2 e2 I2 h2 => ?_)
  cases e : op x y with
  | none => rw [e] at W2; exact W2.elim
  | some d =>
    rw [e] at W2
    exact ho A H2 v w x y d Q (h1.stp (e2.stp R.ak)) h2 (fun a q => R.nw a (e1.2 a (e2.2 a q))) e fun u H3 e3 h3 => W2 u H3 ((e1.trans e2).trans e3.all) (C.st _ _ _ I2 e3) h3
def xUn (op : D → Option D) (f : Rho → M S D) : Rho → M S D := fun ρ => (f ρ).bind fun x => .of (op x)
theorem e_un {r : V → Hp → VK → Prop} {op : D → Option D} (ho : UnD r op) (ha : EvD C ta fa) : EvD C (fun E => tUn r (ta E)) (xUn op fa) := fun B A ρ σ H s E Q R I W => by
  refine ha B A ρ σ H s E _ R I ((Wish.then W).mono fun x s1 W1 v H1 e1 I1 h1 => ?_)
  cases e : op x with
  | none => rw [e] at W1; exact W1.elim
  | some d =>
    rw [e] at W1
    exact ho A H1 v x d Q h1 (fun a q => R.nw a (e1.2 a q)) e fun u H3 e3 h3 => W1 u H3 (e1.trans e3.all) (C.st _ _ _ I1 e3) h3
/-- a truth value -/
def dBl : D → Option Bool
  | .bl b => some b
  | _ => none
theorem Is.bl_of {A : Addr → Prop} {H : Hp} {v : V} {x : D} {b : Bool} (h : Is A H v x) (e : dBl x = some b) : v = .bl b := by
  cases h <;> simp [dBl] at e
  subst e; rfl
def dIn : D → Option Int
  | .int b => some b
  | _ => none
theorem Is.in_of {A : Addr → Prop} {H : Hp} {v : V} {x : D} {b : Int} (h : Is A H v x) (e : dIn x = some b) : v = .int b := by
  cases h <;> simp [dIn] at e
  subst e; rfl
def xT (f : Rho → M S D) : Rho → M S Bool := fun ρ => (f ρ).bind fun x => .of (dBl x)
theorem e_test (ha : EvD C ta fa) : EvT C (fun E => tTs (ta E)) (xT fa) := fun B A ρ σ H s E Q R I W => by
  refine ha B A ρ σ H s E _ R I ((Wish.then W).mono fun x s1 W1 v H1 e1 I1 h1 => ?_)
  cases e : dBl x with
  | none => rw [e] at W1; exact W1.elim
  | some b =>
    rw [e] at W1
    rw [h1.bl_of e]
    exact W1 H1 e1 I1
section
variable {tt tu : XK → TT} {f g : Rho → M S Bool}
def xAnd (f g : Rho → M S Bool) : Rho → M S Bool := fun ρ => (f ρ).bind fun b => match b with | true => g ρ | false => .ret false
def xOr (f g : Rho → M S Bool) : Rho → M S Bool := fun ρ => (f ρ).bind fun b => match b with | true => .ret true | false => g ρ
def xNot (f : Rho → M S Bool) : Rho → M S Bool := fun ρ => (f ρ).bind fun b => .ret (!b)
theorem e_and (h1 : EvT C tt f) (h2 : EvT C tu g) : EvT C (fun E => tAn (tt E) (tu E)) (xAnd f g) := fun B A ρ σ H s E Q R I W => by
  refine h1 B A ρ σ H s E _ R I ((Wish.then W).mono fun b s1 W1 H1 e1 I1 => ?_)
  cases b with
  | true => exact h2 B A ρ σ H1 s1 E _ (R.step e1) I1 (Wish.mono (Wish.step W1 e1) fun b s2 W2 H2 e2 I2 => W2 H2 (e1.trans e2) I2)
  | false => exact W1 H1 e1 I1
theorem e_or (h1 : EvT C tt f) (h2 : EvT C tu g) : EvT C (fun E => tOr' (tt E) (tu E)) (xOr f g) := fun B A ρ σ H s E Q R I W => by
  refine h1 B A ρ σ H s E _ R I ((Wish.then W).mono fun b s1 W1 H1 e1 I1 => ?_)
  cases b with
  | false => exact h2 B A ρ σ H1 s1 E _ (R.step e1) I1 (Wish.mono (Wish.step W1 e1) fun b s2 W2 H2 e2 I2 => W2 H2 (e1.trans e2) I2)
  | true => exact W1 H1 e1 I1
theorem e_not (h1 : EvT C tt f) : EvT C (fun E => tNot (tt E)) (xNot f) := fun B A ρ σ H s E Q R I W => by
  refine h1 B A ρ σ H s E _ R I ((Wish.then W).mono fun b s1 W1 H1 e1 I1 => ?_)
  exact W1 H1 e1 I1
def xIf (c : Rho → M S Bool) {α : Type} (f g : Rho → M S α) : Rho → M S α := fun ρ => (c ρ).bind fun b => match b with | true => f ρ | false => g ρ
theorem e_if (h1 : EvT C tt f) (ha : EvD C ta fa) (hb : EvD C tb fb) : EvD C (fun E => tIf' (tt E) (ta E) (tb E)) (xIf f fa fb) := fun B A ρ σ H s E Q R I W => by
  refine h1 B A ρ σ H s E _ R I ((Wish.then W).mono fun b s1 W1 H1 e1 I1 => ?_)
  cases b with
  | true => exact ha B A ρ σ H1 s1 E _ (R.step e1) I1 (Wish.mono (Wish.step W1 e1) fun b s2 W2 v H2 e2 I2 q => W2 v H2 (e1.trans e2) I2 q)
  | false => exact hb B A ρ σ H1 s1 E _ (R.step e1) I1 (Wish.mono (Wish.step W1 e1) fun b s2 W2 v H2 e2 I2 q => W2 v H2 (e1.trans e2) I2 q)
end
/-- and, or, not as values (of truth values) -/
def xAndV (f g : Rho → M S D) : Rho → M S D := fun ρ => (f ρ).bind fun x => (M.of (dBl x)).bind fun b => match b with | true => g ρ | false => .ret (.bl false)
def xOrV (f g : Rho → M S D) : Rho → M S D := fun ρ => (f ρ).bind fun x => (M.of (dBl x)).bind fun b => match b with | true => .ret (.bl true) | false => g ρ
def xNotV (f : Rho → M S D) : Rho → M S D := fun ρ => (f ρ).bind fun x => (M.of (dBl x)).bind fun b => .ret (.bl (!b))
theorem e_andV (h1 : EvD C ta fa) (h2 : EvD C tb fb) : EvD C (fun E => tAnV (ta E) (tb E)) (xAndV fa fb) := fun B A ρ σ H s E Q R I W => by
  refine h1 B A ρ σ H s E _ R I ((Wish.then W).mono fun x s1 W1 v H1 e1 I1 q1 => ?_)
  cases e : dBl x with
  | none => rw [e] at W1; exact W1.elim
  | some b =>
    rw [e] at W1
    rw [q1.bl_of e]
    cases b with
    | true => exact h2 B A ρ σ H1 s1 E _ (R.step e1) I1 (Wish.mono (Wish.step W1 e1) fun b s2 W2 v H2 e2 I2 q => W2 v H2 (e1.trans e2) I2 q)
    | false => exact W1 _ H1 e1 I1 (.bl false)
theorem e_orV (h1 : EvD C ta fa) (h2 : EvD C tb fb) : EvD C (fun E => tOrV' (ta E) (tb E)) (xOrV fa fb) := fun B A ρ σ H s E Q R I W => by
  refine h1 B A ρ σ H s E _ R I ((Wish.then W).mono fun x s1 W1 v H1 e1 I1 q1 => ?_)
  cases e : dBl x with
  | none => rw [e] at W1; exact W1.elim
  | some b =>
    rw [e] at W1
    rw [q1.bl_of e]
    cases b with
    | false => exact h2 B A ρ σ H1 s1 E _ (R.step e1) I1 (Wish.mono (Wish.step W1 e1) fun b s2 W2 v H2 e2 I2 q => W2 v H2 (e1.trans e2) I2 q)
    | true => exact W1 _ H1 e1 I1 (.bl true)
theorem e_notV (h1 : EvD C ta fa) : EvD C (fun E => tNoV (ta E)) (xNotV fa) := fun B A ρ σ H s E Q R I W => by
  refine h1 B A ρ σ H s E _ R I ((Wish.then W).mono fun x s1 W1 v H1 e1 I1 q1 => ?_)
  cases e : dBl x with
  | none => rw [e] at W1; exact W1.elim
  | some b =>
    rw [e] at W1
    rw [q1.bl_of e]
    exact W1 _ H1 e1 I1 (.bl _)
theorem e_one : EvD C ta fa → EvD C ta fa := id
/-- a < b < c -/
def xCh (op op' : D → D → Option D) (f g h : Rho → M S D) : Rho → M S D := fun ρ => (f ρ).bind fun x => (g ρ).bind fun y => (M.of ((op x y).bind dBl)).bind fun b => match b with
  | true => (h ρ).bind fun z => .of (op' y z)
  | false => .ret (.bl false)
theorem e_ch {r r' : R2} {op op' : D → D → Option D} (ho : OpD r op) (ho' : OpD r' op') (ha : EvD C ta fa) (hb : EvD C tb fb) (hc : EvD C tc fc) : EvD C (fun E => tCh r r' (ta E) (tb E) (tc E)) (xCh op op' fa fb fc) := fun B A ρ σ H s E Q R I W => by
  refine ha B A ρ σ H s E _ R I ((Wish.then W).mono fun x s1 W1 v H1 e1 I1 h1 => ?_)
  refine hb B A ρ σ H1 s1 E _ (R.step e1) I1 ((Wish.then (W1.step e1)).mono fun y s2 W2 w H2 e2 I2 h2 => ?_)
  cases e : op x y with
  | none => rw [e] at W2; exact W2.elim
  | some d =>
    cases eb : dBl d with
    | none => rw [e, Option.bind_some, eb] at W2; exact W2.elim
    | some b =>
      rw [e, Option.bind_some, eb] at W2
      refine ho A H2 v w x y d _ (h1.stp (e2.stp R.ak)) h2 (fun a q => R.nw a (e1.2 a (e2.2 a q))) e fun u H3 e3 h3 => ?_
      rw [h3.bl_of eb]
      have e13 := (e1.trans e2).trans (e3.all (P := C.keep))
      cases b with
      | false => exact W2 _ H3 e13 (C.st _ _ _ I2 e3) (.bl false)
      | true =>
        refine hc B A ρ σ H3 s2 E _ (R.step e13) (C.st _ _ _ I2 e3) ((Wish.then (Wish.step (show Wish C ⟨H1, A, none⟩ E ((fc ρ s2).then fun z => M.of (op' y z)) (fun d s' => ∀ v H', ExL C.keep A H H' → C.I s' H' → Is A H' v d → Q v H') from W2) (e2.trans e3.all))).mono fun z s4 W4 w4 H4 e4 I4 h4 => ?_)
        cases e' : op' y z with
        | none => rw [e'] at W4; exact W4.elim
        | some d' =>
          rw [e'] at W4
          exact ho' A H4 w w4 y z d' Q ((h2.stp (e3.stp)).stp (e4.stp R.ak)) h4 (fun a q => R.nw a (e13.2 a (e4.2 a q))) e' fun u H5 e5 h5 => W4 u H5 ((e13.trans e4).trans e5.all) (C.st _ _ _ I4 e5) h5
def xNil : Rho → M S (List D) := fun _ => .ret []
def xCons (f : Rho → M S D) (g : Rho → M S (List D)) : Rho → M S (List D) := fun ρ => (f ρ).bind fun x => (g ρ).bind fun xs => .ret (x :: xs)
variable {tr : XK → TA} {fr : Rho → M S (List D)}
theorem a_nil : EvA C (fun _ => tNil) xNil := fun B A ρ σ H s E Q R I W => W [] H (ExL.refl _ _ _) I .nil
theorem a_cons (ha : EvD C ta fa) (hr : EvA C tr fr) : EvA C (fun E => tCons (ta E) (tr E)) (xCons fa fr) := fun B A ρ σ H s E Q R I W => by
  refine ha B A ρ σ H s E _ R I ((Wish.then W).mono fun x s1 W1 v H1 e1 I1 h1 => ?_)
  refine hr B A ρ σ H1 s1 E _ (R.step e1) I1 ((Wish.then (W1.step e1)).mono fun y s2 W2 w H2 e2 I2 h2 => ?_)
  exact W2 _ H2 (e1.trans e2) I2 (.cons (h1.stp (e2.stp R.ak)) h2)
def lim (n : Nat) : Bool := decide (n ≤ 1000000)
theorem lim_ok {n : Nat} (h : lim n = true) : n ≤ sizeLine := Nat.le_trans (of_decide_eq_true h) (by decide)
def xTup (f : Rho → M S (List D)) : Rho → M S D := fun ρ => (f ρ).bind fun xs => match lim xs.length with | true => .ret (.tup xs) | false => fun _ => .bad
def xLstN (f : Rho → M S (List D)) : Rho → M S (List D) := fun ρ => (f ρ).bind fun xs => match lim xs.length with | true => .ret xs | false => fun _ => .bad
theorem IsL.length {A : Addr → Prop} {H : Hp} : ∀ {vs : List V} {ds : List D}, IsL A H vs ds → vs.length = ds.length
  | _, _, .nil => rfl
  | _, _, .cons _ t => congrArg (· + 1) (IsL.length t)
theorem look_upd {H : Hp} {p : Addr} {o : HO} (h : ∀ w u, o ≠ .frz w u) : look (upd H p o) p = some o := by
  unfold look
  rw [upd_same]
  cases o <;> first | rfl | exact absurd rfl (h _ _)
theorem e_tup (hr : EvA C tr fr) : EvD C (fun E => tTup (tr E)) (xTup fr) := fun B A ρ σ H s E Q R I W => by
  refine hr B A ρ σ H s E _ R I ((Wish.then W).mono fun xs s1 W1 vs H1 e1 I1 h1 => ?_)
  cases e : lim xs.length with
  | false => rw [e] at W1; exact W1.elim
  | true =>
    rw [e] at W1
    refine ⟨by rw [h1.length]; exact lim_ok e, fun p hp => ?_⟩
    have x : Ext All H1 (upd H1 p (.tup vs)) := Ext.new hp
    exact W1 _ _ (e1.trans (x.all (P := C.keep))) (C.st _ _ _ I1 x) (.tup (R.nw p (e1.2 p hp)) upd_same (h1.stp (x.stp)))
theorem n_lst (hr : EvA C tr fr) : EvN C (fun E => tLst (tr E)) (xLstN fr) := fun B A ρ σ H s E Q R I W => by
  refine hr B A ρ σ H s E _ R I ((Wish.then W).mono fun xs s1 W1 vs H1 e1 I1 h1 => ?_)
  cases e : lim xs.length with
  | false => rw [e] at W1; exact W1.elim
  | true =>
    rw [e] at W1
    exact ⟨by rw [h1.length]; exact lim_ok e, fun p hp => W1 p H1 vs hp e1 (C.st _ _ _ I1 (Ext.new hp)) h1⟩
/-- a new list as a value -/
def xL (f : Rho → M S (List D)) : Rho → M S D := fun ρ => (f ρ).bind fun xs => .ret (.lst xs)
theorem e_new {te : XK → TE} {f : Rho → M S (List D)} (h : EvN C te f) : EvD C te (xL f) := fun B A ρ σ H s E Q R I W => by
  refine h B A ρ σ H s E _ R I ((Wish.then W).mono fun xs s1 W1 p H1 vs hp e1 I1 h1 => ?_)
  have x : Ext All H1 (upd H1 p (.lst vs)) := Ext.new hp
  exact W1 _ _ (e1.trans (x.all (P := C.keep))) I1 (.lst (R.nw p (e1.2 p hp)) upd_same (h1.stp (x.stp)))
def xCa (op : List D → Option D) (f : Rho → M S (List D)) : Rho → M S D := fun ρ => (f ρ).bind fun xs => .of (op xs)
theorem e_ca {r : List V → Hp → VK → Prop} {op : List D → Option D} (ho : CaD r op) (hr : EvA C tr fr) : EvD C (fun E => tCB r (tr E)) (xCa op fr) := fun B A ρ σ H s E Q R I W => by
  refine hr B A ρ σ H s E _ R I ((Wish.then W).mono fun xs s1 W1 vs H1 e1 I1 h1 => ?_)
  cases e : op xs with
  | none => rw [e] at W1; exact W1.elim
  | some d =>
    rw [e] at W1
    exact ho A H1 vs xs d Q h1 (fun a q => R.nw a (e1.2 a q)) e fun u H3 e3 h3 => W1 u H3 (e1.trans e3.all) (C.st _ _ _ I1 e3) h3
/-- a call of a def -/
def xF (m : List D → M S D) (f : Rho → M S (List D)) : Rho → M S D := fun ρ => (f ρ).bind m
theorem e_call {sp : Sp} {m : List D → M S D} (hs : SpD C sp m) (hr : EvA C tr fr) : EvD C (fun E => tCallF sp E (tr E)) (xF m fr) := fun B A ρ σ H s E Q R I W => by
  refine hr B A ρ σ H s E _ R I ((Wish.then W).mono fun xs s1 W1 vs H1 e1 I1 h1 => ?_)
  refine hs A H1 vs xs s1 Q E h1 (fun a q => R.nw a (e1.2 a q)) R.ao I1 ?_
  show Wish C ⟨H1, A, none⟩ E (m xs s1) _
  have W1 : Wish C ⟨H, A, none⟩ E (m xs s1) (fun d s' => ∀ v H', ExL C.keep A H H' → C.I s' H' → Is A H' v d → Q v H') := W1
  cases e : m xs s1 with
  | ok d s2 => rw [e] at W1; exact fun v H2 e2 I2 h2 => W1 v H2 (e1.trans e2) I2 h2
  | ex c fs s2 =>
    rw [e] at W1
    intro od H2 e2 I2 h2
    exact W1 od H2 (e1.trans e2) I2 h2
  | bad => rw [e] at W1; exact W1.elim
/-- a def that knows no state, called where there is one -/
def pureC (K : PySem.W.Frag) : Cfg Unit := ⟨⟨All, All, fun _ h => h⟩, K, fun _ _ => True, fun _ _ _ _ _ => trivial, fun _ _ _ _ _ _ _ => trivial⟩
def up (m : List D → M Unit D) : List D → M S D := fun ds s => match m ds () with
  | .ok d _ => .ok d s
  | .ex c fs _ => .ex c fs s
  | .bad => .bad
theorem SpD.up {K : PySem.W.Frag} {sp : Sp} {m : List D → M Unit D} (h : SpD (pureC K) sp m) : SpD C sp (up m) := fun A H vs ds s Q E hv nw kp I W => by
  refine h A H vs ds () Q E hv nw (fun _ _ => trivial) trivial ?_
  unfold Fs.up at W
  cases e : m ds () with
  | ok d u => rw [e] at W; exact fun v H2 e2 _ h2 => W v H2 (e2.wk fun _ _ => trivial) (C.stL _ _ _ I (e2.sub fun _ _ => trivial)) h2
  | ex c fs u => rw [e] at W; exact fun od H2 e2 _ h2 => W od H2 (e2.wk fun _ _ => trivial) (C.stL _ _ _ I (e2.sub fun _ _ => trivial)) h2
  | bad => rw [e] at W; exact W.elim
end
end Fs

namespace Fs
open PySem PySem.Spec PyProof.Rows L2
def dv : D → Option V
  | .non => some .non
  | .bl b => some (.bl b)
  | .int i => some (.int i)
  | .str x => some (.str x)
  | _ => none
theorem Is.dv {A : Addr → Prop} {H : Hp} {v w : V} {x : D} (h : Is A H v x) (e : dv x = some w) : v = w := by
  cases h <;> simp [Fs.dv] at e <;> first | exact e | (subst e; rfl)
def dvs : List D → Option (List V)
  | [] => some []
  | x :: xs => match dv x, dvs xs with
    | some v, some vs => some (v :: vs)
    | _, _ => none
theorem IsL.dvs {A : Addr → Prop} {H : Hp} : ∀ {vs ws : List V} {xs : List D}, IsL A H vs xs → dvs xs = some ws → vs = ws
  | _, _, _, .nil, e => by simp [Fs.dvs] at e; exact e.symm ▸ rfl
  | _, _, _, .cons h t, e => by
    unfold Fs.dvs at e
    split at e
    · rename_i v vs e1 e2
      cases e
      rw [h.dv e1, IsL.dvs t e2]
    · cases e
mutual
def toPy : D → Option PyData
  | .non => some .none
  | .bl b => some (.bool b)
  | .int i => some (.int i)
  | .str x => some (.str x)
  | .lst xs => (toPyL xs).map .list
  | .tup xs => (toPyL xs).map .tuple
  | .ty _ => none
  | .adr _ => none
  | .dct _ => none
  | .obj _ _ => none
  | .exc _ _ => none
  | .fn _ _ => none
def toPyL : List D → Option (List PyData)
  | [] => some []
  | x :: xs => match toPy x, toPyL xs with
    | some d, some ds => some (d :: ds)
    | _, _ => none
end
mutual
theorem Is.py {K : PySem.W.Frag} {A : Addr → Prop} {H : Hp} : ∀ {v : V} {x : D} {d : PyData}, Is A H v x → toPy x = some d → Dp K H v d
  | _, _, _, .non, e => by simp [toPy] at e; subst e; exact .non
  | _, _, _, .bl b, e => by simp [toPy] at e; subst e; exact .bl b
  | _, _, _, .int b, e => by simp [toPy] at e; subst e; exact .int b
  | _, _, _, .str b, e => by simp [toPy] at e; subst e; exact .str b
  | _, _, _, .ty _, e => by simp [toPy] at e
  | _, _, _, .adr _, e => by simp [toPy] at e
  | _, _, _, .lst h1 h2 h3, e => by
    simp only [toPy, Option.map_eq_some_iff] at e
    obtain ⟨ds, e1, e2⟩ := e
    subst e2
    exact .lst (.inl (.inl h2)) (IsL.py h3 e1)
  | _, _, _, .tup h1 h2 h3, e => by
    simp only [toPy, Option.map_eq_some_iff] at e
    obtain ⟨ds, e1, e2⟩ := e
    subst e2
    exact .tup (.inl (.inl h2)) (IsL.py h3 e1)
  | _, _, _, .dct _ _ _, e => by simp [toPy] at e
  | _, _, _, .obj _ _ _, e => by simp [toPy] at e
  | _, _, _, .exc _ _ _ _ _, e => by simp [toPy] at e
  | _, _, _, .fn _ _ _, e => by simp [toPy] at e
  | _, _, _, .exn _ _, e => by simp [toPy] at e
theorem IsL.py {K : PySem.W.Frag} {A : Addr → Prop} {H : Hp} : ∀ {v : List V} {x : List D} {d : List PyData}, IsL A H v x → toPyL x = some d → DpAll K H v d
  | _, _, _, .nil, e => by simp [toPyL] at e; subst e; exact .nil
  | _, _, _, .cons h t, e => by
    unfold toPyL at e
    split at e
    · rename_i d ds e1 e2
      cases e
      exact .cons (Is.py h e1) (IsL.py t e2)
    · cases e
end
def pyEq (x y : D) : Option Bool := match toPy x, toPy y with
  | some p, some q => (match SeqAt.shaped p && SeqAt.shaped q with | true => some (PyData.eqv p q) | false => none)
  | _, _ => none
def eqD (x y : D) : Option Bool := match dv x, dv y with
  | some v, some w => (match scal v w with | true => some (decide (v = w)) | false => pyEq x y)
  | _, _ => pyEq x y
def dEq (x y : D) : Option D := (eqD x y).map .bl
def dNe (x y : D) : Option D := (eqD x y).map fun b => .bl (!b)
section
variable {K : PySem.W.Frag} {A : Addr → Prop} {H : Hp}
theorem eqD_cases {v w : V} {x y : D} {b : Bool} (h1 : Is A H v x) (h2 : Is A H w y) (e : eqD x y = some b) : (scal v w = true ∧ b = decide (v = w)) ∨ ∃ p q, Dp K H v p ∧ Dp K H w q ∧ SeqAt.shaped p = true ∧ SeqAt.shaped q = true ∧ b = PyData.eqv p q := by
  have py : pyEq x y = some b → ∃ p q, Dp K H v p ∧ Dp K H w q ∧ SeqAt.shaped p = true ∧ SeqAt.shaped q = true ∧ b = PyData.eqv p q := fun e => by
    unfold pyEq at e
    split at e
    · rename_i p q e1 e2
      split at e
      · rename_i s
        rw [Bool.and_eq_true] at s
        cases e
        exact ⟨p, q, h1.py e1, h2.py e2, s.1, s.2, rfl⟩
      · cases e
    · cases e
  unfold eqD at e
  split at e
  · rename_i v' w' e1 e2
    rw [h1.dv e1, h2.dv e2]
    split at e
    · rename_i s
      cases e
      exact .inl ⟨s, rfl⟩
    · have z := py e
      rw [h1.dv e1, h2.dv e2] at z
      exact .inr z
  · exact .inr (py e)
theorem o_eq : OpD (mEq K) dEq := fun A H v w x y d Q h1 h2 nw e q => by
  obtain ⟨b, e1, rfl⟩ := Option.map_eq_some_iff.mp e
  unfold mEq
  split
  · rename_i s
    rcases eqD_cases (K := K) h1 h2 e1 with ⟨_, rfl⟩ | ⟨p, r, a1, a2, a3, a4, rfl⟩
    · exact q _ H (Ext.refl _ _) (.bl _)
    · have : PyData.eqv p r = decide (v = w) := by
        cases a1 <;> cases a2 <;> simp [scal] at s <;> simp [PyData.eqv] <;> (rw [Bool.eq_iff_iff]; simp)
      rw [← this]
      exact q _ H (Ext.refl _ _) (.bl _)
  · rename_i s
    rcases eqD_cases (K := K) h1 h2 e1 with ⟨s', _⟩ | ⟨p, r, a1, a2, a3, a4, rfl⟩
    · rw [s'] at s; cases s
    · exact ⟨p, r, a1, a2, a3, a4, q _ H (Ext.refl _ _) (.bl _)⟩
theorem o_ne : OpD (mNe K) dNe := fun A H v w x y d Q h1 h2 nw e q => by
  obtain ⟨b, e1, rfl⟩ := Option.map_eq_some_iff.mp e
  unfold mNe
  split
  · rename_i s
    rcases eqD_cases (K := K) h1 h2 e1 with ⟨_, rfl⟩ | ⟨p, r, a1, a2, a3, a4, rfl⟩
    · exact q _ H (Ext.refl _ _) (.bl _)
    · have : PyData.eqv p r = decide (v = w) := by
        cases a1 <;> cases a2 <;> simp [scal] at s <;> simp [PyData.eqv] <;> (rw [Bool.eq_iff_iff]; simp)
      rw [← this]
      exact q _ H (Ext.refl _ _) (.bl _)
  · rename_i s
    rcases eqD_cases (K := K) h1 h2 e1 with ⟨s', _⟩ | ⟨p, r, a1, a2, a3, a4, rfl⟩
    · rw [s'] at s; cases s
    · exact ⟨p, r, a1, a2, a3, a4, q _ H (Ext.refl _ _) (.bl _)⟩
def valD (kds : List (Key × D)) (k : Key) : Option D := (kds.find? fun kv => decide (kv.1 = k)).map (·.2)
theorem IsK.val {A : Addr → Prop} {H : Hp} {k : Key} : ∀ {vs : List (Key × V)} {ds : List (Key × D)}, IsK A H vs ds → (valV vs k = none ∧ valD ds k = none) ∨ ∃ v d, valV vs k = some v ∧ valD ds k = some d ∧ Is A H v d
  | _, _, .nil => .inl ⟨rfl, rfl⟩
  | _, _, .cons (k := k') (v := v) (d := d) (vs := vs) (ds := ds) h t => by
    unfold valV valD
    rw [List.find?_cons, List.find?_cons]
    by_cases e : k' = k
    · simp only [e, decide_true]
      exact .inr ⟨v, d, rfl, rfl, h⟩
    · simp only [e, decide_false]
      exact IsK.val t
def keyD : D → Option Key
  | .int i => some (.inl i)
  | .str x => some (.inr x)
  | _ => none
theorem Is.key {A : Addr → Prop} {H : Hp} {v : V} {x : D} {k : Key} (h : Is A H v x) (e : keyD x = some k) : keyOf v = some k := by
  cases h <;> simp [keyD] at e <;> simp [keyOf, e]
def flatIn (x : D) (xs : List D) : Option Bool := match dv x, dvs xs with
  | some v, some vs => (match flatV v && vs.all flatV with | true => some (inV v vs) | false => none)
  | _, _ => none
def pyIn (x : D) (xs : List D) : Option Bool := match toPy x, toPyL xs with
  | some p, some qs => (match SeqAt.shaped p && SeqAt.shaped (.list qs) with | true => some (qs.any fun z => PyData.eqv z p) | false => none)
  | _, _ => none
def inD (x y : D) : Option Bool := match y with
  | .str j => (match x with | .str i => some (inS i j) | _ => none)
  | .lst xs => (match flatIn x xs with | some b => some b | none => (match dv x, dvs xs with | some _, some _ => none | _, _ => pyIn x xs))
  | .tup xs => flatIn x xs
  | .dct kds => (keyD x).map fun k => (valD kds k).isSome
  | _ => none
theorem flatIn_of {v : V} {vs : List V} {x : D} {xs : List D} {b : Bool} (h1 : Is A H v x) (h2 : IsL A H vs xs) (e : flatIn x xs = some b) : (flatV v && vs.all flatV) = true ∧ b = inV v vs := by
  unfold flatIn at e
  split at e
  · rename_i v' vs' e1 e2
    rw [h1.dv e1, h2.dvs e2]
    split at e
    · rename_i f
      cases e
      exact ⟨f, rfl⟩
    · cases e
  · cases e
def dIn2 (x y : D) : Option D := (inD x y).map .bl
def dNi2 (x y : D) : Option D := (inD x y).map fun b => .bl (!b)
theorem notFlat {v : V} {x : D} (h : Is A H v x) (e : dv x = none) : flatV v = false := by
  cases h <;> simp [dv] at e <;> rfl
theorem notFlats : ∀ {vs : List V} {xs : List D}, IsL A H vs xs → dvs xs = none → vs.all flatV = false
  | _, _, .nil, e => by simp [dvs] at e
  | _, _, .cons h t, e => by
    unfold dvs at e
    rw [List.all_cons]
    split at e
    · cases e
    · rename_i n
      cases e1 : dv _ with
      | none => rw [notFlat h e1]; rfl
      | some v =>
        cases e2 : dvs _ with
        | none => rw [notFlats t e2, Bool.and_false]
        | some vs => exact absurd e2 (n v vs e1)
def inR (K : PySem.W.Frag) (c : Bool → V) : R2 := fun v w H Q => match w with
  | .str j => (match v with | .str i => Q (c (inS i j)) H | _ => False)
  | .ref a => (match look H a with
    | some (.lst xs) => (match flatV v && xs.all flatV with | true => Q (c (inV v xs)) H | false => ∃ d ds, Dp K H v d ∧ Dp K H w (.list ds) ∧ SeqAt.shaped d = true ∧ SeqAt.shaped (.list ds) = true ∧ Q (c (ds.any fun z => PyData.eqv z d)) H)
    | some (.tup xs) => (match flatV v && xs.all flatV with | true => Q (c (inV v xs)) H | false => False)
    | some (.dK kvs) => (match keyOf v with | some k => Q (c (valV kvs k).isSome) H | none => False)
    | _ => False)
  | _ => False
theorem mIn_eq : mIn K = inR K fun b => .bl b := by
  funext v w H Q
  unfold mIn inR rInD
  rfl
theorem mNi_eq : mNi K = inR K fun b => .bl (!b) := by
  funext v w H Q
  unfold mNi inR rNotInD
  rfl
theorem in_core {v w : V} {x y : D} {b : Bool} {Q : VK} (c : Bool → V) (h1 : Is A H v x) (h2 : Is A H w y) (e : inD x y = some b) (q : Q (c b) H) : inR K c v w H Q := by
  unfold inR
  unfold inD at e
  split at e
  · cases h2
    split at e
    · cases h1
      cases e
      exact q
    · cases e
  · cases h2 with
    | @lst a vs ds k1 k2 k3 =>
      have lk : look H a = some (.lst vs) := by unfold look; rw [k2]
      simp only [lk]
      split at e
      · rename_i b' f
        cases e
        obtain ⟨f1, f2⟩ := flatIn_of h1 k3 f
        simp only [f1]
        rw [← f2]; exact q
      · split at e
        · cases e
        · rename_i n
          unfold pyIn at e
          split at e
          · rename_i p qs e1 e2
            split at e
            · rename_i s
              rw [Bool.and_eq_true] at s
              cases e
              have nf : (flatV v && vs.all flatV) = false := by
                cases d1 : dv x with
                | none => rw [notFlat h1 d1]; rfl
                | some v' =>
                  cases d2 : dvs _ with
                  | none => rw [notFlats k3 d2, Bool.and_false]
                  | some vs' => exact absurd d2 (n v' vs' d1)
              simp only [nf]
              exact ⟨p, qs, h1.py e1, .lst (.inl (.inl k2)) (k3.py e2), s.1, s.2, q⟩
            · cases e
          · cases e
  · cases h2 with
    | @tup a vs ds k1 k2 k3 =>
      have lk : look H a = some (.tup vs) := by unfold look; rw [k2]
      simp only [lk]
      obtain ⟨f1, f2⟩ := flatIn_of h1 k3 e
      simp only [f1]
      rw [← f2]; exact q
  · cases h2 with
    | @dct a vs ds k1 k2 k3 =>
      obtain ⟨k, e1, e2⟩ := Option.map_eq_some_iff.mp e
      simp only [k2, h1.key e1]
      rcases k3.val (k := k) with ⟨z1, z2⟩ | ⟨v', d', z1, z2, _⟩
      · rw [z1]; rw [z2] at e2; rw [← e2] at q; exact q
      · rw [z1]; rw [z2] at e2; rw [← e2] at q; exact q
  · cases e
theorem o_in : OpD (mIn K) dIn2 := fun A H v w x y d Q h1 h2 nw e q => by
  obtain ⟨b, e1, rfl⟩ := Option.map_eq_some_iff.mp e
  rw [mIn_eq]
  exact in_core (K := K) (fun b => .bl b) h1 h2 e1 (q _ H (Ext.refl _ _) (.bl _))
theorem o_ni : OpD (mNi K) dNi2 := fun A H v w x y d Q h1 h2 nw e q => by
  obtain ⟨b, e1, rfl⟩ := Option.map_eq_some_iff.mp e
  rw [mNi_eq]
  exact in_core (K := K) (fun b => .bl (!b)) h1 h2 e1 (q _ H (Ext.refl _ _) (.bl _))
def dCp (f : Int → Int → Bool) (g : Str → Str → Bool) (x y : D) : Option D := match x, y with
  | .int i, .int j => some (.bl (f i j))
  | .str i, .str j => some (.bl (g i j))
  | _, _ => none
theorem o_cp {f : Int → Int → Bool} {g : Str → Str → Bool} : OpD (mCp f g) (dCp f g) := fun A H v w x y d Q h1 h2 nw e q => by
  unfold dCp at e
  split at e <;> first
    | (cases h1; cases h2; cases e; exact q _ H (Ext.refl _ _) (.bl _))
    | cases e
def dLt : D → D → Option D := dCp (fun i j => decide (i < j)) fun i j => ltS i j
def dLe : D → D → Option D := dCp (fun i j => decide (i ≤ j)) fun i j => !ltS j i
def dGt : D → D → Option D := dCp (fun i j => decide (j < i)) fun i j => ltS j i
def dGe : D → D → Option D := dCp (fun i j => decide (j ≤ i)) fun i j => !ltS i j
theorem o_lt : OpD mLt dLt := o_cp
theorem o_le : OpD mLe dLe := o_cp
theorem o_gt : OpD mGt dGt := o_cp
theorem o_ge : OpD mGe dGe := o_cp
/-- x is None -/
def isNon : D → Bool
  | .non => true
  | _ => false
def dIsN (x y : D) : Option D := match y with | .non => some (.bl (isNon x)) | _ => none
def dNoN (x y : D) : Option D := match y with | .non => some (.bl (!isNon x)) | _ => none
theorem isNon_of {v : V} {x : D} (h : Is A H v x) : isNon x = decide (v = .non) := by cases h <;> rfl
theorem o_isN : OpD mIsN dIsN := fun A H v w x y d Q h1 h2 nw e q => by
  unfold dIsN at e
  split at e
  · cases h2; cases e
    have := q _ H (Ext.refl _ _) (.bl _)
    rw [isNon_of h1] at this
    exact this
  · cases e
theorem o_noN : OpD mNoN dNoN := fun A H v w x y d Q h1 h2 nw e q => by
  unfold dNoN at e
  split at e
  · cases h2; cases e
    have := q _ H (Ext.refl _ _) (.bl _)
    rw [isNon_of h1] at this
    exact this
  · cases e
theorem IsL.append : ∀ {vs ws : List V} {xs ys : List D}, IsL A H vs xs → IsL A H ws ys → IsL A H (vs ++ ws) (xs ++ ys)
  | _, _, _, _, .nil, k => k
  | _, _, _, _, .cons h t, k => .cons h (IsL.append t k)
def dAdd (x y : D) : Option D := match x, y with
  | .int i, .int j => some (.int (i + j))
  | .str i, .str j => (match lim (i.length + j.length) with | true => some (.str (i ++ j)) | false => none)
  | .lst xs, .lst ys => (match lim (xs.length + ys.length) with | true => some (.lst (xs ++ ys)) | false => none)
  | _, _ => none
theorem o_add : OpD (mAdd K) dAdd := fun A H v w x y d Q h1 h2 nw e q => by
  unfold dAdd at e
  split at e
  · cases h1; cases h2; cases e
    exact q _ H (Ext.refl _ _) (.int _)
  · cases h1; cases h2
    split at e
    · rename_i l
      cases e
      exact ⟨lim_ok l, q _ H (Ext.refl _ _) (.str _)⟩
    · cases e
  · cases h1 with
    | @lst a vs _ k1 k2 k3 =>
      cases h2 with
      | @lst b ws _ m1 m2 m3 =>
        split at e
        · rename_i l
          cases e
          unfold mAdd
          simp only [k2, m2]
          refine ⟨by rw [k3.length, m3.length]; exact lim_ok l, fun p hp => ?_⟩
          have x : Ext All H (upd H p (.lst (vs ++ ws))) := Ext.new hp
          exact q _ _ x (.lst (nw p hp) upd_same ((k3.append m3).stp (x.stp)))
        · cases e
  · cases e
def dI2 (C : Int → Int → Bool) (g : Int → Int → Int) (x y : D) : Option D := match x, y with
  | .int i, .int j => (match C i j with | true => some (.int (g i j)) | false => none)
  | _, _ => none
theorem o_I2 {C : Int → Int → Bool} {P : Int → Int → Prop} {g : Int → Int → Int} (hc : ∀ i j, C i j = true → P i j) : OpD (mC2 P fun i j => .int (g i j)) (dI2 C g) := fun A H v w x y d Q h1 h2 nw e q => by
  unfold dI2 at e
  split at e
  · cases h1; cases h2
    split at e
    · rename_i c
      cases e
      exact ⟨hc _ _ c, q _ H (Ext.refl _ _) (.int _)⟩
    · cases e
  · cases e
def dSub (x y : D) : Option D := match x, y with | .int i, .int j => some (.int (i - j)) | _, _ => none
theorem o_sub : OpD mSub dSub := fun A H v w x y d Q h1 h2 nw e q => by
  unfold dSub at e
  split at e
  · cases h1; cases h2; cases e
    exact q _ H (Ext.refl _ _) (.int _)
  · cases e
def dMul (x y : D) : Option D := match x, y with
  | .int i, .int j => (match decide ((Builtin.Int.intBits i : Int) + (Builtin.Int.intBits j : Int) ≤ 134217728) with | true => some (.int (i * j)) | false => none)
  | .lst xs, .int k => (match decide (0 ≤ k ∧ k < 100000) && lim (xs.length * k.toNat) with | true => some (.lst (List.replicate k.toNat xs).flatten) | false => none)
  | _, _ => none
theorem IsL.rep {vs : List V} {xs : List D} (h : IsL A H vs xs) : ∀ n : Nat, IsL A H (List.replicate n vs).flatten (List.replicate n xs).flatten
  | 0 => .nil
  | n + 1 => by
    rw [List.replicate_succ, List.replicate_succ, List.flatten_cons, List.flatten_cons]
    exact h.append (IsL.rep h n)
theorem o_mul : OpD mMul dMul := fun A H v w x y d Q h1 h2 nw e q => by
  unfold dMul at e
  split at e
  · cases h1; cases h2
    split at e
    · rename_i c
      cases e
      refine ⟨?_, q _ H (Ext.refl _ _) (.int _)⟩
      have c2 := of_decide_eq_true c
      exact c2
    · cases e
  · rename_i xs0 k0
    cases h2
    cases h1 with
    | @lst a vs _ k1 k2 k3 =>
      split at e
      · rename_i c
        cases e
        rw [Bool.and_eq_true] at c
        have c1 := of_decide_eq_true c.1
        refine ⟨a, _, vs, rfl, rfl, k2, by omega, by omega, by rw [k3.length]; exact lim_ok c.2, fun p hp => ?_⟩
        have x := Ext.new (o := .lst (List.replicate k0.toNat vs).flatten) hp
        exact q _ _ x (.lst (nw p hp) upd_same ((k3.rep _).stp (x.stp)))
      · cases e
  · cases e
def dMod : D → D → Option D := dI2 (fun _ j => decide (0 < j)) fun i j => i % j
theorem o_mod : OpD mMod dMod := o_I2 fun _ _ h => of_decide_eq_true h
def dFdv : D → D → Option D := dI2 (fun _ j => decide (0 < j ∧ j < 1073741824)) fun i j => i / j
theorem o_fdv : OpD mFdv dFdv := o_I2 fun _ _ h => by have h2 := of_decide_eq_true h; exact h2
def dPow : D → D → Option D := dI2 (fun i j => decide (0 ≤ j ∧ j ≤ 1000000 ∧ i.natAbs < 2 ^ 64)) fun i j => i ^ j.toNat
theorem o_pow : OpD mPow dPow := o_I2 fun _ _ h => by have h2 := of_decide_eq_true h; exact h2
def dNeg (x : D) : Option D := match x with | .int i => some (.int (-i)) | _ => none
theorem u_neg : UnD mNeg dNeg := fun A H v x d Q h1 nw e q => by
  unfold dNeg at e
  split at e
  · cases h1; cases e
    exact q _ H (Ext.refl _ _) (.int _)
  · cases e
theorem IsL.get : ∀ {vs : List V} {xs : List D} (j : Nat), IsL A H vs xs → (vs[j]? = none ∧ xs[j]? = none) ∨ ∃ v x, vs[j]? = some v ∧ xs[j]? = some x ∧ Is A H v x
  | _, _, j, .nil => .inl (by simp)
  | _, _, 0, .cons h t => .inr ⟨_, _, rfl, rfl, h⟩
  | _, _, j + 1, .cons h t => by simpa using IsL.get j t
theorem IsL.at {vs : List V} {xs : List D} {i : Int} {x : D} (h : IsL A H vs xs) (e : atI xs i = some x) : ∃ v, atI vs i = some v ∧ Is A H v x := by
  unfold atI at e ⊢
  rw [h.length]
  obtain ⟨j, e1, e2⟩ := Option.bind_eq_some_iff.mp e
  rw [e1, Option.bind_some]
  rcases h.get j with ⟨_, z⟩ | ⟨v, y, z1, z2, z3⟩
  · rw [z] at e2; cases e2
  · rw [z2] at e2; cases e2
    exact ⟨v, z1, z3⟩
def dIx (x y : D) : Option D := match x with
  | .str z => (match y with | .int i => (match lim z.length with | true => (atI z.cps.toList i).map fun c => .str ⟨#[c]⟩ | false => none) | _ => none)
  | .lst xs => (match y with | .int i => atI xs i | _ => none)
  | .tup xs => (match y with | .int i => atI xs i | _ => none)
  | .dct kds => (match keyD y with | some k => valD kds k | none => none)
  | _ => none
theorem o_ix : OpD mIx dIx := fun A H v w x y d Q h1 h2 nw e q => by
  unfold dIx at e
  split at e
  · cases h1
    split at e
    · cases h2
      split at e
      · rename_i l
        obtain ⟨c, e1, rfl⟩ := Option.map_eq_some_iff.mp e
        unfold mIx
        simp only [e1]
        exact ⟨lim_ok l, q _ H (Ext.refl _ _) (.str _)⟩
      · cases e
    · cases e
  · cases h1 with
    | @lst a vs _ k1 k2 k3 =>
      split at e
      · cases h2
        obtain ⟨v', e1, e2⟩ := k3.at e
        have lk : look H a = some (.lst vs) := by unfold look; rw [k2]
        unfold mIx
        simp only [lk, e1]
        exact q _ H (Ext.refl _ _) e2
      · cases e
  · cases h1 with
    | @tup a vs _ k1 k2 k3 =>
      split at e
      · cases h2
        obtain ⟨v', e1, e2⟩ := k3.at e
        have lk : look H a = some (.tup vs) := by unfold look; rw [k2]
        unfold mIx
        simp only [lk, e1]
        exact q _ H (Ext.refl _ _) e2
      · cases e
  · cases h1 with
    | @dct a vs _ k1 k2 k3 =>
      split at e
      · rename_i k ek
        unfold mIx
        simp only [k2, h2.key ek]
        rcases k3.val (k := k) with ⟨_, z⟩ | ⟨v', d', z1, z2, z3⟩
        · rw [z] at e; cases e
        · rw [z2] at e; cases e
          simp only [z1]
          exact q _ H (Ext.refl _ _) z3
      · cases e
  · cases e
/-- a slice -/
def cutD (xs : List D) (lo hi : Option Int) : List D := (xs.drop (HT.sIx xs.length 0 lo)).take (HT.sIx xs.length xs.length hi - HT.sIx xs.length 0 lo)
theorem IsL.drop : ∀ {vs : List V} {xs : List D} (n : Nat), IsL A H vs xs → IsL A H (vs.drop n) (xs.drop n)
  | _, _, 0, h => h
  | _, _, n + 1, .nil => .nil
  | _, _, n + 1, .cons h t => IsL.drop n t
theorem IsL.take : ∀ {vs : List V} {xs : List D} (n : Nat), IsL A H vs xs → IsL A H (vs.take n) (xs.take n)
  | _, _, 0, h => .nil
  | _, _, n + 1, .nil => .nil
  | _, _, n + 1, .cons h t => .cons h (IsL.take n t)
theorem IsL.cut {vs : List V} {xs : List D} (h : IsL A H vs xs) (lo hi : Option Int) : IsL A H (cutV vs lo hi) (cutD xs lo hi) := by
  unfold cutV cutD
  rw [h.length]
  exact (h.drop _).take _
def SlD (r : V → Option Int → Option Int → Hp → VK → Prop) (op : D → Option Int → Option Int → Option D) : Prop := ∀ (A : Addr → Prop) (H : Hp) (v : V) (lo hi : Option Int) (x d : D) (Q : VK), Is A H v x → (∀ a, H a = none → A a) → op x lo hi = some d →
  (∀ u H', Ext All H H' → Is A H' u d → Q u H') → r v lo hi H Q
def dSl (x : D) (lo hi : Option Int) : Option D := match x with
  | .str z => (match lim z.length with | true => some (.str (cutS z lo hi)) | false => none)
  | .lst xs => some (.lst (cutD xs lo hi))
  | .tup xs => (match decide (HT.sIx xs.length 0 lo = 0 ∧ HT.sIx xs.length xs.length hi = xs.length) with | true => none | false => some (.tup (cutD xs lo hi)))
  | _ => none
theorem s_sl : SlD (mSl K) dSl := fun A H v lo hi x d Q h1 nw e q => by
  unfold dSl at e
  split at e
  · cases h1
    split at e
    · rename_i l
      cases e
      exact ⟨lim_ok l, q _ H (Ext.refl _ _) (.str _)⟩
    · cases e
  · cases h1 with
    | @lst a vs _ k1 k2 k3 =>
      cases e
      have lk : look H a = some (.lst vs) := by unfold look; rw [k2]
      unfold mSl
      simp only [lk]
      intro p hp
      have x := Ext.new (o := .lst (cutV vs lo hi)) hp
      exact q _ _ x (.lst (nw p hp) upd_same ((k3.cut lo hi).stp (x.stp)))
  · cases h1 with
    | @tup a vs _ k1 k2 k3 =>
      split at e
      · cases e
      · rename_i c
        cases e
        have lk : look H a = some (.tup vs) := by unfold look; rw [k2]
        unfold mSl
        simp only [lk]
        refine ⟨a, vs, rfl, .inl (.inl k2), by rw [k3.length]; exact of_decide_eq_false c, fun p hp => ?_⟩
        have x := Ext.new (o := .tup (cutV vs lo hi)) hp
        exact q _ _ x (.tup (nw p hp) upd_same ((k3.cut lo hi).stp (x.stp)))
  · cases e
end
end Fs

namespace Fs
open PySem PySem.Spec PyProof.Rows L2
variable {S : Type}
theorem Rel.setVal {P : Pl} {B : Bs} {A : Addr → Prop} {ρ : Rho} {σ : L2.St} {H : Hp} {i : Nat} {v : V} {d : D} (R : Rel P B A ρ σ H) (h : Is A H v d) : Rel P B A (ρ.set i (.val d)) (σ.set i (some v)) H where
  len := by simpa using R.len
  ext := R.ext
  nw := R.nw
  n0 := R.n0
  sub := R.sub
  kp := R.kp
  slot := fun j sl e => by
    by_cases q : i = j
    · subst q
      by_cases l : i < ρ.length
      · rw [List.getElem?_set_self l] at e
        cases e
        rw [List.getElem?_set_self (by rw [← R.len]; exact l)]
        exact ⟨v, rfl, h⟩
      · rw [List.getElem?_eq_none (by simpa using l)] at e; cases e
    · rw [List.getElem?_set_ne q] at e ⊢
      exact R.slot j sl e
  apart := fun j k oi oj a e1 e2 e3 e4 => by
    have ne : ∀ {j : Nat} {o : OD}, (ρ.set i (.val d))[j]? = some (.own o) → i ≠ j := fun {j o} e z => by
      subst z
      by_cases l : i < ρ.length
      · rw [List.getElem?_set_self l] at e; cases e
      · rw [List.getElem?_eq_none (by simpa using l)] at e; cases e
    have n1 := ne e1
    have n2 := ne e2
    rw [List.getElem?_set_ne n1] at e1 e3
    rw [List.getElem?_set_ne n2] at e2 e4
    exact R.apart j k oi oj a e1 e2 e3 e4
def wipeR (ρ : Rho) : List Nat → Rho
  | [] => ρ
  | v :: vs => (wipeR ρ vs).set v .no
theorem Rel.setNo {P : Pl} {B : Bs} {A : Addr → Prop} {ρ : Rho} {σ : L2.St} {H : Hp} {i : Nat} {w : Option V} (R : Rel P B A ρ σ H) : Rel P B A (ρ.set i .no) (σ.set i w) H where
  len := by simpa using R.len
  ext := R.ext
  nw := R.nw
  n0 := R.n0
  sub := R.sub
  kp := R.kp
  slot := fun j sl e => by
    by_cases q : i = j
    · subst q
      by_cases l : i < ρ.length
      · rw [List.getElem?_set_self l] at e
        cases e
        trivial
      · rw [List.getElem?_eq_none (by simpa using l)] at e; cases e
    · rw [List.getElem?_set_ne q] at e ⊢
      exact R.slot j sl e
  apart := fun j k oi oj a e1 e2 e3 e4 => by
    have ne : ∀ {j : Nat} {o : OD}, (ρ.set i .no)[j]? = some (.own o) → i ≠ j := fun {j o} e z => by
      subst z
      by_cases l : i < ρ.length
      · rw [List.getElem?_set_self l] at e; cases e
      · rw [List.getElem?_eq_none (by simpa using l)] at e; cases e
    have n1 := ne e1
    have n2 := ne e2
    rw [List.getElem?_set_ne n1] at e1 e3
    rw [List.getElem?_set_ne n2] at e2 e4
    exact R.apart j k oi oj a e1 e2 e3 e4
theorem Rel.wipe {P : Pl} {B : Bs} {A : Addr → Prop} {ρ : Rho} {σ : L2.St} {H : Hp} (R : Rel P B A ρ σ H) : ∀ vs : List Nat, Rel P B A (wipeR ρ vs) (L2.wipe σ vs) H
  | [] => R
  | _ :: vs => (R.wipe vs).setNo
theorem wipe_set {σ : L2.St} {i : Nat} {w : Option V} : ∀ {vs : List Nat}, i ∈ vs → L2.wipe (σ.set i w) vs = L2.wipe σ vs
  | [], h => absurd h (by simp)
  | v :: vs, h => by
    show (L2.wipe (σ.set i w) vs).set v none = (L2.wipe σ vs).set v none
    by_cases q : i ∈ vs
    · rw [wipe_set q]
    · have e : i = v := by simpa [q] using h
      subst e
      have key : ∀ (vs : List Nat), i ∉ vs → L2.wipe (σ.set i w) vs = (L2.wipe σ vs).set i w := by
        intro vs
        induction vs with
        | nil => intro _; rfl
        | cons u us ih =>
          intro hn
          show (L2.wipe (σ.set i w) us).set u none = ((L2.wipe σ us).set u none).set i w
          rw [ih (fun z => hn (by simp [z])), List.set_comm _ _ (fun z => hn (by simp [z]))]
      rw [key vs q, List.set_set]
theorem wipe_in {σ : L2.St} {vs : List Nat} : ∀ us : List Nat, (∀ u ∈ us, u ∈ vs) → L2.wipe (L2.wipe σ us) vs = L2.wipe σ vs
  | [], _ => rfl
  | u :: us, h => by
    show L2.wipe ((L2.wipe σ us).set u none) vs = _
    rw [wipe_set (h u List.mem_cons_self)]
    exact wipe_in us fun w hw => h w (List.mem_cons_of_mem _ hw)
theorem wipe_idem {σ : L2.St} {vs : List Nat} : L2.wipe (L2.wipe σ vs) vs = L2.wipe σ vs := wipe_in vs fun _ h => h
/-- a target, its slots among vs -/
def TgD (t : TG) (g : D → Rho → Option Rho) (vs : List Nat) : Prop := ∀ (P : Pl) (B : Bs) (A : Addr → Prop) (ρ ρ1 : Rho) (σ : L2.St) (H : Hp) (v : V) (d : D) (Q : L2.St → Hp → Prop), Rel P B A ρ σ H → Is A H v d → g d ρ = some ρ1 →
  (∀ σ1, Rel P B A ρ1 σ1 H → L2.wipe σ1 vs = L2.wipe σ vs → Q σ1 H) → t v σ H Q
def TgsD (t : TGs) (g : List D → Rho → Option Rho) (vs : List Nat) : Prop := ∀ (P : Pl) (B : Bs) (A : Addr → Prop) (ρ ρ1 : Rho) (σ : L2.St) (H : Hp) (v : List V) (d : List D) (Q : L2.St → Hp → Prop), Rel P B A ρ σ H → IsL A H v d → g d ρ = some ρ1 →
  (∀ σ1, Rel P B A ρ1 σ1 H → L2.wipe σ1 vs = L2.wipe σ vs → Q σ1 H) → t v σ H Q
def gV (i : Nat) : D → Rho → Option Rho := fun d ρ => some (ρ.set i (.val d))
theorem g_name {i : Nat} {vs : List Nat} (hi : i ∈ vs) : TgD (gName i) (gV i) vs := fun P B A ρ ρ1 σ H v d Q R h e q => by
  cases e
  exact q _ (R.setVal h) (wipe_set hi)
def gVn : List D → Rho → Option Rho := fun ds ρ => match ds with | [] => some ρ | _ => none
def gVc (g : D → Rho → Option Rho) (h : List D → Rho → Option Rho) : List D → Rho → Option Rho := fun ds ρ => match ds with | d :: r => (g d ρ).bind (h r) | [] => none
theorem g_nil {vs : List Nat} : TgsD gNl gVn vs := fun P B A ρ ρ1 σ H v d Q R h e q => by
  cases h with
  | nil => cases e; exact q σ R rfl
  | cons _ _ => cases e
theorem g_cons {t : TG} {u : TGs} {g : D → Rho → Option Rho} {h : List D → Rho → Option Rho} {vs : List Nat} (h1 : TgD t g vs) (h2 : TgsD u h vs) : TgsD (gCs t u) (gVc g h) vs := fun P B A ρ ρ1 σ H v d Q R hl e q => by
  cases hl with
  | nil => cases e
  | cons k l =>
    obtain ⟨ρ2, e1, e2⟩ := Option.bind_eq_some_iff.mp e
    exact h1 P B A ρ ρ2 σ H _ _ _ R k e1 fun σ1 R1 w1 => h2 P B A ρ2 ρ1 σ1 H _ _ _ R1 l e2 fun σ2 R2 w2 => q σ2 R2 (w2.trans w1)
def gVt (n : Nat) (h : List D → Rho → Option Rho) : D → Rho → Option Rho := fun d ρ => match d with
  | .tup ds => (match decide (ds.length = n) with | true => h ds ρ | false => none)
  | _ => none
theorem g_tup {t : TGs} {n : Nat} {h : List D → Rho → Option Rho} {vs : List Nat} (h2 : TgsD t h vs) : TgD (gTp (gNum n t)) (gVt n h) vs := fun P B A ρ ρ1 σ H v d Q R hv e q => by
  unfold gVt at e
  split at e
  · cases hv with
    | @tup a vs' ds k1 k2 k3 =>
      split at e
      · rename_i c
        have lk : look H a = some (.tup vs') := by unfold look; rw [k2]
        have c2 : decide (vs'.length = n) = true := by rw [k3.length]; exact c
        unfold gTp gNum
        simp only [lk, c2]
        exact h2 P B A ρ ρ1 σ H _ _ _ R k3 e q
      · cases e
  · cases e
def Walks (A : Addr → Prop) (H : Hp) (J : It) (ds : List D) : Prop := ∀ (A1 : Addr → Prop) (H1 : Hp), Stp A H A1 H1 → (∀ a, H1 a = none → A1 a) →
  (∀ i, ds.length ≤ i → J.stop i H1) ∧ ∀ i d, ds[i]? = some d → J.go i H1 ∧ ∀ x H2, J.yld i H1 x H2 → Ext All H1 H2 ∧ Is A1 H2 x d
def EvI (C : Cfg S) (wi : XK → TI) (f : Rho → M S (List D)) : Prop := ∀ (B : Bs) (A : Addr → Prop) (ρ : Rho) (σ : L2.St) (H : Hp) (s : S) (E : XK) (Q : It → Hp → Prop), Rel C.toPl B A ρ σ H → C.I s H →
  Wish C ⟨H, A, none⟩ E (f ρ s) (fun ds s1 => ∀ J H1, ExL C.keep A H H1 → C.I s1 H1 → Walks A H1 J ds → Q J H1) → wi E σ H Q
theorem walks_list {K : PySem.W.Frag} {A : Addr → Prop} {H : Hp} {a : Addr} {vs : List V} {ds : List D} (h1 : A a) (h2 : H a = some (.lst vs)) (h3 : IsL A H vs ds) : Walks A H (Itl K a) ds := fun A1 H1 x nw => by
  obtain ⟨k1, k2⟩ := x.lst h1 h2
  have k3 := h3.stp x
  have sq : SqL K H1 a vs := .inl (.inl k2)
  refine ⟨fun i hi => ⟨vs, sq, by rw [k3.length]; exact hi⟩, fun i d e => ?_⟩
  rcases k3.get i with ⟨_, z⟩ | ⟨v, d', z1, z2, z3⟩
  · rw [z] at e; cases e
  · rw [z2] at e; cases e
    refine ⟨⟨vs, v, sq, z1⟩, fun x H2 y => ?_⟩
    obtain ⟨e1, y⟩ := y
    rw [e1]
    have q := y vs sq
    rw [z1] at q; cases q
    exact ⟨Ext.refl _ _, z3⟩
theorem walks_tup {K : PySem.W.Frag} {A : Addr → Prop} {H : Hp} {a : Addr} {vs : List V} {ds : List D} (h1 : A a) (h2 : H a = some (.tup vs)) (h3 : IsL A H vs ds) : Walks A H (Itt K a) ds := fun A1 H1 x nw => by
  obtain ⟨k1, k2⟩ := x.tup h1 h2
  have k3 := h3.stp x
  have sq : SqT K H1 a vs := .inl (.inl k2)
  refine ⟨fun i hi => ⟨vs, sq, by rw [k3.length]; exact hi⟩, fun i d e => ?_⟩
  rcases k3.get i with ⟨_, z⟩ | ⟨v, d', z1, z2, z3⟩
  · rw [z] at e; cases e
  · rw [z2] at e; cases e
    refine ⟨⟨vs, v, sq, z1⟩, fun x H2 y => ?_⟩
    obtain ⟨e1, y⟩ := y
    rw [e1]
    have q := y vs sq
    rw [z1] at q; cases q
    exact ⟨Ext.refl _ _, z3⟩
/-- the signs of a text -/
def signs (z : Str) : List D := z.cps.toList.map fun c => .str ⟨#[c]⟩
theorem walks_str {A : Addr → Prop} {H : Hp} {z : Str} : Walks A H (Its z) (signs z) := fun A1 H1 x nw => by
  refine ⟨fun i hi => ?_, fun i d e => ?_⟩
  · have : z.cps.size ≤ i := by simpa [signs] using hi
    exact this
  · unfold signs at e
    rw [List.getElem?_map, Array.getElem?_toList] at e
    obtain ⟨c, e1, e2⟩ := Option.map_eq_some_iff.mp e
    refine ⟨(Array.getElem?_eq_some_iff.mp e1).1, fun x H2 y => ?_⟩
    obtain ⟨e3, c', y1, y2⟩ := y
    rw [e1] at y1; cases y1
    rw [e3, y2, ← e2]
    exact ⟨Ext.refl _ _, .str _⟩
def numd : Nat → List D → List D
  | _, [] => []
  | n, d :: ds => .tup [.int n, d] :: numd (n + 1) ds
theorem numd_get : ∀ (ds : List D) (n i : Nat), (numd n ds)[i]? = (ds[i]?).map fun d => .tup [.int ((n + i : Nat) : Int), d]
  | [], n, i => by simp [numd]
  | d :: ds, n, 0 => by simp [numd]
  | d :: ds, n, i + 1 => by
    have := numd_get ds (n + 1) i
    simp only [numd, List.getElem?_cons_succ]
    rw [this]
    have e : n + 1 + i = n + (i + 1) := by omega
    rw [e]
theorem numd_length : ∀ (ds : List D) (n : Nat), (numd n ds).length = ds.length
  | [], _ => rfl
  | _ :: ds, n => congrArg (· + 1) (numd_length ds (n + 1))
theorem walks_enum {K : PySem.W.Frag} {A : Addr → Prop} {H : Hp} {a : Addr} {vs : List V} {ds : List D} (h1 : A a) (h2 : H a = some (.lst vs)) (h3 : IsL A H vs ds) : Walks A H (Ite K a) (numd 0 ds) := fun A1 H1 x nw => by
  obtain ⟨k1, k2⟩ := x.lst h1 h2
  have k3 := h3.stp x
  have sq : SqL K H1 a vs := .inl (.inl k2)
  refine ⟨fun i hi => ⟨vs, sq, by rw [k3.length]; simpa [numd_length] using hi⟩, fun i d e => ?_⟩
  rw [numd_get] at e
  rcases k3.get i with ⟨_, z⟩ | ⟨v, d', z1, z2, z3⟩
  · rw [z] at e; cases e
  · rw [z2] at e
    cases e
    refine ⟨⟨vs, v, sq, z1⟩, fun x H2 y => ?_⟩
    obtain ⟨T, w, rfl, hT, rfl, y⟩ := y
    have q := y vs sq
    rw [z1] at q; cases q
    have xx : Ext All H1 (upd H1 T (.tup [.int (i : Nat), v])) := Ext.new hT
    refine ⟨xx, .tup (nw T hT) upd_same (.cons ?_ (.cons (z3.stp xx.stp) .nil))⟩
    rw [Nat.zero_add]
    exact .int _
theorem walks_rng {A : Addr → Prop} {H : Hp} {lo : Int} {n : Nat} : Walks A H (Itr lo n) ((List.range n).map fun i : Nat => D.int (lo + (i : Int))) := fun A1 H1 x nw => by
  refine ⟨fun i hi => ?_, fun i d e => ?_⟩
  · have : n ≤ i := by simpa using hi
    exact this
  · rw [List.getElem?_map] at e
    obtain ⟨j, e1, e2⟩ := Option.map_eq_some_iff.mp e
    obtain ⟨hl, e3⟩ := List.getElem?_eq_some_iff.mp e1
    rw [List.getElem_range] at e3
    subst e3
    have hl2 : i < n := by simpa using hl
    refine ⟨hl2, fun x H2 y => ?_⟩
    obtain ⟨e3, y2⟩ := y
    rw [e3, y2, ← e2]
    exact ⟨Ext.refl _ _, .int _⟩
def keysOf (kds : List (Key × D)) : List D := kds.map fun kd => match kd.1 with | .inl i => .int i | .inr x => .str x
/-- the items of a list, a tuple, a text; the keys of a dict -/
def items : D → Option (List D)
  | .lst ds => some ds
  | .tup ds => some ds
  | .str z => some (signs z)
  | .dct kds => some (keysOf kds)
  | _ => none
theorem IsK.len' {A : Addr → Prop} {H : Hp} : ∀ {vs : List (Key × V)} {ds : List (Key × D)}, IsK A H vs ds → vs.length = ds.length
  | _, _, .nil => rfl
  | _, _, .cons _ t => congrArg (· + 1) (IsK.len' t)
theorem walks_keys {A : Addr → Prop} {H : Hp} {a : Addr} {o : Obj} {vs : List (Key × V)} {ds : List (Key × D)} (h1 : A a) (h2 : H a = some (.frz o (.dK vs))) (h3 : IsK A H vs ds) : Walks A H (Itk a o vs) (keysOf ds) := fun A1 H1 x nw => by
  have k1 := (x a _ (.inl h1) h2).1 h1
  have k2 : H1 a = some (.frz o (.dK vs)) := (x a _ (.inl h1) h2).2.eq (fun _ z => by cases z)
  have hl := h3.len'
  refine ⟨fun i hi => ⟨k2, by unfold keysOf at hi; rw [List.length_map] at hi; omega⟩, fun i d e => ?_⟩
  unfold keysOf at e
  rw [List.getElem?_map] at e
  obtain ⟨kd, e1, e2⟩ := Option.map_eq_some_iff.mp e
  have hi := (List.getElem?_eq_some_iff.mp e1).1
  refine ⟨⟨k2, by omega⟩, fun x H2 y => ?_⟩
  obtain ⟨e3, k, v, e4, e5⟩ := y
  rw [e3, e5]
  refine ⟨Ext.refl _ _, ?_⟩
  have same : ∀ {vs : List (Key × V)} {ds : List (Key × D)} (i : Nat) {k : Key} {v : V} {kd : Key × D}, IsK A H vs ds → vs[i]? = some (k, v) → ds[i]? = some kd → kd.1 = k := by
    intro vs ds i
    induction i generalizing vs ds with
    | zero =>
      intro k v kd g a b
      cases g with
      | nil => simp at a
      | cons _ _ => simp at a b; rw [← b]; exact a.1
    | succ i ih =>
      intro k v kd g a b
      cases g with
      | nil => simp at a
      | cons _ t => exact ih t (by simpa using a) (by simpa using b)
  have ek := same i h3 e4 e1
  rw [← e2, ek]
  cases k with
  | inl i => exact .int i
  | inr x => exact .str x
section
variable {C : Cfg S} {ta te : XK → TE} {fa fe : Rho → M S D} {tr : XK → TA} {fr : Rho → M S (List D)}
def xIt (f : Rho → M S D) : Rho → M S (List D) := fun ρ => (f ρ).bind fun x => .of (items x)
theorem i_of {K : PySem.W.Frag} (h : EvD C te fe) : EvI C (fun E => iOf (te E) (mW K)) (xIt fe) := fun B A ρ σ H s E Q R I W => by
  refine h B A ρ σ H s E _ R I ((Wish.then W).mono fun x s1 W1 v H1 e1 I1 h1 => ?_)
  unfold items at W1
  unfold mW
  split at W1
  · cases h1 with
    | @lst a vs _ k1 k2 k3 =>
      have lk : look H1 a = some (.lst vs) := by unfold look; rw [k2]
      simp only [lk]
      exact W1 _ H1 e1 I1 (walks_list k1 k2 k3)
  · cases h1 with
    | @tup a vs _ k1 k2 k3 =>
      have lk : look H1 a = some (.tup vs) := by unfold look; rw [k2]
      simp only [lk]
      exact W1 _ H1 e1 I1 (walks_tup k1 k2 k3)
  · cases h1
    exact W1 _ H1 e1 I1 walks_str
  · cases h1 with
    | @dct a vs _ k1 k2 k3 =>
      simp only [k2]
      rcases look_dK k2 with ⟨o, e⟩ | e
      · simp only [e]
        exact W1 _ H1 e1 I1 (walks_keys k1 e k3)
      · simp only [e]
        intro o
        have x : ExL C.keep A H1 (upd H1 a (.frz o (.dK vs))) := ExL.lock e k1
        exact W1 _ _ (e1.trans x) (C.stL _ _ _ I1 (ExL.lock e trivial)) (walks_keys k1 upd_same (k3.stp (x.stp R.ak)))
  · exact W1.elim
def enD : List D → Option (List D)
  | [.lst ds] => some (numd 0 ds)
  | _ => none
def xEn (f : Rho → M S (List D)) : Rho → M S (List D) := fun ρ => (f ρ).bind fun xs => .of (enD xs)
theorem of_some {α : Type} {o : Option α} {C : Cfg S} {B : Bs} {E : XK} {s : S} {P : α → S → Prop} (h : Wish C B E (M.of o s) P) : ∃ a, o = some a ∧ P a s := by
  cases o with
  | none => exact h.elim
  | some a => exact ⟨a, rfl, h⟩
theorem i_enum {K : PySem.W.Frag} (h : EvA C tr fr) : EvI C (fun E => iEnum K (tr E)) (xEn fr) := fun B A ρ σ H s E Q R I W => by
  refine h B A ρ σ H s E _ R I ((Wish.then W).mono fun x s1 W1 v H1 e1 I1 h1 => ?_)
  obtain ⟨ds, e, W1⟩ := of_some W1
  unfold enD at e
  split at e
  · cases e
    cases h1 with
    | cons k t =>
      cases t
      cases k with
      | @lst a vs _ k1 k2 k3 => exact ⟨a, vs, rfl, .inl (.inl k2), W1 _ H1 e1 I1 (walks_enum k1 k2 k3)⟩
  · cases e
def rngD (lo hi : Int) : List D := (List.range (hi - lo).toNat).map fun i : Nat => D.int (lo + (i : Int))
def r1D : List D → Option (List D)
  | [.int j] => (match decide (-1000000000 ≤ j ∧ j ≤ 1000000000) with | true => some (rngD 0 j) | false => none)
  | _ => none
def xR1 (f : Rho → M S (List D)) : Rho → M S (List D) := fun ρ => (f ρ).bind fun xs => .of (r1D xs)
theorem i_rng1 (h : EvA C tr fr) : EvI C (fun E => iRng1 (tr E)) (xR1 fr) := fun B A ρ σ H s E Q R I W => by
  refine h B A ρ σ H s E _ R I ((Wish.then W).mono fun x s1 W1 v H1 e1 I1 h1 => ?_)
  obtain ⟨ds, e, W1⟩ := of_some W1
  unfold r1D at e
  split at e
  · rename_i j
    cases h1 with
    | cons k t =>
      cases t
      cases k
      split at e
      · rename_i c
        cases e
        have c2 := of_decide_eq_true c
        refine ⟨j, rfl, by omega, by omega, W1 _ H1 e1 I1 ?_⟩
        have := walks_rng (A := A) (H := H1) (lo := 0) (n := j.toNat)
        unfold rngD
        rw [Int.sub_zero]
        exact this
      · cases e
  · cases e
def r2D : List D → Option (List D)
  | [.int i, .int j] => (match decide ((-1000000000 ≤ i ∧ i ≤ 1000000000) ∧ -1000000000 ≤ j ∧ j ≤ 1000000000) with | true => some (rngD i j) | false => none)
  | _ => none
def xR2 (f : Rho → M S (List D)) : Rho → M S (List D) := fun ρ => (f ρ).bind fun xs => .of (r2D xs)
theorem i_rng2 (h : EvA C tr fr) : EvI C (fun E => iRng2 (tr E)) (xR2 fr) := fun B A ρ σ H s E Q R I W => by
  refine h B A ρ σ H s E _ R I ((Wish.then W).mono fun x s1 W1 v H1 e1 I1 h1 => ?_)
  obtain ⟨ds, e, W1⟩ := of_some W1
  unfold r2D at e
  split at e
  · rename_i i j
    cases h1 with
    | cons k t =>
      cases k
      cases t with
      | cons k t =>
        cases t
        cases k
        split at e
        · rename_i c
          cases e
          have c2 := of_decide_eq_true c
          exact ⟨i, j, rfl, ⟨by omega, by omega, by omega, by omega⟩, W1 _ H1 e1 I1 walks_rng⟩
        · cases e
  · cases e
def compD (g : D → Rho → Option Rho) (t : Rho → M S Bool) (e : Rho → M S D) (ρ : Rho) : List D → M S (List D)
  | [] => .ret []
  | d :: ds => match g d ρ with
    | none => fun _ => .bad
    | some ρ1 => (t ρ1).bind fun b => match b with
      | true => (e ρ1).bind fun y => (compD g t e ρ ds).bind fun ys => .ret (y :: ys)
      | false => compD g t e ρ ds
def xLc (f : Rho → M S (List D)) (g : D → Rho → Option Rho) (t : Rho → M S Bool) (e : Rho → M S D) (vs : List Nat) : Rho → M S (List D) := fun ρ => (f ρ).bind fun ds => match lim ds.length with
  | true => compD g t e (wipeR ρ vs) ds
  | false => fun _ => .bad
theorem yes_ev : EvT C (fun _ => tYes) (fun _ => .ret true) := fun B A ρ σ H s E Q R I W => W H (ExL.refl _ _ _) I
/-- the address D0 set aside -/
theorem Rel.aside {P : Pl} {B : Bs} {A : Addr → Prop} {ρ : Rho} {σ : L2.St} {H H1 : Hp} {p : Addr} (R : Rel P B A ρ σ H) (x : ExL P.keep A H H1) (hn : H p = none) (hp : H1 p ≠ none) : Rel P B (fun a => A a ∧ a ≠ p) ρ σ H1 := by
  have R1 := R.step x
  have st : Stp A H (fun a => A a ∧ a ≠ p) H1 := fun a o h e => ⟨fun h => ⟨h, fun z => by rw [z, hn] at e; cases e⟩, x.smx (h.imp (R.ak a) id) e⟩
  exact {
    len := R.len
    ext := R1.ext
    nw := fun a h => ⟨R1.nw a h, fun z => hp (by rw [← z]; exact h)⟩
    n0 := R.n0
    sub := fun a h => R.sub a h.1
    kp := R.kp
    slot := fun i sl e => by
      have h := R.slot i sl e
      cases sl with
      | no => trivial
      | val d => obtain ⟨v, h1, h2⟩ := h; exact ⟨v, h1, h2.stp st⟩
      | own o => obtain ⟨a, h1, h2, h3, h4, h5, h6⟩ := h; exact ⟨a, h1, fun z => h2 z.1, h3, h4, h5, h6.stp st fun u e => x.out h3 h2 e⟩
    apart := R.apart }
/-- an object that is no slot's and no data's changes -/
theorem Rel.grown {P : Pl} {B : Bs} {A : Addr → Prop} {ρ : Rho} {σ : L2.St} {H : Hp} {p : Addr} {o : HO} (R : Rel P B A ρ σ H) (hA : ¬ A p) (hx : ∀ u, H p = some u → xt u → False) (h0 : B.H0 p = none) (hne : ∀ (i : Nat) (o : OD) (a : Addr), ρ[i]? = some (.own o) → σ[i]? = some (some (.ref a)) → a ≠ p) : Rel P B A ρ σ (upd H p o) := by
  have st : Stp A H A (upd H p o) := Stp.put (fun _ _ _ h => h) fun o e q => q.elim hA (hx o e)
  exact {
    len := R.len
    ext := ⟨fun a u k e => by rw [upd_ne (ne_of_none e h0)]; exact R.ext.1 a u k e, fun a e => by
      by_cases z : a = p
      · rw [z]; exact h0
      · rw [upd_ne z] at e; exact R.ext.2 a e⟩
    nw := fun a e => R.nw a (by
      by_cases z : a = p
      · rw [z, upd_same] at e; cases e
      · rw [upd_ne z] at e; exact e)
    n0 := R.n0
    sub := R.sub
    kp := R.kp
    slot := fun i sl e => by
      have h := R.slot i sl e
      cases sl with
      | no => trivial
      | val d => obtain ⟨v, h1, h2⟩ := h; exact ⟨v, h1, h2.stp st⟩
      | own od => obtain ⟨a, h1, h2, h3, h4, h5, h6⟩ := h; exact ⟨a, h1, h2, h3, h4, h5, h6.stp st fun u q => by rw [upd_ne (hne i od a e h1)]; exact q⟩
    apart := R.apart }
theorem ExL.del {P L : Addr → Prop} {H H' : Hp} {p : Addr} (x : ExL P L H H') : ExL P L (L2.del H p) (L2.del H' p) := ⟨fun a o k e => by
  by_cases z : a = p
  · rw [z, del_same] at e; cases e
  · rw [del_ne z] at e ⊢
    exact x.1 a o k e, fun a e => by
  by_cases z : a = p
  · rw [z]; exact del_same
  · rw [del_ne z] at e ⊢
    exact x.2 a e⟩
theorem ExL.undel {P L : Addr → Prop} {H H' : Hp} {p : Addr} (hp : H p = none) (x : ExL P L H (L2.del H' p)) : ExL P L H H' := ⟨fun a o k e => by
  have ne : a ≠ p := ne_of_none e hp
  have z := x.1 a o k e
  rw [del_ne ne] at z
  exact z, fun a e => by
  by_cases z : a = p
  · rw [z]; exact hp
  · exact x.2 a (by rw [del_ne z]; exact e)⟩
theorem lc_body {g : TG} {gd : D → Rho → Option Rho} {tt : XK → TT} {ft : Rho → M S Bool} {vs : List Nat} (hg : TgD g gd vs) (ht : EvT C tt ft) (he : EvD C te fe) {B : Bs} {A : Addr → Prop} {ρ : Rho} {σ : L2.St} {H1 : Hp} {s1 : S} {E : XK} {Q : VK} {J : It} {ds : List D}
    (R1 : Rel C.toPl B A ρ σ H1) (I1 : C.I s1 H1) (wk : Walks A H1 J ds) (hl : lim ds.length = true)
    (W1 : Wish C ⟨H1, A, none⟩ E (compD gd ft fe (wipeR ρ vs) ds s1) (fun ys s3 => ∀ p H3 zs, H3 p = none → ExL C.keep A H1 H3 → C.I s3 (upd H3 p (.lst zs)) → IsL A H3 zs ys → Q (.ref p) (upd H3 p (.lst zs)))) (p : Addr) (hp : H1 p = none) :
    ∃ W : Nat → Nat → Hp → Prop, (∃ m, W 0 m (upd H1 p (.lst []))) ∧ ∀ i m H, W i m H → (J.stop i H ∧ Q (.ref p) H) ∨ (J.go i H ∧ ∃ Nx : Hp → Prop, (∀ H', Nx H' → ∃ m', m' < m ∧ W (i + 1) m' H') ∧ ∀ x H', J.yld i H x H' → g x (L2.wipe σ vs) H' fun σ2 H2 => L2.wipe σ2 vs = L2.wipe σ vs ∧ tt E σ2 H2 fun b H3 =>
      if b = true then te E σ2 H3 fun y H4 => ∃ acc, H4 p = some (.lst acc) ∧ acc.length < sizeLine ∧ Nx (upd H4 p (.lst (acc ++ [y]))) else Nx H3) := by
  have kpp : C.keep p := R1.ak p (R1.nw p hp)
  have okp : C.ok p := R1.ao p (R1.nw p hp)
  have x0 : Ext All H1 (upd H1 p (.lst [])) := Ext.new hp
  have hne : ∀ (i : Nat) (o : OD) (a : Addr), (wipeR ρ vs)[i]? = some (.own o) → (L2.wipe σ vs)[i]? = some (some (.ref a)) → a ≠ p := fun i o a e1 e2 z => by
    obtain ⟨a', h1, _, _, _, _, h6⟩ := (R1.wipe vs).slot i _ e1
    rw [e2] at h1
    cases h1
    subst z
    cases o with
    | lst ds => obtain ⟨_, q, _⟩ := h6; rw [hp] at q; cases q
    | dct ds => obtain ⟨_, q, _⟩ := h6; rw [hp] at q; cases q
    | ins c ds => obtain ⟨_, _, _, q, _⟩ := h6; rw [hp] at q; cases q
  have Ra := (R1.wipe vs).aside (x0.all) hp (by rw [upd_same]; simp)
  -- what a turn keeps
  refine ⟨fun i m H2 => m = ds.length - i ∧ i ≤ ds.length ∧ ∃ acc accD s2, H2 p = some (.lst acc) ∧ acc.length ≤ i ∧ ExL C.keep A H1 (del H2 p) ∧ Rel C.toPl B (fun a => A a ∧ a ≠ p) (wipeR ρ vs) (L2.wipe σ vs) H2 ∧ IsL (fun a => A a ∧ a ≠ p) H2 acc accD ∧ C.I s2 H2 ∧
      Wish C ⟨H1, A, none⟩ E (compD gd ft fe (wipeR ρ vs) (ds.drop i) s2) (fun ys s3 => ∀ q H3 zs, H3 q = none → ExL C.keep A H1 H3 → C.I s3 (upd H3 q (.lst zs)) → IsL A H3 zs (accD ++ ys) → Q (.ref q) (upd H3 q (.lst zs))),
    ⟨ds.length, by simp, Nat.zero_le _, [], [], s1, upd_same, Nat.le_refl _, ?_, Ra, .nil, C.st _ _ _ I1 x0, by simpa using W1⟩, ?_⟩
  · refine ⟨fun a o k e => ?_, fun a e => ?_⟩
    · have ne : a ≠ p := ne_of_none e hp
      rw [del_ne ne, upd_ne ne]; exact .inl e
    · by_cases z : a = p
      · rw [z]; exact hp
      · rw [del_ne z, upd_ne z] at e; exact e
  rintro i m H2 ⟨rfl, hi, acc, accD, s2, hacc, hal, ex, R2, il, I2, W2⟩
  have e12 : ExL C.keep A H1 H2 := ex.undel hp
  have st : Stp A H1 (fun a => A a ∧ a ≠ p) H2 := fun a o h e => ⟨fun h => ⟨h, ne_of_none e hp⟩, e12.smx (h.imp (R1.ak a) id) e⟩
  obtain ⟨wk1, wk2⟩ := wk _ H2 st R2.nw
  by_cases hlt : i < ds.length
  · obtain ⟨go, yl⟩ := wk2 i ds[i] (by simp [hlt])
    refine .inr ⟨go, fun H5 => ∃ acc accD s2, H5 p = some (.lst acc) ∧ acc.length ≤ i + 1 ∧ ExL C.keep A H1 (del H5 p) ∧ Rel C.toPl B (fun a => A a ∧ a ≠ p) (wipeR ρ vs) (L2.wipe σ vs) H5 ∧ IsL (fun a => A a ∧ a ≠ p) H5 acc accD ∧ C.I s2 H5 ∧
      Wish C ⟨H1, A, none⟩ E (compD gd ft fe (wipeR ρ vs) (ds.drop (i + 1)) s2) (fun ys s3 => ∀ q H3 zs, H3 q = none → ExL C.keep A H1 H3 → C.I s3 (upd H3 q (.lst zs)) → IsL A H3 zs (accD ++ ys) → Q (.ref q) (upd H3 q (.lst zs))),
      fun H5 h5 => ⟨ds.length - (i + 1), by omega, rfl, hlt, h5⟩, fun x H3 y => ?_⟩
    obtain ⟨e3, hx⟩ := yl x H3 y
    rw [List.drop_eq_getElem_cons hlt] at W2
    unfold compD at W2
    cases hg1 : gd ds[i] (wipeR ρ vs) with
    | none => rw [hg1] at W2; exact W2.elim
    | some ρ1 =>
    rw [hg1] at W2
    have R3 := R2.step (e3.all (P := C.keep))
    have exk : ∀ {H4 : Hp}, ExL C.keep (fun a => A a ∧ a ≠ p) H3 H4 → H4 p = some (.lst acc) ∧ ExL C.keep A H1 (del H4 p) := fun {H4} e4 => by
      have e24 : ExL C.keep (fun a => A a ∧ a ≠ p) H2 H4 := e3.all.trans e4
      exact ⟨e24.at kpp hacc (by intro _ z; cases z), ex.trans ((e24.sub fun _ q => q.1).del)⟩
    refine hg C.toPl B _ (wipeR ρ vs) ρ1 (L2.wipe σ vs) H3 x ds[i] _ R3 hx hg1 fun σ1 R4 w1 => ⟨by rw [w1, wipe_idem], ?_⟩
    refine ht B _ ρ1 σ1 H3 s2 E _ R4 (C.st _ _ _ I2 e3) (((Wish.then W2).mono fun b s3 W3 H4 e4 I4 => ?_).to (e12.trans e3.all) fun _ q => q.1)
    have back : ∀ {H5 : Hp}, ExL C.keep (fun a => A a ∧ a ≠ p) H3 H5 → Rel C.toPl B (fun a => A a ∧ a ≠ p) (wipeR ρ vs) (L2.wipe σ vs) H5 := fun {H5} e5 => R3.step e5
    have ilk : ∀ {H5 : Hp}, ExL C.keep (fun a => A a ∧ a ≠ p) H3 H5 → IsL (fun a => A a ∧ a ≠ p) H5 acc accD := fun {H5} e5 => il.stp ((e3.all.trans e5).stp R2.ak)
    cases b with
    | false =>
      show ∃ acc accD s2, _
      exact ⟨acc, accD, s3, (exk e4).1, Nat.le_succ_of_le hal, (exk e4).2, back e4, ilk e4, I4, W3⟩
    | true =>
      show te E σ1 H4 _
      refine he B _ ρ1 σ1 H4 s3 E _ (R4.step e4) I4 (((Wish.then W3).mono fun yd s4 W4 w H5 e5 I5 h5 => ?_).to ((e12.trans e3.all).trans (e4.sub fun _ q => q.1)) fun _ q => q.1)
      have e35 := e4.trans e5
      have z5 := exk e35
      refine ⟨acc, z5.1, Nat.lt_of_le_of_lt (Nat.le_trans hal hi) (Nat.lt_of_le_of_lt (of_decide_eq_true hl) (by decide)), ?_⟩
      -- the list grows
      have stq : Stp (fun a => A a ∧ a ≠ p) H5 (fun a => A a ∧ a ≠ p) (upd H5 p (.lst (acc ++ [w]))) := Stp.put (fun _ _ _ h => h) fun o e q => q.elim (fun z => z.2 rfl) fun z => by rw [z5.1] at e; cases e; exact z
      have R5 := back e35
      have ed : del (upd H5 p (.lst (acc ++ [w]))) p = del H5 p := by
        funext b
        by_cases z : b = p
        · rw [z, del_same, del_same]
        · rw [del_ne z, del_ne z, upd_ne z]
      refine ⟨acc ++ [w], accD ++ [yd], s4, upd_same, by simpa using hal, by rw [ed]; exact z5.2, ?_, ((ilk e35).append (.cons h5 .nil)).stp stq, ?_, ?_⟩
      · exact R5.grown (fun z => z.2 rfl) (fun u e z => by rw [z5.1] at e; cases e; exact z) (R1.ext.2 p hp) hne
      · exact C.st2 _ _ _ _ okp (by rw [z5.1]; rfl) I5
      · have W5 := Wish.then W4
        refine W5.mono fun ys s6 W6 q H6 zs a1 a2 a3 a4 => ?_
        exact W6 q H6 zs a1 a2 a3 (by simpa using a4)
  · have e : i = ds.length := by omega
    subst e
    refine .inl ⟨wk1 _ (Nat.le_refl _), ?_⟩
    rw [List.drop_length] at W2
    have eq : upd (del H2 p) p (.lst acc) = H2 := by
      funext b
      by_cases z : b = p
      · rw [z, upd_same, hacc]
      · rw [upd_ne z, del_ne z]
    have fin := W2 p (del H2 p) acc del_same ex
    rw [eq] at fin
    refine fin I2 ?_
    rw [List.append_nil]
    exact il.stp fun a o h e => ⟨fun h => h.1, .inl (by rw [del_ne (h.elim (fun h => h.2) fun q z => by rw [z, hacc] at e; cases e; exact q)]; exact e)⟩
theorem lc_core2 {wi : XK → TI} {g : TG} {gd : D → Rho → Option Rho} {tt : XK → TT} {ft : Rho → M S Bool} {fi : Rho → M S (List D)} {vs : List Nat} (hi : EvI C wi fi) (hg : TgD g gd vs) (ht : EvT C tt ft) (he : EvD C te fe) :
    EvN C (fun E => tLc (wi E) g (tt E) (te E) vs) (xLc fi gd ft fe vs) := fun B A ρ σ H s E Q R I W => by
  refine hi B A ρ σ H s E _ R I ((Wish.then W).mono fun ds s1 W1 J H1 e1 I1 wk => ?_)
  cases hl : lim ds.length with
  | false => rw [hl] at W1; exact W1.elim
  | true =>
    rw [hl] at W1
    exact fun p hp => lc_body hg ht he (R.step e1) I1 wk hl (Wish.mono (Wish.step W1 e1) fun ys s3 W3 q H3 zs a1 a2 a3 a4 => W3 q H3 zs a1 (e1.trans a2) a3 a4) p hp
end
end Fs

namespace Fs
open PySem PySem.Spec PyProof.Rows L2
variable {S : Type}
inductive Out where
  | nx (ρ : Rho) | rt (d : D) | bk (ρ : Rho) | ct (ρ : Rho)
def OutOk (C : Cfg S) (B : Bs) (A : Addr → Prop) (H : Hp) (D : Ends) (o : Out) (s : S) : Prop := match o with
  | .nx ρ => ∀ A1 σ1 H1, Rel C.toPl B A1 ρ σ1 H1 → Stp A H A1 H1 → C.I s H1 → D.nx σ1 H1
  | .bk ρ => ∀ A1 σ1 H1, Rel C.toPl B A1 ρ σ1 H1 → Stp A H A1 H1 → C.I s H1 → D.bk σ1 H1
  | .ct ρ => ∀ A1 σ1 H1, Rel C.toPl B A1 ρ σ1 H1 → Stp A H A1 H1 → C.I s H1 → D.ct σ1 H1
  | .rt d => ∀ A1 v H1, Is A1 H1 v d → (∀ a, A1 a → B.A0 a) → ExL C.keep B.A0 B.H0 H1 → C.I s H1 → D.rt v H1
theorem OutOk.stp {C : Cfg S} {B : Bs} {A A1 : Addr → Prop} {H H1 : Hp} {D : Ends} {o : Out} {s : S} (h : OutOk C B A H D o s) (x : Stp A H A1 H1) : OutOk C B A1 H1 D o s := by
  cases o with
  | nx ρ => exact fun A2 σ2 H2 R y I => h A2 σ2 H2 R (x.trans y) I
  | bk ρ => exact fun A2 σ2 H2 R y I => h A2 σ2 H2 R (x.trans y) I
  | ct ρ => exact fun A2 σ2 H2 R y I => h A2 σ2 H2 R (x.trans y) I
  | rt d => exact h
def StD (C : Cfg S) (ts : XK → TS) (f : Rho → M S Out) : Prop := ∀ (B : Bs) (A : Addr → Prop) (ρ : Rho) (σ : L2.St) (H : Hp) (s : S) (E : XK) (D : Ends), Rel C.toPl B A ρ σ H → C.I s H → Wish C B E (f ρ s) (OutOk C B A H D) → ts E D σ H
section
variable {C : Cfg S} {te : XK → TE} {fe : Rho → M S Fs.D} {tr : XK → TA} {fr : Rho → M S (List Fs.D)} {t u : XK → TS} {f g : Rho → M S Out}
def yNx : Rho → M S Out := fun ρ => .ret (.nx ρ)
theorem d_nx : StD C (fun _ => tNext) yNx := fun B A ρ σ H s E D R I W => W A σ H R (Stp.refl _ _) I
def yBk : Rho → M S Out := fun ρ => .ret (.bk ρ)
theorem d_bk : StD C (fun _ => tBreak) yBk := fun B A ρ σ H s E D R I W => W A σ H R (Stp.refl _ _) I
def yCt : Rho → M S Out := fun ρ => .ret (.ct ρ)
theorem d_ct : StD C (fun _ => tCont) yCt := fun B A ρ σ H s E D R I W => W A σ H R (Stp.refl _ _) I
def yRet (fe : Rho → M S Fs.D) : Rho → M S Out := fun ρ => (fe ρ).bind fun d => .ret (.rt d)
theorem d_ret (h : EvD C te fe) : StD C (fun E => tRet (te E)) (yRet fe) := fun B A ρ σ H s E D R I W => by
  exact h B A ρ σ H s E _ R I (R.fr <| (Wish.then W).mono fun x s1 W1 v H1 e1 I1 h1 => W1 A v H1 h1 R.sub (R.ext.trans (e1.sub R.sub)) I1)
def yRetN : Rho → M S Out := fun ρ => .ret (.rt .non)
theorem d_retN : StD C (fun _ => tRetN) yRetN := fun B A ρ σ H s E D R I W => W A .non H .non R.sub R.ext I
def yDrop (fe : Rho → M S Fs.D) : Rho → M S Out := fun ρ => (fe ρ).bind fun _ => .ret (.nx ρ)
theorem d_drop (h : EvD C te fe) : StD C (fun E => tDrop (te E)) (yDrop fe) := fun B A ρ σ H s E D R I W => by
  exact h B A ρ σ H s E _ R I (R.fr <| (Wish.then W).mono fun x s1 W1 v H1 e1 I1 h1 => W1 A σ H1 (R.step e1) (e1.stp R.ak) I1)
def yAsg (fe : Rho → M S Fs.D) (g : Fs.D → Rho → Option Rho) : Rho → M S Out := fun ρ => (fe ρ).bind fun d => (M.of (g d ρ)).bind fun ρ1 => .ret (.nx ρ1)
theorem d_asg {tg : TG} {g : Fs.D → Rho → Option Rho} {vs : List Nat} (h : EvD C te fe) (hg : TgD tg g vs) : StD C (fun E => tAsg (te E) tg) (yAsg fe g) := fun B A ρ σ H s E D R I W => by
  refine h B A ρ σ H s E _ R I (R.fr <| (Wish.then W).mono fun x s1 W1 v H1 e1 I1 h1 => ?_)
  obtain ⟨ρ1, e, W2⟩ := of_some (Wish.then W1)
  exact hg _ B A ρ ρ1 σ H1 v x _ (R.step e1) h1 e fun σ1 R1 _ => W2 A σ1 H1 R1 (e1.stp R.ak) I1
def ySeq (f g : Rho → M S Out) : Rho → M S Out := fun ρ => (f ρ).bind fun o => match o with
  | .nx ρ1 => g ρ1
  | .rt d => .ret (.rt d)
  | .bk ρ1 => .ret (.bk ρ1)
  | .ct ρ1 => .ret (.ct ρ1)
theorem d_seq (h1 : StD C t f) (h2 : StD C u g) : StD C (fun E => tSeq (t E) (u E)) (ySeq f g) := fun B A ρ σ H s E D R I W => by
  refine h1 B A ρ σ H s E { D with nx := u E D } R I ((Wish.then W).mono fun o s1 W1 => ?_)
  cases o with
  | nx ρ1 => exact fun A1 σ1 H1 R1 x I1 => h2 B A1 ρ1 σ1 H1 s1 E D R1 I1 (Wish.mono W1 fun o s2 W2 => W2.stp x)
  | rt d => exact W1
  | bk ρ1 => exact W1
  | ct ρ1 => exact W1
def yIf (c : Rho → M S Bool) (f g : Rho → M S Out) : Rho → M S Out := fun ρ => (c ρ).bind fun b => match b with | true => f ρ | false => g ρ
theorem d_if {tt : XK → TT} {c : Rho → M S Bool} (hc : EvT C tt c) (h1 : StD C t f) (h2 : StD C u g) : StD C (fun E => sIf (tt E) (t E) (u E)) (yIf c f g) := fun B A ρ σ H s E D R I W => by
  refine hc B A ρ σ H s E _ R I (R.fr <| (Wish.then W).mono fun b s1 W1 H1 e1 I1 => ?_)
  cases b with
  | true => exact h1 B A ρ σ H1 s1 E D (R.step e1) I1 (Wish.mono W1 fun o s2 W2 => W2.stp (e1.stp R.ak))
  | false => exact h2 B A ρ σ H1 s1 E D (R.step e1) I1 (Wish.mono W1 fun o s2 W2 => W2.stp (e1.stp R.ak))
def loopD (g : Fs.D → Rho → Option Rho) (body : Rho → M S Out) : List Fs.D → Rho → M S Out
  | [], ρ => .ret (.nx ρ)
  | d :: ds, ρ => match g d ρ with
    | none => fun _ => .bad
    | some ρ1 => (body ρ1).bind fun o => match o with
      | .nx ρ2 => loopD g body ds ρ2
      | .ct ρ2 => loopD g body ds ρ2
      | .bk ρ2 => .ret (.nx ρ2)
      | .rt d => .ret (.rt d)
def yFor (fi : Rho → M S (List Fs.D)) (g : Fs.D → Rho → Option Rho) (body : Rho → M S Out) : Rho → M S Out := fun ρ => (fi ρ).bind fun ds => loopD g body ds ρ
theorem d_for {wi : XK → TI} {fi : Rho → M S (List Fs.D)} {tg : TG} {g : Fs.D → Rho → Option Rho} {vs : List Nat} (hi : EvI C wi fi) (hg : TgD tg g vs) (hb : StD C t f) : StD C (fun E => tFor (wi E) tg (t E)) (yFor fi g f) := fun B A ρ σ H s E D R I W => by
  refine hi B A ρ σ H s E _ R I (R.fr <| (Wish.then W).mono fun ds s1 W1 J H1 e1 I1 wk => ?_)
  have R1 := R.step e1
  refine ⟨fun i m σ2 H2 => m = ds.length - i ∧ i ≤ ds.length ∧ ∃ A2 ρ2 s2, Rel C.toPl B A2 ρ2 σ2 H2 ∧ Stp A H1 A2 H2 ∧ C.I s2 H2 ∧ Wish C B E (loopD g f (ds.drop i) ρ2 s2) (OutOk C B A H D),
    ⟨ds.length, by simp, Nat.zero_le _, A, ρ, s1, R1, Stp.refl _ _, I1, by simpa using W1⟩, ?_⟩
  rintro i m σ2 H2 ⟨rfl, hi, A2, ρ2, s2, R2, x2, I2, W2⟩
  obtain ⟨wk1, wk2⟩ := wk A2 H2 x2 R2.nw
  have x02 : Stp A H A2 H2 := (e1.stp R.ak).trans x2
  by_cases hlt : i < ds.length
  · obtain ⟨go, yl⟩ := wk2 i ds[i] (by simp [hlt])
    refine .inr ⟨go, fun σ3 H3 => ∃ A3 ρ3 s3, Rel C.toPl B A3 ρ3 σ3 H3 ∧ Stp A H1 A3 H3 ∧ C.I s3 H3 ∧ Wish C B E (loopD g f (ds.drop (i + 1)) ρ3 s3) (OutOk C B A H D), fun σ3 H3 h3 => ⟨ds.length - (i + 1), by omega, rfl, hlt, h3⟩, fun x H3 y => ?_⟩
    obtain ⟨e3, hx⟩ := yl x H3 y
    rw [List.drop_eq_getElem_cons hlt] at W2
    unfold loopD at W2
    cases hg1 : g ds[i] ρ2 with
    | none => rw [hg1] at W2; exact W2.elim
    | some ρ3 =>
    rw [hg1] at W2
    refine hg _ B A2 ρ2 ρ3 σ2 H3 x ds[i] _ (R2.step e3.all) hx hg1 fun σ3 R3 _ => ?_
    refine hb B A2 ρ3 σ3 H3 s2 E _ R3 (C.st _ _ _ I2 e3) ((Wish.then W2).mono fun o s3 W3 => ?_)
    have x3 : Stp A H1 A2 H3 := x2.trans (e3.stp)
    cases o with
    | nx ρ4 => exact fun A4 σ4 H4 R4 y4 I4 => ⟨A4, ρ4, s3, R4, x3.trans y4, I4, W3⟩
    | ct ρ4 => exact fun A4 σ4 H4 R4 y4 I4 => ⟨A4, ρ4, s3, R4, x3.trans y4, I4, W3⟩
    | bk ρ4 => exact fun A4 σ4 H4 R4 y4 I4 => W3 A4 σ4 H4 R4 ((e1.stp R.ak).trans (x3.trans y4)) I4
    | rt d => exact W3
  · have e : i = ds.length := by omega
    subst e
    rw [List.drop_length] at W2
    exact .inl ⟨wk1 _ (Nat.le_refl _), W2 A2 σ2 H2 R2 x02 I2⟩
/-- while, at most n turns -/
def whileD (c : Rho → M S Bool) (body : Rho → M S Out) : Nat → Rho → M S Out
  | 0, _ => fun _ => .bad
  | n + 1, ρ => (c ρ).bind fun b => match b with
    | false => .ret (.nx ρ)
    | true => (body ρ).bind fun o => match o with
      | .nx ρ2 => whileD c body n ρ2
      | .ct ρ2 => whileD c body n ρ2
      | .bk ρ2 => .ret (.nx ρ2)
      | .rt d => .ret (.rt d)
def yWhile (n : Rho → S → Nat) (c : Rho → M S Bool) (body : Rho → M S Out) : Rho → M S Out := fun ρ s => whileD c body (n ρ s) ρ s
theorem d_while {tt : XK → TT} {c : Rho → M S Bool} {n : Rho → S → Nat} (hc : EvT C tt c) (hb : StD C t f) : StD C (fun E => tWhile (tt E) (t E)) (yWhile n c f) := fun B A ρ σ H s E D R I W => by
  refine ⟨fun m σ2 H2 => ∃ A2 ρ2 s2, Rel C.toPl B A2 ρ2 σ2 H2 ∧ Stp A H A2 H2 ∧ C.I s2 H2 ∧ Wish C B E (whileD c f m ρ2 s2) (OutOk C B A H D), ⟨n ρ s, A, ρ, s, R, Stp.refl _ _, I, W⟩, ?_⟩
  rintro m σ2 H2 ⟨A2, ρ2, s2, R2, x2, I2, W2⟩
  cases m with
  | zero => exact W2.elim
  | succ m =>
    unfold whileD at W2
    refine hc B A2 ρ2 σ2 H2 s2 E _ R2 I2 (R2.fr <| (Wish.then W2).mono fun b s3 W3 H3 e3 I3 => ?_)
    have x3 := x2.trans (e3.stp R2.ak)
    cases b with
    | false => exact W3 A2 σ2 H3 (R2.step e3) x3 I3
    | true =>
      refine ⟨fun σ4 H4 => ∃ A4 ρ4 s4, Rel C.toPl B A4 ρ4 σ4 H4 ∧ Stp A H A4 H4 ∧ C.I s4 H4 ∧ Wish C B E (whileD c f m ρ4 s4) (OutOk C B A H D), fun σ4 H4 h4 => ⟨m, Nat.lt_succ_self _, h4⟩, ?_⟩
      refine hb B A2 ρ2 σ2 H3 s3 E _ (R2.step e3) I3 ((Wish.then W3).mono fun o s4 W4 => ?_)
      cases o with
      | nx ρ4 => exact fun A4 σ4 H4 R4 y4 I4 => ⟨A4, ρ4, s4, R4, x3.trans y4, I4, W4⟩
      | ct ρ4 => exact fun A4 σ4 H4 R4 y4 I4 => ⟨A4, ρ4, s4, R4, x3.trans y4, I4, W4⟩
      | bk ρ4 => exact fun A4 σ4 H4 R4 y4 I4 => W4 A4 σ4 H4 R4 (x3.trans y4) I4
      | rt d => exact W4
def fldsD (ns : List Str) (ds : List Fs.D) : List (Str × Fs.D) := (ns.zip ds).foldl (fun r p => p :: r) []
def yRaise (cl : Addr) (ns : List Str) (fr : Rho → M S (List Fs.D)) : Rho → M S Out := fun ρ => (fr ρ).bind fun ds s => match decide (ds.length = ns.length) with
  | true => .ex cl (fldsD ns ds) s
  | false => .bad
theorem flds_is {A : Addr → Prop} {H : Hp} : ∀ {ns : List Str} {vs : List V} {ds : List Fs.D}, IsL A H vs ds → ∀ {fs : List (Str × V)} {gs : List (Str × Fs.D)}, IsF A H fs gs → IsF A H ((ns.zip vs).foldl (fun r p => p :: r) fs) ((ns.zip ds).foldl (fun r p => p :: r) gs)
  | [], _, _, _, _, _, k => by simpa using k
  | n :: ns, _, _, .nil, _, _, k => by simpa using k
  | n :: ns, _, _, .cons h t, _, _, k => flds_is (ns := ns) t (.cons h k)
theorem d_raise {cl : Addr} {ns : List Str} (h : EvA C tr fr) : StD C (fun E D σ H => tMkS cl ns (tr E) σ H fun cls d H' => E cls d H') (yRaise cl ns fr) := fun B A ρ σ H s E D R I W => by
  refine h B A ρ σ H s E _ R I (R.fr <| (Wish.then W).mono fun ds s1 W1 vs H1 e1 I1 h1 => ?_)
  have R1 := R.step e1
  rw [h1.length]
  cases e : decide (ds.length = ns.length) with
  | false => rw [e] at W1; exact W1.elim
  | true =>
    rw [e] at W1
    show mkQ cl ns vs H1 _
    unfold mkQ
    split
    · have z : fldsD [] ds = [] := by simp [fldsD]
      exact W1 none H1 R1.ext I1 z
    · intro d hd
      have x : Ext All H1 (upd H1 d (.xd (fldsOf ns vs))) := Ext.new hd
      refine W1 (some d) _ (R1.ext.trans x.all) (C.st _ _ _ I1 x) ⟨R.sub d (R1.nw d hd), _, upd_same, ?_⟩
      have k := flds_is (ns := ns) h1 (.nil (A := A) (H := H1))
      exact k.stp (.neu hd fun a o _ q => R.sub a q)
end
section
variable {C : Cfg S}
/-- slot i gets a new object -/
theorem Rel.setOwn {P : Pl} {B : Bs} {A : Addr → Prop} {ρ : Rho} {σ : L2.St} {H : Hp} {i : Nat} {p : Addr} {o : OD} {u : HO} (R : Rel P B A ρ σ H) (hp : H p = none) (ho : OwnAt B.me (fun a => A a ∧ a ≠ p) (upd H p u) p o) : Rel P B (fun a => A a ∧ a ≠ p) (ρ.set i (.own o)) (σ.set i (some (.ref p))) (upd H p u) := by
  have x : Ext All H (upd H p u) := Ext.new hp
  have R1 := R.aside (x.all (P := P.keep)) hp (by rw [upd_same]; simp)
  have nown : ∀ (j : Nat) (oj : OD) (a : Addr), ρ[j]? = some (.own oj) → σ[j]? = some (some (.ref a)) → a ≠ p := fun j oj a e1 e2 z => by
    obtain ⟨a', h1, _, _, _, _, h6⟩ := R.slot j _ e1
    rw [e2] at h1
    cases h1
    subst z
    cases oj with
    | lst ds => obtain ⟨_, q, _⟩ := h6; rw [hp] at q; cases q
    | dct ds => obtain ⟨_, q, _⟩ := h6; rw [hp] at q; cases q
    | ins c ds => obtain ⟨_, _, _, q, _⟩ := h6; rw [hp] at q; cases q
  exact {
    len := by simpa using R.len
    ext := R1.ext
    nw := R1.nw
    n0 := R1.n0
    sub := R1.sub
    kp := R1.kp
    slot := fun j sl e => by
      by_cases q : i = j
      · subst q
        by_cases l : i < ρ.length
        · rw [List.getElem?_set_self l] at e
          cases e
          rw [List.getElem?_set_self (by rw [← R.len]; exact l)]
          exact ⟨p, rfl, fun z => z.2 rfl, R.ak p (R.nw p hp), R.sub p (R.nw p hp), R.ext.2 p hp, ho⟩
        · rw [List.getElem?_eq_none (by simpa using l)] at e; cases e
      · rw [List.getElem?_set_ne q] at e ⊢
        exact R1.slot j sl e
    apart := fun j k oj ok a e1 e2 e3 e4 => by
      have at_i : ∀ {j : Nat}, i = j → σ.length > i → (σ.set i (some (.ref p)))[j]? = some (some (.ref a)) → a = p := fun {j} q l e => by
        subst q
        rw [List.getElem?_set_self l] at e
        cases e; rfl
      have lt : ∀ {j : Nat} {o' : OD}, (ρ.set i (.own o))[j]? = some (.own o') → j < ρ.length := fun {j o'} e => by
        have := (List.getElem?_eq_some_iff.mp e).1
        simpa using this
      by_cases q1 : i = j
      · by_cases q2 : i = k
        · rw [← q1, ← q2]
        · have l1 : i < σ.length := by rw [← R.len, q1]; exact lt e1
          have ea := at_i q1 l1 e3
          rw [List.getElem?_set_ne q2] at e2 e4
          exact absurd ea (nown k ok a e2 e4)
      · by_cases q2 : i = k
        · have l1 : i < σ.length := by rw [← R.len, q2]; exact lt e2
          have ea := at_i q2 l1 e4
          rw [List.getElem?_set_ne q1] at e1 e3
          exact absurd ea (nown j oj a e1 e3)
        · rw [List.getElem?_set_ne q1] at e1 e3
          rw [List.getElem?_set_ne q2] at e2 e4
          exact R.apart j k oj ok a e1 e2 e3 e4 }
def yAsgN (fe : Rho → M S (List Fs.D)) (i : Nat) : Rho → M S Out := fun ρ => (fe ρ).bind fun ds => .ret (.nx (ρ.set i (.own (.lst ds))))
/-- x = a new list that x alone knows -/
theorem d_asgN {te : XK → TE} {fe : Rho → M S (List Fs.D)} {i : Nat} (h : EvN C te fe) : StD C (fun E => tAsg (te E) (gName i)) (yAsgN fe i) := fun B A ρ σ H s E D R I W => by
  refine h B A ρ σ H s E _ R I (R.fr <| (Wish.then W).mono fun ds s1 W1 p H1 vs hp e1 I1 h1 => ?_)
  have R1 := R.step e1
  have st : Stp A H1 (fun a => A a ∧ a ≠ p) (upd H1 p (.lst vs)) := .neu hp fun a o z q => ⟨q, ne_of_none z hp⟩
  exact W1 _ _ _ (R1.setOwn hp ⟨vs, upd_same, h1.stp st⟩) ((e1.stp R.ak).trans st) I1
def yAsgK (i : Nat) : Rho → M S Out := fun ρ => .ret (.nx (ρ.set i (.own (.dct []))))
/-- x = {} -/
theorem d_asgK {i : Nat} : StD C (fun _ => tAsg tDNewK (gName i)) (yAsgK i) := fun B A ρ σ H s E D R I W p hp => by
  have st : Stp A H (fun a => A a ∧ a ≠ p) (upd H p (.dK [])) := .neu hp fun a o z q => ⟨q, ne_of_none z hp⟩
  exact W _ _ _ (R.setOwn hp ⟨[], upd_same, .nil⟩) st (C.st _ _ _ I (Ext.new hp))
/-- x, y = a, {} -/
def yParK (fe : Rho → M S Fs.D) (i j : Nat) : Rho → M S Out := fun ρ => (fe ρ).bind fun d => .ret (.nx ((ρ.set i (.val d)).set j (.own (.dct []))))
theorem d_parK {te : XK → TE} {fe : Rho → M S Fs.D} {i j : Nat} (h : EvD C te fe) : StD C (fun E => tPar i j (tCons (te E) (tCons tDNewK tNil))) (yParK fe i j) := fun B A ρ σ H s E D R I W => by
  refine h B A ρ σ H s E _ R I (R.fr <| (Wish.then W).mono fun d s1 W1 v H1 e1 I1 h1 p hp => ⟨v, .ref p, rfl, ?_⟩)
  have R1 := (R.step e1).setVal (i := i) h1
  have st : Stp A H1 (fun a => A a ∧ a ≠ p) (upd H1 p (.dK [])) := .neu hp fun a o z q => ⟨q, ne_of_none z hp⟩
  exact W1 _ _ _ (R1.setOwn hp ⟨[], upd_same, .nil⟩) ((e1.stp R.ak).trans st) (C.st _ _ _ I1 (Ext.new hp))
/-- x, y = a new list, b -/
def yParN (fe : Rho → M S (List Fs.D)) (fe2 : Rho → M S Fs.D) (i j : Nat) : Rho → M S Out := fun ρ => (fe ρ).bind fun ds => (fe2 ρ).bind fun d => .ret (.nx ((ρ.set i (.own (.lst ds))).set j (.val d)))
def yPar (fe fe2 : Rho → M S Fs.D) (i j : Nat) : Rho → M S Out := fun ρ => (fe ρ).bind fun c => (fe2 ρ).bind fun d => .ret (.nx ((ρ.set i (.val c)).set j (.val d)))
theorem d_par {te te2 : XK → TE} {fe fe2 : Rho → M S Fs.D} {i j : Nat} (h : EvD C te fe) (h2 : EvD C te2 fe2) : StD C (fun E => tPar i j (tCons (te E) (tCons (te2 E) tNil))) (yPar fe fe2 i j) := fun B A ρ σ H s E D R I W => by
  refine h B A ρ σ H s E _ R I (R.fr <| (Wish.then W).mono fun c s1 W1 v H1 e1 I1 k1 => ?_)
  refine h2 B A ρ σ H1 s1 E _ (R.step e1) I1 ((R.step e1).fr <| (Wish.then W1).mono fun d s2 W2 w H2 e2 I2 k2 => ⟨v, w, rfl, ?_⟩)
  have R2 := (((R.step e1).step e2).setVal (i := i) (k1.stp (e2.stp R.ak))).setVal (i := j) k2
  exact W2 A _ H2 R2 ((e1.trans e2).stp R.ak) I2
/-- an own object is written -/
theorem Rel.write {P : Pl} {B : Bs} {A : Addr → Prop} {ρ : Rho} {σ : L2.St} {H : Hp} {i : Nat} {p : Addr} {o o2 : OD} {u : HO} (R : Rel P B A ρ σ H) (hi : ρ[i]? = some (.own o)) (hp : σ[i]? = some (some (.ref p))) (ho : OwnAt B.me A (upd H p u) p o2) : Rel P B A (ρ.set i (.own o2)) σ (upd H p u) := by
  obtain ⟨p', h1, h2, h3, h4, h5, h6⟩ := R.slot i _ hi
  rw [hp] at h1
  cases h1
  have hxp : ∀ u, H p = some u → xt u → False := fun u e z => by
    cases o with
    | lst ds => obtain ⟨_, q, _⟩ := h6; rw [q] at e; cases e; exact z
    | dct ds => obtain ⟨_, q, _⟩ := h6; rw [q] at e; cases e; exact z
    | ins c ds => obtain ⟨_, _, _, q, _⟩ := h6; rw [q] at e; cases e; exact z
  have hpn : H p ≠ none := by
    cases o with
    | lst ds => obtain ⟨_, q, _⟩ := h6; rw [q]; simp
    | dct ds => obtain ⟨_, q, _⟩ := h6; rw [q]; simp
    | ins c ds => obtain ⟨_, _, _, q, _⟩ := h6; rw [q]; simp
  have st : Stp A H A (upd H p u) := Stp.put (fun _ _ _ h => h) fun o e q => q.elim h2 (hxp o e)
  have li : i < ρ.length := (List.getElem?_eq_some_iff.mp hi).1
  exact {
    len := by simpa using R.len
    ext := ⟨fun a w k e => by rw [upd_ne (ne_of_none e h5)]; exact R.ext.1 a w k e, fun a e => by
      by_cases z : a = p
      · rw [z]; exact h5
      · rw [upd_ne z] at e; exact R.ext.2 a e⟩
    nw := fun a e => R.nw a (by
      by_cases z : a = p
      · rw [z, upd_same] at e; cases e
      · rw [upd_ne z] at e; exact e)
    n0 := R.n0
    sub := R.sub
    kp := R.kp
    slot := fun j sl e => by
      by_cases q : i = j
      · subst q
        rw [List.getElem?_set_self li] at e
        cases e
        exact ⟨p, hp, h2, h3, h4, h5, ho⟩
      · rw [List.getElem?_set_ne q] at e
        have h := R.slot j sl e
        cases sl with
        | no => trivial
        | val d => obtain ⟨v, k1, k2⟩ := h; exact ⟨v, k1, k2.stp st⟩
        | own oj =>
          obtain ⟨a, k1, k2, k3, k4, k5, k6⟩ := h
          exact ⟨a, k1, k2, k3, k4, k5, k6.stp st fun w y => by rw [upd_ne (fun z => q (R.apart i j o oj p hi e hp (by rw [← z]; exact k1)))]; exact y⟩
    apart := fun j k oj ok a e1 e2 e3 e4 => by
      have un : ∀ {j : Nat} {oj : OD}, (ρ.set i (.own o2))[j]? = some (.own oj) → ∃ oj', ρ[j]? = some (.own oj') := fun {j oj} e => by
        by_cases q : i = j
        · exact ⟨o, by rw [← q]; exact hi⟩
        · rw [List.getElem?_set_ne q] at e; exact ⟨oj, e⟩
      obtain ⟨_, f1⟩ := un e1
      obtain ⟨_, f2⟩ := un e2
      exact R.apart j k _ _ a f1 f2 e3 e4 }
theorem Rel.writeI {P : Pl} {B : Bs} {A : Addr → Prop} {ρ : Rho} {σ : L2.St} {H : Hp} {i : Nat} {o : OD} (R : Rel P B A ρ σ H) (hi : ρ[i]? = some (.own o)) : ∃ p, σ[i]? = some (some (.ref p)) ∧ ¬ A p ∧ P.ok p ∧ OwnAt B.me A H p o := by
  obtain ⟨p, h1, h2, h3, h4, h5, h6⟩ := R.slot i _ hi
  exact ⟨p, h1, h2, R.kp p h4, h6⟩
def ownL : Option Sl → Option (List Fs.D)
  | some (.own (.lst ds)) => some ds
  | _ => none
def ownK : Option Sl → Option (List (Key × Fs.D))
  | some (.own (.dct ds)) => some ds
  | _ => none
theorem ownL_of {x : Option Sl} {ds : List Fs.D} (h : ownL x = some ds) : x = some (.own (.lst ds)) := by
  unfold ownL at h
  split at h
  · cases h; rfl
  · cases h
theorem ownK_of {x : Option Sl} {ds : List (Key × Fs.D)} (h : ownK x = some ds) : x = some (.own (.dct ds)) := by
  unfold ownK at h
  split at h
  · cases h; rfl
  · cases h
/-- xs.append(e), xs own -/
def yApp (i : Nat) (fe : Rho → M S Fs.D) : Rho → M S Out := fun ρ => (M.of (ownL ρ[i]?)).bind fun ds => (fe ρ).bind fun d => match lim ds.length with
  | true => .ret (.nx (ρ.set i (.own (.lst (ds ++ [d])))))
  | false => fun _ => .bad
theorem d_app {K : PySem.W.Frag} {te : XK → TE} {fe : Rho → M S Fs.D} {i : Nat} (h : EvD C te fe) : StD C (fun E => tDrop (tBM K "list" rAppend (tV i) (tCons (te E) tNil))) (yApp i fe) := fun B A ρ σ H s E D R I W => by
  obtain ⟨ds, hi, W⟩ := of_some (Wish.then W)
  · have hi := ownL_of hi
    obtain ⟨p, hp, hA, hok, vs, k1, k2⟩ := R.writeI hi
    unfold tDrop tBM tV
    rw [hp]
    refine ⟨.inl ⟨rfl, vs, .inl (.inl k1)⟩, ?_⟩
    refine h B A ρ σ H s E _ R I (R.fr <| (Wish.then W).mono fun d s1 W1 v H1 e1 I1 h1 => ?_)
    have R1 := R.step e1
    cases hl : lim ds.length with
    | false => rw [hl] at W1; exact W1.elim
    | true =>
      rw [hl] at W1
      have k1' := e1.out (C.okk p hok) hA k1
      refine ⟨p, vs, v, rfl, rfl, k1', by rw [k2.length]; exact Nat.lt_of_le_of_lt (of_decide_eq_true hl) (by decide), ?_⟩
      have st : Stp A H1 A (upd H1 p (.lst (vs ++ [v]))) := Stp.put (fun _ _ _ h => h) fun o e q => q.elim hA fun z => by rw [k1'] at e; cases e; exact z
      have il : IsL A H1 (vs ++ [v]) (ds ++ [d]) := (k2.stp (e1.stp R.ak)).append (.cons h1 .nil)
      exact W1 A σ _ (R1.write hi hp ⟨_, upd_same, il.stp st⟩) ((e1.stp R.ak).trans st) (C.st2 _ _ _ _ hok (by rw [k1']; rfl) I1)
theorem IsL.set {A : Addr → Prop} {H : Hp} {v : V} {d : Fs.D} (h : Is A H v d) : ∀ {vs : List V} {ds : List Fs.D} (j : Nat), IsL A H vs ds → IsL A H (vs.set j v) (ds.set j d)
  | _, _, _, .nil => .nil
  | _, _, 0, .cons _ t => .cons h t
  | _, _, j + 1, .cons k t => .cons k (IsL.set h j t)
/-- xs[k] = e, xs own -/
def ySetL (i : Nat) (fe fk : Rho → M S Fs.D) : Rho → M S Out := fun ρ => (fe ρ).bind fun d => (M.of (ownL ρ[i]?)).bind fun ds => (fk ρ).bind fun k => (M.of ((dIn k).bind fun n => ixN ds.length n)).bind fun j => .ret (.nx (ρ.set i (.own (.lst (ds.set j d)))))
theorem d_setL {te tk : XK → TE} {fe fk : Rho → M S Fs.D} {i : Nat} (h : EvD C te fe) (hk : EvD C tk fk) : StD C (fun E => tAsg (te E) (gSub (tV i) (tk E) rSetL)) (ySetL i fe fk) := fun B A ρ σ H s E D R I W => by
  refine h B A ρ σ H s E _ R I (R.fr <| (Wish.then W).mono fun d s1 W1 v H1 e1 I1 h1 => ?_)
  have R1 := R.step e1
  obtain ⟨ds, hi, W1⟩ := of_some (Wish.then W1)
  · have hi := ownL_of hi
    obtain ⟨p, hp, hA, hok, _, _, _⟩ := R1.writeI hi
    show tV i σ H1 _
    unfold tV
    rw [hp]
    refine hk B A ρ σ H1 s1 E _ R1 I1 (R1.fr <| (Wish.then W1).mono fun k s2 W2 w H2 e2 I2 h2 => ?_)
    obtain ⟨j, ej, W3⟩ := of_some (Wish.then W2)
    obtain ⟨n, en, ej⟩ := Option.bind_eq_some_iff.mp ej
    have R2 := R1.step e2
    obtain ⟨p', hp', hA', hok', vs, k1, k2⟩ := R2.writeI hi
    rw [hp] at hp'
    cases hp'
    have ew := h2.in_of en
    refine ⟨p, vs, n, j, rfl, ew, k1, by rw [k2.length]; exact ej, ?_⟩
    have st : Stp A H2 A (upd H2 p (.lst (vs.set j v))) := Stp.put (fun _ _ _ h => h) fun o e q => q.elim hA fun z => by rw [k1] at e; cases e; exact z
    have il : IsL A H2 (vs.set j v) (ds.set j d) := IsL.set (h1.stp (e2.stp R.ak)) j k2
    exact W3 A σ _ (R2.write hi hp ⟨_, upd_same, il.stp st⟩) (((e1.trans e2).stp R.ak).trans st) (C.st2 _ _ _ _ hok (by rw [k1]; rfl) I2)
def putD (kds : List (Key × Fs.D)) (k : Key) (d : Fs.D) : List (Key × Fs.D) := if (kds.any fun kv => decide (kv.1 = k)) = true then kds.map (fun kv => if kv.1 = k then (kv.1, d) else kv) else kds ++ [(k, d)]
theorem IsK.any {A : Addr → Prop} {H : Hp} {k : Key} : ∀ {vs : List (Key × V)} {ds : List (Key × Fs.D)}, IsK A H vs ds → (vs.any fun kv => decide (kv.1 = k)) = (ds.any fun kv => decide (kv.1 = k))
  | _, _, .nil => rfl
  | _, _, .cons h t => by rw [List.any_cons, List.any_cons, IsK.any t]
theorem IsK.repl {A : Addr → Prop} {H : Hp} {k : Key} {v : V} {d : Fs.D} (h : Is A H v d) : ∀ {vs : List (Key × V)} {ds : List (Key × Fs.D)}, IsK A H vs ds → IsK A H (vs.map (fun kv => if kv.1 = k then (kv.1, v) else kv)) (ds.map (fun kv => if kv.1 = k then (kv.1, d) else kv))
  | _, _, .nil => .nil
  | _, _, .cons (k := k') g t => by
    rw [List.map_cons, List.map_cons]
    by_cases e : k' = k
    · rw [if_pos e, if_pos e]; exact .cons h (IsK.repl h t)
    · rw [if_neg e, if_neg e]; exact .cons g (IsK.repl h t)
theorem IsK.append {A : Addr → Prop} {H : Hp} : ∀ {vs ws : List (Key × V)} {ds es : List (Key × Fs.D)}, IsK A H vs ds → IsK A H ws es → IsK A H (vs ++ ws) (ds ++ es)
  | _, _, _, _, .nil, k => k
  | _, _, _, _, .cons h t, k => .cons h (IsK.append t k)
theorem IsK.put {A : Addr → Prop} {H : Hp} {k : Key} {v : V} {d : Fs.D} {vs : List (Key × V)} {ds : List (Key × Fs.D)} (h : Is A H v d) (g : IsK A H vs ds) : IsK A H (putK vs k v) (putD ds k d) := by
  unfold putK putD
  rw [g.any (k := k)]
  split
  · exact g.repl h
  · exact g.append (.cons h .nil)
theorem IsK.length {A : Addr → Prop} {H : Hp} : ∀ {vs : List (Key × V)} {ds : List (Key × Fs.D)}, IsK A H vs ds → vs.length = ds.length
  | _, _, .nil => rfl
  | _, _, .cons _ t => congrArg (· + 1) (IsK.length t)
/-- xs[k] = e, xs an own dict -/
def ySetK (i : Nat) (fe fk : Rho → M S Fs.D) : Rho → M S Out := fun ρ => (fe ρ).bind fun d => (M.of (ownK ρ[i]?)).bind fun ds => (fk ρ).bind fun k => (M.of (keyD k)).bind fun k2 => match lim ds.length with
  | true => .ret (.nx (ρ.set i (.own (.dct (putD ds k2 d)))))
  | false => fun _ => .bad
theorem d_setK {te tk : XK → TE} {fe fk : Rho → M S Fs.D} {i : Nat} (h : EvD C te fe) (hk : EvD C tk fk) : StD C (fun E => sDPut (tV i) (tk E) (te E)) (ySetK i fe fk) := fun B A ρ σ H s E D R I W => by
  refine h B A ρ σ H s E _ R I (R.fr <| (Wish.then W).mono fun d s1 W1 v H1 e1 I1 h1 => ?_)
  have R1 := R.step e1
  obtain ⟨ds, hi, W1⟩ := of_some (Wish.then W1)
  · have hi := ownK_of hi
    obtain ⟨p, hp, hA, hok, _, _, _⟩ := R1.writeI hi
    show tV i σ H1 _
    unfold tV
    rw [hp]
    refine hk B A ρ σ H1 s1 E _ R1 I1 (R1.fr <| (Wish.then W1).mono fun k s2 W2 w H2 e2 I2 h2 => ?_)
    obtain ⟨k2, ek, W3⟩ := of_some (Wish.then W2)
    have R2 := R1.step e2
    obtain ⟨p', hp', hA', hok', vs, k1, il⟩ := R2.writeI hi
    rw [hp] at hp'
    cases hp'
    cases hl : lim ds.length with
    | false => rw [hl] at W3; exact W3.elim
    | true =>
      rw [hl] at W3
      refine ⟨p, upd H2 p (.dK (putK vs k2 v)), rfl, .inl ⟨vs, k2, k1, keyOf_kV (h2.key ek), by rw [il.length]; exact Nat.lt_of_le_of_lt (of_decide_eq_true hl) (by decide), rfl⟩, ?_⟩
      have st : Stp A H2 A (upd H2 p (.dK (putK vs k2 v))) := Stp.put (fun _ _ _ h => h) fun o e q => q.elim hA fun z => by rw [k1] at e; cases e; exact z
      have ik := IsK.put (k := k2) (h1.stp (e2.stp R.ak)) il
      exact W3 A σ _ (R2.write hi hp ⟨_, upd_same, ik.stp st⟩) (((e1.trans e2).stp R.ak).trans st) (C.st2 _ _ _ _ hok (by rw [k1]; rfl) I2)
/-- the own object of slot i is let go: a value from now on -/
def oVal : OD → Fs.D
  | .lst ds => .lst ds
  | .dct ds => .dct ds
  | .ins c fs => .obj c fs
def freeR (i : Nat) (ρ : Rho) : Option Rho := match ρ[i]? with
  | some (.own o) => some (ρ.set i (.val (oVal o)))
  | _ => none
theorem Rel.free2 {P : Pl} {B : Bs} {A : Addr → Prop} {ρ ρ1 : Rho} {σ : L2.St} {H : Hp} {i : Nat} {o : OD} {p : Addr} (R : Rel P B A ρ σ H) (hi : ρ[i]? = some (.own o)) (h1 : σ[i]? = some (some (.ref p))) (e : freeR i ρ = some ρ1) : Rel P B (fun a => A a ∨ a = p) ρ1 σ H := by
  have e0 : ρ1 = ρ.set i (.val (oVal o)) := by
    unfold freeR at e
    rw [hi] at e
    cases e; rfl
  subst e0
  · obtain ⟨p', h1', h2, h3, h4, h5, h6⟩ := R.slot i _ hi
    rw [h1] at h1'
    cases h1'
    have st : Stp A H (fun a => A a ∨ a = p) H := .same fun a h => .inl h
    have li : i < ρ.length := (List.getElem?_eq_some_iff.mp hi).1
    exact {
      len := by simpa using R.len
      ext := R.ext
      nw := fun a e => .inl (R.nw a e)
      n0 := R.n0
      sub := fun a h => h.elim (R.sub a) fun z => by rw [z]; exact h4
      kp := R.kp
      slot := fun j sl e => by
          by_cases q : i = j
          · subst q
            rw [List.getElem?_set_self li] at e
            cases e
            refine ⟨.ref p, h1, ?_⟩
            cases o with
            | lst ds => obtain ⟨vs, a1, a2⟩ := h6; exact .lst (.inr rfl) a1 (a2.stp st)
            | dct ds => obtain ⟨vs, a1, a2⟩ := h6; exact .dct (.inr rfl) (by unfold look; rw [a1]) (a2.stp st)
            | ins c ds => obtain ⟨_, dx, vs, a1, a2⟩ := h6; exact .obj (.inr rfl) a1 (a2.stp st)
          · rw [List.getElem?_set_ne q] at e
            have h := R.slot j sl e
            cases sl with
            | no => trivial
            | val d => obtain ⟨v, k1, k2⟩ := h; exact ⟨v, k1, k2.stp st⟩
            | own oj =>
              obtain ⟨a, k1, k2, k3, k4, k5, k6⟩ := h
              refine ⟨a, k1, fun z => z.elim k2 fun y => q (R.apart i j o oj p hi e h1 (by rw [← y]; exact k1)), k3, k4, k5, k6.stp st fun w y => y⟩
      apart := fun j k oj ok a e1 e2 e3 e4 => by
          have ne : ∀ {j : Nat} {oj : OD}, (ρ.set i (.val (oVal o)))[j]? = some (.own oj) → i ≠ j := fun {j oj} e z => by
            subst z
            rw [List.getElem?_set_self li] at e
            cases e
          have n1 := ne e1
          have n2 := ne e2
          rw [List.getElem?_set_ne n1] at e1
          rw [List.getElem?_set_ne n2] at e2
          exact R.apart j k oj ok a e1 e2 e3 e4 }
theorem Rel.free {P : Pl} {B : Bs} {A : Addr → Prop} {ρ ρ1 : Rho} {σ : L2.St} {H : Hp} {i : Nat} (R : Rel P B A ρ σ H) (e : freeR i ρ = some ρ1) : ∃ p, Rel P B (fun a => A a ∨ a = p) ρ1 σ H ∧ Stp A H (fun a => A a ∨ a = p) H := by
  obtain ⟨o, hi⟩ : ∃ o, ρ[i]? = some (.own o) := by
    have e3 := e
    unfold freeR at e3
    split at e3
    · rename_i o hi
      exact ⟨o, hi⟩
    · cases e3
  obtain ⟨p, h1, _⟩ := R.slot i _ hi
  exact ⟨p, R.free2 hi h1 e, .same fun a h => .inl h⟩
def yFree (i : Nat) (f : Rho → M S Out) : Rho → M S Out := fun ρ => (M.of (freeR i ρ)).bind f
theorem d_free {i : Nat} {t : XK → TS} {f : Rho → M S Out} (h : StD C t f) : StD C t (yFree i f) := fun B A ρ σ H s E D R I W => by
  obtain ⟨ρ1, e, W1⟩ := of_some (Wish.then W)
  obtain ⟨p, R1, st⟩ := R.free e
  exact h B _ ρ1 σ H s E D R1 I (Wish.mono W1 fun o s2 W2 => W2.stp st)
def startR (n : Nat) (ds : List Fs.D) : Rho := ds.map .val ++ List.replicate (n - ds.length) .no
/-- what a def of m parameters and n names computes -/
def runD (n m : Nat) (f : Rho → M S Out) : List Fs.D → M S Fs.D := fun ds => match decide (ds.length = m) with
  | true => (f (startR n ds)).bind fun o => match o with
    | .nx _ => .ret .non
    | .rt d => .ret d
    | .bk _ => fun _ => .bad
    | .ct _ => fun _ => .bad
  | false => fun _ => .bad
theorem sp_run {N : List Str} {m : Nat} {rd : XK → TS} {f : Rho → M S Out} (hm : m ≤ N.length) (h : StD C rd f) : SpD C (spR N m rd) (runD N.length m f) := fun A H vs ds s Q E hv nw sub I W => by
  unfold runD at W
  cases e : decide (ds.length = m) with
  | false => rw [e] at W; exact W.elim
  | true =>
    rw [e] at W
    have hl : ds.length = m := of_decide_eq_true e
    have hlv : vs.length = m := by rw [hv.length]; exact hl
    refine ⟨hlv, ?_⟩
    refine h ⟨H, A, none⟩ A (startR N.length ds) (L2.start N vs) H s E { nx := fun _ H' => Q .non H', rt := Q } ?_ I ((Wish.then W).mono fun o s1 W1 => ?_)
    · refine ⟨?_, ExL.refl _ _ _, nw, nw, fun _ h => h, sub, fun i sl e => ?_, fun i j oi oj a e1 _ _ _ => ?_⟩
      · simp only [startR, L2.start, List.length_append, List.length_map, List.length_replicate]
        omega
      · unfold startR at e
        unfold L2.start
        by_cases hi : i < ds.length
        · rw [List.getElem?_append_left (by simpa using hi), List.getElem?_map] at e
          rw [List.getElem?_append_left (by rw [List.length_map, hv.length]; exact hi), List.getElem?_map]
          rcases hv.get i with ⟨_, z⟩ | ⟨v, d, z1, z2, z3⟩
          · rw [z] at e; cases e
          · rw [z2] at e
            cases e
            rw [z1]
            exact ⟨v, rfl, z3⟩
        · rw [List.getElem?_append_right (by simpa using hi), List.getElem?_replicate] at e
          split at e
          · cases e; trivial
          · cases e
      · unfold startR at e1
        by_cases hi : i < ds.length
        · rw [List.getElem?_append_left (by simpa using hi), List.getElem?_map] at e1
          obtain ⟨d, _, z⟩ := Option.map_eq_some_iff.mp e1
          cases z
        · rw [List.getElem?_append_right (by simpa using hi), List.getElem?_replicate] at e1
          split at e1 <;> cases e1
    · cases o with
      | nx ρ => exact fun A1 σ1 H1 R1 _ I1 => W1 .non H1 R1.ext I1 .non
      | rt d => exact fun A1 v H1 h1 sb ex I1 => W1 v H1 ex I1 (h1.stp (.same sb))
      | bk ρ => exact W1.elim
      | ct ρ => exact W1.elim
end
end Fs

namespace Fs
open PySem PySem.Spec PyProof.Rows L2
/-- whether a thing holds -/
noncomputable def chk (p : Prop) : Bool := @decide p (Classical.propDecidable p)
theorem chk_true {p : Prop} (h : p) : chk p = true := by
  unfold chk
  simpa using h
theorem chk_of {p : Prop} (h : chk p = true) : p := by
  unfold chk at h
  simpa using h
section
variable {X : Cx}
/-- int(x): of an int, a bool, a text -/
def mIntT : List V → Hp → VK → Prop := one fun x H Q => match x with
  | .int i => Q (.int i) H
  | .bl k => Q (.int (if k then 1 else 0)) H
  | .str a => (match PySem.intText? a with | some n => a.length ≤ 640 ∧ Q (.int n) H | none => False)
  | _ => False
theorem call_mIntT : CallR X (.type "int") mIntT := cr_imp (callr_or call_intA call_int_str) fun xs H Q h => by
  unfold mIntT one at h
  split at h
  · split at h
    · exact .inl (.inl ⟨_, rfl, h⟩)
    · exact .inl (.inr ⟨_, rfl, h⟩)
    · split at h
      · rename_i n e
        exact .inr ⟨_, n, rfl, e, h.1, h.2⟩
      · exact h.elim
    · exact h.elim
  · exact h.elim
def mStr : List V → Hp → VK → Prop := one fun x H Q => match x with
  | .int i => i.natAbs.log2 < 1920 ∧ Q (.str (toString i)) H
  | .str a => Q (.str a) H
  | _ => False
theorem call_mStr : CallR X (.type "str") mStr := cr_imp (callr_or call_str_int SkE.call_str_str) fun xs H Q h => by
  unfold mStr one at h
  split at h
  · split at h
    · exact .inl ⟨_, rfl, h.1, h.2⟩
    · exact .inr ⟨_, rfl, h⟩
    · exact h.elim
  · exact h.elim
def mRepr : List V → Hp → VK → Prop := one fun x H Q => match x with
  | .int i => i.natAbs.log2 < 1920 ∧ Q (.str (toString i)) H
  | _ => False
theorem call_mRepr : CallR X (.builtin "repr") mRepr := cr_imp SkE.call_repr_int fun xs H Q h => by
  unfold mRepr one at h
  split at h
  · split at h
    · exact ⟨_, rfl, h.1, h.2⟩
    · exact h.elim
  · exact h.elim
/-- isinstance -/
def isC (K : PySem.W.Frag) (T : Value) (c : V) (H : Hp) (Q : VK) : Prop := match c with
  | .ref t => (match H t with
    | some (.tup cs) => (K.lookup t = none → ∃ us b, clsOfs cs = some us ∧ PySem.W.kitAny K T us = some b ∧ Q (.bl b) H)
    | _ => ∃ b, PySem.W.kitOne K T (.ref t) = some b ∧ Q (.bl b) H)
  | .ty m => ∃ b, PySem.W.kitOne K T (.type m) = some b ∧ Q (.bl b) H
  | _ => False
def mIk (K : PySem.W.Frag) : List V → Hp → VK → Prop := fun xs H Q => match xs with
  | [x, c] => (match x with
    | .ref a => (match H a with
      | some (.ins C _ _) => InsTy K C ∧ isC K (.ref C) c H Q
      | _ => (match tyNm H x with | some n => isC K (.type n) c H Q | none => False))
    | _ => (match tyNm H x with | some n => isC K (.type n) c H Q | none => False))
  | _ => False
theorem isC_run {pins : List (Addr × Obj)} {σ : L2.St} {H : Hp} {s : Shared} {c : V} {u1 u2 T : Value} {P : Heap → Prop} {Q : VK} (I : Inv X pins σ H s) (Z : PySem.W.KitX X.K u1 T P) (p : P s.heap) (hx : u1 ≠ .builtin "__main__.__loader__#opaque") (r2 : RelV c u2) (h : isC X.K T c H Q) :
    wpAny (model X.prog X.w) X.A (call (.builtin "isinstance") [u1, u2]) (EP X pins σ Q) X.xe s := by
  unfold isC at h
  split at h
  · rename_i t
    obtain rfl : u2 = Value.ref t := r2
    split at h
    · rename_i cs hT
      have nk : X.K.lookup t = none := by
        cases e : X.K.lookup t with
        | none => rfl
        | some o =>
          have z := (I.bs t o (I.ok.mod.kin t o e)).2
          rw [hT] at z; cases z
      obtain ⟨ws, b, k, e, q⟩ := h nk
      obtain ⟨_, its, rv, o, h1, h2, n, h3⟩ := (show ObjOk X.prog X.w H s.heap t (.tup cs) from I.hok t _ hT)
      have e3 := ClsV.all (clsOfs_v k) rv
      subst e3
      obtain ⟨oc, od, dt, sl⟩ := o
      simp only at h2 h3
      subst h2 h3
      exact PySem.W.kia_tup Z I.kIn p h1 e hx fun tk => ⟨.bl b, H, I.tok tk, rfl, q⟩
    · obtain ⟨b, e, q⟩ := h
      exact PySem.W.kia_one Z I.kIn p e hx fun tk => ⟨.bl b, H, I.tok tk, rfl, q⟩
  · rename_i m
    obtain ⟨b, e, q⟩ := h
    obtain rfl : u2 = Value.type m := r2
    exact PySem.W.kia_one Z I.kIn p e hx fun tk => ⟨.bl b, H, I.tok tk, rfl, q⟩
  · exact h.elim
theorem call_mIk : CallR X (.builtin "isinstance") (mIk X.K) := by
  intro pins s σ H xs us Q I r h
  have fin : ∀ (x c : V) (n : String), xs = [x, c] → tyNm H x = some n → isC X.K (.type n) c H Q → wpAny (model X.prog X.w) X.A (call (.builtin "isinstance") us) (EP X pins σ Q) X.xe s := fun x c n ex hn hh => by
    rw [ex] at r
    obtain ⟨u1, u2, rfl, r1, r2⟩ := vals2 r
    obtain ⟨P, Z, p, hx⟩ := kit_of I r1 (tyNm_x hn)
    exact isC_run I Z p hx r2 hh
  unfold mIk at h
  split at h
  · split at h
    · split at h
      · rename_i a C dx fs e
        obtain ⟨T, h⟩ := h
        obtain ⟨u1, u2, rfl, r1, r2⟩ := vals2 r
        obtain ⟨P, Z, p, hx⟩ := kit_of I r1 (.base (.ins e T.cl T.ha T.hn T.htk T.hm))
        exact isC_run I Z p hx r2 h
      · split at h
        · rename_i n hn
          exact fin _ _ n rfl hn h
        · exact h.elim
    · split at h
      · rename_i n hn
        exact fin _ _ n rfl hn h
      · exact h.elim
  · exact h.elim
/-- isinstance of a caught exception -/
def mIkx (K : PySem.W.Frag) : List V → Hp → VK → Prop := fun xs H Q => match xs with
  | [.ref a, c] => ∃ (C : Addr) (d : Option Addr), H a = some (EXO (.ref C) d a) ∧ ExcC K C ∧ (∀ dd, d = some dd → ∃ fs, H dd = some (.xd fs)) ∧ isC K (.ref C) c H Q
  | _ => False
theorem call_mIkx : CallR X (.builtin "isinstance") (mIkx X.K) := by
  intro pins s σ H xs us Q I r h
  unfold mIkx at h
  split at h
  · rename_i a c
    obtain ⟨C, d, ea, T, ed, h⟩ := h
    obtain ⟨u1, u2, rfl, r1, r2⟩ := vals2 r
    obtain rfl : u1 = Value.ref a := r1
    obtain ⟨P, Z, p⟩ := kit_exc I T ea ed
    exact isC_run I Z p (fun z => nomatch z) r2 h
  · exact h.elim
end
section
variable {K : PySem.W.Frag} {A : Addr → Prop} {H : Hp}
theorem one_of {r : V → Hp → VK → Prop} {op : D → Option D} (h : UnD r op) : CaD (one r) (fun xs => match xs with | [x] => op x | _ => none) := fun A H vs xs d Q hv nw e q => by
  cases hv with
  | nil => cases e
  | cons k t =>
    cases t with
    | nil => exact h A H _ _ d Q k nw e q
    | cons _ _ => cases e
def dLen1 : D → Option D
  | .str z => (match lim z.length with | true => some (.int z.length) | false => none)
  | .lst xs => some (.int xs.length)
  | .tup xs => some (.int xs.length)
  | .dct xs => some (.int xs.length)
  | _ => none
def dLen (xs : List D) : Option D := match xs with | [x] => dLen1 x | _ => none
theorem c_len : CaD mLen dLen := one_of fun A H v x d Q h nw e q => by
  unfold dLen1 at e
  split at e
  · cases h
    split at e
    · rename_i l
      cases e
      exact ⟨lim_ok l, q _ H (Ext.refl _ _) (.int _)⟩
    · cases e
  · cases h with
    | @lst a vs _ k1 k2 k3 =>
      cases e
      have lk : look H a = some (.lst vs) := by unfold look; rw [k2]
      simp only [lk, k3.length]
      exact q _ H (Ext.refl _ _) (.int _)
  · cases h with
    | @tup a vs _ k1 k2 k3 =>
      cases e
      have lk : look H a = some (.tup vs) := by unfold look; rw [k2]
      simp only [lk, k3.length]
      exact q _ H (Ext.refl _ _) (.int _)
  · cases h with
    | @dct a vs _ k1 k2 k3 =>
      cases e
      simp only [k2, k3.length]
      exact q _ H (Ext.refl _ _) (.int _)
  · cases e
def dInt1 : D → Option D
  | .int i => some (.int i)
  | .bl k => some (.int (if k then 1 else 0))
  | .str a => (match PySem.intText? a with | some n => (match decide (a.length ≤ 640) with | true => some (.int n) | false => none) | none => none)
  | _ => none
def dInt (xs : List D) : Option D := match xs with | [x] => dInt1 x | _ => none
theorem c_int : CaD mIntT dInt := one_of fun A H v x d Q h nw e q => by
  unfold dInt1 at e
  split at e
  · cases h; cases e
    exact q _ H (Ext.refl _ _) (.int _)
  · cases h; cases e
    exact q _ H (Ext.refl _ _) (.int _)
  · cases h
    split at e
    · rename_i n en
      split at e
      · rename_i l
        cases e
        simp only [en]
        exact ⟨of_decide_eq_true l, q _ H (Ext.refl _ _) (.int _)⟩
      · cases e
    · cases e
  · cases e
def dAbs1 : D → Option D
  | .int i => some (.int (if i < 0 then -i else i))
  | _ => none
def dAbs (xs : List D) : Option D := match xs with | [x] => dAbs1 x | _ => none
theorem c_abs : CaD mAbs dAbs := one_of fun A H v x d Q h nw e q => by
  unfold dAbs1 at e
  split at e
  · cases h; cases e
    exact q _ H (Ext.refl _ _) (.int _)
  · cases e
def dStr1 : D → Option D
  | .int i => (match decide (i.natAbs.log2 < 1920) with | true => some (.str (toString i)) | false => none)
  | .str a => some (.str a)
  | _ => none
def dStr (xs : List D) : Option D := match xs with | [x] => dStr1 x | _ => none
theorem c_str : CaD mStr dStr := one_of fun A H v x d Q h nw e q => by
  unfold dStr1 at e
  split at e
  · cases h
    split at e
    · rename_i l
      cases e
      exact ⟨of_decide_eq_true l, q _ H (Ext.refl _ _) (.str _)⟩
    · cases e
  · cases h; cases e
    exact q _ H (Ext.refl _ _) (.str _)
  · cases e
def dRepr1 : D → Option D
  | .int i => (match decide (i.natAbs.log2 < 1920) with | true => some (.str (toString i)) | false => none)
  | _ => none
def dRepr (xs : List D) : Option D := match xs with | [x] => dRepr1 x | _ => none
theorem c_repr : CaD mRepr dRepr := one_of fun A H v x d Q h nw e q => by
  unfold dRepr1 at e
  split at e
  · cases h
    split at e
    · rename_i l
      cases e
      exact ⟨of_decide_eq_true l, q _ H (Ext.refl _ _) (.str _)⟩
    · cases e
  · cases e
def dTup1 : D → Option D
  | .lst ds => some (.tup ds)
  | .tup ds => some (.tup ds)
  | _ => none
def dTup (xs : List D) : Option D := match xs with | [x] => dTup1 x | _ => none
theorem c_tup : CaD mTup dTup := one_of fun A H v x d Q h nw e q => by
  unfold dTup1 at e
  split at e
  · cases h with
    | @lst a vs _ k1 k2 k3 =>
      cases e
      have lk : look H a = some (.lst vs) := by unfold look; rw [k2]
      simp only [lk]
      intro l hl
      have x := Ext.new (o := .tup vs) hl
      exact q _ _ x (.tup (nw l hl) upd_same (k3.stp (x.stp)))
  · cases h with
    | @tup a vs _ k1 k2 k3 =>
      cases e
      have lk : look H a = some (.tup vs) := by unfold look; rw [k2]
      simp only [lk]
      exact q _ H (Ext.refl _ _) (.tup k1 k2 k3)
  · cases e
def dLst1 : D → Option D
  | .lst ds => some (.lst ds)
  | .tup ds => some (.lst ds)
  | _ => none
def dLst (xs : List D) : Option D := match xs with | [x] => dLst1 x | _ => none
theorem c_lst : CaD mLst dLst := one_of fun A H v x d Q h nw e q => by
  unfold dLst1 at e
  split at e
  · cases h with
    | @lst a vs _ k1 k2 k3 =>
      cases e
      have lk : look H a = some (.lst vs) := by unfold look; rw [k2]
      simp only [lk]
      intro l hl
      have x := Ext.new (o := .lst vs) hl
      exact q _ _ x (.lst (nw l hl) upd_same (k3.stp (x.stp)))
  · cases h with
    | @tup a vs _ k1 k2 k3 =>
      cases e
      have lk : look H a = some (.tup vs) := by unfold look; rw [k2]
      simp only [lk]
      intro l hl
      have x := Ext.new (o := .lst vs) hl
      exact q _ _ x (.lst (nw l hl) upd_same (k3.stp (x.stp)))
  · cases e
def dBls : List D → Option (List Bool)
  | [] => some []
  | .bl b :: r => (dBls r).map (b :: ·)
  | _ => none
theorem IsL.bls : ∀ {vs : List V} {xs : List D} {bs : List Bool}, IsL A H vs xs → dBls xs = some bs → bools vs = some bs
  | _, _, _, .nil, e => by simp [dBls] at e; subst e; rfl
  | _, _, _, .cons h t, e => by
    unfold dBls at e
    split at e
    · rename_i z; cases z
    · rename_i b r eq
      cases eq
      cases h
      obtain ⟨cs, e1, e2⟩ := Option.map_eq_some_iff.mp e
      subst e2
      unfold bools
      rw [t.bls e1]
      rfl
    · cases e
def dAll1 : D → Option D
  | .lst ds => (dBls ds).map fun bs => .bl (bs.all id)
  | _ => none
def dAll (xs : List D) : Option D := match xs with | [x] => dAll1 x | _ => none
theorem c_all : CaD mAll dAll := one_of fun A H v x d Q h nw e q => by
  unfold dAll1 at e
  split at e
  · cases h with
    | @lst a vs _ k1 k2 k3 =>
      obtain ⟨bs, e1, e2⟩ := Option.map_eq_some_iff.mp e
      subst e2
      have lk : look H a = some (.lst vs) := by unfold look; rw [k2]
      simp only [lk, k3.bls e1]
      exact q _ H (Ext.refl _ _) (.bl _)
  · cases e
def dAny1 : D → Option D
  | .lst ds => (dBls ds).map fun bs => .bl (bs.any id)
  | _ => none
def dAny (xs : List D) : Option D := match xs with | [x] => dAny1 x | _ => none
theorem c_any : CaD mAny dAny := one_of fun A H v x d Q h nw e q => by
  unfold dAny1 at e
  split at e
  · cases h with
    | @lst a vs _ k1 k2 k3 =>
      obtain ⟨bs, e1, e2⟩ := Option.map_eq_some_iff.mp e
      subst e2
      have lk : look H a = some (.lst vs) := by unfold look; rw [k2]
      simp only [lk, k3.bls e1]
      exact q _ H (Ext.refl _ _) (.bl _)
  · cases e
/-- texts -/
def strsD : List D → Option (List Str)
  | [] => some []
  | .str z :: r => (strsD r).map (z :: ·)
  | _ => none
theorem IsL.strs : ∀ {vs : List V} {xs : List D} {zs : List Str}, IsL A H vs xs → strsD xs = some zs → vs = zs.map V.str
  | _, _, _, .nil, e => by simp [strsD] at e; subst e; rfl
  | _, _, _, .cons h t, e => by
    unfold strsD at e
    split at e
    · rename_i z; cases z
    · rename_i b r eq
      cases eq
      cases h
      obtain ⟨cs, e1, e2⟩ := Option.map_eq_some_iff.mp e
      subst e2
      rw [t.strs e1]
      rfl
    · cases e
theorem is_strs : ∀ (zs : List Str), IsL A H (zs.map V.str) (zs.map D.str)
  | [] => .nil
  | z :: zs => .cons (.str z) (is_strs zs)
def sortS (zs : List Str) : List Str := zs.mergeSort fun a b => !ltS b a
theorem leS_trans {a b c : Str} (h1 : ltS b a = false) (h2 : ltS c b = false) : ltS c a = false := by
  unfold ltS at *
  simp only [decide_eq_false_iff_not] at *
  exact List.le_trans h1 h2
theorem rising_pw : ∀ (zs : List Str) (p : Str), risingS p zs = true → (p :: zs).Pairwise fun a b => ltS b a = false
  | [], p, _ => by simp
  | x :: r, p, h => by
    unfold risingS at h
    rw [Bool.and_eq_true] at h
    have ih := rising_pw r x h.2
    have h1 : ltS x p = false := by
      unfold ltS
      rw [← ltCps_eq]
      simpa using h.1
    refine List.pairwise_cons.mpr ⟨fun y hy => ?_, ih⟩
    rcases List.mem_cons.mp hy with rfl | hy
    · exact h1
    · exact leS_trans h1 ((List.pairwise_cons.mp ih).1 y hy)
theorem sorted_pw : ∀ (zs : List Str), sortedS zs = true → zs.Pairwise fun a b => ltS b a = false
  | [], _ => .nil
  | x :: r, h => rising_pw r x h
theorem Str_ext {a b : Str} (h : a.cps.toList = b.cps.toList) : a = b := by
  obtain ⟨x⟩ := a
  obtain ⟨y⟩ := b
  simp only [Str.mk.injEq]
  exact Array.toList_inj.mp h
theorem sortS_uniq {zs ys : List Str} (hp : ys.Perm zs) (hs : sortedS ys = true) : ys = sortS zs := by
  refine List.Perm.eq_of_pairwise (le := fun a b => ltS b a = false) (fun a b _ _ h1 h2 => ?_) (sorted_pw ys hs) ?_ (hp.trans (List.mergeSort_perm zs _).symm)
  · unfold ltS at h1 h2
    simp only [decide_eq_false_iff_not] at h1 h2
    exact Str_ext (List.le_antisymm h1 h2)
  · have := List.pairwise_mergeSort (le := fun a b => !ltS b a) (fun a b c h1 h2 => by
      simp only [Bool.not_eq_true'] at *
      exact leS_trans h1 h2) (fun a b => by
      unfold ltS
      rcases List.le_total a.cps.toList b.cps.toList with h | h
      · have : ¬ b.cps.toList < a.cps.toList := h
        simp [this]
      · have : ¬ a.cps.toList < b.cps.toList := h
        simp [this]) zs
    exact this.imp fun h => by simpa using h
def dSorted1 : D → Option D
  | .lst ds => (match strsD ds with | some zs => (match decide (zs.length < 64) with | true => some (.lst ((sortS zs).map D.str)) | false => none) | none => none)
  | _ => none
def dSorted (xs : List D) : Option D := match xs with | [x] => dSorted1 x | _ => none
theorem c_sorted : CaD (rSortedS K) dSorted := fun A H vs xs d Q hv nw e q => by
  unfold dSorted at e
  split at e
  · cases hv with
    | cons k t =>
      cases t
      unfold dSorted1 at e
      split at e
      · cases k with
        | @lst a ws _ k1 k2 k3 =>
          split at e
          · rename_i zs ez
            split at e
            · rename_i l
              cases e
              have ew := k3.strs ez
              refine ⟨a, zs, rfl, .inl (.inl (by rw [k2, ew])), of_decide_eq_true l, fun ys p hp hs hn => ?_⟩
              have x := Ext.new (o := .lst (ys.map V.str)) hn
              rw [← sortS_uniq hp hs] at q
              exact q _ _ x (.lst (nw p hn) upd_same (is_strs ys))
            · cases e
          · cases e
      · cases e
  · cases e
def tyD : D → Option Value
  | .non => some (.type "NoneType")
  | .bl _ => some (.type "bool")
  | .int _ => some (.type "int")
  | .str _ => some (.type "str")
  | .lst _ => some (.type "list")
  | .tup _ => some (.type "tuple")
  | .dct _ => some (.type "dict")
  | .obj C _ => some (.ref C)
  | _ => none
def clsD : D → Option Value
  | .ty n => some (.type n)
  | .adr C => some (.ref C)
  | _ => none
def clsDs : List D → Option (List Value)
  | [] => some []
  | c :: r => (match clsD c, clsDs r with | some u, some us => some (u :: us) | _, _ => none)
theorem IsL.cls : ∀ {vs : List V} {xs : List D} {us : List Value}, IsL A H vs xs → clsDs xs = some us → clsOfs vs = some us
  | _, _, _, .nil, e => by simp [clsDs] at e; subst e; rfl
  | _, _, _, .cons h t, e => by
    unfold clsDs at e
    split at e
    · rename_i u us e1 e2
      cases e
      unfold clsOfs
      rw [t.cls e2]
      cases h <;> simp [clsD] at e1 <;> subst e1 <;> rfl
    · cases e
noncomputable def isCD (K : PySem.W.Frag) (T : Value) : D → Option Bool
  | .ty m => PySem.W.kitOne K T (.type m)
  | .adr t => (match (K.lookup t).isSome with | true => PySem.W.kitOne K T (.ref t) | false => none)
  | .tup cs => (match clsDs cs with | some us => PySem.W.kitAny K T us | none => none)
  | _ => none
theorem isCD_of {T : Value} {c : V} {d : D} {b : Bool} {Q : VK} (h : Is A H c d) (e : isCD K T d = some b) (q : Q (.bl b) H) : isC K T c H Q := by
  unfold isCD at e
  split at e
  · cases h
    exact ⟨b, e, q⟩
  · cases h with
    | adr t =>
      split at e
      · rename_i k
        unfold isC
        split
        · rename_i t2 ht
          cases ht
          split
          · intro z
            rw [z] at k; cases k
          · exact ⟨b, e, q⟩
        · rename_i ht; cases ht
        · rename_i h1 h2
          exact (h1 _ rfl).elim
      · cases e
  · cases h with
    | @tup a vs _ k1 k2 k3 =>
      split at e
      · rename_i us eu
        unfold isC
        simp only [k2]
        exact fun _ => ⟨us, b, k3.cls eu, e, q⟩
      · cases e
  · cases e
noncomputable def dIsi (K : PySem.W.Frag) (xs : List D) : Option D := match xs with
  | [.obj C _, c] => (match chk (InsTy K C) with | true => (isCD K (.ref C) c).map .bl | false => none)
  | [.exc C _, c] => (match chk (ExcC K C) with | true => (isCD K (.ref C) c).map .bl | false => none)
  | [x, c] => (match tyD x with | some T => (isCD K T c).map .bl | none => none)
  | _ => none
theorem c_isi : CaD (mIk K) (fun xs => match xs with | [.exc _ _, _] => none | _ => dIsi K xs) := fun A H vs xs d Q hv nw e q => by
  have fin : ∀ {v c : V} {x y : D} {n : String}, tyD x = some (.type n) → tyNm H v = some n → Is A H c y → (isCD K (.type n) y).map .bl = some d → ∃ m, tyNm H v = some m ∧ isC K (.type m) c H Q := fun {v c x y n} _ e2 k e3 => by
    obtain ⟨b, e4, e5⟩ := Option.map_eq_some_iff.mp e3
    subst e5
    exact ⟨n, e2, isCD_of k e4 (q _ H (Ext.refl _ _) (.bl _))⟩
  cases hv with
  | nil => simp [dIsi] at e
  | @cons v x vs xs k t =>
    cases t with
    | nil => cases k <;> simp [dIsi] at e
    | @cons c y vs xs k2 t =>
      cases t with
      | cons _ _ => cases k <;> simp [dIsi] at e
      | nil =>
        cases k with
        | non =>
          obtain ⟨m, e1, h⟩ := fin (v := V.non) (x := .non) rfl rfl k2 (by simpa [dIsi, tyD] using e)
          unfold mIk; simp only [e1]; exact h
        | bl b =>
          obtain ⟨m, e1, h⟩ := fin (v := V.bl b) (x := .bl b) rfl rfl k2 (by simpa [dIsi, tyD] using e)
          unfold mIk; simp only [e1]; exact h
        | int b =>
          obtain ⟨m, e1, h⟩ := fin (v := V.int b) (x := .int b) rfl rfl k2 (by simpa [dIsi, tyD] using e)
          unfold mIk; simp only [e1]; exact h
        | str b =>
          obtain ⟨m, e1, h⟩ := fin (v := V.str b) (x := .str b) rfl rfl k2 (by simpa [dIsi, tyD] using e)
          unfold mIk; simp only [e1]; exact h
        | ty n => simp [dIsi, tyD] at e
        | adr a => simp [dIsi, tyD] at e
        | fn _ _ _ => simp [dIsi, tyD] at e
        | exn _ _ => cases e
        | @lst a ws ds k1 k3 k4 =>
          have lk : tyNm H (.ref a) = some "list" := by simp [tyNm, look, k3]
          obtain ⟨m, e1, h⟩ := fin (v := .ref a) (x := .lst ds) rfl lk k2 (by simpa [dIsi, tyD] using e)
          unfold mIk; simp only [k3, e1]; exact h
        | @tup a ws ds k1 k3 k4 =>
          have lk : tyNm H (.ref a) = some "tuple" := by simp [tyNm, look, k3]
          obtain ⟨m, e1, h⟩ := fin (v := .ref a) (x := .tup ds) rfl lk k2 (by simpa [dIsi, tyD] using e)
          unfold mIk; simp only [k3, e1]; exact h
        | @dct a ws ds k1 k3 k4 =>
          have lk : tyNm H (.ref a) = some "dict" := by unfold tyNm; simp only [k3]
          obtain ⟨m, e1, h⟩ := fin (v := .ref a) (x := .dct ds) rfl lk k2 (by simpa [dIsi, tyD] using e)
          rcases look_dK k3 with ⟨o, z⟩ | z
          · unfold mIk; simp only [z, e1]; exact h
          · unfold mIk; simp only [z, e1]; exact h
        | @obj a C dx ws ds k1 k3 k4 =>
          simp only [dIsi] at e
          split at e
          · rename_i ck
            obtain ⟨b, e4, e5⟩ := Option.map_eq_some_iff.mp e
            subst e5
            unfold mIk
            simp only [k3]
            exact ⟨chk_of ck, isCD_of k2 e4 (q _ H (Ext.refl _ _) (.bl _))⟩
          · cases e
        | exc _ _ _ _ _ => simp at e
theorem c_isx : CaD (mIkx K) (fun xs => match xs with | [.exc _ _, _] => dIsi K xs | _ => none) := fun A H vs xs d Q hv nw e q => by
  dsimp only at e
  split at e
  · rename_i C fs c
    cases hv with
    | cons k t =>
      cases t with
      | cons k2 t =>
        cases t
        cases k with
        | @exc a _ dd ws _ k1 k3 k4 k5 k6 =>
          simp only [dIsi] at e
          split at e
          · rename_i ck
            obtain ⟨b, e4, e5⟩ := Option.map_eq_some_iff.mp e
            subst e5
            refine ⟨C, some dd, k3, chk_of ck, fun z hz => ?_, isCD_of k2 e4 (q _ H (Ext.refl _ _) (.bl _))⟩
            cases hz
            exact ⟨ws, k5⟩
          · cases e
        | exn _ k3 =>
          simp only [dIsi] at e
          split at e
          · rename_i ck
            obtain ⟨b, e4, e5⟩ := Option.map_eq_some_iff.mp e
            subst e5
            exact ⟨C, none, k3, chk_of ck, fun z hz => (by cases hz), isCD_of k2 e4 (q _ H (Ext.refl _ _) (.bl _))⟩
          · cases e
  · cases e
theorem IsF.look : ∀ {vs : List (Str × V)} {ds : List (Str × D)} {f : Str} {d : D}, IsF A H vs ds → ds.lookup f = some d → ∃ v, vs.lookup f = some v ∧ Is A H v d
  | _, _, _, _, .nil, e => by simp at e
  | _, _, f, _, .cons (k := k) h t, e => by
    rw [List.lookup_cons] at e ⊢
    cases hb : f == k with
    | true => rw [hb] at e; cases e; exact ⟨_, rfl, h⟩
    | false => rw [hb] at e; exact IsF.look t e
/-- e.f, of an object -/
noncomputable def dFd (K : PySem.W.Frag) (f : Str) : D → Option D
  | .obj C fs => (match chk (Cls K C ∧ NoAttr K C f) with | true => fs.lookup f | false => none)
  | _ => none
noncomputable def dXf (K : PySem.W.Frag) (f : Str) : D → Option D
  | .exc C fs => (match chk (XfC K C ∧ PySem.W.findIn K (.ref C) f = some none) with | true => fs.lookup f | false => none)
  | _ => none
variable {S : Type} {C : Cfg S} {ta : XK → TE} {fa : Rho → M S D}
def x1 (op : D → Option D) (f : Rho → M S D) : Rho → M S D := fun ρ => (f ρ).bind fun x => .of (op x)
theorem e_fld {f : Str} (ha : EvD C ta fa) : EvD C (fun E => tFd K (ta E) f) (x1 (dFd K f) fa) := fun B A ρ σ H s E Q R I W => by
  refine ha B A ρ σ H s E _ R I ((Wish.then W).mono fun x s1 W1 v H1 e1 I1 h1 => ?_)
  obtain ⟨d, e, W2⟩ := of_some W1
  unfold dFd at e
  split at e
  · cases h1 with
    | @obj a c dx vs _ k1 k2 k3 =>
      split at e
      · rename_i ck
        obtain ⟨w, e2, k⟩ := k3.look e
        simp only [k2]
        refine ⟨(chk_of ck).1, (chk_of ck).2, ?_⟩
        rw [e2]
        exact W2 w H1 e1 I1 k
      · cases e
  · cases e
theorem e_xfld {f : Str} (ha : EvD C ta fa) : EvD C (fun E => tXo K f (ta E)) (x1 (dXf K f) fa) := fun B A ρ σ H s E Q R I W => by
  refine ha B A ρ σ H s E _ R I ((Wish.then W).mono fun x s1 W1 v H1 e1 I1 h1 => ?_)
  obtain ⟨d, e, W2⟩ := of_some W1
  unfold dXf at e
  split at e
  · cases h1 with
    | @exc a c dd vs _ k1 k2 k3 k4 k5 =>
      split at e
      · rename_i ck
        obtain ⟨w, e2, k⟩ := k5.look e
        refine ⟨_, dd, vs, k2, k4, (chk_of ck).1, (chk_of ck).2, ?_⟩
        rw [e2]
        exact W2 w H1 e1 I1 k
      · cases e
    | exn _ _ =>
      split at e
      · cases e
      · cases e
  · cases e
variable {tl th : XK → TO} {fl fh : Rho → M S (Option Int)} {tr : XK → TA} {fr : Rho → M S (List D)}
def xNo : Rho → M S (Option Int) := fun _ => .ret none
theorem o_none : EvO C (fun _ => tNoPart) xNo := fun B A ρ σ H s E Q R I W => W H (ExL.refl _ _ _) I
def xPa (f : Rho → M S D) : Rho → M S (Option Int) := fun ρ => (f ρ).bind fun x => (M.of (dIn x)).bind fun i => .ret (some i)
theorem o_part (ha : EvD C ta fa) : EvO C (fun E => tPa (ta E)) (xPa fa) := fun B A ρ σ H s E Q R I W => by
  refine ha B A ρ σ H s E _ R I ((Wish.then W).mono fun x s1 W1 v H1 e1 I1 h1 => ?_)
  obtain ⟨i, e, W2⟩ := of_some (Wish.then W1)
  rw [h1.in_of e]
  exact W2 H1 e1 I1
def xSl (f : Rho → M S D) (g h : Rho → M S (Option Int)) : Rho → M S D := fun ρ => (f ρ).bind fun x => (g ρ).bind fun l => (h ρ).bind fun u => .of (dSl x l u)
theorem e_sl (ha : EvD C ta fa) (hl : EvO C tl fl) (hh : EvO C th fh) : EvD C (fun E => L2.tSl (mSl K) (ta E) (tl E) (th E)) (xSl fa fl fh) := fun B A ρ σ H s E Q R I W => by
  refine ha B A ρ σ H s E _ R I ((Wish.then W).mono fun x s1 W1 v H1 e1 I1 h1 => ?_)
  refine hl B A ρ σ H1 s1 E _ (R.step e1) I1 ((Wish.then (Wish.step W1 e1)).mono fun l s2 W2 H2 e2 I2 => ?_)
  refine hh B A ρ σ H2 s2 E _ ((R.step e1).step e2) I2 ((Wish.then (Wish.step W2 e2)).mono fun u s3 W3 H3 e3 I3 => ?_)
  obtain ⟨d, e, W4⟩ := of_some W3
  have e13 := (e1.trans e2).trans e3
  exact s_sl A H3 v l u x d Q (h1.stp ((e2.trans e3).stp R.ak)) (fun a q => R.nw a (e13.2 a q)) e fun w H4 e4 h4 => W4 w H4 (e13.trans e4.all) (C.st _ _ _ I3 e4) h4
def itemsLT : D → Option (List D)
  | .lst ds => some ds
  | .tup ds => some ds
  | _ => none
def xStar (f : Rho → M S D) (g : Rho → M S (List D)) : Rho → M S (List D) := fun ρ => (f ρ).bind fun x => (M.of (itemsLT x)).bind fun xs => (g ρ).bind fun ys => .ret (xs ++ ys)
theorem a_star (ha : EvD C ta fa) (hr : EvA C tr fr) : EvA C (fun E => StX.tStar K (ta E) (tr E)) (xStar fa fr) := fun B A ρ σ H s E Q R I W => by
  refine ha B A ρ σ H s E _ R I ((Wish.then W).mono fun x s1 W1 v H1 e1 I1 h1 => ?_)
  obtain ⟨xs, e, W2⟩ := of_some (Wish.then W1)
  have key : ∃ p vs, v = V.ref p ∧ (SqT K H1 p vs ∨ SqL K H1 p vs) ∧ IsL A H1 vs xs := by
    unfold itemsLT at e
    split at e
    · cases e
      cases h1 with
      | @lst a vs _ k1 k2 k3 => exact ⟨a, vs, rfl, .inr (.inl (.inl k2)), k3⟩
    · cases e
      cases h1 with
      | @tup a vs _ k1 k2 k3 => exact ⟨a, vs, rfl, .inl (.inl (.inl k2)), k3⟩
    · cases e
  obtain ⟨p, vs, rfl, sq, il⟩ := key
  refine ⟨p, vs, rfl, sq, ?_⟩
  refine hr B A ρ σ H1 s1 E _ (R.step e1) I1 ((Wish.then (Wish.step W2 e1)).mono fun ys s2 W3 ws H2 e2 I2 h2 => ?_)
  exact W3 _ H2 (e1.trans e2) I2 ((il.stp (e2.stp R.ak)).append h2)
abbrev rSplit : V → List V → Hp → VK → Prop := fun x xs H Q => ∃ a b, x = .str a ∧ xs = [.str b] ∧ (b.length == 0) = false ∧ a.length + 2 ≤ sizeLine ∧ rNewStrs (Txt.split a b) H Q
def strD : D → Option Str
  | .str a => some a
  | _ => none
theorem Is.str_of {v : V} {x : D} {a : Str} (h : Is A H v x) (e : strD x = some a) : v = .str a := by
  cases h <;> simp [strD] at e
  subst e; rfl
def splitD (a : Str) : D → Option (List D)
  | .str b => (match !(b.length == 0) && lim a.length with | true => some ((Txt.split a b).map D.str) | false => none)
  | _ => none
def xSplit (f g : Rho → M S D) : Rho → M S (List D) := fun ρ => (f ρ).bind fun x => (M.of (strD x)).bind fun a => (g ρ).bind fun y => .of (splitD a y)
variable {tb : XK → TE} {fb : Rho → M S D}
theorem n_split (ha : EvD C ta fa) (hb : EvD C tb fb) : EvN C (fun E => tM1 rSplit (ta E) (tb E)) (xSplit fa fb) := fun B A ρ σ H s E Q R I W => by
  refine ha B A ρ σ H s E _ R I ((Wish.then W).mono fun x s1 W1 v H1 e1 I1 h1 => ?_)
  obtain ⟨a, ea, W1⟩ := of_some (Wish.then W1)
  rw [h1.str_of ea]
  refine ⟨⟨a, rfl⟩, ?_⟩
  refine hb B A ρ σ H1 s1 E _ (R.step e1) I1 ((Wish.then (Wish.step W1 e1)).mono fun y s2 W2 w H2 e2 I2 h2 => ?_)
  obtain ⟨zs, e, W3⟩ := of_some W2
  unfold splitD at e
  split at e
  · cases h2
    split at e
    · rename_i l
      rw [Bool.and_eq_true] at l
      cases e
      refine ⟨_, _, rfl, rfl, by simpa using l.1, ?_, fun p hp => ?_⟩
      · have := of_decide_eq_true l.2
        exact Nat.le_trans (Nat.add_le_add_right this 2) (by decide)
      · exact W3 p H2 _ hp (e1.trans e2) (C.st _ _ _ I2 (Ext.new hp)) (is_strs _)
    · cases e
  · cases e
abbrev rJoin (K : PySem.W.Frag) : V → List V → Hp → VK → Prop := fun x xs H Q => ∃ a p, ∃ ys : List Str, x = .str a ∧ xs = [.ref p] ∧ (SqL K H p (ys.map V.str) ∨ SqT K H p (ys.map V.str)) ∧
    (ys.map (·.length)).sum + ys.length * a.length ≤ 16777216 ∧ Q (.str (Txt.join a ys)) H
def joinD (a : Str) (y : D) : Option D := (itemsLT y).bind fun ds => (strsD ds).bind fun ys => match decide ((ys.map (·.length)).sum + ys.length * a.length ≤ 16777216) with
  | true => some (.str (Txt.join a ys))
  | false => none
def xM1 (op : Str → D → Option D) (f g : Rho → M S D) : Rho → M S D := fun ρ => (f ρ).bind fun x => (M.of (strD x)).bind fun a => (g ρ).bind fun y => .of (op a y)
theorem e_join (ha : EvD C ta fa) (hb : EvD C tb fb) : EvD C (fun E => tM1 (rJoin K) (ta E) (tb E)) (xM1 joinD fa fb) := fun B A ρ σ H s E Q R I W => by
  refine ha B A ρ σ H s E _ R I ((Wish.then W).mono fun x s1 W1 v H1 e1 I1 h1 => ?_)
  obtain ⟨a, ea, W1⟩ := of_some (Wish.then W1)
  rw [h1.str_of ea]
  refine ⟨⟨a, rfl⟩, ?_⟩
  refine hb B A ρ σ H1 s1 E _ (R.step e1) I1 ((Wish.then (Wish.step W1 e1)).mono fun y s2 W2 w H2 e2 I2 h2 => ?_)
  obtain ⟨d, e, W3⟩ := of_some W2
  obtain ⟨ds, e3, e⟩ := Option.bind_eq_some_iff.mp e
  obtain ⟨ys, e4, e⟩ := Option.bind_eq_some_iff.mp e
  split at e
  · rename_i l
    cases e
    have key : ∃ p, w = .ref p ∧ (SqL K H2 p (ys.map V.str) ∨ SqT K H2 p (ys.map V.str)) := by
      unfold itemsLT at e3
      split at e3
      · cases e3
        cases h2 with
        | @lst p vs _ k1 k2 k3 => exact ⟨p, rfl, .inl (.inl (.inl (by rw [k2, k3.strs e4])))⟩
      · cases e3
        cases h2 with
        | @tup p vs _ k1 k2 k3 => exact ⟨p, rfl, .inr (.inl (.inl (by rw [k2, k3.strs e4])))⟩
      · cases e3
    obtain ⟨p, rfl, sq⟩ := key
    exact ⟨a, p, ys, rfl, rfl, sq, of_decide_eq_true l, W3 _ H2 (e1.trans e2) I2 (.str _)⟩
  · cases e
def fmtD : D → Option Str
  | .str y => (match lim y.length with | true => some y | false => none)
  | .int i => (match decide (i.natAbs.log2 < 1920) with | true => some (toString i) | false => none)
  | _ => none
def xFmt (f : Rho → M S D) : Rho → M S D := fun ρ => (f ρ).bind fun x => (M.of (fmtD x)).bind fun z => .ret (.str z)
theorem e_fmt (ha : EvD C ta fa) : EvD C (fun E => tFmt (ta E)) (xFmt fa) := fun B A ρ σ H s E Q R I W => by
  refine ha B A ρ σ H s E _ R I ((Wish.then W).mono fun x s1 W1 v H1 e1 I1 h1 => ?_)
  obtain ⟨z, e, W2⟩ := of_some (Wish.then W1)
  unfold fmtD at e
  split at e
  · cases h1
    split at e
    · rename_i l
      cases e
      exact .inl ⟨_, rfl, lim_ok l, W2 _ H1 e1 I1 (.str _)⟩
    · cases e
  · cases h1
    split at e
    · rename_i l
      cases e
      exact .inr ⟨_, rfl, of_decide_eq_true l, W2 _ H1 e1 I1 (.str _)⟩
    · cases e
  · cases e
/-- the parts of an f-string, one behind the other -/
inductive EvJ (C : Cfg S) : List (XK → TE) → List (Rho → M S D) → Prop
  | nil : EvJ C [] []
  | cons {t : XK → TE} {f : Rho → M S D} {ts : List (XK → TE)} {fs : List (Rho → M S D)} (h : EvD C t f) (r : EvJ C ts fs) : EvJ C (t :: ts) (f :: fs)
def limU (n : Nat) : Option Unit := match lim n with
  | true => some ()
  | false => none
theorem limU_of {n : Nat} {u : Unit} (h : limU n = some u) : lim n = true := by
  unfold limU at h
  split at h
  · assumption
  · cases h
def joinR : List (Rho → M S D) → Str → Rho → M S D
  | [], acc, _ => .ret (.str acc)
  | f :: fs, acc, ρ => (f ρ).bind fun x => (M.of (strD x)).bind fun y => (M.of (limU (acc ++ y).length)).bind fun _ => joinR fs (acc ++ y) ρ
theorem j_run {ts : List (XK → TE)} {fs : List (Rho → M S D)} (h : EvJ C ts fs) : ∀ (acc : Str), EvD C (fun E σ H Q => tJs (ts.map fun t => t E) acc σ H fun out H1 => Q (.str out) H1) (joinR fs acc) := by
  induction h with
  | nil => exact fun acc B A ρ σ H s E Q R I W => W _ H (ExL.refl _ _ _) I (.str _)
  | @cons t f ts fs ht _ ih =>
    intro acc B A ρ σ H s E Q R I W
    show t E σ H _
    refine ht B A ρ σ H s E _ R I ((Wish.then W).mono fun x s1 W1 v H1 e1 I1 h1 => ?_)
    obtain ⟨y, e, W2⟩ := of_some (Wish.then W1)
    rw [h1.str_of e]
    obtain ⟨_, el, W2⟩ := of_some (Wish.then W2)
    · refine ⟨y, rfl, lim_ok (limU_of el), ?_⟩
      exact ih (acc ++ y) B A ρ σ H1 s1 E Q (R.step e1) I1 ((Wish.step W2 e1).mono fun d s2 W3 w H2 e2 I2 h2 => W3 w H2 (e1.trans e2) I2 h2)
end
end Fs

namespace Fs
open PySem PySem.Spec PyProof.Rows L2
variable {S : Type} {C : Cfg S}
def ownI : Option Sl → Option (Addr × List (Str × D))
  | some (.own (.ins c fs)) => some (c, fs)
  | _ => none
theorem ownI_of {x : Option Sl} {y : Addr × List (Str × D)} (h : ownI x = some y) : x = some (.own (.ins y.1 y.2)) := by
  unfold ownI at h
  split at h
  · cases h; rfl
  · cases h
def putFD (f : Str) (v : D) : List (Str × D) → List (Str × D)
  | [] => [(f, v)]
  | (g, x) :: r => if g = f then (g, v) :: r else (g, x) :: putFD f v r
theorem IsF.put {A : Addr → Prop} {H : Hp} {f : Str} {v : V} {d : D} (h : Is A H v d) : ∀ {vs : List (Str × V)} {ds : List (Str × D)}, IsF A H vs ds → IsF A H (putF f v vs) (putFD f d ds)
  | _, _, .nil => .cons h .nil
  | _, _, .cons (k := k) g t => by
    unfold putF putFD
    by_cases e : k = f
    · rw [if_pos e, if_pos e]; exact .cons h t
    · rw [if_neg e, if_neg e]; exact .cons g (IsF.put h t)
theorem IsF.length {A : Addr → Prop} {H : Hp} : ∀ {vs : List (Str × V)} {ds : List (Str × D)}, IsF A H vs ds → vs.length = ds.length
  | _, _, .nil => rfl
  | _, _, .cons _ t => congrArg (· + 1) (IsF.length t)
noncomputable def putO (K : PySem.W.Frag) (f : Str) (d : D) : Addr × List (Str × D) → Option OD := fun y => match chk (Cls K y.1 ∧ NoAttr K y.1 f) && decide (y.2.length < 900) with
  | true => some (.ins y.1 (putFD f d y.2))
  | false => none
noncomputable def ySetF (K : PySem.W.Frag) (i : Nat) (f : Str) (fe : Rho → M S D) : Rho → M S Out := fun ρ => (fe ρ).bind fun d => (M.of ((ownI ρ[i]?).bind (putO K f d))).bind fun o => .ret (.nx (ρ.set i (.own o)))
theorem d_setF {K : PySem.W.Frag} {te : XK → TE} {fe : Rho → M S D} {i : Nat} {f : Str} (h : EvD C te fe) : StD C (fun E => sFld K (tV i) (te E) f) (ySetF K i f fe) := fun B A ρ σ H s E De R I W => by
  refine h B A ρ σ H s E _ R I (R.fr <| (Wish.then W).mono fun d s1 W1 v H1 e1 I1 h1 => ?_)
  obtain ⟨o, eo, W2⟩ := of_some (Wish.then W1)
  obtain ⟨y, ey, eo⟩ := Option.bind_eq_some_iff.mp eo
  have hi := ownI_of ey
  have R1 := R.step e1
  obtain ⟨p, hp, hA, hok, hme, dx, vs, k1, k2⟩ := R1.writeI hi
  unfold tV
  rw [hp]
  unfold putO at eo
  split at eo
  · rename_i ck
    rw [Bool.and_eq_true] at ck
    cases eo
    have cc := chk_of ck.1
    refine ⟨p, y.1, dx, vs, rfl, k1, cc.1, cc.2, by rw [k2.length]; exact Nat.lt_trans (of_decide_eq_true ck.2) (by decide), ?_⟩
    have st : Stp A H1 A (upd H1 p (.ins y.1 dx (putF f v vs))) := Stp.put (fun _ _ _ h => h) fun o e q => q.elim hA fun z => by rw [k1] at e; cases e; exact z
    exact W2 A σ _ (R1.write hi hp ⟨hme, dx, _, upd_same, (IsF.put h1 k2).stp st⟩) ((e1.stp R.ak).trans st) (C.st2 _ _ _ _ hok (by rw [k1]; rfl) I1)
  · cases eo
def initOut (cl : Addr) : Out → Option D
  | .nx ρ => (match ownI ρ[0]? with | some (c, fs) => some (.obj c fs) | none => none)
  | _ => none
def runI (cl : Addr) (n m : Nat) (f : Rho → M S Out) : List D → M S D := fun ds => match decide (ds.length = m) with
  | true => (f (.own (.ins cl []) :: startR n ds)).bind fun o => .of (initOut cl o)
  | false => fun _ => .bad
variable {tr : XK → TA} {fr : Rho → M S (List D)}
theorem e_make {N : List Str} {n m : Nat} {rd : XK → TS} {f : Rho → M S Out} {cl : Addr} (hn : N.length = n + 1) (hm : m ≤ n) (hb : StD C rd f) (hr : EvA C tr fr) : EvD C (fun E => StX.tMakeR cl (spR N (m + 1) rd) E (tr E)) (xF (runI cl n m f) fr) := fun B A ρ σ H s E Q R I W => by
  refine hr B A ρ σ H s E _ R I ((Wish.then W).mono fun ds s1 W1 vs H1 e1 I1 h1 x dx hx hdx hne => ?_)
  unfold runI at W1
  have R1 := R.step e1
  cases e : decide (ds.length = m) with
  | false => rw [e] at W1; exact W1.elim
  | true =>
    rw [e] at W1
    have hl : ds.length = m := of_decide_eq_true e
    have hlv : vs.length = m := by rw [h1.length]; exact hl
    refine ⟨by simp [hlv], ?_⟩
    have hxn : (upd H1 dx (.own x)) x = none := by rw [upd_ne (Ne.symm hne)]; exact hx
    have ex1 : Ext All H1 (upd H1 dx (.own x)) := Ext.new hdx
    have ex2 : Ext All (upd H1 dx (.own x)) (upd (upd H1 dx (.own x)) x (.ins cl dx [])) := Ext.new hxn
    have ex := ex1.trans ex2
    have st : Stp A H1 (fun a => A a ∧ a ≠ x) (upd (upd H1 dx (.own x)) x (.ins cl dx [])) := fun a o q z => ⟨fun q => ⟨q, ne_of_none z hx⟩, .inl (ex.1 a o (.inl trivial) z)⟩
    refine hb ⟨H1, A, some x⟩ (fun a => A a ∧ a ≠ x) (.own (.ins cl []) :: startR n ds) (L2.start N (V.ref x :: vs)) _ s1 E { nx := fun _ H' => V.non = .non ∧ Q (.ref x) H', rt := fun v H2 => v = .non ∧ Q (.ref x) H2 } ?_ (C.st _ _ _ I1 ex) ?_
    · refine ⟨?_, ex.all, fun a q => ⟨R1.nw a (ex.2 a q), fun z => by rw [z, upd_same] at q; cases q⟩, R1.nw, fun a q => q.1, R1.ao, fun i sl e => ?_, fun i j oi oj a e1 e2 _ _ => ?_⟩
      · simp only [startR, L2.start, List.length_cons, List.length_append, List.length_map, List.length_replicate]
        omega
      · cases i with
        | zero =>
          cases e
          exact ⟨x, rfl, fun z => z.2 rfl, R.ak x (R1.nw x hx), R1.nw x hx, hx, rfl, dx, [], upd_same, .nil⟩
        | succ i =>
          rw [List.getElem?_cons_succ] at e
          unfold startR at e
          unfold L2.start
          rw [List.map_cons, List.cons_append, List.getElem?_cons_succ]
          by_cases hi : i < ds.length
          · rw [List.getElem?_append_left (by simpa using hi), List.getElem?_map] at e
            rw [List.getElem?_append_left (by rw [List.length_map, h1.length]; exact hi), List.getElem?_map]
            rcases h1.get i with ⟨_, z⟩ | ⟨v, d, z1, z2, z3⟩
            · rw [z] at e; cases e
            · rw [z2] at e
              cases e
              rw [z1]
              exact ⟨v, rfl, z3.stp st⟩
          · rw [List.getElem?_append_right (by simpa using hi), List.getElem?_replicate] at e
            split at e
            · cases e; trivial
            · cases e
      · have own0 : ∀ {i : Nat} {o : OD}, (Sl.own (.ins cl []) :: startR n ds)[i]? = some (.own o) → i = 0 := fun {i o} e => by
          cases i with
          | zero => rfl
          | succ i =>
            rw [List.getElem?_cons_succ] at e
            unfold startR at e
            by_cases hi : i < ds.length
            · rw [List.getElem?_append_left (by simpa using hi), List.getElem?_map] at e
              obtain ⟨d, _, z⟩ := Option.map_eq_some_iff.mp e
              cases z
            · rw [List.getElem?_append_right (by simpa using hi), List.getElem?_replicate] at e
              split at e <;> cases e
        rw [own0 e1, own0 e2]
    · cases q : f (.own (.ins cl []) :: startR n ds) s1 with
      | bad =>
        have W2 := Wish.then (show Wish C ⟨H, A, none⟩ E ((f (.own (.ins cl []) :: startR n ds) s1).then fun o => M.of (initOut cl o)) _ from W1)
        rw [q] at W2
        exact W2.elim
      | ex c fs s2 =>
        have W2 := Wish.then (show Wish C ⟨H, A, none⟩ E ((f (.own (.ins cl []) :: startR n ds) s1).then fun o => M.of (initOut cl o)) _ from W1)
        rw [q] at W2
        intro od H2 e2 I2 h2
        exact W2 od H2 (e1.trans e2) I2 h2
      | ok o s2 =>
        have W2 := Wish.then (show Wish C ⟨H, A, none⟩ E ((f (.own (.ins cl []) :: startR n ds) s1).then fun o => M.of (initOut cl o)) _ from W1)
        rw [q] at W2
        obtain ⟨d, ed, W3⟩ := of_some (show Wish C ⟨H, A, none⟩ E (M.of (initOut cl o) s2) _ from W2)
        unfold initOut at ed
        cases o with
        | nx ρ1 =>
          simp only at ed
          split at ed
          · rename_i c fs eo
            cases ed
            intro A2 σ2 H2 R2 st2 I2
            have hi := ownI_of eo
            obtain ⟨a, k1, k2, k3, k4, k5, k6, dx2, ws, k7, k8⟩ := R2.slot 0 _ hi
            cases k6
            exact ⟨rfl, W3 _ H2 (e1.trans (R2.ext)) I2 (.obj k4 k7 (k8.stp (.same R2.sub)))⟩
          · cases ed
        | rt _ => cases ed
        | bk _ => cases ed
        | ct _ => cases ed
section
variable {X : Cx}
def rNeDE : R2 := fun x y H Q => ∃ a b ks, x = .ref a ∧ y = .ref b ∧ Rd H a (.dK ks) ∧ Rd H b (.dK []) ∧ Q (.bl (!ks.isEmpty)) H
theorem op_neDE (hu : X.A.units < cLine) : OpR X (compareOp .NotEq) rNeDE := by
  intro pins s σ H x y v u Q I rx ry h
  obtain ⟨a, b, ks, rfl, rfl, ea, eb, q⟩ := h
  obtain rfl : v = Value.ref a := rx
  obtain rfl : u = Value.ref b := ry
  obtain ⟨_, ya, va, ra, da⟩ := (show ObjOk X.prog X.w H s.heap a (.dK ks) from ea.ok I.hok)
  obtain ⟨_, yb, vb, rb, db⟩ := (show ObjOk X.prog X.w H s.heap b (.dK []) from eb.ok I.hok)
  have hlb : vb = [] := by cases rb; rfl
  subst hlb
  cases ks with
  | nil =>
    have hla : va = [] := by cases ra; rfl
    subst hla
    exact PySem.W.keq_ne (knd := mixKind X.prog X.w) (r := true) ya yb da db hu (fun _ => hits_all rb ra (fun p hp => absurd hp (by simp))) (fin_bl I q (by simp))
  | cons k ks =>
    have hla : va.length ≠ ([] : List (Key × Value)).length := by
      have := ra.length
      rw [← this]; simp
    exact PySem.W.keq_ne (knd := mixKind X.prog X.w) (r := true) ya yb da db hu (fun z => absurd z hla) (fin_bl I q (by
      have z : va ≠ [] := fun z => hla (by rw [z])
      simp [z]))
/-- !=, dicts and {} told too -/
def mNeA (K : PySem.W.Frag) : R2 := fun x y H Q => match x, y with
  | .ref a, .ref b => (match look H a, look H b with
    | some (.dK ks), some (.dK []) => Q (.bl (!ks.isEmpty)) H
    | _, _ => mNe K x y H Q)
  | _, _ => mNe K x y H Q
theorem op_mNeA (hu : X.A.units + 64 < cLine) : OpR X (compareOp .NotEq) (mNeA X.K) := op_imp (opr_or (op_mNe hu) (op_neDE (by omega))) fun x y H Q h => by
  unfold mNeA at h
  split at h
  · split at h
    · rename_i ks e1 e2
      exact .inr ⟨_, _, ks, rfl, rfl, look_rd e1, look_rd e2, h⟩
    · exact .inl h
  · exact .inl h
end
def neA (x y : D) : Option D := match x, y with
  | .dct ks, .dct [] => some (.bl (!ks.isEmpty))
  | _, _ => dNe x y
theorem look_lst {H : Hp} {a : Addr} {vs : List V} (h : H a = some (.lst vs)) : look H a = some (.lst vs) := by unfold look; rw [h]
theorem look_tup {H : Hp} {a : Addr} {vs : List V} (h : H a = some (.tup vs)) : look H a = some (.tup vs) := by unfold look; rw [h]
theorem look_ins {H : Hp} {a c dx : Addr} {vs : List (Str × V)} (h : H a = some (.ins c dx vs)) : look H a = some (.ins c dx vs) := by unfold look; rw [h]
theorem o_neA {K : PySem.W.Frag} : OpD (mNeA K) neA := fun A H v w x y d Q h1 h2 nw e q => by
  unfold neA at e
  split at e
  · cases h1 with
    | @dct a vs _ k1 k2 k3 =>
      cases h2 with
      | @dct b ws _ m1 m2 m3 =>
        cases m3
        cases e
        unfold mNeA
        simp only [k2, m2]
        have z := q _ H (Ext.refl _ _) (.bl _)
        have l := k3.length
        cases vs <;> cases k3 <;> exact z
  · rename_i n
    have old := o_ne (K := K) A H v w x y d Q h1 h2 nw e q
    unfold mNeA
    split
    · rename_i a b
      split
      · rename_i ks e1 e2
        exfalso
        cases h1 with
        | lst k1 k2 k3 => rw [look_lst k2] at e1; cases e1
        | tup k1 k2 k3 => rw [look_tup k2] at e1; cases e1
        | obj k1 k2 k3 => rw [look_ins k2] at e1; cases e1
        | exc k1 k2 k3 k4 k5 => unfold look EXO at *; rw [k2] at e1; cases e1
        | fn k1 k2 k3 => unfold look LmO at *; rw [k2] at e1; cases e1
        | exn k1 k2 => unfold look EXO at *; rw [k2] at e1; cases e1
        | adr =>
          have z : dNe (.adr a) y = some d := e
          unfold dNe eqD at z
          simp [dv, pyEq, toPy] at z
        | @dct _ vs ds k1 k2 k3 =>
          cases h2 with
          | lst k1 k2 k3 => rw [look_lst k2] at e2; cases e2
          | tup k1 k2 k3 => rw [look_tup k2] at e2; cases e2
          | obj k1 k2 k3 => rw [look_ins k2] at e2; cases e2
          | exc k1 k2 k3 k4 k5 => unfold look EXO at *; rw [k2] at e2; cases e2
          | fn k1 k2 k3 => unfold look LmO at *; rw [k2] at e2; cases e2
          | exn k1 k2 => unfold look EXO at *; rw [k2] at e2; cases e2
          | adr =>
            unfold dNe eqD at e
            simp [dv, pyEq, toPy] at e
          | @dct _ ws es m1 m2 m3 =>
            rw [m2] at e2
            cases e2
            cases m3
            exact n _ rfl rfl
      · exact old
    · exact old
end Fs

namespace Fs
open PySem PySem.Spec PyProof.Rows L2
open LamX (CodeO Tabs)
variable {S : Type} {C : Cfg S}
theorem e_dnew : EvD C (fun _ => tDNewK) (xC (.dct [])) := fun B A ρ σ H s E Q R I W p hp => by
  have x : Ext All H (upd H p (.dK [])) := Ext.new hp
  exact W _ _ x.all (C.st _ _ _ I x) (.dct (R.nw p hp) (by unfold look; rw [upd_same]) .nil)
theorem n_lkO {te : XK → TE} {f : Rho → M S (List D)} (h : EvN C te f) : EvN C (fun E => tLkO (te E)) f := fun B A ρ σ H s E Q R I W => .inl (h B A ρ σ H s E Q R I W)
/-- try: found = ask() / except X as error: caught = error -/
def sTry (K : PySem.W.Frag) (c : Value) (iC iF iE : Nat) (f cl : Addr) (q : Str) (tl : XK → Hp → VK → Prop) : TS := fun De σ H =>
  tAsg (tAct f cl q tl (wKp K c iE (fun _ _ _ => tAsg (tV iE) (gName iC)) (fun _ _ _ _ => False) De)) (gName iF) De σ H
/-- caught, found = None, None: the tuple is a constant, so it is made and taken apart -/
def nonTwo (iC iF : Nat) : TS := tAsg (tTup (tCons (tC .non) (tCons (tC .non) tNil))) (gTp (gNum 2 (gCs (gName iC) (gCs (gName iF) gNl))))
def rdHear (K : PySem.W.Frag) (c : Value) (iC iF iE : Nat) (rest : TS) (f cl : Addr) (q : Str) (tl : XK → Hp → VK → Prop) : TS :=
  tSeq (nonTwo iC iF) (tSeq (sTry K c iC iF iE f cl q tl) rest)
def outD : Out → Option D
  | .rt d => some d
  | .nx _ => some .non
  | _ => none
def rho0 (n iC iF : Nat) : Rho := ((List.replicate n Sl.no).set iC (.val .non)).set iF (.val .non)
noncomputable def caughtD (K : PySem.W.Frag) (c : Value) (cl : Addr) (fs : List (Str × D)) : Option D := match chk (PySem.W.exmOne K (.ref cl) c = some true) && !fs.isEmpty with
  | true => some (.exc cl fs)
  | false => none
noncomputable def xHear (K : PySem.W.Frag) (c : Value) (n iC iF iE : Nat) (mt : Rho → M S D) (frest : Rho → M S Out) : Rho → M S D := fun ρ s => match mt ρ s with
  | .ok d s1 => ((frest ((rho0 n iC iF).set iF (.val d))).bind fun o => .of (outD o)) s1
  | .ex cl fs s1 => ((M.of (caughtD K c cl fs)).bind fun d => (frest (((rho0 n iC iF).set iE .no).set iC (.val d))).bind fun o => .of (outD o)) s1
  | .bad => .bad
/-- a frame that has just these values -/
theorem rel_fresh {P : Pl} {A : Addr → Prop} {H : Hp} {n : Nat} {σ : L2.St} (hl : σ.length = n) (nw : ∀ a, H a = none → A a) (ao : ∀ a, A a → P.ok a) : Rel P ⟨H, A, none⟩ A (List.replicate n Sl.no) σ H where
  len := by simp [hl]
  ext := ExL.refl _ _ _
  nw := nw
  n0 := nw
  sub := fun _ h => h
  kp := ao
  slot := fun i sl e => by
    rw [List.getElem?_replicate] at e
    split at e
    · cases e; trivial
    · cases e
  apart := fun i j oi oj a e1 _ _ _ => by
    rw [List.getElem?_replicate] at e1
    split at e1 <;> cases e1
theorem rest_run {B : Bs} {A : Addr → Prop} {ρ : Rho} {σ : L2.St} {H : Hp} {s : S} {E : XK} {Q : VK} {rest : TS} {frest : Rho → M S Out} (h : StD C (fun _ => rest) frest) (R : Rel C.toPl B A ρ σ H) (I : C.I s H)
    (W : Wish C B E (((frest ρ).bind fun o => M.of (outD o)) s) (fun d s1 => ∀ A1 v H1, Is A1 H1 v d → (∀ a, A1 a → B.A0 a) → ExL C.keep B.A0 B.H0 H1 → C.I s1 H1 → Q v H1)) : rest { nx := fun _ H2 => Q .non H2, rt := Q } σ H := by
  refine h B A ρ σ H s E _ R I ((Wish.then W).mono fun o s1 W1 => ?_)
  obtain ⟨d, e, W2⟩ := of_some W1
  cases o with
  | nx ρ1 => cases e; exact fun A1 σ1 H1 R1 _ I1 => W2 A1 .non H1 .non R1.sub R1.ext I1
  | rt d1 => cases e; exact fun A1 v H1 h1 sb ex I1 => W2 A1 v H1 h1 sb ex I1
  | bk _ => cases e
  | ct _ => cases e
theorem e_hear {K : PySem.W.Frag} {c : Value} {iC iF iE n : Nat} {T : List (Addr × Str)} {q : Str} {Ng : List Str} {rest : TS} {frest : Rho → M S Out} {t : XK → TE} {mt : Rho → M S D} (hT : ∀ s H, C.I s H → Tabs T H) (hL : ∀ s H H1 cl, C.I s H → LamTo T q H H1 cl → C.I s H1 ∧ Ext C.keep H H1)
    (hn : Ng.length = n) (h1 : iC ≠ 0) (h2 : iF ≠ 0) (h3 : iE < n) (h4 : iC < n) (h5 : iE ≠ iC) (hn0 : 0 < n) (ht : EvD C t mt) (hrest : StD C (fun _ => rest) frest) :
    EvD C (fun _ => tHear T q Ng (rdHear K c iC iF iE rest) t) (xHear K c n iC iF iE mt frest) := fun B A ρ σ H s E Q R I W => by
  refine ⟨hT s H I, fun f cl H1 lt => ?_⟩
  obtain ⟨I1, e1⟩ := hL s H H1 cl I lt
  have e1 : ExL C.keep A H H1 := e1.lk
  have R1 := R.step e1
  -- the slots of the def that hears
  obtain ⟨σ0, hσ0⟩ : ∃ σ0, σ0 = L2.start Ng [V.ref f] := ⟨_, rfl⟩
  have l0 : σ0.length = n := by
    rw [hσ0]
    simp only [L2.start, List.length_append, List.length_map, List.length_replicate, List.length_cons, List.length_nil]
    omega
  have z0 : σ0[0]? = some (some (.ref f)) := by rw [hσ0]; rfl
  show nonTwo iC iF _ (L2.start Ng [V.ref f]) H1
  rw [← hσ0]
  obtain ⟨σ1, hσ1⟩ : ∃ σ1, σ1 = (σ0.set iC (some V.non)).set iF (some V.non) := ⟨_, rfl⟩
  refine ⟨by show 2 ≤ sizeLine; decide, fun p0 hp0 => ?_⟩
  have x0 : Ext All H1 (upd H1 p0 (.tup [.non, .non])) := Ext.new hp0
  have lt1 : upd H1 p0 (.tup [.non, .non]) cl = some (CodeO cl q) := by rw [upd_ne (ne_of_none lt.1 hp0)]; exact lt.1
  have R1 := R1.step (x0.all (P := C.keep))
  have I1 := C.st _ _ _ I1 x0
  have e1 := e1.trans (x0.all (P := C.keep))
  have hlook : look (upd H1 p0 (.tup [.non, .non])) p0 = some (.tup [.non, .non]) := look_upd (by intro w u z; cases z)
  generalize upd H1 p0 (.tup [.non, .non]) = H1b at *
  show gTp _ (.ref p0) σ0 H1b _
  unfold gTp
  simp only [hlook]
  show tSeq (sTry K c iC iF iE f cl q (fun E H2 Q2 => t E σ H2 Q2)) rest { nx := fun _ H2 => Q .non H2, rt := Q } ((σ0.set iC (some V.non)).set iF (some V.non)) H1b
  rw [← hσ1]
  have z1 : σ1[0]? = some (some (.ref f)) := by rw [hσ1, List.getElem?_set_ne h2, List.getElem?_set_ne h1]; exact z0
  have l1 : σ1.length = n := by rw [hσ1]; simpa using l0
  refine ⟨z1, lt1, ?_⟩
  have base : ∀ {H2 : Hp} {A2 : Addr → Prop}, (∀ a, H2 a = none → A2 a) → (∀ a, A2 a → C.ok a) → Rel C.toPl ⟨H2, A2, none⟩ A2 (rho0 n iC iF) σ1 H2 := fun {H2 A2} nw ao => by
    rw [hσ1]
    exact ((rel_fresh l0 nw ao).setVal .non).setVal .non
  -- the wish of the lambda's run
  have key : Wish C ⟨H, A, none⟩ (WE (wKp K c iE (fun _ _ _ => tAsg (tV iE) (gName iC)) (fun _ _ _ _ => False) { nx := rest { nx := fun _ H2 => Q .non H2, rt := Q }, rt := Q }) σ1) (mt ρ s) (fun d s1 => ∀ v H2, ExL C.keep A H H2 → C.I s1 H2 → Is A H2 v d → rest { nx := fun _ H2 => Q .non H2, rt := Q } (σ1.set iF (some v)) H2) := by
    unfold xHear at W
    cases e : mt ρ s with
    | bad => rw [e] at W; exact W.elim
    | ok d s1 =>
      rw [e] at W
      intro v H2 e2 I2 k2
      have W := show Wish C ⟨H, A, none⟩ E (((frest ((rho0 n iC iF).set iF (.val d))).bind fun o => M.of (outD o)) s1) (fun d s' => ∀ v H', ExL C.keep A H H' → C.I s' H' → Is A H' v d → Q v H') from W
      refine rest_run hrest ((base (fun a z => R.nw a (e2.2 a z)) R.ao).setVal k2) I2 ((Wish.step W e2).mono fun d3 s3 W3 A1 v3 H3 a1 a2 a3 a4 => ?_)
      exact W3 v3 H3 (e2.trans a3) a4 (a1.stp (.same a2))
    | ex cc fs s1 =>
      rw [e] at W
      intro od H2 e2 I2 k2
      have W := Wish.then (show Wish C ⟨H, A, none⟩ E (((M.of (caughtD K c cc fs)).bind fun d => (frest (((rho0 n iC iF).set iE .no).set iC (.val d))).bind fun o => M.of (outD o)) s1) (fun d s' => ∀ v H', ExL C.keep A H H' → C.I s' H' → Is A H' v d → Q v H') from W)
      obtain ⟨d, ed, W⟩ := of_some W
      unfold caughtD at ed
      split at ed
      · rename_i ck
        rw [Bool.and_eq_true] at ck
        cases ed
        have em := chk_of ck.1
        show wKp K c iE _ _ _ (.ref cc) od σ1 H2
        unfold wKp
        rw [em]
        intro a ha
        have za : (σ1.set iE (some (.ref a)))[iE]? = some (some (.ref a)) := List.getElem?_set_self (by rw [l1]; exact h3)
        show tAsg (tV iE) (gName iC) _ (σ1.set iE (some (.ref a))) H2
        unfold tAsg tV gName
        rw [za]
        have x : Ext All H2 (upd H2 a (EXO (.ref cc) od a)) := Ext.new ha
        have e3 := e2.trans (x.all (P := C.keep))
        have nw3 : ∀ b, (upd H2 a (EXO (.ref cc) od a)) b = none → A b := fun b z => R.nw b (e3.2 b z)
        have Aa : A a := R.nw a (e2.2 a ha)
        have hexc : Is A (upd H2 a (EXO (.ref cc) od a)) (.ref a) (.exc cc fs) := by
          cases od with
          | none =>
            have z : fs = [] := k2
            rw [z] at ck
            exact absurd ck.2 (by simp)
          | some d =>
            obtain ⟨a1, ws, a2, a3⟩ := k2
            exact .exc Aa upd_same a1 (by rw [upd_ne (ne_of_none a2 ha)]; exact a2) (a3.stp (.neu ha fun _ _ _ h => h))
        have eσ : ((σ1.set iE (some (V.ref a))).set iC (some (V.ref a))).set iE none = (σ1.set iE none).set iC (some (V.ref a)) := by
          rw [List.set_comm _ _ (Ne.symm h5), List.set_set]
        have R3 : Rel C.toPl ⟨upd H2 a (EXO (.ref cc) od a), A, none⟩ A (((rho0 n iC iF).set iE .no).set iC (.val (.exc cc fs))) (((σ1.set iE (some (V.ref a))).set iC (some (V.ref a))).set iE none) (upd H2 a (EXO (.ref cc) od a)) := by
          rw [eσ]
          exact ((base nw3 R.ao).setNo).setVal hexc
        have I3 := C.st _ _ _ I2 x
        refine rest_run (E := E) hrest R3 I3 ((Wish.step W e3).mono fun d3 s3 W3 A1 v3 H3 a1 a2 a3 a4 => ?_)
        exact W3 v3 H3 (e3.trans a3) a4 (a1.stp (.same a2))
      · cases ed
  exact ht B A ρ σ H1b s _ _ R1 I1 ((Wish.step key e1).mono fun d s2 W2 v H2 e2 I2 k2 => W2 v H2 (e1.trans e2) I2 k2)
end Fs

namespace Fs
open PySem PySem.Spec PyProof.Rows L2
noncomputable def dIsk (K : PySem.W.Frag) (xs : List D) : Option D := match xs with
  | [.exc _ _, _] => none
  | _ => dIsi K xs
noncomputable def dIsx (K : PySem.W.Frag) (xs : List D) : Option D := match xs with
  | [.exc _ _, _] => dIsi K xs
  | _ => none
section
variable {S : Type} {C : Cfg S}
theorem d_lkO {t : XK → TS} {f : Rho → M S Out} (h : StD C t f) : StD C (fun E => sLkO (t E)) f := fun B A ρ σ H s E De R I W => .inl (h B A ρ σ H s E De R I W)
/-- x, y = a new list, b -/
theorem d_parN {te te2 : XK → TE} {fe : Rho → M S (List D)} {fe2 : Rho → M S D} {i j : Nat} (hij : i ≠ j) (h : EvN C te fe) (h2 : EvD C te2 fe2) : StD C (fun E => tPar i j (tCons (te E) (tCons (te2 E) tNil))) (yParN fe fe2 i j) := fun B A ρ σ H s E De R I W => by
  refine h B A ρ σ H s E _ R I (R.fr <| (Wish.then W).mono fun ds s1 W1 p H1 vs hp e1 I1 k1 => ?_)
  have R1 := R.step e1
  have x1 : Ext All H1 (upd H1 p (.lst vs)) := Ext.new hp
  have st : Stp A H1 (fun a => A a ∧ a ≠ p) (upd H1 p (.lst vs)) := .neu hp fun a o z q => ⟨q, ne_of_none z hp⟩
  have Ra := R1.aside (x1.all (P := C.keep)) hp (by rw [upd_same]; simp)
  refine h2 B _ ρ σ _ s1 E _ Ra I1 (Ra.fr <| (Wish.then W1).mono fun d s2 W2 w H2 e2 I2 k2 => ⟨.ref p, w, rfl, ?_⟩)
  have R3 := ((R1.setOwn (i := i) (o := .lst ds) (u := .lst vs) hp ⟨vs, upd_same, k1.stp st⟩).step e2).setVal (i := j) k2
  exact W2 _ _ H2 R3 (((e1.stp R.ak).trans st).trans (e2.stp fun a q => R.ak a q.1)) I2
/-- data without objects -/
def flat : D → Bool
  | .non | .bl _ | .int _ | .str _ | .ty _ | .adr _ => true
  | _ => false
theorem Is.flat {A A' : Addr → Prop} {H : Hp} {v : V} {d : D} (h : Is A H v d) (f : Fs.flat d = true) : Is A' H v d := by
  cases h with
  | non => exact .non
  | bl b => exact .bl b
  | int b => exact .int b
  | str b => exact .str b
  | ty b => exact .ty b
  | adr b => exact .adr b
  | lst _ _ _ => cases f
  | tup _ _ _ => cases f
  | dct _ _ _ => cases f
  | obj _ _ _ => cases f
  | exc _ _ _ _ _ => cases f
  | fn _ _ _ => cases f
  | exn _ _ => cases f
def flatOf (d : D) : Option D := match flat d with | true => some d | false => none
def noX {α : Type} (r : Res S α) : Res S α := match r with
  | .ok a s => .ok a s
  | _ => .bad
/-- let go, but no dict (that might be locked) -/
def freeL (i : Nat) (ρ : Rho) : Option Rho := match ρ[i]? with
  | some (.own (.dct _)) => none
  | _ => freeR i ρ
theorem Rel.freeL {P : Pl} {B : Bs} {A : Addr → Prop} {ρ ρ1 : Rho} {σ : L2.St} {H : Hp} {i : Nat} (R : Rel P B A ρ σ H) (e : Fs.freeL i ρ = some ρ1) : ∃ p, Rel P B (fun a => A a ∨ a = p) ρ1 σ H ∧ ∀ H', ExL P.keep (fun a => A a ∨ a = p) H H' → ExL P.keep A H H' := by
  have e2 : freeR i ρ = some ρ1 ∧ ∀ ds, ρ[i]? ≠ some (.own (.dct ds)) := by
    unfold Fs.freeL at e
    split at e
    · cases e
    · rename_i n
      exact ⟨e, n⟩
  obtain ⟨p, R1, st⟩ := R.free e2.1
  obtain ⟨o, hi⟩ : ∃ o, ρ[i]? = some (.own o) := by
    have e3 := e2.1
    unfold freeR at e3
    split at e3
    · rename_i o hi
      exact ⟨o, hi⟩
    · cases e3
  obtain ⟨q, hq, hA, hok, h6⟩ := R.writeI hi
  refine ⟨q, ?_, fun H' x => ⟨fun a u k z => ?_, x.2⟩⟩
  · exact R.free2 hi hq e2.1
  · rcases x.1 a u k z with e4 | ⟨l, sm⟩
    · exact .inl e4
    · rcases l with l | rfl
      · exact .inr ⟨l, sm⟩
      · refine .inl (sm.eq fun kvs y => ?_)
        cases o with
        | lst ds => obtain ⟨_, q, _⟩ := h6; rw [q] at z; cases z; cases y
        | dct ds => exact e2.2 ds hi
        | ins c ds => obtain ⟨_, _, _, q, _⟩ := h6; rw [q] at z; cases z; cases y
def xBor (i : Nat) (f : Rho → M S D) : Rho → M S D := fun ρ => (M.of (freeL i ρ)).bind fun ρ1 s => (noX (f ρ1 s)).then fun d => .of (flatOf d)
theorem e_bor {i : Nat} {te : XK → TE} {f : Rho → M S D} (h : EvD C te f) : EvD C te (xBor i f) := fun B A ρ σ H s E Q R I W => by
  obtain ⟨ρ1, e, W1⟩ := of_some (Wish.then W)
  obtain ⟨p, R1, nl⟩ := R.freeL e
  refine h B _ ρ1 σ H s E Q R1 I ?_
  cases er : f ρ1 s with
  | bad => rw [er] at W1; exact W1.elim
  | ex c fs s2 => rw [er] at W1; exact W1.elim
  | ok d s2 =>
    rw [er] at W1
    have W1 : Wish C ⟨H, A, none⟩ E ((M.of (flatOf d) : M S D) s2) (fun d s' => ∀ v H', ExL C.keep A H H' → C.I s' H' → Is A H' v d → Q v H') := W1
    unfold flatOf at W1
    cases ef : flat d with
    | false => rw [ef] at W1; exact W1.elim
    | true =>
      rw [ef] at W1
      exact fun v H2 e2 I2 h2 => W1 v H2 (nl H2 e2) I2 (h2.flat ef)
def xBorT (i : Nat) (f : Rho → M S Bool) : Rho → M S Bool := fun ρ => (M.of (freeL i ρ)).bind fun ρ1 s => noX (f ρ1 s)
theorem e_borT {i : Nat} {te : XK → TT} {f : Rho → M S Bool} (h : EvT C te f) : EvT C te (xBorT i f) := fun B A ρ σ H s E Q R I W => by
  obtain ⟨ρ1, e, W1⟩ := of_some (Wish.then W)
  obtain ⟨p, R1, nl⟩ := R.freeL e
  refine h B _ ρ1 σ H s E Q R1 I ?_
  cases er : f ρ1 s with
  | bad => rw [er] at W1; exact W1.elim
  | ex c fs s2 => rw [er] at W1; exact W1.elim
  | ok d s2 =>
    rw [er] at W1
    have W1 : ∀ H', ExL C.keep A H H' → C.I s2 H' → Q d H' := W1
    exact fun H2 e2 I2 => W1 H2 (nl H2 e2) I2
def xF0 (m : List D → M S D) (f : Rho → M S (List D)) : Rho → M S D := fun ρ => (f ρ).bind fun xs s => noX (m xs s)
theorem e_call0 {tr : XK → TA} {fr : Rho → M S (List D)} {sp : Sp} {m : List D → M S D} (hs : SpD C sp m) (hr : EvA C tr fr) : EvD C (fun E => tCallF sp (fun _ _ _ => False) (tr E)) (xF0 m fr) := fun B A ρ σ H s E Q R I W => by
  refine hr B A ρ σ H s E _ R I ((Wish.then W).mono fun xs s1 W1 vs H1 e1 I1 h1 => ?_)
  refine hs A H1 vs xs s1 Q _ h1 (fun a q => R.nw a (e1.2 a q)) R.ao I1 ?_
  have W1 : Wish C ⟨H, A, none⟩ E (noX (m xs s1)) (fun d s' => ∀ v H', ExL C.keep A H H' → C.I s' H' → Is A H' v d → Q v H') := W1
  cases e : m xs s1 with
  | ok d s2 => rw [e] at W1; exact fun v H2 e2 I2 h2 => W1 v H2 (e1.trans e2) I2 h2
  | ex c fs s2 => rw [e] at W1; exact W1.elim
  | bad => rw [e] at W1; exact W1.elim
def tIfT (t ta tb : TT) : TT := fun σ H Q => t σ H fun c H1 => match c with | true => ta σ H1 Q | false => tb σ H1 Q
theorem pt_ifE {X : Cx} {c a b : Expr} {tA ta tb : TT} {pos : Pos} (hc : PT X c tA) (ha : PT X a ta) (hb : PT X b tb) : PT X (.IfExp c a b pos) (tIfT tA ta tb) := by
  refine ⟨fun pins s σ H Q I h => isTrue_IfExp (thn (hc.run pins s σ H _ I h) fun d s1 ⟨H1, I1, q1⟩ => ?_)⟩
  cases d with
  | true => exact ha.run pins s1 σ H1 Q I1 q1
  | false => exact hb.run pins s1 σ H1 Q I1 q1
theorem e_ifT {tt ta tb : XK → TT} {f fa fb : Rho → M S Bool} (h1 : EvT C tt f) (ha : EvT C ta fa) (hb : EvT C tb fb) : EvT C (fun E => tIfT (tt E) (ta E) (tb E)) (xIf f fa fb) := fun B A ρ σ H s E Q R I W => by
  refine h1 B A ρ σ H s E _ R I ((Wish.then W).mono fun b s1 W1 H1 e1 I1 => ?_)
  cases b with
  | true => exact ha B A ρ σ H1 s1 E _ (R.step e1) I1 (Wish.mono (Wish.step W1 e1) fun b s2 W2 H2 e2 I2 => W2 H2 (e1.trans e2) I2)
  | false => exact hb B A ρ σ H1 s1 E _ (R.step e1) I1 (Wish.mono (Wish.step W1 e1) fun b s2 W2 H2 e2 I2 => W2 H2 (e1.trans e2) I2)
def mRepS : R2 := fun x y H Q => match x, y with
  | .str a, .int k => 1 ≤ k ∧ k ≤ 1000 ∧ a.length ≤ 1000 ∧ Q (.str (Txt.mul a k)) H
  | _, _ => False
theorem op_mRepS {X : Cx} : OpR X (binaryOp .Mult) mRepS := by
  intro pins s σ H x y v u Q I rx ry h
  unfold mRepS at h
  split at h
  · rename_i a k
    obtain ⟨h1, h2, h3, q⟩ := h
    obtain ⟨t, rfl⟩ := rx
    obtain ⟨t2, rfl⟩ := ry
    refine SB.mul ⟨?_, fun _ _ => ?_, fun _ _ => ?_⟩ fun t' tk => ⟨.str _, H, I.tok tk, ⟨t', rfl⟩, q⟩
    · rw [decide_eq_false (by omega), decide_eq_false (by omega)]; rfl
    · intro hc
      have h4 : (2 ^ 63 - 1 : Int) / 1000 ≤ (2 ^ 63 - 1) / k := by
        rw [Int.le_ediv_iff_mul_le (by omega)]
        have : (2 ^ 63 - 1 : Int) / 1000 * k ≤ (2 ^ 63 - 1 : Int) / 1000 * 1000 := Int.mul_le_mul_of_nonneg_left h2 (by decide)
        omega
      have h5 : ((2 ^ 63 - 1 : Int) / 1000) = 9223372036854775 := by decide
      have h6 : (a.length : Int) ≤ 1000 := by exact_mod_cast h3
      omega
    · have h7 : a.length * k.toNat ≤ 1000 * 1000 := Nat.mul_le_mul h3 (by omega)
      have h8 : (1000 * 1000 : Nat) ≤ sizeLine := by decide
      exact decide_eq_false (by omega)
  · exact h.elim
def dRepS : D → D → Option D
  | .str a, .int k => match decide (1 ≤ k ∧ k ≤ 1000 ∧ a.length ≤ 1000) with
    | true => some (.str (Txt.mul a k))
    | false => none
  | _, _ => none
theorem o_repS : OpD mRepS dRepS := fun A H v w x y d Q h1 h2 nw e q => by
  unfold dRepS at e
  split at e
  · cases h1; cases h2
    split at e
    · rename_i l
      cases e
      have l := of_decide_eq_true l
      exact ⟨l.1, l.2.1, l.2.2, q _ H (Ext.refl _ _) (.str _)⟩
    · cases e
  · cases e
end
section
variable {P : Program} {w : World} {K : PySem.W.Frag} {mg : Str → Option Value} {base : Heap}
/-- a def whose code object is known -/
theorem fnr_ofC {x qual : Str} {st : Stmt} {f cd : Addr} {fd : FuncData} {N ps : List Str} {k : Nat} {rd : XK → TS} (F : Fun K x qual st f fd) (hc : fd.code = .ref cd) (S : FnScope N ps (defScope st)) (hb : Binds K fd ps [])
    (hbody : ∀ (A : Around) (outer : List Env) (s : Shared) (H : Hp) (E : XK), Room k (A.deeper (envOfC qual (defScope st) s.heap.objs.size f (.ref cd))) →
      PSs (cxOf (L2.CX P w) P w K mg base N qual (defScope st) f (.ref cd) A outer s H E) (defBody st) (rd E)) : FnR P w K mg base (L2.CX P w) (k + 1) f (spR N ps.length rd) := by
  have G : FnOk P w K mg base (L2.CX P w) (k + 1) f fd ps (spR N ps.length rd) := by
    obtain ⟨oc, od, kV, doc, pm, an, cdv, ct, osl, rfl, lk, hcd⟩ := F.ex
    obtain rfl : cdv = .ref cd := hc
    exact fn_of lk hcd S (fun vs H Q E h => h.1) fun A outer s H vs Q E hr h => ⟨rd E, hbody A outer s H E hr, h.2⟩
  exact (G.raw hb .nil).imp fun vs H Q E h => by rw [List.append_nil]; exact h
end
end Fs

namespace Fs
open PySem PySem.Spec PyProof.Rows L2
open LamX (CodeO Tabs TabS)
structure PenS where
  used : Int
  rest : Int
structure PenA where
  p : Addr
  c : Addr
  cells : List Int
  T : List (Addr × Str)
def penPl (L : PenA) : Pl := ⟨fun a => a ≠ L.p ∧ ∀ t ∈ L.T, a ≠ t.1, fun a => (a ≠ L.p ∧ ∀ t ∈ L.T, a ≠ t.1) ∧ a ≠ L.c, fun _ h => h.1⟩
def PenI (L : PenA) (s : PenS) (H : Hp) : Prop := H L.p = some (.lst [.ref L.c, .int s.used, .int s.rest]) ∧ H L.c = some (.lst (L.cells.map V.int)) ∧ Tabs L.T H
theorem tabs_upd {T : List (Addr × Str)} {H : Hp} {a : Addr} {o : HO} (h : Tabs T H) (h1 : ∀ t ∈ T, a ≠ t.1) (h2 : tgt (H a) = true) : Tabs T (upd H a o) := fun t ht => by
  obtain ⟨ps, e1, e2, e3⟩ := h t ht
  refine ⟨ps, by rw [upd_ne (Ne.symm (h1 t ht))]; exact e1, e2, fun pos cv hc => ?_⟩
  obtain ⟨c, f1, f2⟩ := e3 pos cv hc
  refine ⟨c, f1, ?_⟩
  rw [upd_ne (fun z => by
    rw [z] at f2
    rw [f2] at h2
    cases h2)]
  exact f2
def penC (K : PySem.W.Frag) (L : PenA) : Cfg PenS where
  toPl := penPl L
  K := K
  I := PenI L
  stL := fun s H H' I e => ⟨e.at trivial I.1 (by intro _ z; cases z), e.at trivial I.2.1 (by intro _ z; cases z), fun t ht => by
    obtain ⟨ps, h1, h2, h3⟩ := I.2.2 t ht
    refine ⟨ps, e.at trivial h1 (by intro _ z; cases z), h2, fun pos cv hc => ?_⟩
    obtain ⟨c, f1, f2⟩ := h3 pos cv hc
    exact ⟨c, f1, e.at trivial f2 (by intro _ z; cases z)⟩⟩
  st2 := fun s H a o k t I => ⟨by rw [upd_ne (Ne.symm k.1.1)]; exact I.1, by rw [upd_ne (Ne.symm k.2)]; exact I.2.1, tabs_upd I.2.2 k.1.2 t⟩
section
variable {K : PySem.W.Frag} {L : PenA}
theorem pen_tabs : ∀ s H, (penC K L).I s H → Tabs L.T H := fun _ _ I => I.2.2
theorem pen_lam {q : Str} : ∀ s H H1 cl, (penC K L).I s H → LamTo L.T q H H1 cl → (penC K L).I s H1 ∧ Ext (penC K L).keep H H1 := fun s H H1 cl I h => by
  obtain ⟨h1, h2, rfl | ⟨P, ps, more, m1, m2, m3, rfl⟩⟩ := h
  · exact ⟨I, Ext.refl _ _⟩
  · have ne : ∀ {a : Addr} {xs : List V}, H a = some (.lst xs) → a ≠ P := fun {a xs} e z => by rw [z, m2] at e; cases e
    have at' : ∀ {a : Addr} {o : HO}, H a = some o → a ≠ P → upd (upd H P (.tbl (ps ++ more))) cl (CodeO cl q) a = some o := fun {a o} e z => by
      rw [upd_ne (ne_of_none e m3), upd_ne z]; exact e
    refine ⟨⟨at' I.1 (ne I.1), at' I.2.1 (ne I.2.1), h2⟩, fun a o k e => at' e (k.elim (fun k => k.2 _ m1) fun q z => by rw [z, m2] at e; cases e; exact q), fun a e => ?_⟩
    by_cases z : a = cl
    · rw [z]; exact m3
    · rw [upd_ne z] at e
      by_cases z2 : a = P
      · rw [z2, upd_same] at e; cases e
      · rw [upd_ne z2] at e; exact e
def penAt (L : PenA) (i : Nat) (ρ : Rho) : Bool := match ρ[i]? with
  | some (.val (.adr a)) => decide (a = L.p)
  | _ => false
theorem pen_slot {P : Pl} {B : Bs} {A : Addr → Prop} {ρ : Rho} {σ : L2.St} {H : Hp} {i : Nat} (R : Rel P B A ρ σ H) (h : penAt L i ρ = true) : σ[i]? = some (some (.ref L.p)) := by
  unfold penAt at h
  split at h
  · rename_i a e
    obtain ⟨v, h1, h2⟩ := R.slot i _ e
    rw [h1]
    cases h2
    rw [of_decide_eq_true h]
  · cases h
theorem pen_ix {s : PenS} {H : Hp} (I : PenI L s H) {σ : L2.St} {i : Nat} (h : σ[i]? = some (some (.ref L.p))) {k : Int} {v : V} (e : atI [V.ref L.c, .int s.used, .int s.rest] k = some v) {Q : VK} (q : Q v H) : tOp mIx (tV i) (tC (.int k)) σ H Q := by
  show tV i σ H _
  unfold tV
  rw [h]
  show mIx (.ref L.p) (.int k) H Q
  have hl : look H L.p = some (.lst [V.ref L.c, .int s.used, .int s.rest]) := by unfold look; rw [I.1]
  unfold mIx
  simp only [hl, e]
  exact q
def xPen (L : PenA) (i : Nat) (g : PenS → Int) : Rho → M PenS D := fun ρ s => match penAt L i ρ with
  | true => .ok (.int (g s)) s
  | false => .bad
theorem e_pen1 {i : Nat} : EvD (penC K L) (fun _ => tOp mIx (tV i) (tC (.int 1))) (xPen L i PenS.used) := fun B A ρ σ H s E Q R I W => by
  unfold xPen at W
  cases e : penAt L i ρ with
  | false => rw [e] at W; exact W.elim
  | true =>
    rw [e] at W
    exact pen_ix I (pen_slot R e) rfl (W _ H (ExL.refl _ _ _) I (.int _))
theorem e_pen2 {i : Nat} : EvD (penC K L) (fun _ => tOp mIx (tV i) (tC (.int 2))) (xPen L i PenS.rest) := fun B A ρ σ H s E Q R I W => by
  unfold xPen at W
  cases e : penAt L i ρ with
  | false => rw [e] at W; exact W.elim
  | true =>
    rw [e] at W
    exact pen_ix I (pen_slot R e) rfl (W _ H (ExL.refl _ _ _) I (.int _))
theorem cells_is {H : Hp} {s : PenS} (I : PenI L s H) : Is All H (.ref L.c) (.lst (L.cells.map D.int)) := .lst trivial I.2.1 (by
  generalize L.cells = cs
  induction cs with
  | nil => exact .nil
  | cons x xs ih => exact .cons (.int x) ih)
def xPenLen (L : PenA) (i : Nat) : Rho → M PenS D := fun ρ s => match penAt L i ρ with
  | true => .ok (.int L.cells.length) s
  | false => .bad
theorem e_penLen {i : Nat} : EvD (penC K L) (fun _ => tCB mLen (tCons (tOp mIx (tV i) (tC (.int 0))) tNil)) (xPenLen L i) := fun B A ρ σ H s E Q R I W => by
  unfold xPenLen at W
  cases e : penAt L i ρ with
  | false => rw [e] at W; exact W.elim
  | true =>
    rw [e] at W
    refine pen_ix I (pen_slot R e) (k := 0) (v := .ref L.c) rfl ?_
    show mLen [.ref L.c] H Q
    have hl : look H L.c = some (.lst (L.cells.map V.int)) := by unfold look; rw [I.2.1]
    unfold mLen one
    simp only [hl, List.length_map]
    exact W _ H (ExL.refl _ _ _) I (.int _)
noncomputable def xPenNe (L : PenA) (i : Nat) : Rho → M PenS Bool := fun ρ s => match penAt L i ρ, (neA (.lst (L.cells.map D.int)) (.lst [])).bind dBl with
  | true, some b => .ok b s
  | _, _ => .bad
theorem e_penNe {i : Nat} : EvT (penC K L) (fun _ => tTs (tOp (mNeA K) (tOp mIx (tV i) (tC (.int 0))) (tLst tNil))) (xPenNe L i) := fun B A ρ σ H s E Q R I W => by
  unfold xPenNe at W
  split at W
  · rename_i b e1 e2
    obtain ⟨d, e3, e4⟩ := Option.bind_eq_some_iff.mp e2
    refine pen_ix I (pen_slot R e1) (k := 0) (v := .ref L.c) rfl ⟨by decide, fun p hp => ?_⟩
    have x : Ext All H (upd H p (.lst [])) := Ext.new hp
    refine o_neA All _ _ _ _ _ d _ ((cells_is I).stp x.stp) (.lst trivial upd_same .nil) (fun _ _ => trivial) e3 fun u H' x2 h => ?_
    rw [h.bl_of e4]
    exact W H' ((x.trans x2).all) ((penC K L).st _ _ _ I (x.trans x2))
  · exact W.elim
def xPenCell (L : PenA) (i : Nat) (f : Rho → M PenS D) : Rho → M PenS D := fun ρ => match penAt L i ρ with
  | true => (f ρ).bind fun k => .of ((dIx (.lst (L.cells.map D.int)) k).bind flatOf)
  | false => fun _ => .bad
theorem e_penCell {i : Nat} {te : XK → TE} {f : Rho → M PenS D} (h : EvD (penC K L) te f) : EvD (penC K L) (fun E => tOp mIx (tOp mIx (tV i) (tC (.int 0))) (te E)) (xPenCell L i f) := fun B A ρ σ H s E Q R I W => by
  unfold xPenCell at W
  cases e : penAt L i ρ with
  | false => rw [e] at W; exact W.elim
  | true =>
    rw [e] at W
    refine pen_ix I (pen_slot R e) (k := 0) (v := .ref L.c) rfl ?_
    refine h B A ρ σ H s E _ R I ((Wish.then W).mono fun k s1 W1 v H1 e1 I1 h1 => ?_)
    cases e2 : (dIx (.lst (L.cells.map D.int)) k).bind flatOf with
    | none => rw [e2] at W1; exact W1.elim
    | some d =>
      rw [e2] at W1
      obtain ⟨d2, e3, e4⟩ := Option.bind_eq_some_iff.mp e2
      unfold flatOf at e4
      cases ef : flat d2 with
      | false => rw [ef] at e4; cases e4
      | true =>
        rw [ef] at e4
        cases e4
        refine o_ix All _ _ _ _ _ d _ (cells_is I1) (h1.stp (.same fun _ _ => trivial)) (fun _ _ => trivial) e3 fun u H' x2 h => ?_
        exact W1 u H' (e1.trans x2.all) ((penC K L).st _ _ _ I1 x2) (h.flat ef)
def yPen (L : PenA) (i : Nat) (g : PenS → Int → PenS) (f : Rho → M PenS D) : Rho → M PenS Out := fun ρ => match penAt L i ρ with
  | true => (f ρ).bind fun d => (M.of (dIn d)).bind fun n s => .ok (.nx ρ) (g s n)
  | false => fun _ => .bad
theorem d_penSet {i : Nat} {k : Int} {j : Nat} {g : PenS → Int → PenS} {te : XK → TE} {f : Rho → M PenS D} (h : EvD (penC K L) te f) (hk : ixN 3 k = some j) (hg : ∀ s n, [V.ref L.c, V.int s.used, V.int s.rest].set j (.int n) = [V.ref L.c, V.int (g s n).used, V.int (g s n).rest]) (hpc : L.p ≠ L.c) (hT : ∀ t ∈ L.T, L.p ≠ t.1) :
    StD (penC K L) (fun E => tAsg (te E) (gSub (tV i) (tC (.int k)) rSetL)) (yPen L i g f) := fun B A ρ σ H s E De R I W => by
  unfold yPen at W
  cases e : penAt L i ρ with
  | false => rw [e] at W; exact W.elim
  | true =>
    rw [e] at W
    refine h B A ρ σ H s E _ R I (R.fr <| (Wish.then W).mono fun d s1 W1 v H1 e1 I1 h1 => ?_)
    obtain ⟨n, en, W2⟩ := of_some (Wish.then W1)
    have R1 := R.step e1
    show tV i σ H1 _
    unfold tV
    rw [pen_slot R e]
    have ev := h1.in_of en
    refine ⟨L.p, _, k, j, rfl, rfl, I1.1, hk, ?_⟩
    rw [ev, hg]
    have x : Ext (penC K L).keep H1 (upd H1 L.p (.lst [V.ref L.c, V.int (g s1 n).used, V.int (g s1 n).rest])) := ⟨fun a o k z => by rw [upd_ne (k.elim (fun k => k.1) fun q y => by rw [y, I1.1] at z; cases z; exact q)]; exact z, fun a z => by
      by_cases q : a = L.p
      · rw [q, upd_same] at z; cases z
      · rw [upd_ne q] at z; exact z⟩
    have xk : ExL (penC K L).keep A H1 (upd H1 L.p (.lst [V.ref L.c, V.int (g s1 n).used, V.int (g s1 n).rest])) := x.lk
    refine W2 A σ _ (R1.step xk) ((e1.trans xk).stp R.ak) ⟨upd_same, by rw [upd_ne (Ne.symm hpc)]; exact I1.2.1, tabs_upd I1.2.2 hT (by rw [I1.1]; rfl)⟩
end
end Fs

namespace Fs
open PySem L2
variable {S : Type}
theorem comp_pure {g : D → Rho → Option Rho} {t : Rho → M S Bool} {e : Rho → M S D} {ρ : Rho} {s : S} (p : D → Bool) (h : D → D) : ∀ (ds : List D), (∀ d ∈ ds, ∃ ρ1, g d ρ = some ρ1 ∧ t ρ1 s = .ok (p d) s ∧ (p d = true → e ρ1 s = .ok (h d) s)) → compD g t e ρ ds s = .ok ((ds.filter p).map h) s
  | [], _ => rfl
  | d :: ds, H => by
    obtain ⟨ρ1, h1, h2, h3⟩ := H d (by simp)
    have ih := comp_pure (s := s) p h ds fun x hx => H x (List.mem_cons_of_mem _ hx)
    unfold compD
    simp only [h1, M.bind, h2, then_ok]
    cases e1 : p d with
    | true =>
      show (e ρ1 s).then (fun y => (compD g t e ρ ds).bind fun ys => M.ret (y :: ys)) = _
      rw [h3 e1]
      show (compD g t e ρ ds s).then _ = _
      rw [ih]
      simp only [List.filter_cons, e1, if_true, List.map_cons]
      rfl
    | false =>
      simp only [ih, List.filter_cons, e1]
      rfl
theorem dLen_str {w : Str} (h : lim w.length = true) : dLen [.str w] = some (.int w.length) := by
  unfold dLen dLen1
  simp only [h]
theorem dLen_lst {xs : List D} : dLen [.lst xs] = some (.int xs.length) := rfl
theorem dLen_tup {xs : List D} : dLen [.tup xs] = some (.int xs.length) := rfl
theorem dLe_int {a b : Int} : dLe (.int a) (.int b) = some (.bl (decide (a ≤ b))) := rfl
theorem dLt_int {a b : Int} : dLt (.int a) (.int b) = some (.bl (decide (a < b))) := rfl
theorem dGt_int {a b : Int} : dGt (.int a) (.int b) = some (.bl (decide (b < a))) := rfl
theorem dGe_int {a b : Int} : dGe (.int a) (.int b) = some (.bl (decide (b ≤ a))) := rfl
theorem dLe_str {a b : Str} : dLe (.str a) (.str b) = some (.bl (!ltS b a)) := rfl
theorem dGt_str {a b : Str} : dGt (.str a) (.str b) = some (.bl (ltS b a)) := rfl
theorem dNi_str {a b : Str} : dNi2 (.str a) (.str b) = some (.bl (!inS a b)) := rfl
theorem dIn_str {a b : Str} : dIn2 (.str a) (.str b) = some (.bl (inS a b)) := rfl
theorem dAdd_int {a b : Int} : dAdd (.int a) (.int b) = some (.int (a + b)) := rfl
theorem dSub_int {a b : Int} : dSub (.int a) (.int b) = some (.int (a - b)) := rfl
theorem dMod_int {a b : Int} (h : 0 < b) : dMod (.int a) (.int b) = some (.int (a % b)) := by
  unfold dMod dI2
  simp only [decide_eq_true h]
theorem dFdv_int {a b : Int} (h : 0 < b ∧ b < 1073741824) : dFdv (.int a) (.int b) = some (.int (a / b)) := by
  unfold dFdv dI2
  simp only [decide_eq_true h]
theorem dPow_int {a b : Int} (h : 0 ≤ b ∧ b ≤ 1000000 ∧ a.natAbs < 2 ^ 64) : dPow (.int a) (.int b) = some (.int (a ^ b.toNat)) := by
  unfold dPow dI2
  simp only [decide_eq_true h]
theorem dMul_int {a b : Int} (h : (Builtin.Int.intBits a : Int) + (Builtin.Int.intBits b : Int) ≤ 134217728) : dMul (.int a) (.int b) = some (.int (a * b)) := by
  unfold dMul
  simp only [decide_eq_true h]
theorem eqD_int {a b : Int} : eqD (.int a) (.int b) = some (decide (a = b)) := by
  show some (decide (V.int a = V.int b)) = _
  simp
theorem eqD_str {a b : Str} : eqD (.str a) (.str b) = some (decide (a = b)) := by
  show some (decide (V.str a = V.str b)) = _
  simp
theorem dEq_int {a b : Int} : dEq (.int a) (.int b) = some (.bl (decide (a = b))) := by unfold dEq; rw [eqD_int]; rfl
theorem dEq_str {a b : Str} : dEq (.str a) (.str b) = some (.bl (decide (a = b))) := by unfold dEq; rw [eqD_str]; rfl
theorem neA_int {a b : Int} : neA (.int a) (.int b) = some (.bl (!decide (a = b))) := by unfold neA dNe; rw [eqD_int]; rfl
theorem neA_str {a b : Str} : neA (.str a) (.str b) = some (.bl (!decide (a = b))) := by unfold neA dNe; rw [eqD_str]; rfl
theorem dIx_str {z : Str} {i : Int} (h : lim z.length = true) : dIx (.str z) (.int i) = (atI z.cps.toList i).map fun c => .str ⟨#[c]⟩ := by
  unfold dIx
  simp only [h]
theorem dIx_lst {xs : List D} {i : Int} : dIx (.lst xs) (.int i) = atI xs i := rfl
theorem dIx_tup {xs : List D} {i : Int} : dIx (.tup xs) (.int i) = atI xs i := rfl
theorem toPyL_map {α : Type} (f : α → D) (g : α → PyData) (h : ∀ x, toPy (f x) = some (g x)) : ∀ xs : List α, toPyL (xs.map f) = some (xs.map g)
  | [] => rfl
  | x :: xs => by
    rw [List.map_cons, List.map_cons]
    unfold toPyL
    rw [h x, toPyL_map f g h xs]
theorem canAll_str : ∀ {xs : List Str}, (∀ x ∈ xs, PyData.strOk x = true) → PyData.canLayAll0 (xs.map PyData.str) = true
  | [], _ => rfl
  | x :: xs, h => by
    show (PyData.strOk x && PyData.canLayAll0 (xs.map PyData.str)) = true
    rw [h x (by simp), canAll_str fun y hy => h y (List.mem_cons_of_mem _ hy)]
    rfl
theorem depthAll_str : ∀ {xs : List Str}, PyData.depthAll (xs.map PyData.str) ≤ 1
  | [] => by decide
  | x :: xs => by
    show max (PyData.depth (.str x)) (PyData.depthAll (xs.map PyData.str)) ≤ 1
    have h1 : PyData.depth (.str x) ≤ 1 := by simp [PyData.depth]
    have h2 := depthAll_str (xs := xs)
    omega
theorem shaped_strs {xs : List Str} (h : ∀ x ∈ xs, PyData.strOk x = true) : SeqAt.shaped (.list (xs.map PyData.str)) = true := by
  unfold SeqAt.shaped
  rw [Bool.and_eq_true]
  refine ⟨canAll_str h, decide_eq_true ?_⟩
  have h2 := depthAll_str (xs := xs)
  simp only [PyData.depth]
  omega
theorem toPy_strs (xs : List Str) : toPy (.lst (xs.map D.str)) = some (.list (xs.map PyData.str)) := by
  unfold toPy
  rw [toPyL_map D.str PyData.str (fun _ => rfl)]
  rfl
theorem eqvAll_str : ∀ xs ys : List Str, PyData.eqvAll (xs.map PyData.str) (ys.map PyData.str) = decide (xs = ys)
  | [], [] => rfl
  | [], _ :: _ => by simp [PyData.eqvAll]
  | _ :: _, [] => by simp [PyData.eqvAll]
  | x :: xs, y :: ys => by
    show (PyData.eqv (.str x) (.str y) && PyData.eqvAll (xs.map PyData.str) (ys.map PyData.str)) = _
    rw [eqvAll_str xs ys]
    have e : PyData.eqv (.str x) (.str y) = decide (x = y) := by
      simp only [PyData.eqv]
      by_cases h : x = y
      · rw [h]; simp
      · simp [h]
    rw [e]
    by_cases h1 : x = y <;> by_cases h2 : xs = ys <;> simp [h1, h2]
theorem eqD_strs {xs ys : List Str} (hx : ∀ x ∈ xs, PyData.strOk x = true) (hy : ∀ x ∈ ys, PyData.strOk x = true) : eqD (.lst (xs.map D.str)) (.lst (ys.map D.str)) = some (decide (xs = ys)) := by
  show pyEq _ _ = _
  unfold pyEq
  rw [toPy_strs, toPy_strs]
  simp only [shaped_strs hx, shaped_strs hy, Bool.and_self]
  show some (PyData.eqvAll (xs.map PyData.str) (ys.map PyData.str)) = _
  rw [eqvAll_str]
theorem dEq_nil {xs : List Str} (hx : ∀ x ∈ xs, PyData.strOk x = true) : dEq (.lst (xs.map D.str)) (.lst []) = some (.bl (decide (xs = []))) := by
  unfold dEq
  rw [show (D.lst []) = .lst (([] : List Str).map D.str) from rfl, eqD_strs hx (by simp)]
  rfl
theorem dBls_map {α : Type} (f : α → Bool) : ∀ xs : List α, dBls (xs.map fun x => D.bl (f x)) = some (xs.map f)
  | [] => rfl
  | x :: xs => by
    rw [List.map_cons, List.map_cons]
    unfold dBls
    rw [dBls_map f xs]
    rfl
theorem dAll_map {α : Type} (f : α → Bool) (xs : List α) : dAll [.lst (xs.map fun x => D.bl (f x))] = some (.bl (xs.all f)) := by
  show (dBls (xs.map fun x => D.bl (f x))).map (fun bs => D.bl (bs.all id)) = _
  rw [dBls_map]
  simp [List.all_map]
theorem in_sign (c : Nat) (b : Str) : inS ⟨#[c]⟩ b = decide (c ∈ TL.tl b) := StrLaws.found_one b c
def one1 (c : Nat) : Str := ⟨#[c]⟩
theorem signs_eq (w : Str) : signs w = ((TL.tl w).map one1).map D.str := by
  unfold signs
  rw [List.map_map]; rfl
theorem comp_ni {B : Str} {ρ : Rho} {i : Nat} {s : S} (hi : i < ρ.length) (w : Str) : compD (gV i) (xT (xOp dNi2 (xV i) (xC (.str B)))) (xV i) ρ (signs w) s = .ok ((((TL.tl w).filter fun c => !decide (c ∈ TL.tl B)).map one1).map D.str) s := by
  have h := comp_pure (g := gV i) (t := xT (xOp dNi2 (xV i) (xC (.str B)))) (e := xV i) (ρ := ρ) (s := s) (fun d => match d with | .str x => !inS x B | _ => false) id (signs w) fun d hd => by
    unfold signs at hd
    obtain ⟨c, _, rfl⟩ := List.mem_map.mp hd
    have e : (ρ.set i (.val (.str ⟨#[c]⟩)))[i]? = some (.val (.str ⟨#[c]⟩)) := List.getElem?_set_self hi
    refine ⟨_, rfl, ?_, fun _ => ?_⟩
    · simp only [xT, xOp, xV, xC, M.bind, M.ret, M.of, e, then_ok, dNi_str, dBl]
    · simp only [xV, e]; rfl
  rw [h]
  congr 1
  rw [List.map_id]
  unfold signs
  rw [List.filter_map, List.map_map]
  congr 1
  · apply List.filter_congr
    intro c _
    show (!inS ⟨#[c]⟩ B) = _
    rw [in_sign]
theorem comp_in {B : Str} {ρ : Rho} {i : Nat} {s : S} (hi : i < ρ.length) (w : Str) : compD (gV i) (fun _ => M.ret true) (xOp dIn2 (xV i) (xC (.str B))) ρ (signs w) s = .ok ((TL.tl w).map fun c => D.bl (decide (c ∈ TL.tl B))) s := by
  have h := comp_pure (g := gV i) (t := fun _ => M.ret true) (e := xOp dIn2 (xV i) (xC (.str B))) (ρ := ρ) (s := s) (fun _ => true) (fun d => match d with | .str x => .bl (inS x B) | _ => .non) (signs w) fun d hd => by
    unfold signs at hd
    obtain ⟨c, _, rfl⟩ := List.mem_map.mp hd
    have e : (ρ.set i (.val (.str ⟨#[c]⟩)))[i]? = some (.val (.str ⟨#[c]⟩)) := List.getElem?_set_self hi
    refine ⟨_, rfl, rfl, fun _ => ?_⟩
    simp only [xOp, xV, xC, M.bind, M.ret, M.of, e, then_ok, dIn_str]
  rw [h]
  congr 1
  unfold signs
  rw [List.filter_eq_self.mpr (fun _ _ => rfl), List.map_map]
  apply List.map_congr_left
  intro c _
  show D.bl (inS ⟨#[c]⟩ B) = _
  rw [in_sign]
theorem filt_nil (p : Nat → Bool) : ∀ l : List Nat, decide ((((l.filter fun c => !p c).map one1)) = []) = l.all p
  | [] => rfl
  | c :: l => by
    rw [List.filter_cons, List.all_cons]
    cases h : p c with
    | true => simpa using filt_nil p l
    | false => simp
theorem seq_nx {f g : Rho → M S Out} {ρ ρ1 : Rho} {s s1 : S} (h : f ρ s = .ok (.nx ρ1) s1) : ySeq f g ρ s = g ρ1 s1 := by
  show (f ρ s).then _ = _
  rw [h]; rfl
theorem seq_rt {f g : Rho → M S Out} {ρ : Rho} {s s1 : S} {d : D} (h : f ρ s = .ok (.rt d) s1) : ySeq f g ρ s = .ok (.rt d) s1 := by
  show (f ρ s).then _ = _
  rw [h]; rfl
theorem seq_ex {f g : Rho → M S Out} {ρ : Rho} {s s1 : S} {c : Addr} {fs : List (Str × D)} (h : f ρ s = .ex c fs s1) : ySeq f g ρ s = .ex c fs s1 := by
  show (f ρ s).then _ = _
  rw [h]; rfl
theorem run_rt {n m : Nat} {f : Rho → M S Out} {ds : List D} {s s1 : S} {d : D} (hl : decide (ds.length = m) = true) (h : f (startR n ds) s = .ok (.rt d) s1) : runD n m f ds s = .ok d s1 := by
  unfold runD
  rw [hl]
  show (f (startR n ds) s).then _ = _
  rw [h]; rfl
theorem run_nx {n m : Nat} {f : Rho → M S Out} {ds : List D} {s s1 : S} {ρ : Rho} (hl : decide (ds.length = m) = true) (h : f (startR n ds) s = .ok (.nx ρ) s1) : runD n m f ds s = .ok .non s1 := by
  unfold runD
  rw [hl]
  show (f (startR n ds) s).then _ = _
  rw [h]; rfl
theorem run_ex {n m : Nat} {f : Rho → M S Out} {ds : List D} {s s1 : S} {c : Addr} {fs : List (Str × D)} (hl : decide (ds.length = m) = true) (h : f (startR n ds) s = .ex c fs s1) : runD n m f ds s = .ex c fs s1 := by
  unfold runD
  rw [hl]
  show (f (startR n ds) s).then _ = _
  rw [h]; rfl
theorem for_of {fi : Rho → M S (List D)} {g : D → Rho → Option Rho} {f : Rho → M S Out} {ρ : Rho} {s s1 : S} {ds : List D} (h : fi ρ s = .ok ds s1) : yFor fi g f ρ s = loopD g f ds ρ s1 := by
  show (fi ρ s).then _ = _
  rw [h]; rfl
end Fs

namespace Fs
open PySem L2 TL
theorem pre_one (s c : Nat) (r : List Nat) : pre [s] (c :: r) = decide (c = s) := by
  show (List.take 1 (c :: r) == [s]) = _
  by_cases h : c = s
  · rw [h]; simp
  · simp [h]
theorem spl_one (s c : Nat) (acc r : List Nat) : spl [s] 0 acc (c :: r) = if c = s then acc :: spl [s] 0 [] r else spl [s] 0 (acc ++ [c]) r := by
  by_cases h : c = s
  · rw [if_pos h, spl_hit (by rw [pre_one]; exact decide_eq_true h)]; rfl
  · rw [if_neg h, spl_miss (by rw [pre_one]; exact decide_eq_false h)]
theorem spl_ne (s : Nat) : ∀ (l acc : List Nat), spl [s] 0 acc l ≠ []
  | [], acc => by rw [spl_nil]; simp
  | c :: r, acc => by
    rw [spl_one]
    split
    · simp
    · exact spl_ne s r _
theorem join_spl (s : Nat) : ∀ (l acc : List Nat), joinL [s] (spl [s] 0 acc l) = acc ++ l
  | [], acc => by rw [spl_nil]; simp [joinL]
  | c :: r, acc => by
    rw [spl_one]
    split
    · rename_i h
      have ih := join_spl s r []
      cases e : spl [s] 0 [] r with
      | nil => exact absurd e (spl_ne s r [])
      | cons q m =>
        rw [e] at ih
        show acc ++ ([s] ++ joinL [s] (q :: m)) = _
        rw [ih, h]; rfl
    · rw [join_spl s r, List.append_assoc]; rfl
theorem spl_sub (s : Nat) : ∀ (l acc : List Nat), ∀ p ∈ spl [s] 0 acc l, p.length ≤ acc.length + l.length ∧ ∀ c ∈ p, c ∈ acc ++ l
  | [], acc, p, h => by
    rw [spl_nil] at h
    rw [List.mem_singleton.mp h]
    exact ⟨Nat.le_add_right _ _, fun c k => by simpa using k⟩
  | c :: r, acc, p, h => by
    rw [spl_one] at h
    split at h
    · rcases List.mem_cons.mp h with e | k
      · rw [e]
        exact ⟨Nat.le_add_right _ _, fun c k => List.mem_append.mpr (.inl k)⟩
      · obtain ⟨h1, h2⟩ := spl_sub s r [] p k
        refine ⟨?_, fun c k => ?_⟩
        · simp at h1 ⊢; omega
        · have := h2 c k
          simp at this ⊢
          exact .inr (.inr this)
    · obtain ⟨h1, h2⟩ := spl_sub s r _ p h
      refine ⟨?_, fun c k => ?_⟩
      · simp at h1 ⊢; omega
      · have := h2 c k
        simpa using this
theorem spl_free (s : Nat) : ∀ (l acc : List Nat), s ∉ acc → ∀ p ∈ spl [s] 0 acc l, s ∉ p
  | [], acc, h0, p, h => by
    rw [spl_nil] at h
    rw [List.mem_singleton.mp h]; exact h0
  | c :: r, acc, h0, p, h => by
    rw [spl_one] at h
    split at h
    · rcases List.mem_cons.mp h with e | k
      · rw [e]; exact h0
      · exact spl_free s r [] (by simp) p k
    · rename_i hc
      exact spl_free s r _ (by simp [h0]; exact fun e => hc e.symm) p h
theorem spl_count (s : Nat) : ∀ (l acc : List Nat), (spl [s] 0 acc l).length ≤ l.length + 1
  | [], acc => by rw [spl_nil]; simp
  | c :: r, acc => by
    rw [spl_one]
    split
    · have := spl_count s r []
      simp; omega
    · have := spl_count s r (acc ++ [c])
      simp; omega
structure Sep (y : Str) (s : Nat) : Prop where
  tl : tl y = [s]
  lo : s < 256
section
variable {y : Str} {s : Nat}
theorem Sep.spl (Y : Sep y s) (a : Str) : (Txt.split a y).map TL.tl = TL.spl [s] 0 [] (TL.tl a) := by
  have h := split_spl a y (by rw [Y.tl]; simp) (kind_ok (by
    rw [Array.all_eq_true']
    intro c hc
    have hc : c ∈ TL.tl y := Array.mem_toList_iff.mpr hc
    rw [Y.tl] at hc
    rw [List.mem_singleton.mp hc]
    exact decide_eq_true Y.lo))
  rw [Y.tl] at h
  exact h
theorem Sep.ne (Y : Sep y s) (a : Str) : Txt.split a y ≠ [] := fun e => by
  have h := Y.spl a
  rw [e] at h
  exact spl_ne s _ _ h.symm
theorem Sep.back (Y : Sep y s) (a : Str) : Txt.join y (Txt.split a y) = a := by
  apply ext_tl
  rw [join_eq, tl_join, Y.tl, Y.spl, join_spl]; rfl
theorem Sep.part (Y : Sep y s) (a : Str) {p : Str} (h : p ∈ Txt.split a y) : p.length ≤ a.length ∧ ∀ c ∈ TL.tl p, c ∈ TL.tl a := by
  have k : TL.tl p ∈ TL.spl [s] 0 [] (TL.tl a) := by rw [← Y.spl]; exact List.mem_map_of_mem h
  obtain ⟨h1, h2⟩ := spl_sub s _ _ _ k
  rw [len_tl, len_tl]
  exact ⟨by simpa using h1, fun c hc => by simpa using h2 c hc⟩
theorem Sep.free (Y : Sep y s) (a : Str) {p : Str} (h : p ∈ Txt.split a y) : s ∉ TL.tl p := by
  have k : TL.tl p ∈ TL.spl [s] 0 [] (TL.tl a) := by rw [← Y.spl]; exact List.mem_map_of_mem h
  exact spl_free s _ _ (by simp) _ k
theorem Sep.count (Y : Sep y s) (a : Str) : (Txt.split a y).length ≤ a.length + 1 := by
  have h := congrArg List.length (Y.spl a)
  rw [List.length_map] at h
  rw [h, len_tl]
  exact spl_count s _ _
theorem Sep.whole (Y : Sep y s) (a : Str) (h : s ∉ TL.tl a) : Txt.split a y = [a] := by
  apply map_tl_inj
  rw [Y.spl, TL.spl_last1 h]; rfl
theorem Sep.read (Y : Sep y s) {ps : List Str} (hne : ps ≠ []) (h : ∀ p ∈ ps, s ∉ TL.tl p) : Txt.split (Txt.join y ps) y = ps := by
  apply map_tl_inj
  rw [Y.spl, join_eq, tl_join, Y.tl]
  refine TL.spl_join (fun e => hne (List.map_eq_nil_iff.mp e)) fun p hp => ?_
  obtain ⟨z, hz, rfl⟩ := List.mem_map.mp hp
  exact h z hz
theorem Sep.split (Y : Sep y s) (a : Str) (h : lim a.length = true) : splitD a (.str y) = some ((Txt.split a y).map D.str) := by
  unfold splitD
  have e : (y.length == 0) = false := by rw [len_tl, Y.tl]; rfl
  simp only [e, h]
  rfl
end
theorem spaceS : Sep (" " : Str) 32 := ⟨by rw [tl_ofString]; decide, by decide⟩
theorem lineS : Sep ("\n" : Str) 10 := ⟨by rw [tl_ofString]; decide, by decide⟩
end Fs

namespace Fs
open PySem L2 TL
open NumText (AllDigits digitsVal)
theorem chr_back {c : Nat} (h : c ≤ 57) : (Char.ofNat c).toNat = c := by
  have h2 : ∀ c : Nat, c < 58 → (Char.ofNat c).toNat = c := by decide
  exact h2 c (by omega)
theorem fig_num {cs : List Nat} (h : AllDigits cs) (hc : cs = [48] ∨ ∃ c r, cs = c :: r ∧ 49 ≤ c) : numL (digitsVal cs) = cs := by
  obtain ⟨n, hn⟩ : ∃ n, cs.length = n + 1 := by
    rcases hc with rfl | ⟨c, r, rfl, _⟩
    · exact ⟨0, rfl⟩
    · exact ⟨r.length, rfl⟩
  have e := NumText.toDigits_digitsVal n cs hn h (by
    rcases hc with rfl | z
    · exact .inl (by simpa using hn.symm)
    · exact .inr z)
  unfold numL
  rw [e, List.map_map]
  have : ∀ c ∈ cs, (Char.toNat ∘ Char.ofNat) c = c := fun c hc => chr_back (h c hc).2
  exact (List.map_congr_left this).trans (List.map_id _)
theorem val_lt : ∀ {cs : List Nat}, AllDigits cs → ∀ a : Nat, cs.foldl (fun acc c => acc * 10 + (c - 48)) a < (a + 1) * 10 ^ cs.length
  | [], _, a => by simp
  | c :: cs, h, a => by
    have hc := h.head
    have ih := val_lt h.tail (a * 10 + (c - 48))
    have e : (a * 10 + (c - 48) + 1) * 10 ^ cs.length ≤ (a + 1) * 10 ^ (cs.length + 1) := by
      rw [Nat.pow_succ]
      have : a * 10 + (c - 48) + 1 ≤ (a + 1) * 10 := by omega
      calc (a * 10 + (c - 48) + 1) * 10 ^ cs.length ≤ ((a + 1) * 10) * 10 ^ cs.length := Nat.mul_le_mul_right _ this
        _ = (a + 1) * (10 ^ cs.length * 10) := by rw [Nat.mul_assoc, Nat.mul_comm 10]
    exact Nat.lt_of_lt_of_le ih e
theorem tl_neg (k : Nat) : tl (Str.ofString (toString (Int.negSucc k))) = 45 :: numL (k + 1) := by
  have e : toString (Int.negSucc k) = "-" ++ toString (k + 1) := rfl
  rw [e, tl_ofString]
  have e2 := tl_num (k + 1)
  rw [tl_ofString] at e2
  have e3 : toString (((k + 1 : Nat) : Int)) = toString (k + 1) := rfl
  rw [e3] at e2
  rw [String.toList_append, List.map_append, e2]
  rfl
end Fs

namespace Fs
open PySem PySem.Spec PyProof.Rows L2
open PySem.HandSPX (refsVE)
/-- an own exception's __init__ -/
structure InD where
  cls : Str
  qual : Str
  params : Arguments
  body : List Stmt
  scope : Scope
abbrev FnI : Type := Option (Str × Str × Arguments × FuncBody × Scope × Addr × List Str × Addr)
def fnI (K : PySem.W.Frag) (f : Addr) : FnI := match K.lookup f with
  | some ⟨_, _, .func fd, _⟩ => some (fd.name, fd.qualname, fd.params, fd.body, fd.scope, fd.globals, fd.closure.map (·.1), fd.builtins)
  | _ => none
def InD.val (d : InD) : FnI := some ("__init__", d.qual, d.params, .stmts d.body, d.scope, mainGlobals, ["__class__"], builtinsNs)
def InD.at_ (K : PySem.W.Frag) (d : InD) : Addr := He.ma K (He.ga K d.cls) "__init__"
/-- the class, as an exception's over ValueError -/
def sxC (K : PySem.W.Frag) (C : Addr) : Bool := match K.lookup C with
  | some ⟨.type t, _, .cls cd, sl⟩ => decide (t = "type") && (cd.hasDict && (!cd.hasDel && ((match cd.mro with
    | .ref C' :: bm => decide (C' = C) && refsVE bm
    | _ => false) && (match sl.toList with
    | [_, _, _, _, some (.builtin n), _] => decide (n = "ValueError.__new__")
    | _ => false))))
  | _ => false
theorem sxC_ok {K : PySem.W.Frag} {C : Addr} (h : sxC K C = true) : ∃ nm q N bs bm sn sub ab col dd k0 k1 k2 k3 k5, K.lookup C = some (excClassObj nm q C N bs bm true sn sub ab col dd k0 k1 k2 k3 k5 "ValueError.__new__") ∧ refsVE bm = true := by
  unfold sxC at h
  split at h
  · rename_i t dd cd sl lk
    obtain ⟨h1, h⟩ := He.ba h
    obtain ⟨h2, h⟩ := He.ba h
    obtain ⟨h3, h⟩ := He.ba h
    obtain ⟨h4, h5⟩ := He.ba h
    split at h4
    · rename_i C' bm em
      obtain ⟨h6, h7⟩ := He.ba h4
      split at h5
      · rename_i k0 k1 k2 k3 n k5 es
        obtain ⟨nm, bs, mro, ns, qn, hd, sn, sub, ab, col, hdel⟩ := cd
        have e1 : t = "type" := of_decide_eq_true h1
        have e2 : hd = true := h2
        have e3 : hdel = false := by simpa using h3
        have e4 : mro = .ref C' :: bm := em
        have e5 : C' = C := of_decide_eq_true h6
        have e6 : n = "ValueError.__new__" := of_decide_eq_true h5
        have e7 : sl = #[k0, k1, k2, k3, some (.builtin n), k5] := by
          rw [← Array.toArray_toList (xs := sl), es]
        subst e1 e2 e3 e4 e5 e6 e7
        exact ⟨nm, qn, ns, bs, bm, sn, sub, ab, col, dd, k0, k1, k2, k3, k5, lk, h7⟩
      · cases h5
    · cases h4
  · cases h
/-- the function object of __init__ -/
def sxF (file : Str) (K : PySem.W.Frag) (C fI : Addr) (qual : Str) : Bool := match K.lookup fI with
  | some ⟨_, _, .func fd, _⟩ => (match fd.defaults with | .none => true | _ => false) && (PySem.W.codeIn K fd.code qual && ((match fd.code with
    | .ref cda => (match K.lookup cda with
      | some ⟨_, _, .fields vs, _⟩ => (match (vs[2]? : Option Value) with
        | some (.str f _) => file == f
        | _ => false)
      | _ => false)
    | _ => false) && (match fd.closure with
    | [(_, cc)] => (match K.lookup cc with
      | some ⟨_, _, .cell (some (.ref C')), _⟩ => decide (C' = C)
      | _ => false)
    | _ => false)))
  | _ => false
def inB (file : Str) (K : PySem.W.Frag) (d : InD) (names : List Str) : Bool :=
  sxC K (He.ga K d.cls) && (He.eqO (PySem.W.findIn K (.ref (He.ga K d.cls)) "__setattr__") (some (some (.builtin "object.__setattr__"))) &&
  (decide (PySem.W.subIn K (.ref (He.ga K d.cls)) (.type "BaseException") = some true) && (decide (PySem.W.typeIn K (.ref (He.ga K d.cls)) = some (.type "type")) &&
  (PySem.W.keepIn K (.ref (He.ga K d.cls)) && (He.eqO (PySem.W.findIn K (.ref (He.ga K d.cls)) "__init__") (some (some (.ref (d.at_ K)))) &&
  (decide (PySem.W.typeIn K (.ref (d.at_ K)) = some (.type "function")) && ((names.all fun n => He.eqO (PySem.W.findIn K (.ref (He.ga K d.cls)) n) (some none)) &&
  (He.eqO (PySem.W.ks_superIn K (He.ga K d.cls) (He.ga K d.cls) "__init__") (some (some (.builtin "ValueError.__init__"))) &&
  (decide (PySem.W.subIn K (.ref (He.ga K d.cls)) (.type "ValueError") = some true) && (He.eqO (PySem.W.nsIn K cStatics "thirdparty.any") (some none) &&
  (decide (PySem.W.mroIn K (He.ga K d.cls) (.ref (He.ga K d.cls)) = some true) && sxF file K (He.ga K d.cls) (d.at_ K) d.qual)))))))))))
/-- what the text of __init__ says -/
structure InS (d : InD) (names : List Str) : Prop where
  nd : names.Nodup
  tx : ∃ (msg : Str) (kk : Nat) (q0 q1 q2 q3 q4 q5 : Pos) (sts : List Stmt) (ar : Arg), d.body = supSt msg kk q0 q1 q2 q3 q4 q5 :: sts ∧ (q2.endLine == q4.line) = true ∧ FldSts names sts ∧ (d.params.posonlyargs ++ d.params.args).head? = some ar ∧ ar.arg = "self"
  s1 : d.scope.names.lookup ("super" : Str) = some .globalImplicit
  s2 : d.scope.names.lookup ("__class__" : Str) = some .free
  s3 : d.scope.names.lookup ("self" : Str) = some .local
  s4 : ∀ n ∈ names, d.scope.names.lookup n = some .local ∧ n ≠ "self"
  s5 : ∀ y ∈ d.scope.names, y.2 ≠ .cell
  s6 : d.scope.kind = .function ∧ d.scope.isCoroutine = false ∧ d.scope.isGenerator = false
  b : ∀ (kV doc pm : Value) (an : Option Addr) (cdv ct : Value) (cc : Addr) (s : Shared) (self : Value) (us : List Value), us.length = names.length → BindsTo s (PySem.W.ksFn "__init__" d.qual d.params d.body d.scope .none kV doc pm an cdv ct cc) ⟨self :: us, []⟩ (("self", self) :: names.zip us)
theorem in_sx {P : Program} {K : PySem.W.Frag} {mg : Str → Option Value} {d : InD} {names : List Str} (S : InS d names) (hb : inB P.main.file K d names = true) (hf : fnI K (d.at_ K) = d.val) (nsu : mg "super" = none) (top : (P.main.scope.names.lookup ("super" : Str)).isSome = false) :
    SxTxt P K mg (He.ga K d.cls) (d.at_ K) names := by
  unfold inB at hb
  obtain ⟨h1, hb⟩ := He.ba hb
  obtain ⟨h2, hb⟩ := He.ba hb
  obtain ⟨h3, hb⟩ := He.ba hb
  obtain ⟨h4, hb⟩ := He.ba hb
  obtain ⟨h5, hb⟩ := He.ba hb
  obtain ⟨h6, hb⟩ := He.ba hb
  obtain ⟨h7, hb⟩ := He.ba hb
  obtain ⟨h8, hb⟩ := He.ba hb
  obtain ⟨h9, hb⟩ := He.ba hb
  obtain ⟨h10, hb⟩ := He.ba hb
  obtain ⟨h11, hb⟩ := He.ba hb
  obtain ⟨h12, h13⟩ := He.ba hb
  refine ⟨sxC_ok h1, He.eqO_ok h2, of_decide_eq_true h3, of_decide_eq_true h4, h5, He.eqO_ok h6, of_decide_eq_true h7, fun n hn => He.eqO_ok (List.all_eq_true.mp h8 n hn), S.nd, He.eqO_ok h9, of_decide_eq_true h10, He.eqO_ok h11, of_decide_eq_true h12, nsu, top, ?_⟩
  unfold sxF at h13
  split at h13
  · rename_i oc od fd osl lk
    unfold fnI at hf
    rw [lk] at hf
    obtain ⟨n1, n2, n3, n4, n5, n6, n7, n8, n9, n10, n11, n12, n13, n14, n15⟩ := fd
    have e2 : (some (n1, n2, n3, n4, n5, n6, n7.map (·.1), n15) : FnI) = (some (("__init__" : Str), d.qual, d.params, FuncBody.stmts d.body, d.scope, mainGlobals, [("__class__" : Str)], builtinsNs) : FnI) := hf
    simp only [Option.some.injEq, Prod.mk.injEq] at e2
    obtain ⟨f1, f2, f3, f4, f5, f6, f7, f8⟩ := e2
    obtain ⟨k1, h13⟩ := He.ba h13
    obtain ⟨k2, h13⟩ := He.ba h13
    obtain ⟨k3, k4⟩ := He.ba h13
    have k2 : PySem.W.codeIn K n13 d.qual = true := k2
    split at k1
    · rename_i en8
      have en8 : n8 = .none := en8
      split at k3
      · rename_i cda ec
        have ec : n13 = .ref cda := ec
        split at k3
        · rename_i ccl cdd vs ccs lkc
          split at k3
          · rename_i file tf ev
            split at k4
            · rename_i xx cc ecl
              have ecl : n7 = [(xx, cc)] := ecl
              split at k4
              · rename_i cl cld C' csl lkcc
                have eC : C' = He.ga K d.cls := of_decide_eq_true k4
                have exx : xx = "__class__" := by rw [ecl] at f7; simpa using f7
                subst exx eC en8 ec ecl f1 f2 f3 f4 f5 f6 f8
                obtain ⟨msg, kk, q0, q1, q2, q3, q4, q5, sts, ar, t1, t2, t3, t4, t5⟩ := S.tx
                have sb := S.b
                rw [t1] at lk sb
                exact ⟨d.params, msg, kk, q0, q1, q2, q3, q4, q5, sts, d.scope, ar, oc, od, .none, n9, n10, n11, n12, cda, n14, cc, osl, d.qual, ccl, cl, cdd, cld, ccs, csl, vs, file, tf, lk, k2, lkc, ev, k3, lkcc, t2, t3, t4, t5, S.s1, S.s2, S.s3, S.s4, S.s5, S.s6.1, S.s6.2.1, S.s6.2.2, fun s self us hu => sb _ _ _ _ _ _ _ s self us hu⟩
              · cases k4
            · cases k4
          · cases k3
        · cases k3
      · cases k3
    · cases k1
  · cases h13
def insB (K : PySem.W.Frag) (C : Addr) : Bool := He.eqO (PySem.W.findIn K (.ref C) "__class__") (some (some (.builtin "object.__class__"))) && (He.eqO (PySem.W.specialIn K (.builtin "object.__class__") "__get__") (some (some (.builtin "getset_descriptor.__get__"))) &&
  (decide (PySem.W.takesIn K (.builtin "object.__class__") = some true) && decide (PySem.W.mroIn K C (.type "object") = some true)))
theorem insB_ok {K : PySem.W.Frag} {C : Addr} (c : Cls K C) (h : insB K C = true) : InsTy K C := by
  unfold insB at h
  obtain ⟨h1, h⟩ := He.ba h
  obtain ⟨h2, h⟩ := He.ba h
  obtain ⟨h3, h4⟩ := He.ba h
  exact ⟨c, He.eqO_ok h1, He.eqO_ok h2, of_decide_eq_true h3, of_decide_eq_true h4⟩
def exB (K : PySem.W.Frag) (C : Addr) : Bool := He.eqO (PySem.W.findIn K (.ref C) "__getattribute__") (some (some (.builtin "BaseException.__getattribute__"))) && (He.eqO (PySem.W.findIn K (.ref C) "__getattr__") (some none) &&
  (decide (PySem.W.subIn K (.ref C) (.type "BaseException") = some true) && (PySem.W.hasDictIn K C && insB K C)))
theorem exB_ok {K : PySem.W.Frag} {C : Addr} (h : exB K C = true) : ExcC K C := by
  unfold exB insB at h
  obtain ⟨h1, h⟩ := He.ba h
  obtain ⟨h2, h⟩ := He.ba h
  obtain ⟨h3, h⟩ := He.ba h
  obtain ⟨h4, h⟩ := He.ba h
  obtain ⟨h5, h⟩ := He.ba h
  obtain ⟨h6, h⟩ := He.ba h
  obtain ⟨h7, h8⟩ := He.ba h
  exact ⟨He.eqO_ok h1, He.eqO_ok h2, of_decide_eq_true h3, h4, He.eqO_ok h5, He.eqO_ok h6, of_decide_eq_true h7, of_decide_eq_true h8⟩
def kitB (K : PySem.W.Frag) (t c : Value) (b : Bool) : Bool := decide (PySem.W.kitOne K t c = some b)
theorem kitB_ok {K : PySem.W.Frag} {t c : Value} {b : Bool} (h : kitB K t c b = true) : PySem.W.kitOne K t c = some b := of_decide_eq_true h
def isTB (K : PySem.W.Frag) (t n : String) (b : Bool) : Bool := kitB K (.type t) (.type n) b
theorem isTB_ok {K : PySem.W.Frag} {t n : String} {b : Bool} (h : isTB K t n b = true) : isCD K (.type t) (.ty n) = some b := kitB_ok h
def isCB (K : PySem.W.Frag) (t : Value) (C : Addr) (b : Bool) : Bool := (K.lookup C).isSome && kitB K t (.ref C) b
theorem isCB_ok {K : PySem.W.Frag} {t : Value} {C : Addr} {b : Bool} (h : isCB K t C b = true) : isCD K t (.adr C) = some b := by
  obtain ⟨h1, h2⟩ := He.ba h
  show (match (K.lookup C).isSome with | true => PySem.W.kitOne K t (.ref C) | false => none) = _
  rw [h1]
  exact kitB_ok h2
theorem all_at {l : List Bool} (h : l.all id = true) (i : Nat) {b : Bool} (e : l[i]? = some b) : b = true := List.all_eq_true.mp h b (List.mem_of_getElem? e)
section
variable {K : PySem.W.Frag} {x qual : Str} {st : Stmt} {fd : FuncData}
theorem fun_of {f : Addr} (F : FunD K x qual (defArgs st) (defBody st) (defScope st) [] [] f fd) : Fun K x qual st f fd := by
  obtain ⟨oc, od, dV, kV, doc, pm, an, cdv, ct, osl, e, lk, hc, hD, hK⟩ := F.ex
  rcases hD with ⟨_, rfl⟩ | ⟨ne, _⟩
  · exact ⟨⟨oc, od, kV, doc, pm, an, cdv, ct, osl, e, lk, hc⟩, F.kp⟩
  · exact absurd rfl ne
theorem code_of {p : Str × Option Str} {params : Arguments} {body : List Stmt} {scope : Scope} (F : FunD K x qual params body scope [] [] (He.fAd K p) fd) : fd.code = .ref (He.codeOf K p) := by
  obtain ⟨oc, od, dV, kV, doc, pm, an, cdv, ct, osl, e, lk, hc, hD, hK⟩ := F.ex
  obtain ⟨c, ec⟩ := He.codeIn_ref hc
  have e2 : fd.code = .ref c := by rw [e, ← ec]
  rw [e2, He.codeOf_eq lk e2]
def fdOf (K : PySem.W.Frag) (p : Str × Option Str) : FuncData := match K.lookup (He.fAd K p) with
  | some ⟨_, _, .func fd, _⟩ => fd
  | _ => default
theorem fd_of {p : Str × Option Str} {params : Arguments} {body : List Stmt} {scope : Scope} (F : FunD K x qual params body scope [] [] (He.fAd K p) fd) : fd = fdOf K p := by
  obtain ⟨oc, od, dV, kV, doc, pm, an, cdv, ct, osl, e, lk, hc, hD, hK⟩ := F.ex
  unfold fdOf
  rw [lk]
end
structure Hd where
  n : Nat
  fa : List He.Fa
  fn : List He.DefD
  is : List InD
  tf : List He.Defn
  ex : PySem.W.Frag → Bool
def asZ (g : Addr → Option Obj) (n : Nat) : List Addr := He.asD g n ++ [cStatics, sysModules]
abbrev AlZ : Type := (He.AlD × List FnI) × Bool
def obsK (z : Hd) (g : Addr → Option Obj) (K : PySem.W.Frag) : AlZ := ((He.obsD z.fa z.fn K, z.is.map fun d => fnI K (d.at_ K)), z.ex K && He.tabsB g z.tf K)
def obsZ (z : Hd) (g : Addr → Option Obj) : AlZ := obsK z g (He.frT g (asZ g z.n))
def valZ (z : Hd) : AlZ := ((He.valD z.fn, z.is.map InD.val), true)
structure SaysZ (z : Hd) (h : Heap) (K : PySem.W.Frag) : Prop where
  d : He.SaysD z.fa z.fn K
  i : z.is.map (fun d => fnI K (d.at_ K)) = z.is.map InD.val
  more : z.ex K = true
  hd : ∀ p ∈ z.tf, PySem.W.codeHdIn K (He.cT K p).1 (He.cT K p).2 = true
  out : ∀ p ∈ z.tf, K.lookup (He.cT K p).2 = none
  empty : ∀ p ∈ z.tf, h.get? (He.cT K p).2 = some { cls := .none, data := .fields #[] }
theorem saysZ_of {z : Hd} {h : Heap} (e : obsZ z h.get? = valZ z) : SaysZ z h (He.frT h.get? (asZ h.get? z.n)) := by
  unfold obsZ at e
  obtain ⟨K, hK⟩ : ∃ K, K = He.frT h.get? (asZ h.get? z.n) := ⟨_, rfl⟩
  have e1 : He.obsD z.fa z.fn K = He.valD z.fn := by rw [hK]; exact congrArg (fun q : AlZ => q.1.1) e
  have e3 : z.is.map (fun d => fnI K (d.at_ K)) = z.is.map InD.val := by rw [hK]; exact congrArg (fun q : AlZ => q.1.2) e
  have e2 : (z.ex K && He.tabsB h.get? z.tf K) = true := by rw [hK]; exact congrArg (fun q : AlZ => q.2) e
  obtain ⟨h1, h2⟩ := He.ba e2
  have key : ∀ p ∈ z.tf, PySem.W.codeHdIn K (He.cT K p).1 (He.cT K p).2 = true ∧ ∃ o, h.get? (He.cT K p).2 = some o ∧ He.emptyTab o = true := fun p hp => by
    obtain ⟨h3, h4⟩ := He.ba (List.all_eq_true.mp h2 p hp)
    refine ⟨h3, ?_⟩
    cases q : h.get? (He.cT K p).2 with
    | none => rw [q] at h4; cases h4
    | some o => rw [q] at h4; exact ⟨o, rfl, h4⟩
  rw [← hK]
  exact ⟨e1, e3, h1, fun p hp => (key p hp).1, fun p hp => by
    obtain ⟨_, o, q, t⟩ := key p hp
    have z := He.frT_none (as := asZ h.get? z.n) q t
    rw [← hK] at z
    exact z, fun p hp => by
    obtain ⟨_, o, q, t⟩ := key p hp
    rw [q, He.emptyTab_eq t]⟩
def hookZ (z : Hd) : PySem.W.Hook where
  α := AlZ
  obs := fun s => obsZ z s.heap.get?
  val := fun _ => valZ z
  says := fun _ h => ∃ K : PySem.W.Frag, K.In h ∧ SaysZ z h K
  of := fun _ _ e => ⟨_, He.frT_in, saysZ_of e⟩
  keeps := fun _ _ _ ⟨K, hK, c⟩ k => ⟨K, PySem.W.Frag.In.keeps hK k, c.d, c.i, c.more, c.hd, c.out, fun p hp => k _ _ (c.empty p hp)⟩
theorem obsZ_eq {z : Hd} {g : Addr → Option Obj} {s : Shared} (h : ∀ a, g a = s.heap.get? a) : obsZ z g = (hookZ z).obs s := by
  have e : g = s.heap.get? := funext h
  rw [e] <;> rfl
theorem SaysZ.ini {z : Hd} {h : Heap} {K : PySem.W.Frag} (c : SaysZ z h K) (i : Nat) {d : InD} (hd : z.is[i]? = some d) : fnI K (d.at_ K) = d.val := by
  have e2 : (z.is.map fun d => fnI K (d.at_ K))[i]? = (z.is.map InD.val)[i]? := by rw [c.i]
  rw [List.getElem?_map, List.getElem?_map, hd] at e2
  exact Option.some.inj e2
section
variable {P : Program} {w : World} {K : PySem.W.Frag} {mg : Str → Option Value} {base : Heap}
theorem fnok_of {x qual : Str} {st : Stmt} {f : Addr} {fd : FuncData} {N ps : List Str} {k : Nat} {rd : XK → TS} (F : Fun K x qual st f fd) (S : FnScope N ps (defScope st))
    (hbody : ∀ (cdv : Value) (A : Around) (outer : List Env) (s : Shared) (H : Hp) (E : XK), Room k (A.deeper (envOfC qual (defScope st) s.heap.objs.size f cdv)) →
      PSs (cxOf (L2.CX P w) P w K mg base N qual (defScope st) f cdv A outer s H E) (defBody st) (rd E)) : FnOk P w K mg base (L2.CX P w) (k + 1) f fd ps (spR N ps.length rd) :=
  F.okX S (fun vs H Q E h => h.1) fun cdv A outer s H vs Q E hr h => ⟨rd E, hbody cdv A outer s H E hr, h.2⟩
theorem fnok_ofC {x qual : Str} {st : Stmt} {f cd : Addr} {fd : FuncData} {N ps : List Str} {k : Nat} {rd : XK → TS} (F : Fun K x qual st f fd) (hc : fd.code = .ref cd) (S : FnScope N ps (defScope st))
    (hbody : ∀ (A : Around) (outer : List Env) (s : Shared) (H : Hp) (E : XK), Room k (A.deeper (envOfC qual (defScope st) s.heap.objs.size f (.ref cd))) →
      PSs (cxOf (L2.CX P w) P w K mg base N qual (defScope st) f (.ref cd) A outer s H E) (defBody st) (rd E)) : FnOk P w K mg base (L2.CX P w) (k + 1) f fd ps (spR N ps.length rd) := by
  obtain ⟨oc, od, kV, doc, pm, an, cdv, ct, osl, rfl, lk, hcd⟩ := F.ex
  obtain rfl : cdv = .ref cd := hc
  exact fn_of lk hcd S (fun vs H Q E h => h.1) fun A outer s H vs Q E hr h => ⟨rd E, hbody A outer s H E hr, h.2⟩
end
end Fs

namespace Fs
open PySem PySem.Spec PyProof.Rows L2
def rdPen (K : PySem.W.Frag) : TS := tRet (tLst (tCons (tCB mLst (tCons (L2.tSl (rSlG K) (tV 0) tNoPart (tPa (tC (.int 63)))) tNil)) (tCons (tC (.int 0)) (tCons (tC (.int 0)) tNil))))
theorem cut63 {α : Type} (f : α → V) (xs : List α) (h : xs.length ≤ 63) : cutV (xs.map f) none (some 63) = xs.map f := by
  unfold cutV
  have e1 : HT.sIx (xs.map f).length 0 none = 0 := rfl
  have e2 : HT.sIx (xs.map f).length (xs.map f).length (some 63) = xs.length := by
    have := HT.sIx_nat (xs.map f).length (xs.map f).length 63
    rw [show (some 63 : Option Int) = some ((63 : Nat) : Int) from rfl, this, List.length_map]
    omega
  rw [e1, e2, List.drop_zero, Nat.sub_zero, List.take_of_length_le (by rw [List.length_map]; exact Nat.le_refl _)]
theorem tabs_empty {T : List (Addr × Str)} {H : Hp} (h : ∀ t ∈ T, H t.1 = some (.tbl #[])) : LamX.Tabs T H := fun t ht => ⟨#[], h t ht, by first | exact trivial | (intro x hx; cases hx) | decide, fun pos cv hc => by cases hc⟩
/-- the law's promise, from what it computes behind the pen -/
theorem law_sp {K : PySem.W.Frag} {T : List (Addr × Str)} {H : Hp} {a : Addr} {ns : List Int} {Np N : List Str} {rt : XK → TS} {f : PenA → Rho → M PenS Out}
    (hn : 2 ≤ N.length) (hT : ∀ t ∈ T, H t.1 = some (.tbl #[])) (hS : SqL K H a (ns.map V.int)) (hl : ns.length ≤ 63) (hb : ∀ z ∈ ns, Builtin.Int.intBits z ≤ 1048576)
    (S : ∀ L : PenA, L.T = T → L.p ≠ L.c → (∀ t ∈ L.T, L.p ≠ t.1) → StD (penC K L) rt (f L))
    (R : ∀ L : PenA, L.T = T → L.p ≠ L.c → (∀ t ∈ L.T, L.p ≠ t.1) → L.cells = ns → ∃ s', f L (.no :: .val (.adr L.p) :: List.replicate (N.length - 2) .no) ⟨0, 0⟩ = .ok (.rt (.bl true)) s') :
    spR N 1 (fun E => tSeq (tAsg (tCallF (spR Np 1 fun _ => rdPen K) E (tCons (tV 0) tNil)) (gName 1)) (rt E)) [.ref a] H (fun v _ => v = .bl true) fun _ _ _ => False := by
  obtain ⟨σ, hσ⟩ : ∃ σ, σ = start N [V.ref a] := ⟨_, rfl⟩
  have lσ : σ.length = N.length := by
    rw [hσ]
    simp only [L2.start, List.length_append, List.length_map, List.length_replicate, List.length_cons, List.length_nil]
    omega
  have z0 : σ[0]? = some (some (.ref a)) := by rw [hσ]; rfl
  refine ⟨rfl, ?_⟩
  rw [← hσ]
  show tV 0 σ H _
  unfold tV
  rw [z0]
  refine ⟨rfl, ?_⟩
  show tV 0 (L2.start Np [V.ref a]) H (fun x H1 => rSlG K x none (some 63) H1 _)
  have z1 : (L2.start Np [V.ref a])[0]? = some (some (.ref a)) := rfl
  unfold tV
  rw [z1]
  refine .inl ⟨a, ns.map V.int, rfl, hS, fun p0 hp0 => ?_⟩
  rw [cut63 V.int ns hl]
  have x0 : Ext All H (upd H p0 (.lst (ns.map V.int))) := Ext.new hp0
  have k0 : look (upd H p0 (.lst (ns.map V.int))) p0 = some (.lst (ns.map V.int)) := look_upd (by intro w u z; cases z)
  show mLst [.ref p0] (upd H p0 (.lst (ns.map V.int))) _
  unfold mLst one
  simp only [k0]
  intro c hc
  have x1 : Ext All (upd H p0 (.lst (ns.map V.int))) (upd (upd H p0 (.lst (ns.map V.int))) c (.lst (ns.map V.int))) := Ext.new hc
  have ec : (upd (upd H p0 (.lst (ns.map V.int))) c (.lst (ns.map V.int))) c = some (.lst (ns.map V.int)) := upd_same
  have x01 := x0.trans x1
  generalize upd (upd H p0 (.lst (ns.map V.int))) c (.lst (ns.map V.int)) = H2 at *
  refine ⟨by show 3 ≤ sizeLine; decide, fun p hp => ?_⟩
  have x2 : Ext All H2 (upd H2 p (.lst [.ref c, .int 0, .int 0])) := Ext.new hp
  have x02 := x01.trans x2
  have hpc : p ≠ c := fun e => by rw [e, ec] at hp; cases hp
  have hT2 : ∀ t ∈ T, (upd H2 p (.lst [.ref c, .int 0, .int 0])) t.1 = some (.tbl #[]) := fun t ht => x02.1 _ _ (.inl trivial) (hT t ht)
  have hpT : ∀ t ∈ T, p ≠ t.1 := fun t ht e => by
    have := hT2 t ht
    rw [← e, upd_same] at this
    cases this
  have hcT : ∀ t ∈ T, c ≠ t.1 := fun t ht e => by
    have h1 := x01.1 _ _ (.inl trivial) (hT t ht)
    rw [← e, ec] at h1
    cases h1
  obtain ⟨L, hL⟩ : ∃ L : PenA, L = ⟨p, c, ns, T⟩ := ⟨_, rfl⟩
  have hc3 : (upd H2 p (.lst [.ref c, .int 0, .int 0])) c = some (.lst (ns.map V.int)) := by rw [upd_ne (Ne.symm hpc)]; exact ec
  have hp3 : (upd H2 p (.lst [.ref c, .int 0, .int 0])) p = some (.lst [.ref c, .int 0, .int 0]) := upd_same
  generalize upd H2 p (.lst [.ref c, .int 0, .int 0]) = H3 at *
  have I : (penC K L).I ⟨0, 0⟩ H3 := by rw [hL]; exact ⟨hp3, hc3, tabs_empty hT2⟩
  have nw : ∀ b, H3 b = none → (penC K L).ok b := fun b hb => by
    rw [hL]
    refine ⟨⟨fun e => ?_, fun t ht e => ?_⟩, fun e => ?_⟩
    · rw [e, hp3] at hb; cases hb
    · rw [e, hT2 t ht] at hb; cases hb
    · rw [e, hc3] at hb; cases hb
  obtain ⟨s', hr⟩ := R L (by rw [hL]) (by rw [hL]; exact hpc) (by rw [hL]; exact hpT) (by rw [hL])
  have rel : Rel (penC K L).toPl ⟨H3, (penC K L).ok, none⟩ (penC K L).ok (.no :: .val (.adr L.p) :: List.replicate (N.length - 2) .no) (σ.set 1 (some (.ref p))) H3 := by
    refine ⟨?_, ExL.refl _ _ _, nw, nw, fun _ h => h, fun _ h => h, fun i sl e => ?_, fun i j oi oj b e1 e2 _ _ => ?_⟩
    · simp only [List.length_cons, List.length_replicate, List.length_set]
      omega
    · cases i with
      | zero => cases e; trivial
      | succ i =>
        cases i with
        | zero =>
          cases e
          refine ⟨.ref p, List.getElem?_set_self (by omega), ?_⟩
          rw [hL]
          exact .adr p
        | succ i =>
          have e : (List.replicate (N.length - 2) Sl.no)[i]? = some sl := e
          rw [List.getElem?_replicate] at e
          split at e
          · cases e; trivial
          · cases e
    · cases i with
      | zero => cases e1
      | succ i =>
        cases i with
        | zero => cases e1
        | succ i =>
          have e : (List.replicate (N.length - 2) Sl.no)[i]? = some (.own oi) := e1
          rw [List.getElem?_replicate] at e
          split at e <;> cases e
  refine S L (by rw [hL]) (by rw [hL]; exact hpc) (by rw [hL]; exact hpT) ⟨H3, (penC K L).ok, none⟩ (penC K L).ok _ _ H3 ⟨0, 0⟩ _ _ rel I ?_
  rw [hr]
  intro A1 v H1 hv _ _ _
  cases hv
  rfl
theorem bits_nat {z : Int} {n : Nat} (h : Builtin.Int.intBits z ≤ n) : z.natAbs < 2 ^ n := by
  unfold Builtin.Int.intBits at h
  split at h
  · rename_i e
    have : z.natAbs = 0 := by simpa using e
    rw [this]
    exact Nat.two_pow_pos n
  · exact Nat.lt_of_lt_of_le Nat.lt_log2_self (Nat.pow_le_pow_right (by decide) h)
end Fs

namespace Fs
open PySem PySem.Spec PyProof.Rows L2
open LamX (CodeO Tabs TabS ExtN TabB)
abbrev LF.nf (F : LF) (c : Addr) : NdefX.NF := ⟨"<lambda>", F.qual, F.params, [], F.scope, [], c⟩
theorem lmO_at {P : Program} {w : World} {H : Hp} {h : Heap} {f c : Addr} {F : LF} (hok : HOk P w H h) (e : H f = some (LmO f F c)) : ∃ (pm ctv : Value) (od : Option Addr) (sl : Array (Option Value)), h.get? f = some (⟨.type "function", od, .func (PySem.W.kla_fn "<lambda>" F.qual F.params F.body F.scope [] pm (.ref c) ctv), sl⟩ : Obj) := by
  obtain ⟨z, _, _⟩ := hok f _ e
  exact z
section
variable {X : Cx} {pins : List (Addr × Obj)} {σ : L2.St} {H : Hp} {s : Shared}
theorem inv_lm {F : LF} {c : Addr} {o : Obj} {t' : Nat} {pm ctv : Value} (I : Inv X pins σ H s) (ho : o = { cls := .type "function", data := .func (PySem.W.kla_fn "<lambda>" F.qual F.params F.body F.scope [] pm (.ref c) ctv) }) :
    Inv X pins σ (upd H s.heap.objs.size (LmO s.heap.objs.size F c)) { s with heap := s.heap.push o, toks := t' } := by
  subst ho
  refine I.laid (a := s.heap.objs.size) (fun b u e => Heap.get?_push_of_some _ e) (Nat.le_refl _) ?_
  have e : (s.heap.push ({ cls := .type "function", data := .func (PySem.W.kla_fn "<lambda>" F.qual F.params F.body F.scope [] pm (.ref c) ctv) } : Obj)).get? s.heap.objs.size = some ({ cls := .type "function", data := .func (PySem.W.kla_fn "<lambda>" F.qual F.params F.body F.scope [] pm (.ref c) ctv) } : Obj) := Heap.get?_push_size _ rfl
  exact ⟨⟨pm, ctv, _, _, e⟩, ⟨_, e⟩, fun h1 h2 ⟨p, t, od, sl, z⟩ st => ⟨p, t, od, sl, st _ z⟩⟩
theorem lam_mk {T : List (Addr × Str)} {c P : Addr} {params : Arguments} {body : Expr} {scope : Scope} {pos : Pos} {E : Value → Shared → Prop} {Q : Value → Shared → Prop} (I : Inv X pins σ H s) (TB : TabB X.base X.mg c P) (hcode : X.env.code = .ref c)
    (hm : (P, X.env.qual ++ "<lambda>") ∈ T) (hu : ∀ p ∈ T, p.1 = P → p.2 = X.env.qual ++ "<lambda>") (hT : Tabs T H) (hdef : defaultsOf params X.env = ([], [])) (hfree : ∀ y ∈ scope.names, y.2 = .free → ∃ c, X.env.cells.lookup y.1 = some c) (hcl : cloFrom X.env.cells scope.names [] = [])
    (h : ∀ (f cl : Addr) (H1 : Hp) (s1 : Shared), Inv X pins σ (upd H1 f (LmO f ⟨X.env.qual ++ "<lambda>", params, body, scope⟩ cl)) s1 → LamTo T (X.env.qual ++ "<lambda>") H H1 cl → H1 f = none → Q (.ref f) s1) :
    wpAny (model X.prog X.w) X.A (eval (.Lambda params body scope pos) X.env) Q E s := by
  obtain ⟨ps, hP, ht, ha⟩ := hT _ hm
  refine PySem.W.kla_eval hdef ?_
  have atP : s.heap.get? P = some { cls := .none, data := .fields ps } := I.hok P _ hP
  match hc : codeAmong pos ps.toList with
  | some cv =>
    obtain ⟨cl, e, hco⟩ := ha pos cv hc
    cases e
    refine PySem.W.kla_makeFunctionHit (mg := X.mg) (c := c) (P := P) (ps := ps) (closure_ok hfree) I.ok.glob (I.mod.glob.keeps I.bk) hcode (TB.code.keeps I.bk) atP ht hc (TB.bm.keeps I.bk) fun ctv hz tk hx hsz => ?_
    rw [hcl]
    have I1 : Inv X pins σ H { s with heap := hz, toks := tk } := I.kept (t' := tk) hx
    exact h hz.objs.size cl H _ (inv_lm (F := ⟨X.env.qual ++ "<lambda>", params, body, scope⟩) (t' := tk) I1 rfl) ⟨hco, hT, .inl rfl⟩ (I1.hok.fresh (Nat.le_refl _))
  | none =>
    refine PySem.W.kla_makeFunction (mg := X.mg) (c := c) (P := P) (ps := ps) (closure_ok hfree) I.ok.glob (I.mod.glob.keeps I.bk) hcode (TB.code.keeps I.bk) atP ht hc TB.gP (TB.bm.keeps I.bk) fun cl ctv hz tk hx hge hlt hrec htb => ?_
    obtain ⟨c2, oc, vs, t, e2, hoc, hd, hv⟩ := hrec
    cases e2
    rw [hcl]
    have nC : H cl = none := I.hok.fresh hge
    have kept : ∀ b o, H b = some o → (∀ ps, o ≠ .tbl ps) → (upd (upd H P (.tbl (ps ++ #[rawInt pos.line, rawInt pos.col, .ref cl]))) cl (CodeO cl (X.env.qual ++ "<lambda>"))) b = some o := fun b o e n => by
      rw [upd_ne (ne_of_none e nC), upd_ne (fun z => n ps (Option.some.inj (e.symm.trans (by rw [z]; exact hP))))]
      exact e
    have I1 := LamX.inv_table (t' := tk) (q := X.env.qual ++ "<lambda>") (more := #[rawInt pos.line, rawInt pos.col, .ref cl]) (h' := hz) I hP (fun b o hb e => hx b o hb e) htb hge ⟨oc, vs, t, hoc, hd, hv⟩
    refine h hz.objs.size cl _ _ (inv_lm (F := ⟨X.env.qual ++ "<lambda>", params, body, scope⟩) (t' := tk) I1 rfl) ⟨upd_same, fun p hp => ?_, .inr ⟨P, ps, _, hm, hP, nC, rfl⟩⟩ (I1.hok.fresh (Nat.le_refl _))
    · have toL : (ps ++ #[rawInt pos.line, rawInt pos.col, .ref cl]).toList = ps.toList ++ [rawInt pos.line, rawInt pos.col, .ref cl] := by simp
      by_cases hb : p.1 = P
      · rw [hu p hp hb, hb]
        refine ⟨_, by rw [upd_ne (ne_of_none hP nC), upd_same], by rw [toL]; exact PySem.TriplesOk_snoc _ _ _ _ ht, fun p2 cv hcv => ?_⟩
        rw [toL] at hcv
        rcases LamX.among_app _ ht hcv with z | z
        · obtain ⟨c0, e1, e2⟩ := ha p2 cv z
          exact ⟨c0, e1, kept _ _ e2 LamX.codeO_ne⟩
        · exact ⟨cl, z, upd_same⟩
      · obtain ⟨qs, a1, a2, a3⟩ := hT p hp
        refine ⟨qs, by rw [upd_ne (ne_of_none a1 nC), upd_ne hb]; exact a1, a2, fun p2 cv hcv => ?_⟩
        obtain ⟨c0, e1, e2⟩ := a3 p2 cv hcv
        exact ⟨c0, e1, kept _ _ e2 LamX.codeO_ne⟩
end
/-- a lambda that captures nothing, as a value -/
def tFn (T : List (Addr × Str)) (F : LF) : TE := fun σ H Q => Tabs T H ∧ ∀ (f c : Addr) (H1 : Hp), LamTo T F.qual H H1 c → H1 f = none → Q (.ref f) (upd H1 f (LmO f F c))
theorem pe_fn {X : Cx} {T : List (Addr × Str)} {c P : Addr} {params : Arguments} {body : Expr} {scope : Scope} {pos : Pos} (TB : TabB X.base X.mg c P) (hcode : X.env.code = .ref c)
    (hm : (P, X.env.qual ++ "<lambda>") ∈ T) (hu : ∀ p ∈ T, p.1 = P → p.2 = X.env.qual ++ "<lambda>") (hdef : defaultsOf params X.env = ([], [])) (hfree : scope.names.all (fun y => !decide (y.2 = .free)) = true) (hcl : cloFrom X.env.cells scope.names [] = []) :
    PE X (.Lambda params body scope pos) (tFn T ⟨X.env.qual ++ "<lambda>", params, body, scope⟩) := by
  refine ⟨fun pins s σ H Q I h => ?_⟩
  obtain ⟨hT, h⟩ := h
  refine lam_mk I TB hcode hm hu hT hdef (fun y hy e => ?_) hcl fun f cl H1 s1 I1 lt n => ⟨.ref f, _, I1, rfl, h f cl H1 lt n⟩
  have z := List.all_eq_true.mp hfree y hy
  rw [e] at z
  cases z
/-- the promise of the lambda F -/
def LamOk (P : Program) (w : World) (K : PySem.W.Frag) (mg : Str → Option Value) (base : Heap) (CX : CXT) (k : Nat) (F : LF) (sp : Sp) : Prop :=
  ∀ (A : Around) (outer : List Env) (s : Shared) (H : Hp) (us : List Value) (vs : List V) (f c : Addr) (Q : VK) (E : XK), Room k A → Env0 P w K mg base A outer s H → H f = some (LmO f F c) → H c = some (CodeO c F.qual) → Vals vs us → sp vs H Q E →
    codeAny (model P w) A (.call (.ref f) ⟨us, []⟩) (CR CX outer P w H s Q E) s
theorem startF_nil {N : List Str} {vs : List V} : NdefX.startF N vs [] = L2.start N vs := by
  unfold NdefX.startF L2.start
  simp
theorem cells_nil {h : Heap} {H : Hp} : NdefX.CellsAt [] [] [] h H := ⟨rfl, fun y c e => by simp at e, fun x y c e _ => by simp at e, fun i y e => by simp at e⟩
section
variable {P : Program} {w : World} {K : PySem.W.Frag} {mg : Str → Option Value} {base : Heap} {CX : CXT}
theorem LamOk.mono {j k : Nat} {F : LF} {sp : Sp} (h : LamOk P w K mg base CX j F sp) (l : j ≤ k) : LamOk P w K mg base CX k F sp := fun A outer s H us vs f c Q E hr => h A outer s H us vs f c Q E (hr.mono l)
theorem lamok_of {N ps : List Str} {F : LF} {k : Nat} {tb : XK → TE} (S : NdefX.NScope N ps [] F.scope) (hb : ∀ (pm cv ctv : Value) (us : List Value), us.length = ps.length → bindArgs (PySem.W.kla_fn "<lambda>" F.qual F.params F.body F.scope [] pm cv ctv) ⟨us, []⟩ = pure (ps.zip us))
    (hbody : ∀ (A : Around) (outer : List Env) (s : Shared) (H : Hp) (E : XK) (f c : Addr), Room k (A.deeper (NdefX.envF (F.nf c) f s.heap.objs.size)) → PE (NdefX.ncx CX P w K mg base N (F.nf c) f A outer s H E) F.body (tb E)) :
    LamOk P w K mg base CX (k + 1) F (spR N ps.length fun E => tRet (tb E)) := fun A outer s H us vs f c Q E hr e0 hf hc r hsp => by
  obtain ⟨hl, ht⟩ := hsp
  have lim : s.heap.NoLimit := e0.mod.nolimit.keeps fun b o e => (e0.bs b o e).1
  obtain ⟨pm, ctv, od, sl, ho⟩ := lmO_at e0.hok hf
  obtain ⟨⟨oc, ws, t, hoc, hdc, hvc⟩, _, _⟩ := e0.hok c _ hc
  refine PySem.W.kla_callFunE hr.depth ho rfl S.co S.gen rfl ⟨c, oc, ws, t, rfl, hoc, hdc, hvc⟩ ?_
  rw [hb pm (.ref c) ctv us (by rw [← r.length]; exact hl)]
  refine wpAny_pure (wpAny_newFunctionEnv S.nocell (fun ⟨n, _⟩ hy => S.par n (List.of_mem_zip hy).1) (fun h₁ hns hsb => ⟨lim.fresh _ hsb, ?_⟩) S.kind)
  show codeAny _ _ (.expr F.body (NdefX.envF (F.nf c) f s.heap.objs.size)) _ _
  have kp : ∀ b o, s.heap.get? b = some o → h₁.get? b = some o := fun b o e => hsb.extBut b o (Nat.ne_of_lt (Heap.lt_size e)) (Heap.get?_push_of_some _ e)
  have I : Inv (NdefX.ncx CX P w K mg base N (F.nf c) f A outer s H E) [] (NdefX.startF N vs []) H { s with heap := h₁, toks := s.toks + (ps.zip us).length } := NdefX.inv_startN (F := F.nf c) S hr.hd e0 hl r cells_nil hns kp
  rw [startF_nil] at I
  refine PySem.W.kla_codeExpr (wpAny_mono ((hbody A outer s H E f c (hr.deeper _)).run [] _ _ H Q I ht) (fun v s' hq => ?_) fun e s' hq => hq)
  obtain ⟨y, H2, J2, rv, q⟩ := hq
  exact ⟨y, H2, J2.os, J2.bare, J2.base, J2.hok, rv, q⟩
end
/-- fe(e, ..), fe an expression that gives a lambda -/
def tCallL (LP : LF → Sp) (E : XK) (tf : TE) (t : TA) : TE := fun σ H Q => tf σ H fun y H1 => ∃ (f c : Addr) (F : LF), y = V.ref f ∧ H1 f = some (LmO f F c) ∧ t σ H1 fun vs H2 => H2 f = some (LmO f F c) ∧ H2 c = some (CodeO c F.qual) ∧ LP F vs H2 Q E
section
variable {X : Cx} {CX : CXT} {k : Nat} {LP : LF → Sp} {E : XK} {tf : TE} {t : TA} {fe e : Expr} {es : List Expr} {pos : Pos}
theorem fnat_lm {pins : List (Addr × Obj)} {σ : L2.St} {H : Hp} {s : Shared} {f c : Addr} {F : LF} (I : Inv X pins σ H s) (h : H f = some (LmO f F c)) : PySem.W.FnAt f s.heap := by
  obtain ⟨pm, ctv, od, sl, ho⟩ := lmO_at I.hok h
  exact ⟨_, _, _, _, ho⟩
theorem pe_callL (hf : PE X fe tf) (L : ∀ F, LamOk X.prog X.w X.K X.mg X.base CX k F (LP F)) (hr : Room k X.A) (hx : Passes CX X E) (ha : PA X (e :: es) t)
    (ht : eval (.Call fe (e :: es) [] pos) X.env = (do callWith pos (← eval fe X.env) [] (backTo pos (starEach (e :: es) X.env)) (backToKw pos (keywordEach [] X.env))) := by rfl)
    (he : starEach (e :: es) X.env = (false, eval e X.env) :: starEach es X.env := by rfl) (hpl : (backTo pos (starEach es X.env)).any (·.1) = false := by rfl) : PE X (.Call fe (e :: es) [] pos) (tCallL LP E tf t) := by
  refine ⟨fun pins s σ H Q I h => ?_⟩
  refine Call_ (thn (hf.run pins s σ H _ I h) fun u s1 ⟨y, H1, I1, ry, f, c, F, ey, hf1, q⟩ => ?_) ht
  subst ey
  obtain rfl : u = Value.ref f := ry
  refine PySem.W.callWith_F (first := []) (fnat_lm I1 hf1) (thn (ha.run pos pins s1 σ H1 _ I1 q) fun us s2 ⟨vs, H2, I2, r, hf2, hc2, q2⟩ => ⟨fnat_lm I2 hf2, ?_⟩) he hpl
  show wpAny _ _ (call (.ref f) us) _ _ _
  refine wpAny_call (codeAny_mono (L F X.A X.stack s2 H2 us vs f c Q E hr I2.env0 hf2 hc2 r q2) fun r s' hq => ?_)
  cases r with
  | error e => exact hx pins σ H2 s2 e s' I2 hq
  | ok fl =>
    cases fl with
    | ret u => exact I2.after hq
    | next => exact False.elim hq
    | brk => exact False.elim hq
    | cont => exact False.elim hq
end
variable {S : Type} {C : Cfg S}
theorem e_fn {T : List (Addr × Str)} {F : LF} {k : Nat} (hT : ∀ s H, C.I s H → Tabs T H) (hL : ∀ s H H1 cl, C.I s H → LamTo T F.qual H H1 cl → C.I s H1 ∧ Ext C.keep H H1) : EvD C (fun _ => tFn T F) (xC (.fn k F)) := fun B A ρ σ H s E Q R I W => by
  refine ⟨hT s H I, fun f c H1 lt hf => ?_⟩
  obtain ⟨I1, e1⟩ := hL s H H1 c I lt
  have x : Ext All H1 (upd H1 f (LmO f F c)) := Ext.new hf
  exact W _ _ (e1.lk.trans x.all) (C.st _ _ _ I1 x) (.fn (R.nw f (e1.2 f hf)) upd_same (by rw [upd_ne (ne_of_none lt.1 hf)]; exact lt.1))
/-- the lambdas of a law, what they promise -/
def lpOf (L : List (LF × Sp)) (F : LF) : Sp := fun vs H Q E => ∃ p ∈ L, p.1 = F ∧ p.2 vs H Q E
theorem lamok_all {P : Program} {w : World} {K : PySem.W.Frag} {mg : Str → Option Value} {base : Heap} {CX : CXT} {k : Nat} {L : List (LF × Sp)} (h : ∀ p ∈ L, LamOk P w K mg base CX k p.1 p.2) (F : LF) : LamOk P w K mg base CX k F (lpOf L F) := fun A outer s H us vs f c Q E hr e0 hf hc r hsp => by
  obtain ⟨p, hp, rfl, q⟩ := hsp
  exact h p hp A outer s H us vs f c Q E hr e0 hf hc r q
inductive LPs (C : Cfg S) : List (LF × Sp) → List (LF × (List D → M S D)) → Prop
  | nil : LPs C [] []
  | cons {F : LF} {sp : Sp} {m : List D → M S D} {L : List (LF × Sp)} {T : List (LF × (List D → M S D))} (h : SpD C sp m) (t : LPs C L T) : LPs C ((F, sp) :: L) ((F, m) :: T)
theorem LPs.at {L : List (LF × Sp)} {T : List (LF × (List D → M S D))} (h : LPs C L T) : ∀ (k : Nat) (F : LF) (m : List D → M S D), T[k]? = some (F, m) → ∃ sp, (F, sp) ∈ L ∧ SpD C sp m := by
  induction h with
  | nil => intro k F m e; simp at e
  | cons h t ih =>
    intro k F m e
    cases k with
    | zero => simp at e; obtain ⟨rfl, rfl⟩ := e; exact ⟨_, List.mem_cons_self, h⟩
    | succ k =>
      obtain ⟨sp, h1, h2⟩ := ih k F m (by simpa using e)
      exact ⟨sp, List.mem_cons_of_mem _ h1, h2⟩
open Classical in
noncomputable def pickL (F' F : LF) (m : M S D) : M S D := if F' = F then m else (fun _ => Res.bad : M S D)
theorem pickL_same {F : LF} {m : M S D} : pickL F F m = m := by
  unfold pickL
  exact if_pos rfl
theorem pickL_ne {F' F : LF} {m : M S D} (h : F' ≠ F) : pickL F' F m = (fun _ => Res.bad : M S D) := by
  unfold pickL
  exact if_neg h
noncomputable def callL (T : List (LF × (List D → M S D))) (d : D) (xs : List D) : M S D := match d with
  | .fn k F => (match T[k]? with
    | some (F', m) => pickL F' F (m xs)
    | none => (fun _ => .bad : M S D))
  | _ => (fun _ => .bad : M S D)
theorem callL_at {T : List (LF × (List D → M S D))} {k : Nat} {F : LF} {m : List D → M S D} {xs : List D} (h : T[k]? = some (F, m)) : callL T (.fn k F) xs = m xs := by
  unfold callL
  simp only [h]
  exact pickL_same
def isFn : D → Bool
  | .fn _ _ => true
  | _ => false
/-- a call of a lambda -/
noncomputable def xCallL (T : List (LF × (List D → M S D))) (f : Rho → M S D) (fr : Rho → M S (List D)) : Rho → M S D := fun ρ => (f ρ).bind fun d => match isFn d with
  | true => (fr ρ).bind fun xs => callL T d xs
  | false => fun _ => .bad
/-- .. where nothing may be let out -/
noncomputable def xCallL0 (T : List (LF × (List D → M S D))) (f : Rho → M S D) (fr : Rho → M S (List D)) : Rho → M S D := fun ρ => (f ρ).bind fun d => match isFn d with
  | true => (fr ρ).bind fun xs s => noX (callL T d xs s)
  | false => fun _ => .bad
section
variable {L : List (LF × Sp)} {T : List (LF × (List D → M S D))} {tf : XK → TE} {tr : XK → TA} {ff : Rho → M S D} {fr : Rho → M S (List D)}
theorem callL_run (hP : LPs C L T) {A : Addr → Prop} {H2 : Hp} {s : S} {E : XK} {Q : VK} {k : Nat} {F : LF} {vs : List V} {xs : List D} (h2 : IsL A H2 vs xs) (nw : ∀ a, H2 a = none → A a) (ao : ∀ a, A a → C.ok a) (I : C.I s H2)
    (W : Wish C ⟨H2, A, none⟩ E (callL T (.fn k F) xs s) (fun d s' => ∀ v H', ExL C.keep A H2 H' → C.I s' H' → Is A H' v d → Q v H')) : lpOf L F vs H2 Q E := by
  unfold callL at W
  cases e : T[k]? with
  | none => simp only [e] at W; exact W.elim
  | some p =>
    obtain ⟨F', m⟩ := p
    simp only [e] at W
    by_cases eF : F' = F
    · subst eF
      rw [pickL_same] at W
      obtain ⟨sp, m1, m2⟩ := hP.at _ _ _ e
      exact ⟨_, m1, rfl, m2 A H2 vs xs s Q E h2 nw ao I W⟩
    · rw [pickL_ne eF] at W
      exact W.elim
theorem e_callL (hP : LPs C L T) (hf : EvD C tf ff) (hr : EvA C tr fr) : EvD C (fun E => tCallL (lpOf L) E (tf E) (tr E)) (xCallL T ff fr) := fun B A ρ σ H s E Q R I W => by
  refine hf B A ρ σ H s E _ R I ((Wish.then W).mono fun d s1 W1 v H1 e1 I1 h1 => ?_)
  cases d with
  | fn k F =>
    cases h1 with
    | @fn a c _ _ k1 k2 k3 =>
      refine ⟨a, c, F, rfl, k2, hr B A ρ σ H1 s1 E _ (R.step e1) I1 ((Wish.then (W1.step e1)).mono fun xs s2 W2 vs H2 e2 I2 h2 => ⟨e2.xto k2, e2.xto k3, ?_⟩)⟩
      refine callL_run hP h2 (fun a q => R.nw a (e1.2 a (e2.2 a q))) R.ao I2 ((Wish.step W2 e2).mono fun d s3 W3 v H3 e3 I3 h3 => ?_)
      exact W3 v H3 ((e1.trans e2).trans e3) I3 h3
  | _ => exact W1.elim
theorem e_callL0 (hP : LPs C L T) (hf : EvD C tf ff) (hr : EvA C tr fr) : EvD C (fun E => tCallL (lpOf L) (fun _ _ _ => False) (tf E) (tr E)) (xCallL0 T ff fr) := fun B A ρ σ H s E Q R I W => by
  refine hf B A ρ σ H s E _ R I ((Wish.then W).mono fun d s1 W1 v H1 e1 I1 h1 => ?_)
  cases d with
  | fn k F =>
    cases h1 with
    | @fn a c _ _ k1 k2 k3 =>
      refine ⟨a, c, F, rfl, k2, hr B A ρ σ H1 s1 E _ (R.step e1) I1 ((Wish.then (W1.step e1)).mono fun xs s2 W2 vs H2 e2 I2 h2 => ⟨e2.xto k2, e2.xto k3, ?_⟩)⟩
      refine callL_run (k := k) hP h2 (fun a q => R.nw a (e1.2 a (e2.2 a q))) R.ao I2 ?_
      have W2 := Wish.step W2 e2
      unfold noX at W2
      cases e : callL T (.fn k F) xs s2 with
      | ok d s3 => simp only [e] at W2; exact fun v H3 e3 I3 h3 => W2 v H3 ((e1.trans e2).trans e3) I3 h3
      | ex c fs s3 => simp only [e] at W2; exact W2.elim
      | bad => simp only [e] at W2; exact W2.elim
  | _ => exact W1.elim
end
end Fs

namespace Fs
open PySem PySem.W PySem.Calls PyProof.Rows PySem.HandSPX
section
variable {M : Model} {A : Around} {E : Value → Shared → Prop} {h : Heap} {g : Array GenState} {d : Drawn} {t : Nat} {os : OsState}
variable {nm q : Str} {C N : Addr} {bs bm bmB : List Value} {hdct : Bool} {sn : List Str} {sub : List Value} {ab : Bool} {col : Option Bool} {dd : Option Addr} {k0 k1 k2 k3 k5 : Option Value} {B newId initId : String} {rest : List Value} {kw : List (Str × Value)}
theorem newChk (F : ExcBaseFacts B newId initId bmB) (hT : ∀ X : String, bm.contains (.type X) = bmB.contains (.type X)) {Q : Unit → Shared → Prop}
    (hC : h.get? C = some (excClassObj nm q C N bs bm hdct sn sub ab col dd k0 k1 k2 k3 k5 newId)) (hq : Q () ⟨h, g, d, t, os⟩) : wpAny M A (checkBuiltinCall newId ⟨.ref C :: rest, kw⟩) Q E ⟨h, g, d, t, os⟩ := by
  have c1 : (Value.ref C :: bm).contains (.type B) = true := by rw [List.contains_cons, hT, F.hasB, Bool.or_true]
  have c2 := F.noStar
  simp only [checkBuiltinCall, F.newKind, F.newSplit, F.newRow]
  repeat (first | refine wpAny_loadPart_at hC ?_ | (refine wpAny_isSubtype_exc hC ?_; rw [c1]) | refine wpAny_staticBase_exc hC ?_ | refine wpAny_madeBy_exc hC ?_ | simp only [bne_self_eq_false, Bool.false_eq_true, if_false] | wp_step)
  exact hq
end
section
variable {prog : Program} {w : World} {A : Around} {E : Value → Shared → Prop} {R : Result → Shared → Prop} {h : Heap} {g : Array GenState} {d : Drawn} {t : Nat} {os : OsState}
variable {nm q : Str} {C N : Addr} {bs bm bmB : List Value} {hdct : Bool} {sn : List Str} {sub : List Value} {ab : Bool} {col : Option Bool} {dd : Option Addr} {k0 k1 k2 k3 k5 : Option Value} {B newId initId : String} {rest : List Value} {kw : List (Str × Value)}
theorem newRun (F : ExcBaseFacts B newId initId bmB) (hT : ∀ X : String, bm.contains (.type X) = bmB.contains (.type X))
    (hC : h.get? C = some (excClassObj nm q C N bs bm hdct sn sub ab col dd k0 k1 k2 k3 k5 newId))
    (hq : R (.ok (.ret (.ref (h.objs.size + 1)))) ⟨(h.push { cls := .type "tuple", data := .seq rest.toArray }).push
      { cls := .ref C, data := .fields #[.ref h.objs.size, .none, .none, .none, .bool false, .none] }, g, d, t, os⟩) (hrest : rest.length ≤ sizeLine) :
    codeAny (model prog w) A (.builtin newId ⟨.ref C :: rest, kw⟩) R ⟨h, g, d, t, os⟩ := by
  have ends := F.ends
  have c1 : (Value.ref C :: bm).contains (.type B) = true := by rw [List.contains_cons, hT, F.hasB, Bool.or_true]
  have c2 : (Value.ref C :: bm).contains (.type "AttributeError") = false := by rw [List.contains_cons, hT, F.noAttr]; rfl
  have c3 : (Value.ref C :: bm).contains (.type "NameError") = false := by rw [List.contains_cons, hT, F.noName]; rfl
  refine codeAny_builtinAt F.entry ?_
  unfold Builtin.«BaseException.__new__»
  refine PySem.wpAt_bind ?_
  show PySem.wpAt _ _ _ (stack >>= _) _ _ _
  refine PySem.wpAt_bind (PySem.wpAt_stack fun p below => PySem.wpAt_of_wpAny ?_)
  wp_walk
  refine PySem.wpAt_of_wpAny ?_
  rw [F.owner]
  repeat (first | with_reducible refine wpAny_madeHere_exc F.canon hC ?_ | with_reducible refine wpAny_loadPart_at hC ?_ | (with_reducible refine wpAny_isSubtype_exc hC ?_; first | rw [c1] | rw [c2] | rw [c3]) | wp_step)
  show R _ _
  rw [Heap.size_push]
  exact hq
theorem typeRun (F : ExcBaseFacts B newId initId bmB) (hT : ∀ X : String, bm.contains (.type X) = bmB.contains (.type X)) {fI : Addr} {Q : Fin → Shared → Prop}
    (hC : h.get? C = some (excClassObj nm q C N bs bm hdct sn sub ab col dd k0 k1 k2 k3 k5 newId))
    (hi : W.Looks (model prog w) h (typeLookup (.ref C) "__init__") (some (.ref fI))) (hb : ∀ self, W.Looks (model prog w) h (bindSpecial (.ref fI) self) (.ref fI, [self])) (hrest : rest.length ≤ sizeLine)
    (hq : codeAny (model prog w) A (.call (.ref fI) ⟨.ref (h.objs.size + 1) :: rest, kw⟩)
      (fun r s' => match r with | .ok (.ret v) => v = .none ∧ Q (.done (.ret (.ref (h.objs.size + 1)))) s' | .ok _ => False | .error e => E e s')
      ⟨(h.push (W.kdv_tup rest)).push (excO C h.objs.size), g, d, t, os⟩) :
    wpAny (model prog w) A (Builtin.«type.__call__» ⟨.ref C :: rest, kw⟩) Q E ⟨h, g, d, t, os⟩ := by
  repeat (first | with_reducible refine wpAny_loadPart_at hC ?_ | with_reducible refine wpAny_madeBy_exc hC ?_ | wp_step)
  refine codeAny_call_builtin_code (Code.quiet_builtin _ F.quiet) (newChk F hT hC ?_)
  refine newRun F hT hC ?_ hrest
  show wpAny _ _ _ _ _ _
  have k : ∀ b o, h.get? b = some o → ((h.push (W.kdv_tup rest)).push (excO C h.objs.size)).get? b = some o := fun b o e => Heap.get?_push_of_some _ (Heap.get?_push_of_some _ e)
  have hC1 := k _ _ hC
  have new : ((h.push (W.kdv_tup rest)).push (excO C h.objs.size)).get? (h.objs.size + 1) = some (excO C h.objs.size) := by heap_get
  have cC : (Value.ref C :: bm).contains (.ref C) = true := by simp
  have i1 := hi.keeps k
  have b1 := (hb (.ref (h.objs.size + 1))).keeps k
  unfold isInstance
  repeat (first | with_reducible refine wpAny_loadPart_at new ?_ | (with_reducible refine wpAny_isSubtype_exc hC1 ?_; rw [cC]) | wp_step)
  show wpAny _ _ (typeLookup (.ref C) _) _ _ _
  refine i1.at ?_
  refine wpAny_holding (wpAny_bind (b1.at ?_))
  refine wpAny_bind (wpAny_call (codeAny_mono hq fun r s' z => ?_))
  rcases r with e | (v | _ | _ | _) <;> first | exact z | exact z.elim | skip
  obtain ⟨rfl, z⟩ := z
  first
    | exact wpAny_pure (wpAny_pure z)
    | (wp_walk; exact z)
theorem callRun (F : ExcBaseFacts B newId initId bmB) (hT : ∀ X : String, bm.contains (.type X) = bmB.contains (.type X)) {fI : Addr}
    (hC : h.get? C = some (excClassObj nm q C N bs bm hdct sn sub ab col dd k0 k1 k2 k3 k5 newId))
    (hi : W.Looks (model prog w) h (typeLookup (.ref C) "__init__") (some (.ref fI))) (hb : ∀ self, W.Looks (model prog w) h (bindSpecial (.ref fI) self) (.ref fI, [self])) (hrest : rest.length ≤ sizeLine)
    (hq : codeAny (model prog w) (A.under (.builtin "type.__call__" ⟨.ref C :: rest, kw⟩)) (.call (.ref fI) ⟨.ref (h.objs.size + 1) :: rest, kw⟩) (W.InitBack (h.objs.size + 1) R)
      ⟨(h.push (W.kdv_tup rest)).push (excO C h.objs.size), g, d, t, os⟩) :
    codeAny (model prog w) A (.call (.ref C) ⟨rest, kw⟩) R ⟨h, g, d, t, os⟩ := by
  have f1 := tc_lookup
  have f2 := tc_bind (.ref C)
  have hTy : (⟨h, g, d, t, os⟩ : Shared).TypeIs (.ref C) "type" := ⟨_, hC, rfl⟩
  refine codeAny_of_tree ?_
  show wpAny _ _ (callAny (.ref C) _) _ _ _
  repeat (any_goals (first | assumption | with_reducible refine wpAny_loadPart_at hC ?_ | wp_step))
  refine ⟨rfl, ?_⟩
  refine codeAny_call_builtin_at (Code.quiet_builtin _ (by decide +kernel)) entry_typeCall (wpAny_check_type_call_sub hC (typeRun F hT hC hi hb hrest ?_))
  refine codeAny_mono hq fun r s' z => ?_
  rcases r with e | (v | _ | _ | _) <;> exact z
end
end Fs

namespace Fs
open PySem PySem.W PySem.Calls PyProof.Rows PySem.HandSPX
/-- the values, in the order of the names, of those that are told by the keywords ks -/
def pick (ks ns : List Str) {α : Type} (xs : List α) : List α := ns.filterMap fun n => (ks.zip xs).lookup n
/-- a call by keywords alone binds so -/
def SxKw (K : Frag) (fI : Addr) (names ks : List Str) : Prop := ∀ oc od fd osl, K.lookup fI = some ⟨oc, od, .func fd, osl⟩ → ∀ (s : Shared) (self : Value) (ws : List Value), ws.length = ks.length → BindsTo s fd ⟨[self], ks.zip ws⟩ (("self", self) :: names.zip (pick ks names ws))
section
variable {names : List Str} {prog : Program} {w : World} {A : Around} {E : Value → Shared → Prop} {R : Result → Shared → Prop} {K : Frag} {mg : Str → Option Value} {C fI : Addr}
theorem sx_madeG (T : SxTxt prog K mg C fI names) {s : Shared} {us zs : List Value} {kw : List (Str × Value)} (hl : zs.length = names.length) (hu : us.length ≤ sizeLine) (hz : names.length ≤ 800) (hdb : ∀ n ∈ names, (n == ("__debug__" : Str)) = false) (X : K.In s.heap) (hlim : s.heap.NoLimit)
    (hgl : s.heap.Ns mainGlobals mg) (hbl : ∃ mb, s.heap.Ns builtinsNs mb ∧ ∀ x : Str, x ≠ "__name__" → mb x = bootBuiltins x) (hroom : A.depth + 1 < recursionLimit)
    (hb : ∀ oc od fd osl, K.lookup fI = some ⟨oc, od, .func fd, osl⟩ → ∀ (s : Shared) (self : Value), BindsTo s fd ⟨self :: us, kw⟩ (("self", self) :: names.zip zs))
    (hq : ∀ h' tk e od, SxMade s.heap h' e C od (names.zip zs) → R (.ok (.ret (.ref e))) { s with heap := h', toks := tk }) :
    codeAny (model prog w) A (.call (.ref C) ⟨us, kw⟩) R s := by
  obtain ⟨nm, q, N, bs, bm, sn, sub, ab, col, dd, k0, k1, k2, k3, k5, hC, hbm⟩ := T.cls
  obtain ⟨hp, g, dr, tk, os⟩ := s
  have k : ∀ b o, hp.get? b = some o → ((hp.push (kdv_tup us)).push (excO C hp.objs.size)).get? b = some o := fun b o e => Heap.get?_push_of_some _ (Heap.get?_push_of_some _ e)
  have hget : ((hp.push (kdv_tup us)).push (excO C hp.objs.size)).get? (hp.objs.size + 1) = some (excO C hp.objs.size) := by heap_get
  have hnx : K.lookup (hp.objs.size + 1) = none := by
    cases e : K.lookup (hp.objs.size + 1) with
    | none => rfl
    | some o =>
      have z : hp.get? (hp.objs.size + 1) = some o := X _ _ e
      exact absurd (Nat.lt_of_succ_lt (Heap.lt_size z)) (Nat.lt_irrefl _)
  have hnC : hp.objs.size + 1 ≠ C := fun z => by
    rw [z, hC] at hnx
    cases hnx
  refine callRun PySem.F.excBase_ValueError (fun X => refsVE_contains X bm hbm) (X _ _ hC) (looks_findIn X T.iC) (fun self => bind_fn X self T.tC) hu ?_
  refine sx_init (s := ⟨(hp.push (kdv_tup us)).push (excO C hp.objs.size), g, dr, tk, os⟩) T hl hz hdb (X.keeps k) (hlim.keeps k) (hgl.keeps k) ?_ hget hnx hnC ?_ (fun oc od fd osl lk => hb oc od fd osl lk _ _) fun h' tk' od t1 S => ?_
  · obtain ⟨mb, b1, b2⟩ := hbl
    exact ⟨mb, b1.keeps k, b2⟩
  · show A.depth + 1 < recursionLimit
    exact hroom
  · have old : ∀ b o, hp.get? b = some o → h'.get? b = some o := fun b o e => S.keep b o (Nat.ne_of_lt (Nat.lt_succ_of_lt (Heap.lt_size e))) (k b o e)
    refine ⟨rfl, hq h' tk' (hp.objs.size + 1) od ⟨old, Nat.le_succ _, ⟨_, S.obj⟩, ?_⟩⟩
    have z := S.dict
    cases od with
    | none => exact z
    | some dx =>
      have y : hp.objs.size + 1 + 1 ≤ dx := by
        first
          | (simpa only [Heap.size_push] using z.2.1)
          | exact z.2.1
          | (have q := z.2.1; rw [Heap.size_push, Heap.size_push] at q; exact q)
      exact ⟨z.1, Nat.le_trans (Nat.le_trans (Nat.le_succ _) (Nat.le_succ _)) y, z.2.2⟩
end
end Fs

namespace Fs
open PySem PySem.Spec PyProof.Rows L2
/-- the new exception -/
def mkV (C : Addr) (ns : List Str) (vs : List V) (H : Hp) (Q : VK) : Prop := match ns with
  | [] => ∀ a, H a = none → Q (.ref a) (upd H a (EXO (.ref C) none a))
  | _ => ∀ d a, H d = none → H a = none → a ≠ d → Q (.ref a) (upd (upd H d (.xd (fldsOf ns vs))) a (EXO (.ref C) (some d) a))
/-- C(e, ..) -/
def tXv (C : Addr) (ns : List Str) (ta : TA) : TE := fun σ H Q => ta σ H fun vs H1 => vs.length = ns.length ∧ mkV C ns vs H1 Q
/-- C(n = e, ..) -/
def tXvK (C : Addr) (ns ks : List Str) (ta : TA) : TE := fun σ H Q => ta σ H fun vs H1 => vs.length = ks.length ∧ (pick ks ns vs).length = ns.length ∧ mkV C ns (pick ks ns vs) H1 Q
theorem look_rel : ∀ {ks : List Str} {vs : List V} {us : List Value}, Vals vs us → ∀ n, RelO ((ks.zip vs).lookup n) ((ks.zip us).lookup n)
  | [], _, _, _, n => by simp [RelO]
  | k :: ks, [], us, r, n => by cases r; simp [RelO]
  | k :: ks, v :: vs, us, r, n => by
    cases r with
    | cons rv r =>
      rename_i u us
      simp only [List.zip_cons_cons, List.lookup_cons]
      cases n == k with
      | true => exact rv
      | false => exact look_rel r n
theorem pick_rel {ks : List Str} {vs : List V} {us : List Value} (r : Vals vs us) : ∀ (ns : List Str), Vals (pick ks ns vs) (pick ks ns us)
  | [] => .nil
  | n :: ns => by
    have h := look_rel (ks := ks) r n
    have t := pick_rel (ks := ks) r ns
    unfold pick at t ⊢
    rw [List.filterMap_cons, List.filterMap_cons]
    cases e1 : (ks.zip vs).lookup n with
    | none =>
      rw [e1] at h
      cases e2 : (ks.zip us).lookup n with
      | none => exact t
      | some u => rw [e2] at h; exact absurd h (by simp [RelO])
    | some v =>
      rw [e1] at h
      cases e2 : (ks.zip us).lookup n with
      | none => rw [e2] at h; exact absurd h (by simp [RelO])
      | some u => rw [e2] at h; exact .cons h t
section
variable {X : Cx} {C fI : Addr} {names ks : List Str} {x : Str} {e : Expr} {es : List Expr} {kws : List Keyword} {ta : TA} {p pos : Pos} {k : Nat}
theorem xv_end {pins : List (Addr × Obj)} {σ : L2.St} {H1 : Hp} {Q : VK} {s1 : Shared} {vs : List V} {us : List Value} {h' : Heap} {tk' : Tok} {a : Addr} {od : Option Addr} (I1 : Inv X pins σ H1 s1) (r : Vals vs us) (hl : us.length = names.length)
    (M : SxMade s1.heap h' a C od (names.zip us)) (h : mkV C names vs H1 Q) : EP X pins σ Q (.ref a) { s1 with heap := h', toks := tk' } := by
  obtain ⟨hp, g, dr, tk, os⟩ := s1
  obtain ⟨t1, hoe⟩ := M.obj
  have hna : H1 a = none := I1.hok.fresh M.new
  obtain ⟨G', g1, g2⟩ := restrict h' fun b => decide (b ≠ a)
  have gk : ∀ b, b ≠ a → G'.get? b = h'.get? b := fun b hb => g1 b (decide_eq_true hb)
  have ge : G'.get? a = none := g2 a (by simp)
  have old : ∀ b o, hp.get? b = some o → G'.get? b = some o := fun b o q => (gk b (Nat.ne_of_lt (Nat.lt_of_lt_of_le (Heap.lt_size q) M.new))).trans (M.keep b o q)
  have kG : ∀ b o, G'.get? b = some o → h'.get? b = some o := fun b o q => by
    by_cases hb : b = a
    · rw [hb, ge] at q; cases q
    · exact (gk b hb).symm.trans q
  have z := M.dict
  cases od with
  | none =>
    have hn0 : names = [] := by
      cases names with
      | nil => rfl
      | cons n ns =>
        cases us with
        | nil => simp at hl
        | cons u us => cases z
    subst hn0
    have J : Inv X pins σ H1 ⟨G', g, dr, tk', os⟩ := I1.kept (t' := tk') old
    exact ⟨.ref a, _, J.laidN (h' := h') (t' := tk') kG ge hna (exo_okT hoe ⟨rfl, rfl⟩ rfl), rfl, h a hna⟩
  | some d =>
    obtain ⟨dz, dn, dne, hns⟩ := z
    have hnd : H1 d = none := I1.hok.fresh dn
    have ob : ObjOk X.prog X.w (upd H1 d (.xd (fldsOf names vs))) G' d (.xd (fldsOf names vs)) :=
      ⟨_, hns.at (fun o q => (gk d dne).trans q), fun f => relO_all r [] (fun _ => none) (fun _ => (True.intro : RelO none none)) f⟩
    have J : Inv X pins σ (upd H1 d (.xd (fldsOf names vs))) ⟨G', g, dr, tk', os⟩ := I1.laid (t' := tk') old dn ob
    have hna2 : upd H1 d (.xd (fldsOf names vs)) a = none := by
      rw [upd_ne (Ne.symm dne)]
      exact hna
    refine ⟨.ref a, _, J.laidN (h' := h') (t' := tk') kG ge hna2 (exo_okT (cls := .ref C) (d := some d) hoe ⟨rfl, rfl⟩ rfl), rfl, ?_⟩
    cases names with
    | nil => exact absurd rfl dz
    | cons n ns => exact h d a hnd hna (Ne.symm dne)
theorem xv_run (T : SxTxt X.prog X.K X.mg C fI names) (hr : Room k X.A) (hz : names.length ≤ 800) (hdb : ∀ n ∈ names, (n == ("__debug__" : Str)) = false) {pins : List (Addr × Obj)} {σ : L2.St} {H1 : Hp} {Q : VK} {s1 : Shared} {vs : List V} {us zs : List Value} {kw : List (Str × Value)} (I1 : Inv X pins σ H1 s1) (r : Vals vs zs) (hu : us.length ≤ sizeLine)
    (hl : vs.length = names.length) (hb : ∀ oc od fd osl, X.K.lookup fI = some ⟨oc, od, .func fd, osl⟩ → ∀ (s : Shared) (self : Value), BindsTo s fd ⟨self :: us, kw⟩ (("self", self) :: names.zip zs)) (h : mkV C names vs H1 Q) :
    wpAny (model X.prog X.w) X.A (call (.ref C) us kw) (EP X pins σ Q) X.xe s1 := by
  have hl' : zs.length = names.length := by rw [← r.length]; exact hl
  refine wpAny_call (sx_madeG T hl' hu hz hdb I1.kIn I1.nolimit (I1.mod.glob.keeps I1.bk) ?_ (by have := hr.dp; omega) hb fun h' tk' a od M => xv_end I1 r hl' M h)
  obtain ⟨mb, b1, b2⟩ := I1.mod.blt
  exact ⟨mb, b1.keeps I1.bk, b2⟩
theorem pe_xv (T : SxTxt X.prog X.K X.mg C fI names) (hm : X.mg x = some (.ref C)) (hr : Room k X.A) (hz : names.length ≤ 800) (hdb : ∀ n ∈ names, (n == ("__debug__" : Str)) = false) (ha : PA X (e :: es) ta) (hg : Gl X x := by rfl) (hd : (x == ("__debug__" : Str)) = false := by decide)
    (he : starEach (e :: es) X.env = (false, eval e X.env) :: starEach es X.env := by rfl) (hpl : (backTo pos (starEach es X.env)).any (·.1) = false := by rfl) : PE X (.Call (.Name x p) (e :: es) [] pos) (tXv C names ta) := by
  refine ⟨fun pins s σ H Q I h => ?_⟩
  refine wpAny_Call_Name_kw (ld_glob I hg hm ?_ hd)
  refine PySem.W.callWith_K (h₀ := X.base) I.ok.mod.kin T.kC (thn (ha.run pos pins s σ H _ I h) fun us s1 hh => ?_) he hpl
  obtain ⟨vs, H1, I1, r1, hl, q1⟩ := hh
  refine ⟨I1.kIn, ?_⟩
  have hl2 : us.length = names.length := by rw [← r1.length]; exact hl
  exact xv_run (us := us) (kw := []) T hr hz hdb I1 r1 (by rw [hl2, sizeLine_eq]; omega) hl (fun oc od fd osl lk s self => T.binds lk hl2) q1
theorem pe_xv0 (T : SxTxt X.prog X.K X.mg C fI []) (hm : X.mg x = some (.ref C)) (hr : Room k X.A) (hg : Gl X x := by rfl) (hd : (x == ("__debug__" : Str)) = false := by decide) : PE X (.Call (.Name x p) [] [] pos) (tXv C [] tNil) := by
  refine ⟨fun pins s σ H Q I h => ?_⟩
  refine wpAny_Call_Name_kw (ld_glob I hg hm ?_ hd)
  obtain ⟨_, q1⟩ := h
  exact PySem.W.callWith_K0 I.kIn T.kC (xv_run (us := []) (vs := []) (zs := []) (kw := []) T hr (by decide) (fun n h => by cases h) I .nil (by show 0 ≤ sizeLine; omega) rfl (fun oc od fd osl lk s self => T.binds (us := []) lk rfl) q1)
theorem pe_xvK (T : SxTxt X.prog X.K X.mg C fI names) (B : SxKw X.K fI names ks) (hm : X.mg x = some (.ref C)) (hr : Room k X.A) (hz : names.length ≤ 800) (hdb : ∀ n ∈ names, (n == ("__debug__" : Str)) = false) (hkw : PK X kws ta)
    (hall : (backToKw pos (keywordEach kws X.env)).all (·.1.isSome) = true := by rfl) (hks : (backToKw pos (keywordEach kws X.env)).filterMap (·.1) = ks := by rfl) (hg : Gl X x := by rfl) (hd : (x == ("__debug__" : Str)) = false := by decide)
    (hpl : ((backTo pos (starEach [] X.env)).any (·.1) || (backToKw pos (keywordEach kws X.env)).any (·.1.isNone)) = false := by rfl) : PE X (.Call (.Name x p) [] kws pos) (tXvK C names ks ta) := by
  refine ⟨fun pins s σ H Q I h => ?_⟩
  refine wpAny_Call_Name_kw (ld_glob I hg hm ?_ hd)
  refine PySem.W.callWith_KW0 (h₀ := X.base) I.ok.mod.kin T.kC hall ?_ hpl
  refine thn (hkw.run pos pins s σ H _ I h) fun ws s2 ⟨zs, H2, I2, rz, l1, l2, q2⟩ => ⟨I2.kIn, ?_⟩
  rw [hks]
  have lw : ws.length = ks.length := by rw [← rz.length]; exact l1
  exact xv_run (us := []) (kw := ks.zip ws) T hr hz hdb I2 (pick_rel rz names) (by show 0 ≤ sizeLine; omega) l2 (fun oc od fd osl lk s self => B oc od fd osl lk s self ws lw) q2
/-- X(e), an own exception class without own __init__ -/
theorem pe_xb {bmB : List Value} {B newId initId : String} (F : ExcBaseFacts B newId initId bmB) (q : PySem.W.excIn X.K C bmB newId = true) (hm : X.mg x = some (.ref C)) (kC : PySem.W.keepIn X.K (.ref C) = true) {te : TE} (he : PE X e te) (hg : Gl X x := by rfl)
    (hs : starEach [e] X.env = (false, eval e X.env) :: starEach [] X.env := by rfl) (hd : (x == ("__debug__" : Str)) = false := by decide) :
    PE X (.Call (.Name x p) [e] [] pos) (fun σ H Q => te σ H fun _ H1 => mkV C [] [] H1 Q) := by
  refine ⟨fun pins s σ H Q I h => ?_⟩
  refine wpAny_Call_Name_kw (ld_glob I hg hm ?_ hd)
  refine PySem.W.callWith_K (h₀ := X.base) I.ok.mod.kin kC ?_ hs (by rfl)
  rw [hs]
  show wpAny _ _ (spliced ((false, eval e X.env) :: backTo pos (starEach [] X.env))) _ _ s
  refine Calls.spliced_cons (thn (he.run pins s σ H _ I h) fun u s1 ⟨v, H1, I1, r1, q1⟩ => ?_)
  refine Calls.spliced_nil ⟨I1.kIn, ?_⟩
  show wpAny _ _ (call (.ref C) [u]) _ _ _
  obtain ⟨bm, N, nm, qn, bs, hdct, sn, sub, ab, col, dd, k0, k1, k2, k3, k5, mN, hC, hN, hni, T⟩ := exc_obj I1.kIn q
  refine wpAny_call_exc_subT F T hC hN hni (fun h' a hm => ?_) (by show 1 ≤ sizeLine; rw [sizeLine_eq]; omega)
  have hn : H1 a = none := I1.hok.gone hm.new
  obtain ⟨t, ht, _, _⟩ := hm.there
  exact ⟨.ref a, _, I1.laidN hm.keeps hm.new hn (exo_okT ht ⟨rfl, rfl⟩ rfl), rfl, q1 a hn⟩
end
section
variable {S : Type} {C : Cfg S} {tr : XK → TA} {fr : Rho → M S (List D)}
theorem mkV_run {A : Addr → Prop} {H1 : Hp} {s : S} {Q : VK} {cl : Addr} {ns : List Str} {vs : List V} {ds : List D} (h1 : IsL A H1 vs ds) (nw : ∀ a, H1 a = none → A a) (I : C.I s H1) (W : ∀ v H', Ext All H1 H' → C.I s H' → Is A H' v (.exc cl (fldsD ns ds)) → Q v H') : mkV cl ns vs H1 Q := by
  unfold mkV
  split
  · intro a ha
    have x : Ext All H1 (upd H1 a (EXO (.ref cl) none a)) := Ext.new ha
    have z : fldsD [] ds = [] := by simp [fldsD]
    refine W _ _ x (C.st _ _ _ I x) ?_
    rw [z]
    exact .exn (nw a ha) upd_same
  · intro d a hd ha hne
    have x : Ext All H1 (upd H1 d (.xd (fldsOf ns vs))) := Ext.new hd
    have ha2 : upd H1 d (.xd (fldsOf ns vs)) a = none := by rw [upd_ne hne]; exact ha
    have x2 : Ext All (upd H1 d (.xd (fldsOf ns vs))) (upd (upd H1 d (.xd (fldsOf ns vs))) a (EXO (.ref cl) (some d) a)) := Ext.new ha2
    have I1 := C.st _ _ _ I (x.trans x2)
    have k := flds_is (ns := ns) h1 (.nil (A := A) (H := H1))
    exact W _ _ (x.trans x2) I1 (.exc (nw a ha) upd_same (nw d hd) (by rw [upd_ne (Ne.symm hne)]; exact upd_same) (k.stp ((x.trans x2).stp)))
def excD' (cl : Addr) (ns : List Str) (ds : List D) : Option D := match decide (ds.length = ns.length) with
  | true => some (.exc cl (fldsD ns ds))
  | false => none
def xXv (cl : Addr) (ns : List Str) (fr : Rho → M S (List D)) : Rho → M S D := fun ρ => (fr ρ).bind fun ds => .of (excD' cl ns ds)
theorem e_xv {cl : Addr} {ns : List Str} (h : EvA C tr fr) : EvD C (fun E => tXv cl ns (tr E)) (xXv cl ns fr) := fun B A ρ σ H s E Q R I W => by
  refine h B A ρ σ H s E _ R I ((Wish.then W).mono fun ds s1 W1 vs H1 e1 I1 h1 => ?_)
  obtain ⟨d, e, W2⟩ := of_some W1
  unfold excD' at e
  split at e
  · rename_i hl
    cases e
    exact ⟨by rw [h1.length]; exact of_decide_eq_true hl, mkV_run h1 (fun a q => R.nw a (e1.2 a q)) I1 fun v H' x I2 k => W2 v H' (e1.trans x.all) I2 k⟩
  · cases e
def excK (cl : Addr) (ns ks : List Str) (ds : List D) : Option D := match decide (ds.length = ks.length) with
  | true => excD' cl ns (pick ks ns ds)
  | false => none
def xXvK (cl : Addr) (ns ks : List Str) (fr : Rho → M S (List D)) : Rho → M S D := fun ρ => (fr ρ).bind fun ds => .of (excK cl ns ks ds)
theorem look_is {A : Addr → Prop} {H : Hp} : ∀ {ks : List Str} {vs : List V} {ds : List D}, IsL A H vs ds → ∀ n, ((ks.zip vs).lookup n = none ∧ (ks.zip ds).lookup n = none) ∨ ∃ v d, (ks.zip vs).lookup n = some v ∧ (ks.zip ds).lookup n = some d ∧ Is A H v d
  | [], _, _, _, n => .inl ⟨rfl, rfl⟩
  | k :: ks, _, _, .nil, n => .inl ⟨rfl, rfl⟩
  | k :: ks, _, _, .cons (v := v) (d := d) h t, n => by
    simp only [List.zip_cons_cons, List.lookup_cons]
    cases n == k with
    | true => exact .inr ⟨v, d, rfl, rfl, h⟩
    | false => exact look_is t n
theorem pick_is {A : Addr → Prop} {H : Hp} {ks : List Str} {vs : List V} {ds : List D} (h : IsL A H vs ds) : ∀ (ns : List Str), IsL A H (pick ks ns vs) (pick ks ns ds)
  | [] => .nil
  | n :: ns => by
    have t := pick_is (ks := ks) h ns
    unfold pick at t ⊢
    rw [List.filterMap_cons, List.filterMap_cons]
    rcases look_is (ks := ks) h n with ⟨e1, e2⟩ | ⟨v, d, e1, e2, k⟩
    · rw [e1, e2]; exact t
    · rw [e1, e2]; exact .cons k t
theorem e_xvK {cl : Addr} {ns ks : List Str} (h : EvA C tr fr) : EvD C (fun E => tXvK cl ns ks (tr E)) (xXvK cl ns ks fr) := fun B A ρ σ H s E Q R I W => by
  refine h B A ρ σ H s E _ R I ((Wish.then W).mono fun ds s1 W1 vs H1 e1 I1 h1 => ?_)
  obtain ⟨d, e, W2⟩ := of_some W1
  unfold excK at e
  split at e
  · rename_i hl
    unfold excD' at e
    split at e
    · rename_i hl2
      cases e
      have hp := pick_is (ks := ks) h1 ns
      exact ⟨by rw [h1.length]; exact of_decide_eq_true hl, by rw [hp.length]; exact of_decide_eq_true hl2, mkV_run hp (fun a q => R.nw a (e1.2 a q)) I1 fun v H' x I2 k => W2 v H' (e1.trans x.all) I2 k⟩
    · cases e
  · cases e
variable {te : XK → TE} {f : Rho → M S D}
def xXb (cl : Addr) (f : Rho → M S D) : Rho → M S D := fun ρ => (f ρ).bind fun _ => .ret (.exc cl [])
theorem e_xb {cl : Addr} (h : EvD C te f) : EvD C (fun E σ H Q => te E σ H fun _ H1 => mkV cl [] [] H1 Q) (xXb cl f) := fun B A ρ σ H s E Q R I W => by
  refine h B A ρ σ H s E _ R I ((Wish.then W).mono fun d s1 W1 v H1 e1 I1 h1 => ?_)
  exact mkV_run (ds := []) .nil (fun a q => R.nw a (e1.2 a q)) I1 fun v H' x I2 k => W1 v H' (e1.trans x.all) I2 k
end
end Fs

namespace Fs
open PySem PySem.Spec PyProof.Rows L2
def keyPy : Key → PyData
  | .inl i => .int i
  | .inr x => .str x
mutual
def toSh : D → Option PyData
  | .non => some .none
  | .bl b => some (.bool b)
  | .int i => some (.int i)
  | .str x => some (.str x)
  | .lst xs => (toShL xs).map .list
  | .tup xs => (toShL xs).map .tuple
  | .dct kvs => (toShK kvs).map .dict
  | .ty _ => none
  | .adr _ => none
  | .obj _ _ => none
  | .exc _ _ => none
  | .fn _ _ => none
def toShL : List D → Option (List PyData)
  | [] => some []
  | x :: xs => match toSh x, toShL xs with
    | some d, some ds => some (d :: ds)
    | _, _ => none
def toShK : List (Key × D) → Option (List (PyData × PyData))
  | [] => some []
  | (k, x) :: xs => match toSh x, toShK xs with
    | some d, some ds => some ((keyPy k, d) :: ds)
    | _, _ => none
end
/-- the modules' dict stands in K -/
def SysIn (K : PySem.W.Frag) : Prop := ∃ o, K.lookup sysModules = some o ∧ o.cls = .type "dict"
section
variable {X : Cx} {pins : List (Addr × Obj)} {σ : L2.St} {H : Hp} {s : Shared} {A : Addr → Prop}
theorem lst_ne (I : Inv X pins σ H s) (hs : SysIn X.K) {a : Addr} {o : Obj} (h : s.heap.get? a = some o) (hc : o.cls = .type "list") : sysModules ≠ a := fun z => by
  obtain ⟨o2, h1, h2⟩ := hs
  have e := I.kIn _ _ h1
  rw [z, h] at e
  cases e
  rw [hc] at h2
  exact absurd h2 (by decide)
theorem key_reads {h : Heap} {P : Program} {w : World} {k : Key} {v : Value} (e : (mixKind P w).is k v = true) : Reads h v (keyPy k) [] := by
  rcases keyIs_shape e with ⟨i, t, rfl, rfl⟩ | ⟨x, t, rfl, rfl⟩
  · exact .int _ _
  · exact .str _ _
mutual
theorem Is.reads (I : Inv X pins σ H s) (hs : SysIn X.K) : ∀ {v : V} {x : D} {d : PyData} {u : Value}, Is A H v x → toSh x = some d → RelV v u → ∃ as, Reads s.heap u d as ∧ sysModules ∉ as
  | _, _, _, _, .non, e, r => by simp only [toSh, Option.some.injEq] at e; subst e; cases r; exact ⟨_, .none, by simp⟩
  | _, _, _, _, .bl b, e, r => by simp only [toSh, Option.some.injEq] at e; subst e; cases r; exact ⟨_, .bool b, by simp⟩
  | _, _, _, _, .int b, e, r => by simp only [toSh, Option.some.injEq] at e; subst e; obtain ⟨t, rfl⟩ := (r : ∃ t, _ = Value.int b t); exact ⟨_, .int b t, by simp⟩
  | _, _, _, _, .str b, e, r => by simp only [toSh, Option.some.injEq] at e; subst e; obtain ⟨t, rfl⟩ := (r : ∃ t, _ = Value.str b t); exact ⟨_, .str b t, by simp⟩
  | _, _, _, _, .ty _, e, r => by simp [toSh] at e
  | _, _, _, _, .adr _, e, r => by simp [toSh] at e
  | _, _, _, _, .obj _ _ _, e, r => by simp [toSh] at e
  | _, _, _, _, .exc _ _ _ _ _, e, r => by simp [toSh] at e
  | _, _, _, _, .exn _ _, e, r => by simp [toSh] at e
  | _, _, _, _, .fn _ _ _, e, r => by simp [toSh] at e
  | _, _, _, _, .lst h1 h2 h3, e, r => by
    simp only [toSh, Option.map_eq_some_iff] at e
    obtain ⟨ds, e1, e2⟩ := e
    subst e2
    cases r
    obtain ⟨_, its, n, rv, hg⟩ := I.hok _ _ h2
    obtain ⟨as, r1, r2⟩ := IsL.reads I hs h3 e1 rv
    refine ⟨_, Reads.list hg rfl rfl (by simpa using r1), ?_⟩
    rw [List.mem_cons]
    exact fun z => z.elim (lst_ne I hs hg rfl) r2
  | _, _, _, _, .tup h1 h2 h3, e, r => by
    simp only [toSh, Option.map_eq_some_iff] at e
    obtain ⟨ds, e1, e2⟩ := e
    subst e2
    cases r
    obtain ⟨_, its, rv, o, ho, hc, n, hd⟩ := I.hok _ _ h2
    obtain ⟨as, r1, r2⟩ := IsL.reads I hs h3 e1 rv
    exact ⟨_, Reads.tuple ho hc hd (by simpa using r1), r2⟩
  | _, _, _, _, .dct h1 h2 h3, e, r => by
    simp only [toSh, Option.map_eq_some_iff] at e
    obtain ⟨ds, e1, e2⟩ := e
    subst e2
    cases r
    obtain ⟨_, ne, ws, kv, o, es, ep, ho, hx, hd, _, hp, _⟩ := dk_rd I.hok ((look_dK h2).elim .inr .inl)
    obtain ⟨as, bs, r1, r2, r3⟩ := IsK.reads I hs h3 e1 kv hp
    refine ⟨_, Reads.dict ho hx.1 hd (by simpa using r1) (by simpa using r2), ?_⟩
    intro z
    rcases List.mem_append.mp z with z | z
    · rcases List.mem_cons.mp z with z | z
      · rw [z] at ne; simp at ne
      · exact r3 (List.mem_append_left _ z)
    · exact r3 (List.mem_append_right _ z)
theorem IsL.reads (I : Inv X pins σ H s) (hs : SysIn X.K) : ∀ {vs : List V} {xs : List D} {ds : List PyData} {us : List Value}, IsL A H vs xs → toShL xs = some ds → Vals vs us → ∃ as, ReadsAll s.heap us ds as ∧ sysModules ∉ as
  | _, _, _, _, .nil, e, r => by simp only [toShL, Option.some.injEq] at e; subst e; cases r; exact ⟨_, .nil, by simp⟩
  | _, _, _, _, .cons h t, e, r => by
    unfold toShL at e
    split at e
    · rename_i d ds e1 e2
      cases e
      cases r with
      | cons rv r =>
        obtain ⟨as, a1, a2⟩ := Is.reads I hs h e1 rv
        obtain ⟨bs, b1, b2⟩ := IsL.reads I hs t e2 r
        exact ⟨_, .cons a1 b1, fun z => (List.mem_append.mp z).elim a2 b2⟩
    · cases e
theorem IsK.reads (I : Inv X pins σ H s) (hs : SysIn X.K) : ∀ {vs : List (Key × V)} {xs : List (Key × D)} {ds : List (PyData × PyData)} {ws : List (Key × Value)} {es : List DictEntry}, IsK A H vs xs → toShK xs = some ds → KV vs ws → Pairs (mixKind X.prog X.w) es ws →
      ∃ as bs, ReadsAll s.heap (es.map (·.key)) (ds.map (·.1)) as ∧ ReadsAll s.heap (es.map (·.val)) (ds.map (·.2)) bs ∧ sysModules ∉ as ++ bs
  | _, _, _, _, _, .nil, e, r, p => by
    simp only [toShK, Option.some.injEq] at e
    subst e
    cases r
    cases p
    exact ⟨_, _, .nil, .nil, by simp⟩
  | _, _, _, _, _, .cons h t, e, r, p => by
    unfold toShK at e
    split at e
    · rename_i d ds e1 e2
      cases e
      cases r with
      | cons rv r =>
        obtain ⟨rk, rv⟩ := rv
        cases p with
        | cons p1 p2 p3 =>
          rw [← p2] at rv
          obtain ⟨as, a1, a2⟩ := Is.reads I hs h e1 rv
          obtain ⟨bs, cs, b1, b2, b3⟩ := IsK.reads I hs t e2 r p3
          rw [← rk] at p1
          refine ⟨_, _, .cons (key_reads p1) b1, .cons a1 b2, fun z => ?_⟩
          rcases List.mem_append.mp z with z | z
          · rcases List.mem_append.mp z with z | z
            · cases z
            · exact b3 (List.mem_append_left _ z)
          · rcases List.mem_append.mp z with z | z
            · exact a2 z
            · exact b3 (List.mem_append_right _ z)
    · cases e
end
end
/-- repr(x), x a list, a tuple or a dict -/
def mReprD (K : PySem.W.Frag) : List V → Hp → VK → Prop := fun vs H Q => ∃ (a : Addr) (x : D) (d : PyData), vs = [.ref a] ∧ SysIn K ∧ Is All H (.ref a) x ∧ toSh x = some d ∧ d.showable = true ∧ d.depth ≤ 60 ∧ d.shown.length ≤ sizeLine ∧ Q (.str d.shown) H
theorem call_mReprD {X : Cx} (hg : X.A.guards = some []) (hu : X.A.units + 64 < cLine) : CallR X (.builtin "repr") (mReprD X.K) := by
  intro pins s σ H xs us Q I r h
  obtain ⟨a, x, d, rfl, hs, hi, e, h1, h2, h3, q⟩ := h
  cases r with
  | cons rv r =>
    cases r
    cases rv
    obtain ⟨as, r1, r2⟩ := hi.reads I hs e (u := .ref a) rfl
    refine repr_of_reads' r1 h1 (fun _ => r2) hg (by omega) (fun _ _ e => e) (fun h' u tk hk => ⟨.str d.shown, H, ?_, ⟨u, rfl⟩, q⟩) h3
    exact I.kept hk
def dReprD1 (x : D) : Option D := match toSh x with
  | some d => (match d with
    | .list _ | .tuple _ | .dict _ => (match d.showable && (decide (d.depth ≤ 60) && lim d.shown.length) with
      | true => some (.str d.shown)
      | false => none)
    | _ => none)
  | none => none
noncomputable def dReprD (K : PySem.W.Frag) (xs : List D) : Option D := match xs with
  | [x] => (match chk (SysIn K) with | true => dReprD1 x | false => none)
  | _ => none
theorem c_reprD {K : PySem.W.Frag} : CaD (mReprD K) (dReprD K) := fun A H vs xs d Q hv nw e q => by
  unfold dReprD at e
  split at e
  · cases hv with
    | cons h t =>
      cases t
      split at e
      · rename_i ck
        have hs := chk_of ck
        unfold dReprD1 at e
        split at e
        · rename_i p ep
          have key : ∀ (a : Addr), Is A H (.ref a) _ → _ → mReprD K [.ref a] H Q := fun a (h : Is A H (.ref a) _) (e : (match p.showable && (decide (p.depth ≤ 60) && lim p.shown.length) with | true => some (D.str p.shown) | false => none) = some d) => by
            split at e
            · rename_i c
              rw [Bool.and_eq_true, Bool.and_eq_true] at c
              cases e
              exact ⟨a, _, p, rfl, hs, h.stp (.same fun _ _ => trivial), ep, c.1, of_decide_eq_true c.2.1, lim_ok c.2.2, q _ H (Ext.refl _ _) (.str _)⟩
            · cases e
          split at e
          · cases h with
            | lst a b c => exact key _ (.lst a b c) e
            | _ => simp [toSh] at ep
          · cases h with
            | tup a b c => exact key _ (.tup a b c) e
            | _ => simp [toSh] at ep
          · cases h with
            | dct a b c => exact key _ (.dct a b c) e
            | _ => simp [toSh] at ep
          · cases e
        · cases e
      · cases e
  · cases e
end Fs

namespace Fs
open PySem PySem.Spec PyProof.Rows L2
open LamX (TabB)
/-- the heap of the call: the tables, and the script if K does not know it -/
noncomputable def hpG (K : PySem.W.Frag) (cs : List (Addr × Addr)) (a : Addr) (u : HO) : Hp := open Classical in fun b =>
  if b ∈ cs.map (·.2) then some (.tbl #[]) else if b = a ∧ K.lookup a = none then some u else none
section
variable {K : PySem.W.Frag} {cs : List (Addr × Addr)} {a : Addr} {u : HO}
theorem hpG_tab {p : Addr × Addr} (h : p ∈ cs) : hpG K cs a u p.2 = some (.tbl #[]) := if_pos (List.mem_map.mpr ⟨p, h, rfl⟩)
theorem hpG_cases {b : Addr} {o : HO} (h : hpG K cs a u b = some o) : (b ∈ cs.map (·.2) ∧ o = .tbl #[]) ∨ (b = a ∧ K.lookup a = none ∧ o = u) := by
  unfold hpG at h
  split at h
  · rename_i m
    exact .inl ⟨m, (Option.some.inj h).symm⟩
  · split at h
    · rename_i m
      exact .inr ⟨m.1, m.2, (Option.some.inj h).symm⟩
    · cases h
theorem hpG_self (n : a ∉ cs.map (·.2)) (k : K.lookup a = none) : hpG K cs a u a = some u := by
  unfold hpG
  rw [if_neg n, if_pos ⟨rfl, k⟩]
end
theorem law_callG {P : Program} {w : World} {K : PySem.W.Frag} {mg mb : Str → Option Value} {CX : CXT} {fa a : Addr} {cs : List (Addr × Addr)} {s₁ : Shared} {vs : List Value} {ns : List Int}
    (KX : K.In s₁.heap) (hns : s₁.heap.Ns mainGlobals mg) (hb : s₁.heap.Ns builtinsNs mb) (hbb : ∀ x : Str, x ≠ "__name__" → mb x = bootBuiltins x) (hlim : s₁.heap.NoLimit) (hg : s₁.gens = #[])
    (hT : ∀ p ∈ cs, s₁.heap.get? p.2 = some { cls := .none, data := .fields #[] }) (nT : ∀ p ∈ cs, K.lookup p.2 = none) (C : ∀ p ∈ cs, PySem.W.CodeHd s₁.heap p.1 p.2)
    (hbm : ∃ (bm : Addr) (ob : Obj), mg "__builtins__" = some (.ref bm) ∧ bm ≠ builtinsNs ∧ s₁.heap.get? bm = some ob ∧ ob.cls = .type "module" ∧ ob.dict = some builtinsNs ∧ ob.data = .plain)
    (ha : s₁.heap.get? a = some { cls := .type "list", data := .seq vs.toArray }) (hi : IntsAre vs ns) (hl : ns.length ≤ sizeLine)
    (F : ∀ (base : Heap) (H : Hp), K.In base → base.Ns mainGlobals mg → (∀ p ∈ cs, TabB base mg p.1 p.2) → Env0 P w K mg base callerA [] s₁ H → (∀ p ∈ cs, H p.2 = some (.tbl #[])) → SqL K H a (ns.map V.int) →
      codeAny (model P w) callerA (.call (.ref fa) ⟨[.ref a], []⟩) (CR CX [] P w H s₁ (fun v _ => v = .bl true) fun _ _ _ => False) s₁)
    (hCX : ∀ H e s', CX [] H s₁ (fun _ _ _ => False) e s' → False) :
    codeAny (model P w) callerA (.call (.ref fa) ⟨[.ref a], []⟩) (fun r s' => r = .ok (.ret (.bool true)) ∧ OldK s₁.heap s'.heap ∧ s'.os = s₁.os ∧ AllBare s'.gens) s₁ := by
  have rv := vals_ints hi
  have len := hi.length
  obtain ⟨H, eH⟩ : ∃ H, H = hpG K cs a (.frz { cls := .type "list", data := .seq vs.toArray } (.lst (ns.map V.int))) := ⟨_, rfl⟩
  have tabs : ∀ b ∈ cs.map (·.2), s₁.heap.get? b = some { cls := .none, data := .fields #[] } := fun b hb => by
    obtain ⟨p, hp, rfl⟩ := List.mem_map.mp hb
    exact hT p hp
  have aT : a ∉ cs.map (·.2) := fun z => by
    have q := (tabs a z).symm.trans ha
    have q2 : (Value.none : Value) = .type "list" := congrArg Obj.cls (Option.some.inj q)
    cases q2
  -- what is tracked is a list or a bare table
  have kind : ∀ {b : Addr} {o : Obj}, s₁.heap.get? b = some o → H b ≠ none → o.cls = .type "list" ∨ o = { cls := .none, data := .fields #[] } := fun {b o} e n => by
    cases q : H b with
    | none => exact absurd q n
    | some u =>
      rw [eH] at q
      rcases hpG_cases q with ⟨m, _⟩ | ⟨rfl, _, _⟩
      · rw [tabs b m] at e; cases e; exact .inr rfl
      · rw [ha] at e; cases e; exact .inl rfl
  have free : ∀ {b : Addr} {o : Obj}, s₁.heap.get? b = some o → o.cls ≠ .type "list" → o ≠ { cls := .none, data := .fields #[] } → H b = none := fun {b o} e n1 n2 => by
    cases q : H b with
    | none => rfl
    | some u => exact ((kind e (by rw [q]; simp)).elim n1 n2).elim
  have freeD : ∀ {b : Addr} {o : Obj}, s₁.heap.get? b = some o → (∀ vs n, o.data ≠ .seq vs n) → o.data ≠ .fields #[] → H b = none := fun {b o} e n1 n2 => by
    cases q : H b with
    | none => rfl
    | some u =>
      rw [eH] at q
      rcases hpG_cases q with ⟨m, _⟩ | ⟨rfl, _, _⟩
      · rw [tabs b m] at e; cases e; exact (n2 rfl).elim
      · rw [ha] at e; cases e; exact (n1 _ _ rfl).elim
  have nsB : ∀ {b : Addr} {m : Str → Option Value}, s₁.heap.Ns b m → (hidT s₁.heap H).Ns b m := fun {b m} ⟨o, es, ep, e, d, r⟩ =>
    ⟨o, es, ep, hidT_get e (freeD e (fun _ _ z => by rw [d] at z; cases z) (fun z => by rw [d] at z; cases z)), d, r⟩
  have KB : K.In (hidT s₁.heap H) := fun b o e => hidT_get (KX b o e) (by
    cases q : H b with
    | none => rfl
    | some u =>
      rw [eH] at q
      rcases hpG_cases q with ⟨m, _⟩ | ⟨rfl, n, _⟩
      · obtain ⟨p, hp, rfl⟩ := List.mem_map.mp m
        rw [nT p hp] at e; cases e
      · rw [n] at e; cases e)
  have tb : ∀ p ∈ cs, TabB (hidT s₁.heap H) mg p.1 p.2 := fun p hp => by
    have t := hT p hp
    refine ⟨?_, ?_, fun z => ?_⟩
    · obtain ⟨o, us, file, tf, flags, tg, inF, text, tt, e1, r1, r2, r3, r⟩ := C p hp
      refine ⟨o, us, file, tf, flags, tg, inF, text, tt, hidT_get e1 (freeD e1 (fun _ _ z => ?_) fun z => ?_), r1, r2, r3, r⟩
      · rw [r2] at z; cases z
      · rw [r2] at z; cases z; simp at r3
    · obtain ⟨bm, ob, b1, b2, b3, b4, b5, b6⟩ := hbm
      refine ⟨bm, ob, b1, b2, fun q => ?_, fun q => ?_, hidT_get b3 (freeD b3 (fun _ _ z => by rw [b6] at z; cases z) (fun z => by rw [b6] at z; cases z)), b4, b5, b6⟩
      · obtain ⟨o, es, ep, e, d, _⟩ := hns
        rw [q, e] at b3; cases b3; rw [d] at b6; cases b6
      · rw [q, t] at b3; cases b3; cases b6
    · obtain ⟨o, es, ep, e, d, _⟩ := hns
      rw [z, t] at e; cases e; cases d
  have hok : HOk P w H s₁.heap := fun b u z => by
    rw [eH] at z
    rcases hpG_cases z with ⟨m, rfl⟩ | ⟨rfl, _, rfl⟩
    · exact tabs b m
    · exact ⟨ha, by rw [List.length_map]; exact hl, vs, _, rv, ha⟩
  have sq : SqL K H a (ns.map V.int) := by
    cases hk : K.lookup a with
    | some o =>
      have e := KX a o hk
      rw [ha] at e
      cases e
      exact .inr ⟨_, vs.toArray, _, hk, rfl, rfl, rfl, by rw [List.size_toArray, len]; exact hl, by simpa using rv⟩
    | none => exact .inl (.inr ⟨_, by rw [eH]; exact hpG_self aT hk⟩)
  have md : L2.Mod K mg (hidT s₁.heap H) := ⟨KB, nsB hns, ⟨mb, nsB hb, hbb⟩, let ⟨mc, h1, h2⟩ := hlim; ⟨mc, nsB h1, h2⟩⟩
  have tT : ∀ p ∈ cs, H p.2 = some (.tbl #[]) := fun p hp => by rw [eH]; exact hpG_tab hp
  have e0 : Env0 P w K mg (hidT s₁.heap H) callerA [] s₁ H := ⟨rfl, md, fun b o e => of_hidT e, Nat.le_of_eq (hidT_size _ _), trivial, fun b hb => absurd (show b ∈ ([] : List Addr) from hb) (by simp), hok, .of_eq hg⟩
  refine codeAny_mono (F _ H KB (nsB hns) tb e0 tT sq) fun r s' h => ?_
  match r, h with
  | .error e, h => exact (hCX H e s' h).elim
  | .ok .next, h => exact False.elim h
  | .ok .brk, h => exact False.elim h
  | .ok .cont, h => exact False.elim h
  | .ok (.ret y), h =>
    obtain ⟨v, H', os, bare, un, hok', r', q⟩ := h
    have q : v = .bl true := q
    subst q
    obtain rfl : y = Value.bool true := r'
    have grown : ∀ p ∈ cs, ∃ more : Array Value, s'.heap.get? p.2 = some { cls := .none, data := .fields more } := fun p hp => by
      obtain ⟨more, z⟩ := un.tbls p.2 #[] (tT p hp)
      exact ⟨_, hok' p.2 _ z⟩
    have same : ∀ b o, b ∉ cs.map (·.2) → s₁.heap.get? b = some o → s'.heap.get? b = some o := fun b o nb e => by
      cases q : H b with
      | none => exact un.keep b o e q (by intro z; exact absurd (show b ∈ ([] : List Addr) from z) (by simp)) (by simp)
      | some u =>
        have q0 := q
        rw [eH] at q
        rcases hpG_cases q with ⟨m, _⟩ | ⟨rfl, _, rfl⟩
        · exact absurd m nb
        · obtain ⟨e2, _⟩ := hok' b _ (un.frzs b _ _ q0)
          rw [ha] at e; cases e
          exact e2
    refine ⟨rfl, ⟨fun b o e => ?_, fun b o e => ?_⟩, os, bare⟩
    · by_cases m : b ∈ cs.map (·.2)
      · obtain ⟨p, hp, rfl⟩ := List.mem_map.mp m
        obtain ⟨more, hm⟩ := grown p hp
        rw [hT p hp] at e; cases e
        exact .inr (.inl ⟨((C p hp).tab (hT p hp)).isCodeTable, rfl, #[], more, rfl, by rw [Array.empty_append]; exact hm⟩)
      · exact .inl (same b o m e)
    · by_cases m : b ∈ cs.map (·.2)
      · obtain ⟨p, hp, rfl⟩ := List.mem_map.mp m
        obtain ⟨more, hm⟩ := grown p hp
        exact ⟨_, hm⟩
      · exact ⟨o, same b o m e⟩
/-- what is known of the law's promise at the head's heap h, called by its caller -/
def LawAtG (l : PySem.W.OpenLaw) (w : World) (K : PySem.W.Frag) (CX : CXT) (n : Nat) (mg : Str → Option Value) (fa : Addr) (h : Heap) : Prop :=
  ∃ (cs : List (Addr × Addr)), (∀ p ∈ cs, h.get? p.2 = some { cls := .none, data := .fields #[] }) ∧ (∀ p ∈ cs, K.lookup p.2 = none) ∧ (∀ p ∈ cs, PySem.W.CodeHd h p.1 p.2) ∧
    ∀ (base : Heap) (s : Shared) (H : Hp) (a : Addr) (ns : List Int), ns.length ≤ n → (∀ z ∈ ns, Builtin.Int.intBits z ≤ 1048576) → K.In base → base.Ns mainGlobals mg → (∀ p ∈ cs, TabB base mg p.1 p.2) → Env0 l.prog w K mg base callerA [] s H →
      (∀ p ∈ cs, H p.2 = some (.tbl #[])) → SqL K H a (ns.map V.int) → codeAny (model l.prog w) callerA (.call (.ref fa) ⟨[.ref a], []⟩) (CR CX [] l.prog w H s (fun v _ => v = .bl true) fun _ _ _ => False) s
theorem walk_ofG {l : PySem.W.OpenLaw} {n : Nat} {q : Program} {loose : List Str} {XP : (Str → Option Value) → Heap → Prop} {YP : World → Heap → Prop} {d : DefRec} {CX : World → CXT}
    (hn : l.most = some n) (hn2 : n ≤ sizeLine) (hdf : d.params.defaults = [])
    (F : ∀ (w : World) (mg : Str → Option Value) (fa : Addr) (h : Heap), YP w h → h.Ns mainGlobals mg → mg d.name = some (.ref fa) → ∃ K : PySem.W.Frag, K.In h ∧ LawAtG l w K (CX w) n mg fa h)
    (hCX : ∀ (w : World) (H : Hp) (s : Shared) (e : Value) (s' : Shared), CX w [] H s (fun _ _ _ => False) e s' → False) :
    PySem.W.WalkO q loose XP YP l.row.toRowW d [] (fun f vs => PySem.call f vs) := by
  refine Att.attach_callB hn hdf fun w s₀ s₁ mg mb fa o pm cd doc a vs ns G Y ho hd hcd hmg hobj hints hlen hbits hg => ?_
  obtain ⟨K, KX, cs, hT, nT, C, hF⟩ := F w mg fa _ Y G.T.g hmg
  exact law_callG KX G.T.g G.T.b G.T.builtins G.T.nolimit hg hT nT C G.T.bmain hobj hints (Nat.le_trans hlen hn2) (fun base H k1 k2 k3 k4 k5 k6 => hF base s₁ H a ns hlen hbits k1 k2 k3 k4 k5 k6) fun H e s' => hCX w H s₁ e s'
end Fs

namespace Fs
open PySem PySem.Spec PyProof.Rows L2
inductive IsP (A : Addr → Prop) (H : Hp) : List (V × V) → List (D × D) → Prop
  | nil : IsP A H [] []
  | cons {v w : V} {x y : D} {vs : List (V × V)} {ds : List (D × D)} (h1 : Is A H v x) (h2 : Is A H w y) (t : IsP A H vs ds) : IsP A H ((v, w) :: vs) ((x, y) :: ds)
def keysD : List (D × D) → Option (List (Key × D))
  | [] => some []
  | (x, y) :: r => match keyD x, keysD r with
    | some k, some ks => some ((k, y) :: ks)
    | _, _ => none
def mergeD (kvs more : List (Key × D)) : List (Key × D) := more.foldl (fun acc kv => putD acc kv.1 kv.2) kvs
def dispD (ps : List (D × D)) : Option D := match keysD ps with
  | some kds => (match decide (kds.length ≤ 15) with | true => some (.dct (mergeD [] kds)) | false => none)
  | none => none
variable {S : Type} {C : Cfg S}
theorem IsP.keys {A : Addr → Prop} {H : Hp} : ∀ {vs : List (V × V)} {ds : List (D × D)} {kds : List (Key × D)}, IsP A H vs ds → keysD ds = some kds → ∃ kvs : List (Key × V), vs = kvs.map (fun kv => (kV kv.1, kv.2)) ∧ IsK A H kvs kds
  | _, _, _, .nil, e => by simp only [keysD, Option.some.injEq] at e; subst e; exact ⟨[], rfl, .nil⟩
  | _, _, _, .cons h1 h2 t, e => by
    unfold keysD at e
    split at e
    · rename_i k ks e1 e2
      cases e
      obtain ⟨kvs, rfl, i⟩ := IsP.keys t e2
      exact ⟨(k, _) :: kvs, by rw [List.map_cons, keyOf_kV (h1.key e1)], .cons h2 i⟩
    · cases e
theorem IsK.merge {A : Addr → Prop} {H : Hp} : ∀ {more : List (Key × V)} {ds : List (Key × D)} {kvs : List (Key × V)} {es : List (Key × D)}, IsK A H more ds → IsK A H kvs es → IsK A H (mergeK kvs more) (mergeD es ds)
  | _, _, _, _, .nil, g => g
  | _, _, kvs, es, .cons (k := k) (v := v) (d := d) (vs := vs) (ds := ds) h t, g => show IsK A H (mergeK (putK kvs k v) vs) (mergeD (putD es k d) ds) from IsK.merge t (IsK.put h g)
def pairsR : List ((Rho → M S D) × (Rho → M S D)) → Rho → M S (List (D × D))
  | [], _ => .ret []
  | (f, g) :: r, ρ => (f ρ).bind fun x => (g ρ).bind fun y => (pairsR r ρ).bind fun ps => .ret ((x, y) :: ps)
inductive EvP (C : Cfg S) : List ((XK → TE) × (XK → TE)) → List ((Rho → M S D) × (Rho → M S D)) → Prop
  | nil : EvP C [] []
  | cons {tk tv : XK → TE} {f g : Rho → M S D} {ts : List ((XK → TE) × (XK → TE))} {fs : List ((Rho → M S D) × (Rho → M S D))} (h1 : EvD C tk f) (h2 : EvD C tv g) (t : EvP C ts fs) : EvP C ((tk, tv) :: ts) ((f, g) :: fs)
theorem pairs_run {ts : List ((XK → TE) × (XK → TE))} {fs : List ((Rho → M S D) × (Rho → M S D))} (h : EvP C ts fs) : ∀ (B : Bs) (A : Addr → Prop) (ρ : Rho) (σ : L2.St) (H : Hp) (s : S) (E : XK) (Q : List (V × V) → Hp → Prop), Rel C.toPl B A ρ σ H → C.I s H →
    Wish C ⟨H, A, none⟩ E (pairsR fs ρ s) (fun ps s' => ∀ vs H', ExL C.keep A H H' → C.I s' H' → IsP A H' vs ps → Q vs H') → tPairs (ts.map fun p => (p.1 E, p.2 E)) σ H Q := by
  induction h with
  | nil => intro B A ρ σ H s E Q R I W; exact W [] H (ExL.refl _ _ _) I .nil
  | cons h1 h2 t ih =>
    intro B A ρ σ H s E Q R I W
    refine h1 B A ρ σ H s E _ R I ((Wish.then W).mono fun x s1 W1 v H1 e1 I1 k1 => ?_)
    refine h2 B A ρ σ H1 s1 E _ (R.step e1) I1 ((Wish.then (Wish.step W1 e1)).mono fun y s2 W2 w H2 e2 I2 k2 => ?_)
    refine ih B A ρ σ H2 s2 E _ ((R.step e1).step e2) I2 ((Wish.then (Wish.step W2 e2)).mono fun ps s3 W3 vs H3 e3 I3 k3 => ?_)
    exact W3 _ H3 ((e1.trans e2).trans e3) I3 (.cons (k1.stp ((e2.trans e3).stp R.ak)) (k2.stp (e3.stp R.ak)) k3)
def xDisp (fs : List ((Rho → M S D) × (Rho → M S D))) : Rho → M S D := fun ρ => (pairsR fs ρ).bind fun ps => .of (dispD ps)
theorem e_disp {ts : List ((XK → TE) × (XK → TE))} {fs : List ((Rho → M S D) × (Rho → M S D))} (h : EvP C ts fs) : EvD C (fun E => tDisp (ts.map fun p => (p.1 E, p.2 E))) (xDisp fs) := fun B A ρ σ H s E Q R I W p hp => by
  have x : Ext All H (upd H p (.dK [])) := Ext.new hp
  have R1 := R.aside (x.all (P := C.keep)) hp (by rw [upd_same]; simp)
  have okp : C.ok p := R.ao p (R.nw p hp)
  have I1 := C.st _ _ _ I x
  refine pairs_run h B _ ρ σ _ s E _ R1 I1 (Wish.mono (Wish.to (Wish.then W) (B' := ⟨upd H p (.dK []), fun a => A a ∧ a ≠ p, none⟩) x.all (fun a q => q.1)) fun ps s1 W1 vs H2 e2 I2 k2 => ?_)
  have atp : H2 p = some (.dK []) := e2.out (C.okk p okp) (fun z => z.2 rfl) upd_same
  obtain ⟨d, ed, W2⟩ := of_some W1
  unfold dispD at ed
  split at ed
  · rename_i kds ek
    split at ed
    · rename_i hl
      cases ed
      obtain ⟨kvs, rfl, ik⟩ := k2.keys ek
      refine ⟨atp, kvs, rfl, by rw [ik.length]; exact of_decide_eq_true hl, ?_⟩
      have st : Stp (fun a => A a ∧ a ≠ p) H2 A (upd H2 p (.dK (mergeK [] kvs))) := Stp.put (fun _ _ _ h => h.1) fun o e q => q.elim (fun z => z.2 rfl) fun z => by rw [atp] at e; cases e; exact z
      refine W2 _ _ ⟨fun a o k e => ?_, fun a e => ?_⟩ (C.st2 _ _ _ _ okp (by rw [atp]; rfl) I2) (.dct (R.nw p hp) (by unfold look; rw [upd_same]) ((IsK.merge ik .nil).stp st))
      · have ne : a ≠ p := ne_of_none e hp
        rw [upd_ne ne]
        rcases e2.1 a o k (by rw [upd_ne ne]; exact e) with z | ⟨l, z⟩
        · exact .inl z
        · exact .inr ⟨l.1, z⟩
      · by_cases ne : a = p
        · rw [ne, upd_same] at e; cases e
        · rw [upd_ne ne] at e
          have z := e2.2 a e
          rw [upd_ne ne] at z
          exact z
    · cases ed
  · cases ed
def retE : Stmt → Expr
  | .Return (some e) _ => e
  | _ => .Constant .none 0 ⟨0, 0, 0, 0⟩
def eltE (e : Expr) (i : Nat) : Expr := match e with
  | .List es p => es.getD i (.List [] p)
  | .Tuple es _ p => es.getD i (.List [] p)
  | e => e
def lamOf (q : Str) (e : Expr) : LF := match e with
  | .Lambda params body scope _ => ⟨(q ++ ".<locals>.") ++ "<lambda>", params, body, scope⟩
  | e => ⟨q, default, e, ⟨.function, [], false, false, {}⟩⟩
theorem pe_fnT {X : Cx} {T : List (Addr × Str)} {c P : Addr} {params : Arguments} {body : Expr} {scope : Scope} {pos : Pos} {F : LF} (hF : F = ⟨X.env.qual ++ "<lambda>", params, body, scope⟩) (TB : LamX.TabB X.base X.mg c P) (hcode : X.env.code = .ref c)
    (hm : (P, X.env.qual ++ "<lambda>") ∈ T) (hu : ∀ p ∈ T, p.1 = P → p.2 = X.env.qual ++ "<lambda>") (hdef : defaultsOf params X.env = ([], [])) (hfree : scope.names.all (fun y => !decide (y.2 = .free)) = true) (hcl : cloFrom X.env.cells scope.names [] = []) :
    PE X (.Lambda params body scope pos) (tFn T F) := by
  subst hF
  exact pe_fn TB hcode hm hu hdef hfree hcl
theorem law_run {P : Program} {w : World} {K : PySem.W.Frag} {mg : Str → Option Value} {base : Heap} {x qual : Str} {st : Stmt} {f a : Addr} {fd : FuncData} {N ps : List Str} {k : Nat} {rd : XK → TS} (F : Fun K x qual st f fd) (S : FnScope N ps (defScope st)) (hps : ps.length = 1) (hr : Room (k + 1) callerA) (hb : L2.Binds K fd ps [])
    (hbody : ∀ (cdv : Value) (s : Shared) (H : Hp) (E : XK), Room k (callerA.deeper (envOfC qual (defScope st) s.heap.objs.size f cdv)) → PSs (cxOf (L2.CX P w) P w K mg base N qual (defScope st) f cdv callerA [] s H E) (defBody st) (rd E))
    {s : Shared} {H : Hp} {Q : VK} {E : XK} (e0 : Env0 P w K mg base callerA [] s H) (h : spR N ps.length rd [.ref a] H Q E) : codeAny (model P w) callerA (.call (.ref f) ⟨[.ref a], []⟩) (CR (L2.CX P w) [] P w H s Q E) s := by
  obtain ⟨oc, od, kV, doc, pm, an, cdv, ct, osl, rfl, lk, hcd⟩ := F.ex
  have KX : K.In s.heap := e0.mod.kin.keeps fun b o e => (e0.bs b o e).1
  refine LamX.run_ofS (N := N) (ps := ps) (us := [.ref a]) (vs := [.ref a]) lk hcd S hr e0 (hb s [.ref a] KX (by rw [hps]; rfl)) (.cons rfl .nil) (by rw [hps]; rfl) fun hr1 => ?_
  exact ⟨rd E, hbody cdv s H E hr1, h.2⟩
theorem in_kw {P : Program} {K : PySem.W.Frag} {d : InD} {names ks : List Str} (hb : inB P.main.file K d names = true) (hf : fnI K (d.at_ K) = d.val)
    (hB : ∀ (kV doc pm : Value) (an : Option Addr) (cdv ct : Value) (cc : Addr) (s : Shared) (self : Value) (ws : List Value), ws.length = ks.length → BindsTo s (PySem.W.ksFn "__init__" d.qual d.params d.body d.scope .none kV doc pm an cdv ct cc) ⟨[self], ks.zip ws⟩ (("self", self) :: names.zip (pick ks names ws))) :
    SxKw K (d.at_ K) names ks := by
  intro oc od fd osl lk s self ws hw
  unfold inB at hb
  obtain ⟨h1, hb⟩ := He.ba hb
  obtain ⟨h2, hb⟩ := He.ba hb
  obtain ⟨h3, hb⟩ := He.ba hb
  obtain ⟨h4, hb⟩ := He.ba hb
  obtain ⟨h5, hb⟩ := He.ba hb
  obtain ⟨h6, hb⟩ := He.ba hb
  obtain ⟨h7, hb⟩ := He.ba hb
  obtain ⟨h8, hb⟩ := He.ba hb
  obtain ⟨h9, hb⟩ := He.ba hb
  obtain ⟨h10, hb⟩ := He.ba hb
  obtain ⟨h11, hb⟩ := He.ba hb
  obtain ⟨h12, h13⟩ := He.ba hb
  unfold sxF at h13
  rw [lk] at h13
  unfold fnI at hf
  rw [lk] at hf
  obtain ⟨n1, n2, n3, n4, n5, n6, n7, n8, n9, n10, n11, n12, n13, n14, n15⟩ := fd
  have e2 : (some (n1, n2, n3, n4, n5, n6, n7.map (·.1), n15) : FnI) = (some (("__init__" : Str), d.qual, d.params, FuncBody.stmts d.body, d.scope, mainGlobals, [("__class__" : Str)], builtinsNs) : FnI) := hf
  simp only [Option.some.injEq, Prod.mk.injEq] at e2
  obtain ⟨f1, f2, f3, f4, f5, f6, f7, f8⟩ := e2
  obtain ⟨k1, h13⟩ := He.ba h13
  obtain ⟨k2, h13⟩ := He.ba h13
  obtain ⟨k3, k4⟩ := He.ba h13
  split at k1
  · rename_i en8
    have en8 : n8 = .none := en8
    split at k4
    · rename_i xx cc ecl
      have ecl : n7 = [(xx, cc)] := ecl
      have exx : xx = "__class__" := by rw [ecl] at f7; simpa using f7
      subst exx en8 ecl f1 f2 f3 f4 f5 f6 f8
      exact hB _ _ _ _ _ _ _ s self ws hw
    · cases k4
  · cases k1
def sysB (K : PySem.W.Frag) : Bool := match K.lookup sysModules with
  | some o => (match o.cls with | .type t => decide (t = "dict") | _ => false)
  | none => false
theorem sysB_ok {K : PySem.W.Frag} (h : sysB K = true) : SysIn K := by
  unfold sysB at h
  split at h
  · rename_i o e
    split at h
    · rename_i t et
      exact ⟨o, e, by rw [et, of_decide_eq_true h]⟩
    · cases h
  · cases h
theorem dIsx_of {K : PySem.W.Frag} {C : Addr} {fs : List (Str × D)} {d : D} {b : Bool} (h : ExcC K C) (e : isCD K (.ref C) d = some b) : dIsx K [.exc C fs, d] = some (.bl b) := by
  show (match chk (ExcC K C) with | true => (isCD K (.ref C) d).map D.bl | false => none) = _
  rw [chk_true h, e]; rfl
end Fs

namespace Rk01
open PySem L2 Fs
structure Ad where
  f_L_kinds : Addr
  f_L_made : Addr
  f_L_pen : Addr
  f_L_draw : Addr
  f_L_pick : Addr
  f_L_value : Addr
  f_law : Addr
  c_BadChange : Addr
  c_BadCommand : Addr
  c_BadFlow : Addr
  c_BadLink : Addr
  c_BadLoad : Addr
  c_BadLot : Addr
  c_BadName : Addr
  c_BadNet : Addr
  c_BadNumber : Addr
  c_BadOrder : Addr
  c_BadPaper : Addr
  c_BadShelf : Addr
  c_BadSize : Addr
  c_BadText : Addr
  c_Endless : Addr
  c_NoFlow : Addr
  c_NoParcel : Addr
  c_NoPost : Addr
  c_NoRoom : Addr
  c_NoShelf : Addr
  c_NoStep : Addr
  c_NoWant : Addr
  c_NotMet : Addr
  c_Nothing : Addr
  c_ShelfError : Addr
  c_Taken : Addr
  c_TooMany : Addr
  c_Unsafe : Addr
  i_BadChange : Addr
  i_BadCommand : Addr
  i_BadFlow : Addr
  i_BadLink : Addr
  i_BadLoad : Addr
  i_BadLot : Addr
  i_BadName : Addr
  i_BadNet : Addr
  i_BadNumber : Addr
  i_BadOrder : Addr
  i_BadPaper : Addr
  i_BadShelf : Addr
  i_BadSize : Addr
  i_BadText : Addr
  i_Endless : Addr
  i_NoFlow : Addr
  i_NoParcel : Addr
  i_NoPost : Addr
  i_NoRoom : Addr
  i_NoShelf : Addr
  i_NoStep : Addr
  i_NoWant : Addr
  i_NotMet : Addr
  i_Nothing : Addr
  i_Taken : Addr
  i_TooMany : Addr
  i_Unsafe : Addr
  cd_L_kinds : Addr
  tb_L_kinds : Addr
  cd_L_made : Addr
  tb_L_made : Addr
  lf_0 : LF
  lf_1 : LF
  lf_2 : LF
  lf_3 : LF
  lf_4 : LF
  lf_5 : LF
  lf_6 : LF
  lf_7 : LF
  lf_8 : LF
  lf_9 : LF
  lf_10 : LF
  lf_11 : LF
  lf_12 : LF
  lf_13 : LF
  lf_14 : LF
  lf_15 : LF
  lf_16 : LF
  lf_17 : LF
  lf_18 : LF
  lf_19 : LF
  lf_20 : LF
  lf_21 : LF
  lf_22 : LF
  lf_23 : LF
  lf_24 : LF
  lf_25 : LF
  lf_26 : LF
  lf_27 : LF
  lf_28 : LF
  lf_29 : LF
  lf_30 : LF
  lf_31 : LF
  lf_32 : LF
  lf_33 : LF
  lf_34 : LF
  lf_35 : LF
  lf_36 : LF
  lf_37 : LF
  lf_38 : LF
  lf_39 : LF
  lf_40 : LF
  lf_41 : LF
  lf_42 : LF
  lf_43 : LF
  lf_44 : LF
  lf_45 : LF
  lf_46 : LF
  lf_47 : LF
  lf_48 : LF
  lf_49 : LF
  lf_50 : LF
  lf_51 : LF
  lf_52 : LF
  lf_53 : LF
  lf_54 : LF
  lf_55 : LF
  lf_56 : LF
  lf_57 : LF
  lf_58 : LF
  lf_59 : LF
  dummy : Addr
abbrev Ad.tabs (A : Ad) : List (Addr × Str) := [(A.tb_L_kinds, ("_law_kinds" ++ ".<locals>.") ++ "<lambda>"), (A.tb_L_made, ("_law_made" ++ ".<locals>.") ++ "<lambda>")]
def tl_0 (K : PySem.W.Frag) (A : Ad) (E : XK) : TE :=
  (tCB (mIkx K) (tCons (tV 0) (tCons (tC (.ref A.c_BadName)) tNil)))
abbrev sl_0 (K : PySem.W.Frag) (A : Ad) : Sp := spR ["_law_error"] 1 (fun E => tRet (tl_0 K A E))
noncomputable def ml_0 {S : Type} (K : PySem.W.Frag) (A : Ad) : List D → M S D := runD 1 1 (yRet (xCa (dIsx K) (xCons (xV 0) (xCons (xC (.adr A.c_BadName)) xNil))))
theorem SL_0 {S : Type} {C : Cfg S} {K : PySem.W.Frag} {A : Ad} : SpD C (sl_0 K A) (ml_0 K A) := sp_run (N := ["_law_error"]) (by decide) (d_ret (e_ca c_isx (a_cons (e_var 0) (a_cons e_adr a_nil))))
def tl_1 (K : PySem.W.Frag) (A : Ad) (E : XK) : TE :=
  (tCB (mIkx K) (tCons (tV 0) (tCons (tC (.ref A.c_BadShelf)) tNil)))
abbrev sl_1 (K : PySem.W.Frag) (A : Ad) : Sp := spR ["_law_mistake"] 1 (fun E => tRet (tl_1 K A E))
noncomputable def ml_1 {S : Type} (K : PySem.W.Frag) (A : Ad) : List D → M S D := runD 1 1 (yRet (xCa (dIsx K) (xCons (xV 0) (xCons (xC (.adr A.c_BadShelf)) xNil))))
theorem SL_1 {S : Type} {C : Cfg S} {K : PySem.W.Frag} {A : Ad} : SpD C (sl_1 K A) (ml_1 K A) := sp_run (N := ["_law_mistake"]) (by decide) (d_ret (e_ca c_isx (a_cons (e_var 0) (a_cons e_adr a_nil))))
def tl_2 (K : PySem.W.Frag) (A : Ad) (E : XK) : TE :=
  (tCB (mIkx K) (tCons (tV 0) (tCons (tC (.ref A.c_BadFlow)) tNil)))
abbrev sl_2 (K : PySem.W.Frag) (A : Ad) : Sp := spR ["_law_error"] 1 (fun E => tRet (tl_2 K A E))
noncomputable def ml_2 {S : Type} (K : PySem.W.Frag) (A : Ad) : List D → M S D := runD 1 1 (yRet (xCa (dIsx K) (xCons (xV 0) (xCons (xC (.adr A.c_BadFlow)) xNil))))
theorem SL_2 {S : Type} {C : Cfg S} {K : PySem.W.Frag} {A : Ad} : SpD C (sl_2 K A) (ml_2 K A) := sp_run (N := ["_law_error"]) (by decide) (d_ret (e_ca c_isx (a_cons (e_var 0) (a_cons e_adr a_nil))))
def tl_3 (K : PySem.W.Frag) (A : Ad) (E : XK) : TE :=
  (tCB (mIkx K) (tCons (tV 0) (tCons (tC (.ref A.c_BadNet)) tNil)))
abbrev sl_3 (K : PySem.W.Frag) (A : Ad) : Sp := spR ["_law_mistake"] 1 (fun E => tRet (tl_3 K A E))
noncomputable def ml_3 {S : Type} (K : PySem.W.Frag) (A : Ad) : List D → M S D := runD 1 1 (yRet (xCa (dIsx K) (xCons (xV 0) (xCons (xC (.adr A.c_BadNet)) xNil))))
theorem SL_3 {S : Type} {C : Cfg S} {K : PySem.W.Frag} {A : Ad} : SpD C (sl_3 K A) (ml_3 K A) := sp_run (N := ["_law_mistake"]) (by decide) (d_ret (e_ca c_isx (a_cons (e_var 0) (a_cons e_adr a_nil))))
def tl_4 (K : PySem.W.Frag) (A : Ad) (E : XK) : TE :=
  (tCB (mIkx K) (tCons (tV 0) (tCons (tC (.ref A.c_BadPaper)) tNil)))
abbrev sl_4 (K : PySem.W.Frag) (A : Ad) : Sp := spR ["_law_error"] 1 (fun E => tRet (tl_4 K A E))
noncomputable def ml_4 {S : Type} (K : PySem.W.Frag) (A : Ad) : List D → M S D := runD 1 1 (yRet (xCa (dIsx K) (xCons (xV 0) (xCons (xC (.adr A.c_BadPaper)) xNil))))
theorem SL_4 {S : Type} {C : Cfg S} {K : PySem.W.Frag} {A : Ad} : SpD C (sl_4 K A) (ml_4 K A) := sp_run (N := ["_law_error"]) (by decide) (d_ret (e_ca c_isx (a_cons (e_var 0) (a_cons e_adr a_nil))))
def tl_5 (K : PySem.W.Frag) (A : Ad) (E : XK) : TE :=
  (tCB (mIkx K) (tCons (tV 0) (tCons (tC (.ref A.c_BadLot)) tNil)))
abbrev sl_5 (K : PySem.W.Frag) (A : Ad) : Sp := spR ["_law_mistake"] 1 (fun E => tRet (tl_5 K A E))
noncomputable def ml_5 {S : Type} (K : PySem.W.Frag) (A : Ad) : List D → M S D := runD 1 1 (yRet (xCa (dIsx K) (xCons (xV 0) (xCons (xC (.adr A.c_BadLot)) xNil))))
theorem SL_5 {S : Type} {C : Cfg S} {K : PySem.W.Frag} {A : Ad} : SpD C (sl_5 K A) (ml_5 K A) := sp_run (N := ["_law_mistake"]) (by decide) (d_ret (e_ca c_isx (a_cons (e_var 0) (a_cons e_adr a_nil))))
def tl_6 (K : PySem.W.Frag) (A : Ad) (E : XK) : TE :=
  (tCB (mIkx K) (tCons (tV 0) (tCons (tC (.ref A.c_BadChange)) tNil)))
abbrev sl_6 (K : PySem.W.Frag) (A : Ad) : Sp := spR ["_law_error"] 1 (fun E => tRet (tl_6 K A E))
noncomputable def ml_6 {S : Type} (K : PySem.W.Frag) (A : Ad) : List D → M S D := runD 1 1 (yRet (xCa (dIsx K) (xCons (xV 0) (xCons (xC (.adr A.c_BadChange)) xNil))))
theorem SL_6 {S : Type} {C : Cfg S} {K : PySem.W.Frag} {A : Ad} : SpD C (sl_6 K A) (ml_6 K A) := sp_run (N := ["_law_error"]) (by decide) (d_ret (e_ca c_isx (a_cons (e_var 0) (a_cons e_adr a_nil))))
def tl_7 (K : PySem.W.Frag) (A : Ad) (E : XK) : TE :=
  (tCB (mIkx K) (tCons (tV 0) (tCons (tC (.ref A.c_BadSize)) tNil)))
abbrev sl_7 (K : PySem.W.Frag) (A : Ad) : Sp := spR ["_law_mistake"] 1 (fun E => tRet (tl_7 K A E))
noncomputable def ml_7 {S : Type} (K : PySem.W.Frag) (A : Ad) : List D → M S D := runD 1 1 (yRet (xCa (dIsx K) (xCons (xV 0) (xCons (xC (.adr A.c_BadSize)) xNil))))
theorem SL_7 {S : Type} {C : Cfg S} {K : PySem.W.Frag} {A : Ad} : SpD C (sl_7 K A) (ml_7 K A) := sp_run (N := ["_law_mistake"]) (by decide) (d_ret (e_ca c_isx (a_cons (e_var 0) (a_cons e_adr a_nil))))
def tl_8 (K : PySem.W.Frag) (A : Ad) (E : XK) : TE :=
  (tCB (mIkx K) (tCons (tV 0) (tCons (tC (.ref A.c_BadLoad)) tNil)))
abbrev sl_8 (K : PySem.W.Frag) (A : Ad) : Sp := spR ["_law_error"] 1 (fun E => tRet (tl_8 K A E))
noncomputable def ml_8 {S : Type} (K : PySem.W.Frag) (A : Ad) : List D → M S D := runD 1 1 (yRet (xCa (dIsx K) (xCons (xV 0) (xCons (xC (.adr A.c_BadLoad)) xNil))))
theorem SL_8 {S : Type} {C : Cfg S} {K : PySem.W.Frag} {A : Ad} : SpD C (sl_8 K A) (ml_8 K A) := sp_run (N := ["_law_error"]) (by decide) (d_ret (e_ca c_isx (a_cons (e_var 0) (a_cons e_adr a_nil))))
def tl_9 (K : PySem.W.Frag) (A : Ad) (E : XK) : TE :=
  (tCB (mIkx K) (tCons (tV 0) (tCons (tC (.ref A.c_BadNumber)) tNil)))
abbrev sl_9 (K : PySem.W.Frag) (A : Ad) : Sp := spR ["_law_mistake"] 1 (fun E => tRet (tl_9 K A E))
noncomputable def ml_9 {S : Type} (K : PySem.W.Frag) (A : Ad) : List D → M S D := runD 1 1 (yRet (xCa (dIsx K) (xCons (xV 0) (xCons (xC (.adr A.c_BadNumber)) xNil))))
theorem SL_9 {S : Type} {C : Cfg S} {K : PySem.W.Frag} {A : Ad} : SpD C (sl_9 K A) (ml_9 K A) := sp_run (N := ["_law_mistake"]) (by decide) (d_ret (e_ca c_isx (a_cons (e_var 0) (a_cons e_adr a_nil))))
def tl_10 (K : PySem.W.Frag) (A : Ad) (E : XK) : TE :=
  (tCB (mIkx K) (tCons (tV 0) (tCons (tC (.ref A.c_BadOrder)) tNil)))
abbrev sl_10 (K : PySem.W.Frag) (A : Ad) : Sp := spR ["_law_error"] 1 (fun E => tRet (tl_10 K A E))
noncomputable def ml_10 {S : Type} (K : PySem.W.Frag) (A : Ad) : List D → M S D := runD 1 1 (yRet (xCa (dIsx K) (xCons (xV 0) (xCons (xC (.adr A.c_BadOrder)) xNil))))
theorem SL_10 {S : Type} {C : Cfg S} {K : PySem.W.Frag} {A : Ad} : SpD C (sl_10 K A) (ml_10 K A) := sp_run (N := ["_law_error"]) (by decide) (d_ret (e_ca c_isx (a_cons (e_var 0) (a_cons e_adr a_nil))))
def tl_11 (K : PySem.W.Frag) (A : Ad) (E : XK) : TE :=
  (tCB (mIkx K) (tCons (tV 0) (tCons (tC (.ref A.c_BadLink)) tNil)))
abbrev sl_11 (K : PySem.W.Frag) (A : Ad) : Sp := spR ["_law_mistake"] 1 (fun E => tRet (tl_11 K A E))
noncomputable def ml_11 {S : Type} (K : PySem.W.Frag) (A : Ad) : List D → M S D := runD 1 1 (yRet (xCa (dIsx K) (xCons (xV 0) (xCons (xC (.adr A.c_BadLink)) xNil))))
theorem SL_11 {S : Type} {C : Cfg S} {K : PySem.W.Frag} {A : Ad} : SpD C (sl_11 K A) (ml_11 K A) := sp_run (N := ["_law_mistake"]) (by decide) (d_ret (e_ca c_isx (a_cons (e_var 0) (a_cons e_adr a_nil))))
def tl_12 (K : PySem.W.Frag) (A : Ad) (E : XK) : TE :=
  (tCB (mIkx K) (tCons (tV 0) (tCons (tC (.ref A.c_NoFlow)) tNil)))
abbrev sl_12 (K : PySem.W.Frag) (A : Ad) : Sp := spR ["_law_error"] 1 (fun E => tRet (tl_12 K A E))
noncomputable def ml_12 {S : Type} (K : PySem.W.Frag) (A : Ad) : List D → M S D := runD 1 1 (yRet (xCa (dIsx K) (xCons (xV 0) (xCons (xC (.adr A.c_NoFlow)) xNil))))
theorem SL_12 {S : Type} {C : Cfg S} {K : PySem.W.Frag} {A : Ad} : SpD C (sl_12 K A) (ml_12 K A) := sp_run (N := ["_law_error"]) (by decide) (d_ret (e_ca c_isx (a_cons (e_var 0) (a_cons e_adr a_nil))))
def tl_13 (K : PySem.W.Frag) (A : Ad) (E : XK) : TE :=
  (tCB (mIkx K) (tCons (tV 0) (tCons (tC (.ref A.c_NoShelf)) tNil)))
abbrev sl_13 (K : PySem.W.Frag) (A : Ad) : Sp := spR ["_law_mistake"] 1 (fun E => tRet (tl_13 K A E))
noncomputable def ml_13 {S : Type} (K : PySem.W.Frag) (A : Ad) : List D → M S D := runD 1 1 (yRet (xCa (dIsx K) (xCons (xV 0) (xCons (xC (.adr A.c_NoShelf)) xNil))))
theorem SL_13 {S : Type} {C : Cfg S} {K : PySem.W.Frag} {A : Ad} : SpD C (sl_13 K A) (ml_13 K A) := sp_run (N := ["_law_mistake"]) (by decide) (d_ret (e_ca c_isx (a_cons (e_var 0) (a_cons e_adr a_nil))))
def tl_14 (K : PySem.W.Frag) (A : Ad) (E : XK) : TE :=
  (tCB (mIkx K) (tCons (tV 0) (tCons (tC (.ref A.c_NoStep)) tNil)))
abbrev sl_14 (K : PySem.W.Frag) (A : Ad) : Sp := spR ["_law_error"] 1 (fun E => tRet (tl_14 K A E))
noncomputable def ml_14 {S : Type} (K : PySem.W.Frag) (A : Ad) : List D → M S D := runD 1 1 (yRet (xCa (dIsx K) (xCons (xV 0) (xCons (xC (.adr A.c_NoStep)) xNil))))
theorem SL_14 {S : Type} {C : Cfg S} {K : PySem.W.Frag} {A : Ad} : SpD C (sl_14 K A) (ml_14 K A) := sp_run (N := ["_law_error"]) (by decide) (d_ret (e_ca c_isx (a_cons (e_var 0) (a_cons e_adr a_nil))))
def tl_15 (K : PySem.W.Frag) (A : Ad) (E : XK) : TE :=
  (tCB (mIkx K) (tCons (tV 0) (tCons (tC (.ref A.c_NoStep)) tNil)))
abbrev sl_15 (K : PySem.W.Frag) (A : Ad) : Sp := spR ["_law_mistake"] 1 (fun E => tRet (tl_15 K A E))
noncomputable def ml_15 {S : Type} (K : PySem.W.Frag) (A : Ad) : List D → M S D := runD 1 1 (yRet (xCa (dIsx K) (xCons (xV 0) (xCons (xC (.adr A.c_NoStep)) xNil))))
theorem SL_15 {S : Type} {C : Cfg S} {K : PySem.W.Frag} {A : Ad} : SpD C (sl_15 K A) (ml_15 K A) := sp_run (N := ["_law_mistake"]) (by decide) (d_ret (e_ca c_isx (a_cons (e_var 0) (a_cons e_adr a_nil))))
def tl_16 (K : PySem.W.Frag) (A : Ad) (E : XK) : TE :=
  (tCB (mIkx K) (tCons (tV 0) (tCons (tC (.ref A.c_NotMet)) tNil)))
abbrev sl_16 (K : PySem.W.Frag) (A : Ad) : Sp := spR ["_law_error"] 1 (fun E => tRet (tl_16 K A E))
noncomputable def ml_16 {S : Type} (K : PySem.W.Frag) (A : Ad) : List D → M S D := runD 1 1 (yRet (xCa (dIsx K) (xCons (xV 0) (xCons (xC (.adr A.c_NotMet)) xNil))))
theorem SL_16 {S : Type} {C : Cfg S} {K : PySem.W.Frag} {A : Ad} : SpD C (sl_16 K A) (ml_16 K A) := sp_run (N := ["_law_error"]) (by decide) (d_ret (e_ca c_isx (a_cons (e_var 0) (a_cons e_adr a_nil))))
def tl_17 (K : PySem.W.Frag) (A : Ad) (E : XK) : TE :=
  (tCB (mIkx K) (tCons (tV 0) (tCons (tC (.ref A.c_NoPost)) tNil)))
abbrev sl_17 (K : PySem.W.Frag) (A : Ad) : Sp := spR ["_law_mistake"] 1 (fun E => tRet (tl_17 K A E))
noncomputable def ml_17 {S : Type} (K : PySem.W.Frag) (A : Ad) : List D → M S D := runD 1 1 (yRet (xCa (dIsx K) (xCons (xV 0) (xCons (xC (.adr A.c_NoPost)) xNil))))
theorem SL_17 {S : Type} {C : Cfg S} {K : PySem.W.Frag} {A : Ad} : SpD C (sl_17 K A) (ml_17 K A) := sp_run (N := ["_law_mistake"]) (by decide) (d_ret (e_ca c_isx (a_cons (e_var 0) (a_cons e_adr a_nil))))
def tl_18 (K : PySem.W.Frag) (A : Ad) (E : XK) : TE :=
  (tCB (mIkx K) (tCons (tV 0) (tCons (tC (.ref A.c_NoRoom)) tNil)))
abbrev sl_18 (K : PySem.W.Frag) (A : Ad) : Sp := spR ["_law_error"] 1 (fun E => tRet (tl_18 K A E))
noncomputable def ml_18 {S : Type} (K : PySem.W.Frag) (A : Ad) : List D → M S D := runD 1 1 (yRet (xCa (dIsx K) (xCons (xV 0) (xCons (xC (.adr A.c_NoRoom)) xNil))))
theorem SL_18 {S : Type} {C : Cfg S} {K : PySem.W.Frag} {A : Ad} : SpD C (sl_18 K A) (ml_18 K A) := sp_run (N := ["_law_error"]) (by decide) (d_ret (e_ca c_isx (a_cons (e_var 0) (a_cons e_adr a_nil))))
def tl_19 (K : PySem.W.Frag) (A : Ad) (E : XK) : TE :=
  (tCB (mIkx K) (tCons (tV 0) (tCons (tC (.ref A.c_NoParcel)) tNil)))
abbrev sl_19 (K : PySem.W.Frag) (A : Ad) : Sp := spR ["_law_mistake"] 1 (fun E => tRet (tl_19 K A E))
noncomputable def ml_19 {S : Type} (K : PySem.W.Frag) (A : Ad) : List D → M S D := runD 1 1 (yRet (xCa (dIsx K) (xCons (xV 0) (xCons (xC (.adr A.c_NoParcel)) xNil))))
theorem SL_19 {S : Type} {C : Cfg S} {K : PySem.W.Frag} {A : Ad} : SpD C (sl_19 K A) (ml_19 K A) := sp_run (N := ["_law_mistake"]) (by decide) (d_ret (e_ca c_isx (a_cons (e_var 0) (a_cons e_adr a_nil))))
def tl_20 (K : PySem.W.Frag) (A : Ad) (E : XK) : TE :=
  (tCB (mIkx K) (tCons (tV 0) (tCons (tC (.ref A.c_NoWant)) tNil)))
abbrev sl_20 (K : PySem.W.Frag) (A : Ad) : Sp := spR ["_law_error"] 1 (fun E => tRet (tl_20 K A E))
noncomputable def ml_20 {S : Type} (K : PySem.W.Frag) (A : Ad) : List D → M S D := runD 1 1 (yRet (xCa (dIsx K) (xCons (xV 0) (xCons (xC (.adr A.c_NoWant)) xNil))))
theorem SL_20 {S : Type} {C : Cfg S} {K : PySem.W.Frag} {A : Ad} : SpD C (sl_20 K A) (ml_20 K A) := sp_run (N := ["_law_error"]) (by decide) (d_ret (e_ca c_isx (a_cons (e_var 0) (a_cons e_adr a_nil))))
def tl_21 (K : PySem.W.Frag) (A : Ad) (E : XK) : TE :=
  (tCB (mIkx K) (tCons (tV 0) (tCons (tC (.ref A.c_Endless)) tNil)))
abbrev sl_21 (K : PySem.W.Frag) (A : Ad) : Sp := spR ["_law_mistake"] 1 (fun E => tRet (tl_21 K A E))
noncomputable def ml_21 {S : Type} (K : PySem.W.Frag) (A : Ad) : List D → M S D := runD 1 1 (yRet (xCa (dIsx K) (xCons (xV 0) (xCons (xC (.adr A.c_Endless)) xNil))))
theorem SL_21 {S : Type} {C : Cfg S} {K : PySem.W.Frag} {A : Ad} : SpD C (sl_21 K A) (ml_21 K A) := sp_run (N := ["_law_mistake"]) (by decide) (d_ret (e_ca c_isx (a_cons (e_var 0) (a_cons e_adr a_nil))))
def tl_22 (K : PySem.W.Frag) (A : Ad) (E : XK) : TE :=
  (tCB (mIkx K) (tCons (tV 0) (tCons (tC (.ref A.c_Unsafe)) tNil)))
abbrev sl_22 (K : PySem.W.Frag) (A : Ad) : Sp := spR ["_law_error"] 1 (fun E => tRet (tl_22 K A E))
noncomputable def ml_22 {S : Type} (K : PySem.W.Frag) (A : Ad) : List D → M S D := runD 1 1 (yRet (xCa (dIsx K) (xCons (xV 0) (xCons (xC (.adr A.c_Unsafe)) xNil))))
theorem SL_22 {S : Type} {C : Cfg S} {K : PySem.W.Frag} {A : Ad} : SpD C (sl_22 K A) (ml_22 K A) := sp_run (N := ["_law_error"]) (by decide) (d_ret (e_ca c_isx (a_cons (e_var 0) (a_cons e_adr a_nil))))
def tl_23 (K : PySem.W.Frag) (A : Ad) (E : XK) : TE :=
  (tCB (mIkx K) (tCons (tV 0) (tCons (tC (.ref A.c_Taken)) tNil)))
abbrev sl_23 (K : PySem.W.Frag) (A : Ad) : Sp := spR ["_law_mistake"] 1 (fun E => tRet (tl_23 K A E))
noncomputable def ml_23 {S : Type} (K : PySem.W.Frag) (A : Ad) : List D → M S D := runD 1 1 (yRet (xCa (dIsx K) (xCons (xV 0) (xCons (xC (.adr A.c_Taken)) xNil))))
theorem SL_23 {S : Type} {C : Cfg S} {K : PySem.W.Frag} {A : Ad} : SpD C (sl_23 K A) (ml_23 K A) := sp_run (N := ["_law_mistake"]) (by decide) (d_ret (e_ca c_isx (a_cons (e_var 0) (a_cons e_adr a_nil))))
def tl_24 (K : PySem.W.Frag) (A : Ad) (E : XK) : TE :=
  (tCB (mIkx K) (tCons (tV 0) (tCons (tC (.ref A.c_Nothing)) tNil)))
abbrev sl_24 (K : PySem.W.Frag) (A : Ad) : Sp := spR ["_law_error"] 1 (fun E => tRet (tl_24 K A E))
noncomputable def ml_24 {S : Type} (K : PySem.W.Frag) (A : Ad) : List D → M S D := runD 1 1 (yRet (xCa (dIsx K) (xCons (xV 0) (xCons (xC (.adr A.c_Nothing)) xNil))))
theorem SL_24 {S : Type} {C : Cfg S} {K : PySem.W.Frag} {A : Ad} : SpD C (sl_24 K A) (ml_24 K A) := sp_run (N := ["_law_error"]) (by decide) (d_ret (e_ca c_isx (a_cons (e_var 0) (a_cons e_adr a_nil))))
def tl_25 (K : PySem.W.Frag) (A : Ad) (E : XK) : TE :=
  (tCB (mIkx K) (tCons (tV 0) (tCons (tC (.ref A.c_TooMany)) tNil)))
abbrev sl_25 (K : PySem.W.Frag) (A : Ad) : Sp := spR ["_law_mistake"] 1 (fun E => tRet (tl_25 K A E))
noncomputable def ml_25 {S : Type} (K : PySem.W.Frag) (A : Ad) : List D → M S D := runD 1 1 (yRet (xCa (dIsx K) (xCons (xV 0) (xCons (xC (.adr A.c_TooMany)) xNil))))
theorem SL_25 {S : Type} {C : Cfg S} {K : PySem.W.Frag} {A : Ad} : SpD C (sl_25 K A) (ml_25 K A) := sp_run (N := ["_law_mistake"]) (by decide) (d_ret (e_ca c_isx (a_cons (e_var 0) (a_cons e_adr a_nil))))
def tl_26 (K : PySem.W.Frag) (A : Ad) (E : XK) : TE :=
  (tCB (mIkx K) (tCons (tV 0) (tCons (tC (.ref A.c_TooMany)) tNil)))
abbrev sl_26 (K : PySem.W.Frag) (A : Ad) : Sp := spR ["_law_error"] 1 (fun E => tRet (tl_26 K A E))
noncomputable def ml_26 {S : Type} (K : PySem.W.Frag) (A : Ad) : List D → M S D := runD 1 1 (yRet (xCa (dIsx K) (xCons (xV 0) (xCons (xC (.adr A.c_TooMany)) xNil))))
theorem SL_26 {S : Type} {C : Cfg S} {K : PySem.W.Frag} {A : Ad} : SpD C (sl_26 K A) (ml_26 K A) := sp_run (N := ["_law_error"]) (by decide) (d_ret (e_ca c_isx (a_cons (e_var 0) (a_cons e_adr a_nil))))
def tl_27 (K : PySem.W.Frag) (A : Ad) (E : XK) : TE :=
  (tCB (mIkx K) (tCons (tV 0) (tCons (tC (.ref A.c_BadText)) tNil)))
abbrev sl_27 (K : PySem.W.Frag) (A : Ad) : Sp := spR ["_law_mistake"] 1 (fun E => tRet (tl_27 K A E))
noncomputable def ml_27 {S : Type} (K : PySem.W.Frag) (A : Ad) : List D → M S D := runD 1 1 (yRet (xCa (dIsx K) (xCons (xV 0) (xCons (xC (.adr A.c_BadText)) xNil))))
theorem SL_27 {S : Type} {C : Cfg S} {K : PySem.W.Frag} {A : Ad} : SpD C (sl_27 K A) (ml_27 K A) := sp_run (N := ["_law_mistake"]) (by decide) (d_ret (e_ca c_isx (a_cons (e_var 0) (a_cons e_adr a_nil))))
def tl_28 (K : PySem.W.Frag) (A : Ad) (E : XK) : TE :=
  (tCB (mIkx K) (tCons (tV 0) (tCons (tC (.ref A.c_BadText)) tNil)))
abbrev sl_28 (K : PySem.W.Frag) (A : Ad) : Sp := spR ["_law_error"] 1 (fun E => tRet (tl_28 K A E))
noncomputable def ml_28 {S : Type} (K : PySem.W.Frag) (A : Ad) : List D → M S D := runD 1 1 (yRet (xCa (dIsx K) (xCons (xV 0) (xCons (xC (.adr A.c_BadText)) xNil))))
theorem SL_28 {S : Type} {C : Cfg S} {K : PySem.W.Frag} {A : Ad} : SpD C (sl_28 K A) (ml_28 K A) := sp_run (N := ["_law_error"]) (by decide) (d_ret (e_ca c_isx (a_cons (e_var 0) (a_cons e_adr a_nil))))
def tl_29 (K : PySem.W.Frag) (A : Ad) (E : XK) : TE :=
  (tCB (mIkx K) (tCons (tV 0) (tCons (tC (.ref A.c_BadCommand)) tNil)))
abbrev sl_29 (K : PySem.W.Frag) (A : Ad) : Sp := spR ["_law_mistake"] 1 (fun E => tRet (tl_29 K A E))
noncomputable def ml_29 {S : Type} (K : PySem.W.Frag) (A : Ad) : List D → M S D := runD 1 1 (yRet (xCa (dIsx K) (xCons (xV 0) (xCons (xC (.adr A.c_BadCommand)) xNil))))
theorem SL_29 {S : Type} {C : Cfg S} {K : PySem.W.Frag} {A : Ad} : SpD C (sl_29 K A) (ml_29 K A) := sp_run (N := ["_law_mistake"]) (by decide) (d_ret (e_ca c_isx (a_cons (e_var 0) (a_cons e_adr a_nil))))
def tl_30 (K : PySem.W.Frag) (A : Ad) (E : XK) : TE :=
  (tLst (tCons (tXo K "value" (tV 0)) tNil))
abbrev sl_30 (K : PySem.W.Frag) (A : Ad) : Sp := spR ["_law_error"] 1 (fun E => tRet (tl_30 K A E))
noncomputable def ml_30 {S : Type} (K : PySem.W.Frag) (A : Ad) : List D → M S D := runD 1 1 (yRet (xL (xLstN (xCons (x1 (dXf K "value") (xV 0)) xNil))))
theorem SL_30 {S : Type} {C : Cfg S} {K : PySem.W.Frag} {A : Ad} : SpD C (sl_30 K A) (ml_30 K A) := sp_run (N := ["_law_error"]) (by decide) (d_ret (e_new (n_lst (a_cons (e_xfld (e_var 0)) a_nil))))
def tl_31 (K : PySem.W.Frag) (A : Ad) (E : XK) : TE :=
  (tLst (tCons (tXo K "value" (tV 0)) tNil))
abbrev sl_31 (K : PySem.W.Frag) (A : Ad) : Sp := spR ["_law_error"] 1 (fun E => tRet (tl_31 K A E))
noncomputable def ml_31 {S : Type} (K : PySem.W.Frag) (A : Ad) : List D → M S D := runD 1 1 (yRet (xL (xLstN (xCons (x1 (dXf K "value") (xV 0)) xNil))))
theorem SL_31 {S : Type} {C : Cfg S} {K : PySem.W.Frag} {A : Ad} : SpD C (sl_31 K A) (ml_31 K A) := sp_run (N := ["_law_error"]) (by decide) (d_ret (e_new (n_lst (a_cons (e_xfld (e_var 0)) a_nil))))
def tl_32 (K : PySem.W.Frag) (A : Ad) (E : XK) : TE :=
  (tLst (tCons (tXo K "part" (tV 0)) tNil))
abbrev sl_32 (K : PySem.W.Frag) (A : Ad) : Sp := spR ["_law_error"] 1 (fun E => tRet (tl_32 K A E))
noncomputable def ml_32 {S : Type} (K : PySem.W.Frag) (A : Ad) : List D → M S D := runD 1 1 (yRet (xL (xLstN (xCons (x1 (dXf K "part") (xV 0)) xNil))))
theorem SL_32 {S : Type} {C : Cfg S} {K : PySem.W.Frag} {A : Ad} : SpD C (sl_32 K A) (ml_32 K A) := sp_run (N := ["_law_error"]) (by decide) (d_ret (e_new (n_lst (a_cons (e_xfld (e_var 0)) a_nil))))
def tl_33 (K : PySem.W.Frag) (A : Ad) (E : XK) : TE :=
  (tLst (tCons (tXo K "part" (tV 0)) tNil))
abbrev sl_33 (K : PySem.W.Frag) (A : Ad) : Sp := spR ["_law_error"] 1 (fun E => tRet (tl_33 K A E))
noncomputable def ml_33 {S : Type} (K : PySem.W.Frag) (A : Ad) : List D → M S D := runD 1 1 (yRet (xL (xLstN (xCons (x1 (dXf K "part") (xV 0)) xNil))))
theorem SL_33 {S : Type} {C : Cfg S} {K : PySem.W.Frag} {A : Ad} : SpD C (sl_33 K A) (ml_33 K A) := sp_run (N := ["_law_error"]) (by decide) (d_ret (e_new (n_lst (a_cons (e_xfld (e_var 0)) a_nil))))
def tl_34 (K : PySem.W.Frag) (A : Ad) (E : XK) : TE :=
  (tLst (tCons (tXo K "part" (tV 0)) tNil))
abbrev sl_34 (K : PySem.W.Frag) (A : Ad) : Sp := spR ["_law_error"] 1 (fun E => tRet (tl_34 K A E))
noncomputable def ml_34 {S : Type} (K : PySem.W.Frag) (A : Ad) : List D → M S D := runD 1 1 (yRet (xL (xLstN (xCons (x1 (dXf K "part") (xV 0)) xNil))))
theorem SL_34 {S : Type} {C : Cfg S} {K : PySem.W.Frag} {A : Ad} : SpD C (sl_34 K A) (ml_34 K A) := sp_run (N := ["_law_error"]) (by decide) (d_ret (e_new (n_lst (a_cons (e_xfld (e_var 0)) a_nil))))
def tl_35 (K : PySem.W.Frag) (A : Ad) (E : XK) : TE :=
  (tLst (tCons (tXo K "at" (tV 0)) tNil))
abbrev sl_35 (K : PySem.W.Frag) (A : Ad) : Sp := spR ["_law_error"] 1 (fun E => tRet (tl_35 K A E))
noncomputable def ml_35 {S : Type} (K : PySem.W.Frag) (A : Ad) : List D → M S D := runD 1 1 (yRet (xL (xLstN (xCons (x1 (dXf K "at") (xV 0)) xNil))))
theorem SL_35 {S : Type} {C : Cfg S} {K : PySem.W.Frag} {A : Ad} : SpD C (sl_35 K A) (ml_35 K A) := sp_run (N := ["_law_error"]) (by decide) (d_ret (e_new (n_lst (a_cons (e_xfld (e_var 0)) a_nil))))
def tl_36 (K : PySem.W.Frag) (A : Ad) (E : XK) : TE :=
  (tLst (tCons (tXo K "at" (tV 0)) tNil))
abbrev sl_36 (K : PySem.W.Frag) (A : Ad) : Sp := spR ["_law_error"] 1 (fun E => tRet (tl_36 K A E))
noncomputable def ml_36 {S : Type} (K : PySem.W.Frag) (A : Ad) : List D → M S D := runD 1 1 (yRet (xL (xLstN (xCons (x1 (dXf K "at") (xV 0)) xNil))))
theorem SL_36 {S : Type} {C : Cfg S} {K : PySem.W.Frag} {A : Ad} : SpD C (sl_36 K A) (ml_36 K A) := sp_run (N := ["_law_error"]) (by decide) (d_ret (e_new (n_lst (a_cons (e_xfld (e_var 0)) a_nil))))
def tl_37 (K : PySem.W.Frag) (A : Ad) (E : XK) : TE :=
  (tLst (tCons (tXo K "shelf" (tV 0)) tNil))
abbrev sl_37 (K : PySem.W.Frag) (A : Ad) : Sp := spR ["_law_error"] 1 (fun E => tRet (tl_37 K A E))
noncomputable def ml_37 {S : Type} (K : PySem.W.Frag) (A : Ad) : List D → M S D := runD 1 1 (yRet (xL (xLstN (xCons (x1 (dXf K "shelf") (xV 0)) xNil))))
theorem SL_37 {S : Type} {C : Cfg S} {K : PySem.W.Frag} {A : Ad} : SpD C (sl_37 K A) (ml_37 K A) := sp_run (N := ["_law_error"]) (by decide) (d_ret (e_new (n_lst (a_cons (e_xfld (e_var 0)) a_nil))))
def tl_38 (K : PySem.W.Frag) (A : Ad) (E : XK) : TE :=
  (tLst (tCons (tXo K "part" (tV 0)) tNil))
abbrev sl_38 (K : PySem.W.Frag) (A : Ad) : Sp := spR ["_law_error"] 1 (fun E => tRet (tl_38 K A E))
noncomputable def ml_38 {S : Type} (K : PySem.W.Frag) (A : Ad) : List D → M S D := runD 1 1 (yRet (xL (xLstN (xCons (x1 (dXf K "part") (xV 0)) xNil))))
theorem SL_38 {S : Type} {C : Cfg S} {K : PySem.W.Frag} {A : Ad} : SpD C (sl_38 K A) (ml_38 K A) := sp_run (N := ["_law_error"]) (by decide) (d_ret (e_new (n_lst (a_cons (e_xfld (e_var 0)) a_nil))))
def tl_39 (K : PySem.W.Frag) (A : Ad) (E : XK) : TE :=
  (tLst (tCons (tXo K "value" (tV 0)) tNil))
abbrev sl_39 (K : PySem.W.Frag) (A : Ad) : Sp := spR ["_law_error"] 1 (fun E => tRet (tl_39 K A E))
noncomputable def ml_39 {S : Type} (K : PySem.W.Frag) (A : Ad) : List D → M S D := runD 1 1 (yRet (xL (xLstN (xCons (x1 (dXf K "value") (xV 0)) xNil))))
theorem SL_39 {S : Type} {C : Cfg S} {K : PySem.W.Frag} {A : Ad} : SpD C (sl_39 K A) (ml_39 K A) := sp_run (N := ["_law_error"]) (by decide) (d_ret (e_new (n_lst (a_cons (e_xfld (e_var 0)) a_nil))))
def tl_40 (K : PySem.W.Frag) (A : Ad) (E : XK) : TE :=
  (tLst (tCons (tXo K "at" (tV 0)) tNil))
abbrev sl_40 (K : PySem.W.Frag) (A : Ad) : Sp := spR ["_law_error"] 1 (fun E => tRet (tl_40 K A E))
noncomputable def ml_40 {S : Type} (K : PySem.W.Frag) (A : Ad) : List D → M S D := runD 1 1 (yRet (xL (xLstN (xCons (x1 (dXf K "at") (xV 0)) xNil))))
theorem SL_40 {S : Type} {C : Cfg S} {K : PySem.W.Frag} {A : Ad} : SpD C (sl_40 K A) (ml_40 K A) := sp_run (N := ["_law_error"]) (by decide) (d_ret (e_new (n_lst (a_cons (e_xfld (e_var 0)) a_nil))))
def tl_41 (K : PySem.W.Frag) (A : Ad) (E : XK) : TE :=
  (tLst (tCons (tXo K "at" (tV 0)) tNil))
abbrev sl_41 (K : PySem.W.Frag) (A : Ad) : Sp := spR ["_law_error"] 1 (fun E => tRet (tl_41 K A E))
noncomputable def ml_41 {S : Type} (K : PySem.W.Frag) (A : Ad) : List D → M S D := runD 1 1 (yRet (xL (xLstN (xCons (x1 (dXf K "at") (xV 0)) xNil))))
theorem SL_41 {S : Type} {C : Cfg S} {K : PySem.W.Frag} {A : Ad} : SpD C (sl_41 K A) (ml_41 K A) := sp_run (N := ["_law_error"]) (by decide) (d_ret (e_new (n_lst (a_cons (e_xfld (e_var 0)) a_nil))))
def tl_42 (K : PySem.W.Frag) (A : Ad) (E : XK) : TE :=
  (tLst (tCons (tXo K "name" (tV 0)) tNil))
abbrev sl_42 (K : PySem.W.Frag) (A : Ad) : Sp := spR ["_law_error"] 1 (fun E => tRet (tl_42 K A E))
noncomputable def ml_42 {S : Type} (K : PySem.W.Frag) (A : Ad) : List D → M S D := runD 1 1 (yRet (xL (xLstN (xCons (x1 (dXf K "name") (xV 0)) xNil))))
theorem SL_42 {S : Type} {C : Cfg S} {K : PySem.W.Frag} {A : Ad} : SpD C (sl_42 K A) (ml_42 K A) := sp_run (N := ["_law_error"]) (by decide) (d_ret (e_new (n_lst (a_cons (e_xfld (e_var 0)) a_nil))))
def tl_43 (K : PySem.W.Frag) (A : Ad) (E : XK) : TE :=
  (tLst (tCons (tXo K "shelf" (tV 0)) tNil))
abbrev sl_43 (K : PySem.W.Frag) (A : Ad) : Sp := spR ["_law_error"] 1 (fun E => tRet (tl_43 K A E))
noncomputable def ml_43 {S : Type} (K : PySem.W.Frag) (A : Ad) : List D → M S D := runD 1 1 (yRet (xL (xLstN (xCons (x1 (dXf K "shelf") (xV 0)) xNil))))
theorem SL_43 {S : Type} {C : Cfg S} {K : PySem.W.Frag} {A : Ad} : SpD C (sl_43 K A) (ml_43 K A) := sp_run (N := ["_law_error"]) (by decide) (d_ret (e_new (n_lst (a_cons (e_xfld (e_var 0)) a_nil))))
def tl_44 (K : PySem.W.Frag) (A : Ad) (E : XK) : TE :=
  (tLst (tCons (tXo K "shelf" (tV 0)) (tCons (tXo K "flow" (tV 0)) tNil)))
abbrev sl_44 (K : PySem.W.Frag) (A : Ad) : Sp := spR ["_law_error"] 1 (fun E => tRet (tl_44 K A E))
noncomputable def ml_44 {S : Type} (K : PySem.W.Frag) (A : Ad) : List D → M S D := runD 1 1 (yRet (xL (xLstN (xCons (x1 (dXf K "shelf") (xV 0)) (xCons (x1 (dXf K "flow") (xV 0)) xNil)))))
theorem SL_44 {S : Type} {C : Cfg S} {K : PySem.W.Frag} {A : Ad} : SpD C (sl_44 K A) (ml_44 K A) := sp_run (N := ["_law_error"]) (by decide) (d_ret (e_new (n_lst (a_cons (e_xfld (e_var 0)) (a_cons (e_xfld (e_var 0)) a_nil)))))
def tl_45 (K : PySem.W.Frag) (A : Ad) (E : XK) : TE :=
  (tLst (tCons (tXo K "shelf" (tV 0)) (tCons (tXo K "flow" (tV 0)) tNil)))
abbrev sl_45 (K : PySem.W.Frag) (A : Ad) : Sp := spR ["_law_error"] 1 (fun E => tRet (tl_45 K A E))
noncomputable def ml_45 {S : Type} (K : PySem.W.Frag) (A : Ad) : List D → M S D := runD 1 1 (yRet (xL (xLstN (xCons (x1 (dXf K "shelf") (xV 0)) (xCons (x1 (dXf K "flow") (xV 0)) xNil)))))
theorem SL_45 {S : Type} {C : Cfg S} {K : PySem.W.Frag} {A : Ad} : SpD C (sl_45 K A) (ml_45 K A) := sp_run (N := ["_law_error"]) (by decide) (d_ret (e_new (n_lst (a_cons (e_xfld (e_var 0)) (a_cons (e_xfld (e_var 0)) a_nil)))))
def tl_46 (K : PySem.W.Frag) (A : Ad) (E : XK) : TE :=
  (tLst (tCons (tXo K "shelf" (tV 0)) (tCons (tXo K "flow" (tV 0)) tNil)))
abbrev sl_46 (K : PySem.W.Frag) (A : Ad) : Sp := spR ["_law_error"] 1 (fun E => tRet (tl_46 K A E))
noncomputable def ml_46 {S : Type} (K : PySem.W.Frag) (A : Ad) : List D → M S D := runD 1 1 (yRet (xL (xLstN (xCons (x1 (dXf K "shelf") (xV 0)) (xCons (x1 (dXf K "flow") (xV 0)) xNil)))))
theorem SL_46 {S : Type} {C : Cfg S} {K : PySem.W.Frag} {A : Ad} : SpD C (sl_46 K A) (ml_46 K A) := sp_run (N := ["_law_error"]) (by decide) (d_ret (e_new (n_lst (a_cons (e_xfld (e_var 0)) (a_cons (e_xfld (e_var 0)) a_nil)))))
def tl_47 (K : PySem.W.Frag) (A : Ad) (E : XK) : TE :=
  (tLst (tCons (tXo K "post" (tV 0)) tNil))
abbrev sl_47 (K : PySem.W.Frag) (A : Ad) : Sp := spR ["_law_error"] 1 (fun E => tRet (tl_47 K A E))
noncomputable def ml_47 {S : Type} (K : PySem.W.Frag) (A : Ad) : List D → M S D := runD 1 1 (yRet (xL (xLstN (xCons (x1 (dXf K "post") (xV 0)) xNil))))
theorem SL_47 {S : Type} {C : Cfg S} {K : PySem.W.Frag} {A : Ad} : SpD C (sl_47 K A) (ml_47 K A) := sp_run (N := ["_law_error"]) (by decide) (d_ret (e_new (n_lst (a_cons (e_xfld (e_var 0)) a_nil))))
def tl_48 (K : PySem.W.Frag) (A : Ad) (E : XK) : TE :=
  (tLst (tCons (tXo K "shelf" (tV 0)) tNil))
abbrev sl_48 (K : PySem.W.Frag) (A : Ad) : Sp := spR ["_law_error"] 1 (fun E => tRet (tl_48 K A E))
noncomputable def ml_48 {S : Type} (K : PySem.W.Frag) (A : Ad) : List D → M S D := runD 1 1 (yRet (xL (xLstN (xCons (x1 (dXf K "shelf") (xV 0)) xNil))))
theorem SL_48 {S : Type} {C : Cfg S} {K : PySem.W.Frag} {A : Ad} : SpD C (sl_48 K A) (ml_48 K A) := sp_run (N := ["_law_error"]) (by decide) (d_ret (e_new (n_lst (a_cons (e_xfld (e_var 0)) a_nil))))
def tl_49 (K : PySem.W.Frag) (A : Ad) (E : XK) : TE :=
  (tLst (tCons (tXo K "number" (tV 0)) tNil))
abbrev sl_49 (K : PySem.W.Frag) (A : Ad) : Sp := spR ["_law_error"] 1 (fun E => tRet (tl_49 K A E))
noncomputable def ml_49 {S : Type} (K : PySem.W.Frag) (A : Ad) : List D → M S D := runD 1 1 (yRet (xL (xLstN (xCons (x1 (dXf K "number") (xV 0)) xNil))))
theorem SL_49 {S : Type} {C : Cfg S} {K : PySem.W.Frag} {A : Ad} : SpD C (sl_49 K A) (ml_49 K A) := sp_run (N := ["_law_error"]) (by decide) (d_ret (e_new (n_lst (a_cons (e_xfld (e_var 0)) a_nil))))
def tl_50 (K : PySem.W.Frag) (A : Ad) (E : XK) : TE :=
  (tLst (tCons (tXo K "want" (tV 0)) tNil))
abbrev sl_50 (K : PySem.W.Frag) (A : Ad) : Sp := spR ["_law_error"] 1 (fun E => tRet (tl_50 K A E))
noncomputable def ml_50 {S : Type} (K : PySem.W.Frag) (A : Ad) : List D → M S D := runD 1 1 (yRet (xL (xLstN (xCons (x1 (dXf K "want") (xV 0)) xNil))))
theorem SL_50 {S : Type} {C : Cfg S} {K : PySem.W.Frag} {A : Ad} : SpD C (sl_50 K A) (ml_50 K A) := sp_run (N := ["_law_error"]) (by decide) (d_ret (e_new (n_lst (a_cons (e_xfld (e_var 0)) a_nil))))
def tl_51 (K : PySem.W.Frag) (A : Ad) (E : XK) : TE :=
  (tLst (tCons (tXo K "flow" (tV 0)) tNil))
abbrev sl_51 (K : PySem.W.Frag) (A : Ad) : Sp := spR ["_law_error"] 1 (fun E => tRet (tl_51 K A E))
noncomputable def ml_51 {S : Type} (K : PySem.W.Frag) (A : Ad) : List D → M S D := runD 1 1 (yRet (xL (xLstN (xCons (x1 (dXf K "flow") (xV 0)) xNil))))
theorem SL_51 {S : Type} {C : Cfg S} {K : PySem.W.Frag} {A : Ad} : SpD C (sl_51 K A) (ml_51 K A) := sp_run (N := ["_law_error"]) (by decide) (d_ret (e_new (n_lst (a_cons (e_xfld (e_var 0)) a_nil))))
def tl_52 (K : PySem.W.Frag) (A : Ad) (E : XK) : TE :=
  (tLst (tCons (tXo K "paper" (tV 0)) tNil))
abbrev sl_52 (K : PySem.W.Frag) (A : Ad) : Sp := spR ["_law_error"] 1 (fun E => tRet (tl_52 K A E))
noncomputable def ml_52 {S : Type} (K : PySem.W.Frag) (A : Ad) : List D → M S D := runD 1 1 (yRet (xL (xLstN (xCons (x1 (dXf K "paper") (xV 0)) xNil))))
theorem SL_52 {S : Type} {C : Cfg S} {K : PySem.W.Frag} {A : Ad} : SpD C (sl_52 K A) (ml_52 K A) := sp_run (N := ["_law_error"]) (by decide) (d_ret (e_new (n_lst (a_cons (e_xfld (e_var 0)) a_nil))))
def tl_53 (K : PySem.W.Frag) (A : Ad) (E : XK) : TE :=
  (tLst (tCons (tXo K "name" (tV 0)) tNil))
abbrev sl_53 (K : PySem.W.Frag) (A : Ad) : Sp := spR ["_law_error"] 1 (fun E => tRet (tl_53 K A E))
noncomputable def ml_53 {S : Type} (K : PySem.W.Frag) (A : Ad) : List D → M S D := runD 1 1 (yRet (xL (xLstN (xCons (x1 (dXf K "name") (xV 0)) xNil))))
theorem SL_53 {S : Type} {C : Cfg S} {K : PySem.W.Frag} {A : Ad} : SpD C (sl_53 K A) (ml_53 K A) := sp_run (N := ["_law_error"]) (by decide) (d_ret (e_new (n_lst (a_cons (e_xfld (e_var 0)) a_nil))))
def tl_54 (K : PySem.W.Frag) (A : Ad) (E : XK) : TE :=
  (tLst tNil)
abbrev sl_54 (K : PySem.W.Frag) (A : Ad) : Sp := spR ["_law_error"] 1 (fun E => tRet (tl_54 K A E))
noncomputable def ml_54 {S : Type} (K : PySem.W.Frag) (A : Ad) : List D → M S D := runD 1 1 (yRet (xL (xLstN xNil)))
theorem SL_54 {S : Type} {C : Cfg S} {K : PySem.W.Frag} {A : Ad} : SpD C (sl_54 K A) (ml_54 K A) := sp_run (N := ["_law_error"]) (by decide) (d_ret (e_new (n_lst a_nil)))
def tl_55 (K : PySem.W.Frag) (A : Ad) (E : XK) : TE :=
  (tLst (tCons (tXo K "what" (tV 0)) (tCons (tXo K "most" (tV 0)) tNil)))
abbrev sl_55 (K : PySem.W.Frag) (A : Ad) : Sp := spR ["_law_error"] 1 (fun E => tRet (tl_55 K A E))
noncomputable def ml_55 {S : Type} (K : PySem.W.Frag) (A : Ad) : List D → M S D := runD 1 1 (yRet (xL (xLstN (xCons (x1 (dXf K "what") (xV 0)) (xCons (x1 (dXf K "most") (xV 0)) xNil)))))
theorem SL_55 {S : Type} {C : Cfg S} {K : PySem.W.Frag} {A : Ad} : SpD C (sl_55 K A) (ml_55 K A) := sp_run (N := ["_law_error"]) (by decide) (d_ret (e_new (n_lst (a_cons (e_xfld (e_var 0)) (a_cons (e_xfld (e_var 0)) a_nil)))))
def tl_56 (K : PySem.W.Frag) (A : Ad) (E : XK) : TE :=
  (tLst (tCons (tXo K "what" (tV 0)) (tCons (tXo K "most" (tV 0)) tNil)))
abbrev sl_56 (K : PySem.W.Frag) (A : Ad) : Sp := spR ["_law_error"] 1 (fun E => tRet (tl_56 K A E))
noncomputable def ml_56 {S : Type} (K : PySem.W.Frag) (A : Ad) : List D → M S D := runD 1 1 (yRet (xL (xLstN (xCons (x1 (dXf K "what") (xV 0)) (xCons (x1 (dXf K "most") (xV 0)) xNil)))))
theorem SL_56 {S : Type} {C : Cfg S} {K : PySem.W.Frag} {A : Ad} : SpD C (sl_56 K A) (ml_56 K A) := sp_run (N := ["_law_error"]) (by decide) (d_ret (e_new (n_lst (a_cons (e_xfld (e_var 0)) (a_cons (e_xfld (e_var 0)) a_nil)))))
def tl_57 (K : PySem.W.Frag) (A : Ad) (E : XK) : TE :=
  (tLst (tCons (tXo K "line" (tV 0)) (tCons (tXo K "word" (tV 0)) tNil)))
abbrev sl_57 (K : PySem.W.Frag) (A : Ad) : Sp := spR ["_law_error"] 1 (fun E => tRet (tl_57 K A E))
noncomputable def ml_57 {S : Type} (K : PySem.W.Frag) (A : Ad) : List D → M S D := runD 1 1 (yRet (xL (xLstN (xCons (x1 (dXf K "line") (xV 0)) (xCons (x1 (dXf K "word") (xV 0)) xNil)))))
theorem SL_57 {S : Type} {C : Cfg S} {K : PySem.W.Frag} {A : Ad} : SpD C (sl_57 K A) (ml_57 K A) := sp_run (N := ["_law_error"]) (by decide) (d_ret (e_new (n_lst (a_cons (e_xfld (e_var 0)) (a_cons (e_xfld (e_var 0)) a_nil)))))
def tl_58 (K : PySem.W.Frag) (A : Ad) (E : XK) : TE :=
  (tLst (tCons (tXo K "line" (tV 0)) (tCons (tXo K "word" (tV 0)) tNil)))
abbrev sl_58 (K : PySem.W.Frag) (A : Ad) : Sp := spR ["_law_error"] 1 (fun E => tRet (tl_58 K A E))
noncomputable def ml_58 {S : Type} (K : PySem.W.Frag) (A : Ad) : List D → M S D := runD 1 1 (yRet (xL (xLstN (xCons (x1 (dXf K "line") (xV 0)) (xCons (x1 (dXf K "word") (xV 0)) xNil)))))
theorem SL_58 {S : Type} {C : Cfg S} {K : PySem.W.Frag} {A : Ad} : SpD C (sl_58 K A) (ml_58 K A) := sp_run (N := ["_law_error"]) (by decide) (d_ret (e_new (n_lst (a_cons (e_xfld (e_var 0)) (a_cons (e_xfld (e_var 0)) a_nil)))))
def tl_59 (K : PySem.W.Frag) (A : Ad) (E : XK) : TE :=
  (tLst (tCons (tXo K "word" (tV 0)) tNil))
abbrev sl_59 (K : PySem.W.Frag) (A : Ad) : Sp := spR ["_law_error"] 1 (fun E => tRet (tl_59 K A E))
noncomputable def ml_59 {S : Type} (K : PySem.W.Frag) (A : Ad) : List D → M S D := runD 1 1 (yRet (xL (xLstN (xCons (x1 (dXf K "word") (xV 0)) xNil))))
theorem SL_59 {S : Type} {C : Cfg S} {K : PySem.W.Frag} {A : Ad} : SpD C (sl_59 K A) (ml_59 K A) := sp_run (N := ["_law_error"]) (by decide) (d_ret (e_new (n_lst (a_cons (e_xfld (e_var 0)) a_nil))))
abbrev lt (K : PySem.W.Frag) (A : Ad) : List (LF × Sp) := [(A.lf_0, sl_0 K A), (A.lf_1, sl_1 K A), (A.lf_2, sl_2 K A), (A.lf_3, sl_3 K A), (A.lf_4, sl_4 K A), (A.lf_5, sl_5 K A), (A.lf_6, sl_6 K A), (A.lf_7, sl_7 K A), (A.lf_8, sl_8 K A), (A.lf_9, sl_9 K A), (A.lf_10, sl_10 K A), (A.lf_11, sl_11 K A), (A.lf_12, sl_12 K A), (A.lf_13, sl_13 K A), (A.lf_14, sl_14 K A), (A.lf_15, sl_15 K A), (A.lf_16, sl_16 K A), (A.lf_17, sl_17 K A), (A.lf_18, sl_18 K A), (A.lf_19, sl_19 K A), (A.lf_20, sl_20 K A), (A.lf_21, sl_21 K A), (A.lf_22, sl_22 K A), (A.lf_23, sl_23 K A), (A.lf_24, sl_24 K A), (A.lf_25, sl_25 K A), (A.lf_26, sl_26 K A), (A.lf_27, sl_27 K A), (A.lf_28, sl_28 K A), (A.lf_29, sl_29 K A), (A.lf_30, sl_30 K A), (A.lf_31, sl_31 K A), (A.lf_32, sl_32 K A), (A.lf_33, sl_33 K A), (A.lf_34, sl_34 K A), (A.lf_35, sl_35 K A), (A.lf_36, sl_36 K A), (A.lf_37, sl_37 K A), (A.lf_38, sl_38 K A), (A.lf_39, sl_39 K A), (A.lf_40, sl_40 K A), (A.lf_41, sl_41 K A), (A.lf_42, sl_42 K A), (A.lf_43, sl_43 K A), (A.lf_44, sl_44 K A), (A.lf_45, sl_45 K A), (A.lf_46, sl_46 K A), (A.lf_47, sl_47 K A), (A.lf_48, sl_48 K A), (A.lf_49, sl_49 K A), (A.lf_50, sl_50 K A), (A.lf_51, sl_51 K A), (A.lf_52, sl_52 K A), (A.lf_53, sl_53 K A), (A.lf_54, sl_54 K A), (A.lf_55, sl_55 K A), (A.lf_56, sl_56 K A), (A.lf_57, sl_57 K A), (A.lf_58, sl_58 K A), (A.lf_59, sl_59 K A)]
noncomputable abbrev lm {S : Type} (K : PySem.W.Frag) (A : Ad) : List (LF × (List D → M S D)) := [(A.lf_0, ml_0 K A), (A.lf_1, ml_1 K A), (A.lf_2, ml_2 K A), (A.lf_3, ml_3 K A), (A.lf_4, ml_4 K A), (A.lf_5, ml_5 K A), (A.lf_6, ml_6 K A), (A.lf_7, ml_7 K A), (A.lf_8, ml_8 K A), (A.lf_9, ml_9 K A), (A.lf_10, ml_10 K A), (A.lf_11, ml_11 K A), (A.lf_12, ml_12 K A), (A.lf_13, ml_13 K A), (A.lf_14, ml_14 K A), (A.lf_15, ml_15 K A), (A.lf_16, ml_16 K A), (A.lf_17, ml_17 K A), (A.lf_18, ml_18 K A), (A.lf_19, ml_19 K A), (A.lf_20, ml_20 K A), (A.lf_21, ml_21 K A), (A.lf_22, ml_22 K A), (A.lf_23, ml_23 K A), (A.lf_24, ml_24 K A), (A.lf_25, ml_25 K A), (A.lf_26, ml_26 K A), (A.lf_27, ml_27 K A), (A.lf_28, ml_28 K A), (A.lf_29, ml_29 K A), (A.lf_30, ml_30 K A), (A.lf_31, ml_31 K A), (A.lf_32, ml_32 K A), (A.lf_33, ml_33 K A), (A.lf_34, ml_34 K A), (A.lf_35, ml_35 K A), (A.lf_36, ml_36 K A), (A.lf_37, ml_37 K A), (A.lf_38, ml_38 K A), (A.lf_39, ml_39 K A), (A.lf_40, ml_40 K A), (A.lf_41, ml_41 K A), (A.lf_42, ml_42 K A), (A.lf_43, ml_43 K A), (A.lf_44, ml_44 K A), (A.lf_45, ml_45 K A), (A.lf_46, ml_46 K A), (A.lf_47, ml_47 K A), (A.lf_48, ml_48 K A), (A.lf_49, ml_49 K A), (A.lf_50, ml_50 K A), (A.lf_51, ml_51 K A), (A.lf_52, ml_52 K A), (A.lf_53, ml_53 K A), (A.lf_54, ml_54 K A), (A.lf_55, ml_55 K A), (A.lf_56, ml_56 K A), (A.lf_57, ml_57 K A), (A.lf_58, ml_58 K A), (A.lf_59, ml_59 K A)]
theorem LT {S : Type} {C : Cfg S} {K : PySem.W.Frag} {A : Ad} : LPs C (lt K A) (lm K A) := .cons SL_0 (.cons SL_1 (.cons SL_2 (.cons SL_3 (.cons SL_4 (.cons SL_5 (.cons SL_6 (.cons SL_7 (.cons SL_8 (.cons SL_9 (.cons SL_10 (.cons SL_11 (.cons SL_12 (.cons SL_13 (.cons SL_14 (.cons SL_15 (.cons SL_16 (.cons SL_17 (.cons SL_18 (.cons SL_19 (.cons SL_20 (.cons SL_21 (.cons SL_22 (.cons SL_23 (.cons SL_24 (.cons SL_25 (.cons SL_26 (.cons SL_27 (.cons SL_28 (.cons SL_29 (.cons SL_30 (.cons SL_31 (.cons SL_32 (.cons SL_33 (.cons SL_34 (.cons SL_35 (.cons SL_36 (.cons SL_37 (.cons SL_38 (.cons SL_39 (.cons SL_40 (.cons SL_41 (.cons SL_42 (.cons SL_43 (.cons SL_44 (.cons SL_45 (.cons SL_46 (.cons SL_47 (.cons SL_48 (.cons SL_49 (.cons SL_50 (.cons SL_51 (.cons SL_52 (.cons SL_53 (.cons SL_54 (.cons SL_55 (.cons SL_56 (.cons SL_57 (.cons SL_58 (.cons SL_59 (.nil))))))))))))))))))))))))))))))))))))))))))))))))))))))))))))
/-- _law_kinds -/
abbrev N_L_kinds : List Str := []
def rd_L_kinds (K : PySem.W.Frag) (A : Ad) (E : XK) : TS :=
  (tRet (tLst (tCons (tFn A.tabs A.lf_0) (tCons (tFn A.tabs A.lf_1) (tCons (tFn A.tabs A.lf_2) (tCons (tFn A.tabs A.lf_3) (tCons (tFn A.tabs A.lf_4) (tCons (tFn A.tabs A.lf_5) (tCons (tFn A.tabs A.lf_6) (tCons (tFn A.tabs A.lf_7) (tCons (tFn A.tabs A.lf_8) (tCons (tFn A.tabs A.lf_9) (tCons (tFn A.tabs A.lf_10) (tCons (tFn A.tabs A.lf_11) (tCons (tFn A.tabs A.lf_12) (tCons (tFn A.tabs A.lf_13) (tCons (tFn A.tabs A.lf_14) (tCons (tFn A.tabs A.lf_15) (tCons (tFn A.tabs A.lf_16) (tCons (tFn A.tabs A.lf_17) (tCons (tFn A.tabs A.lf_18) (tCons (tFn A.tabs A.lf_19) (tCons (tFn A.tabs A.lf_20) (tCons (tFn A.tabs A.lf_21) (tCons (tFn A.tabs A.lf_22) (tCons (tFn A.tabs A.lf_23) (tCons (tFn A.tabs A.lf_24) (tCons (tFn A.tabs A.lf_25) (tCons (tFn A.tabs A.lf_26) (tCons (tFn A.tabs A.lf_27) (tCons (tFn A.tabs A.lf_28) (tCons (tFn A.tabs A.lf_29) tNil))))))))))))))))))))))))))))))))
abbrev sp_L_kinds (K : PySem.W.Frag) (A : Ad) : Sp := spR N_L_kinds 0 (rd_L_kinds K A)
noncomputable def b_L_kinds {S : Type} (K : PySem.W.Frag) (A : Ad) : Rho → M S Out :=
  (yRet (xL (xLstN (xCons (xC (.fn 0 A.lf_0)) (xCons (xC (.fn 1 A.lf_1)) (xCons (xC (.fn 2 A.lf_2)) (xCons (xC (.fn 3 A.lf_3)) (xCons (xC (.fn 4 A.lf_4)) (xCons (xC (.fn 5 A.lf_5)) (xCons (xC (.fn 6 A.lf_6)) (xCons (xC (.fn 7 A.lf_7)) (xCons (xC (.fn 8 A.lf_8)) (xCons (xC (.fn 9 A.lf_9)) (xCons (xC (.fn 10 A.lf_10)) (xCons (xC (.fn 11 A.lf_11)) (xCons (xC (.fn 12 A.lf_12)) (xCons (xC (.fn 13 A.lf_13)) (xCons (xC (.fn 14 A.lf_14)) (xCons (xC (.fn 15 A.lf_15)) (xCons (xC (.fn 16 A.lf_16)) (xCons (xC (.fn 17 A.lf_17)) (xCons (xC (.fn 18 A.lf_18)) (xCons (xC (.fn 19 A.lf_19)) (xCons (xC (.fn 20 A.lf_20)) (xCons (xC (.fn 21 A.lf_21)) (xCons (xC (.fn 22 A.lf_22)) (xCons (xC (.fn 23 A.lf_23)) (xCons (xC (.fn 24 A.lf_24)) (xCons (xC (.fn 25 A.lf_25)) (xCons (xC (.fn 26 A.lf_26)) (xCons (xC (.fn 27 A.lf_27)) (xCons (xC (.fn 28 A.lf_28)) (xCons (xC (.fn 29 A.lf_29)) xNil)))))))))))))))))))))))))))))))))
theorem S_L_kinds {S : Type} {C : Cfg S} {K : PySem.W.Frag} {A : Ad} (hT : ∀ s H, C.I s H → LamX.Tabs A.tabs H) (hQ : ∀ (q : Str) s H H1 cl, C.I s H → LamTo A.tabs q H H1 cl → C.I s H1 ∧ Ext C.keep H H1) : StD C (fun E => rd_L_kinds K A E) (b_L_kinds K A) :=
  (d_ret (e_new (n_lst (a_cons (e_fn hT (hQ _)) (a_cons (e_fn hT (hQ _)) (a_cons (e_fn hT (hQ _)) (a_cons (e_fn hT (hQ _)) (a_cons (e_fn hT (hQ _)) (a_cons (e_fn hT (hQ _)) (a_cons (e_fn hT (hQ _)) (a_cons (e_fn hT (hQ _)) (a_cons (e_fn hT (hQ _)) (a_cons (e_fn hT (hQ _)) (a_cons (e_fn hT (hQ _)) (a_cons (e_fn hT (hQ _)) (a_cons (e_fn hT (hQ _)) (a_cons (e_fn hT (hQ _)) (a_cons (e_fn hT (hQ _)) (a_cons (e_fn hT (hQ _)) (a_cons (e_fn hT (hQ _)) (a_cons (e_fn hT (hQ _)) (a_cons (e_fn hT (hQ _)) (a_cons (e_fn hT (hQ _)) (a_cons (e_fn hT (hQ _)) (a_cons (e_fn hT (hQ _)) (a_cons (e_fn hT (hQ _)) (a_cons (e_fn hT (hQ _)) (a_cons (e_fn hT (hQ _)) (a_cons (e_fn hT (hQ _)) (a_cons (e_fn hT (hQ _)) (a_cons (e_fn hT (hQ _)) (a_cons (e_fn hT (hQ _)) (a_cons (e_fn hT (hQ _)) a_nil)))))))))))))))))))))))))))))))))
theorem SP_L_kinds {S : Type} {C : Cfg S} {K : PySem.W.Frag} {A : Ad} (hT : ∀ s H, C.I s H → LamX.Tabs A.tabs H) (hQ : ∀ (q : Str) s H H1 cl, C.I s H → LamTo A.tabs q H H1 cl → C.I s H1 ∧ Ext C.keep H H1) : SpD C (sp_L_kinds K A) (runD 0 0 (b_L_kinds K A)) := sp_run (N := N_L_kinds) (by decide) (S_L_kinds hT hQ)
/-- _law_made -/
abbrev N_L_made : List Str := ["_law_one", "_law_other"]
def rd_L_made (K : PySem.W.Frag) (A : Ad) (E : XK) : TS :=
  (tRet (tLst (tCons (tTup (tCons (tXv A.c_BadName ["value"] (tCons (tV 0) tNil)) (tCons (tFn A.tabs A.lf_30) (tCons (tLst (tCons (tV 0) tNil)) tNil)))) (tCons (tTup (tCons (tXvK A.c_BadShelf ["value"] ["value"] (tCons (tV 0) tNil)) (tCons (tFn A.tabs A.lf_31) (tCons (tLst (tCons (tV 0) tNil)) tNil)))) (tCons (tTup (tCons (tXv A.c_BadFlow ["part"] (tCons (tV 0) tNil)) (tCons (tFn A.tabs A.lf_32) (tCons (tLst (tCons (tV 0) tNil)) tNil)))) (tCons (tTup (tCons (tXvK A.c_BadNet ["part"] ["part"] (tCons (tV 0) tNil)) (tCons (tFn A.tabs A.lf_33) (tCons (tLst (tCons (tV 0) tNil)) tNil)))) (tCons (tTup (tCons (tXv A.c_BadPaper ["part"] (tCons (tV 0) tNil)) (tCons (tFn A.tabs A.lf_34) (tCons (tLst (tCons (tV 0) tNil)) tNil)))) (tCons (tTup (tCons (tXvK A.c_BadLot ["at"] ["at"] (tCons (tV 0) tNil)) (tCons (tFn A.tabs A.lf_35) (tCons (tLst (tCons (tV 0) tNil)) tNil)))) (tCons (tTup (tCons (tXv A.c_BadChange ["at"] (tCons (tV 0) tNil)) (tCons (tFn A.tabs A.lf_36) (tCons (tLst (tCons (tV 0) tNil)) tNil)))) (tCons (tTup (tCons (tXvK A.c_BadSize ["shelf"] ["shelf"] (tCons (tV 0) tNil)) (tCons (tFn A.tabs A.lf_37) (tCons (tLst (tCons (tV 0) tNil)) tNil)))) (tCons (tTup (tCons (tXv A.c_BadLoad ["part"] (tCons (tV 0) tNil)) (tCons (tFn A.tabs A.lf_38) (tCons (tLst (tCons (tV 0) tNil)) tNil)))) (tCons (tTup (tCons (tXvK A.c_BadNumber ["value"] ["value"] (tCons (tV 0) tNil)) (tCons (tFn A.tabs A.lf_39) (tCons (tLst (tCons (tV 0) tNil)) tNil)))) (tCons (tTup (tCons (tXv A.c_BadOrder ["at"] (tCons (tV 0) tNil)) (tCons (tFn A.tabs A.lf_40) (tCons (tLst (tCons (tV 0) tNil)) tNil)))) (tCons (tTup (tCons (tXvK A.c_BadLink ["at"] ["at"] (tCons (tV 0) tNil)) (tCons (tFn A.tabs A.lf_41) (tCons (tLst (tCons (tV 0) tNil)) tNil)))) (tCons (tTup (tCons (tXvK A.c_NoFlow ["name"] ["name"] (tCons (tV 0) tNil)) (tCons (tFn A.tabs A.lf_42) (tCons (tLst (tCons (tV 0) tNil)) tNil)))) (tCons (tTup (tCons (tXv A.c_NoShelf ["shelf"] (tCons (tV 0) tNil)) (tCons (tFn A.tabs A.lf_43) (tCons (tLst (tCons (tV 0) tNil)) tNil)))) (tCons (tTup (tCons (tXv A.c_NoStep ["shelf", "flow"] (tCons (tV 0) (tCons (tV 1) tNil))) (tCons (tFn A.tabs A.lf_44) (tCons (tLst (tCons (tV 0) (tCons (tV 1) tNil))) tNil)))) (tCons (tTup (tCons (tXvK A.c_NoStep ["shelf", "flow"] ["flow", "shelf"] (tCons (tV 0) (tCons (tV 1) tNil))) (tCons (tFn A.tabs A.lf_45) (tCons (tLst (tCons (tV 1) (tCons (tV 0) tNil))) tNil)))) (tCons (tTup (tCons (tXvK A.c_NotMet ["shelf", "flow"] ["shelf", "flow"] (tCons (tV 0) (tCons (tV 1) tNil))) (tCons (tFn A.tabs A.lf_46) (tCons (tLst (tCons (tV 0) (tCons (tV 1) tNil))) tNil)))) (tCons (tTup (tCons (tXv A.c_NoPost ["post"] (tCons (tV 0) tNil)) (tCons (tFn A.tabs A.lf_47) (tCons (tLst (tCons (tV 0) tNil)) tNil)))) (tCons (tTup (tCons (tXvK A.c_NoRoom ["shelf"] ["shelf"] (tCons (tV 0) tNil)) (tCons (tFn A.tabs A.lf_48) (tCons (tLst (tCons (tV 0) tNil)) tNil)))) (tCons (tTup (tCons (tXv A.c_NoParcel ["number"] (tCons (tV 0) tNil)) (tCons (tFn A.tabs A.lf_49) (tCons (tLst (tCons (tV 0) tNil)) tNil)))) (tCons (tTup (tCons (tXvK A.c_NoWant ["want"] ["want"] (tCons (tV 0) tNil)) (tCons (tFn A.tabs A.lf_50) (tCons (tLst (tCons (tV 0) tNil)) tNil)))) (tCons (tTup (tCons (tXv A.c_Endless ["flow"] (tCons (tV 0) tNil)) (tCons (tFn A.tabs A.lf_51) (tCons (tLst (tCons (tV 0) tNil)) tNil)))) (tCons (tTup (tCons (tXvK A.c_Unsafe ["paper"] ["paper"] (tCons (tV 0) tNil)) (tCons (tFn A.tabs A.lf_52) (tCons (tLst (tCons (tV 0) tNil)) tNil)))) (tCons (tTup (tCons (tXv A.c_Taken ["name"] (tCons (tV 0) tNil)) (tCons (tFn A.tabs A.lf_53) (tCons (tLst (tCons (tV 0) tNil)) tNil)))) (tCons (tTup (tCons (tXv A.c_Nothing [] tNil) (tCons (tFn A.tabs A.lf_54) (tCons (tLst tNil) tNil)))) (tCons (tTup (tCons (tXv A.c_TooMany ["what", "most"] (tCons (tV 0) (tCons (tV 1) tNil))) (tCons (tFn A.tabs A.lf_55) (tCons (tLst (tCons (tV 0) (tCons (tV 1) tNil))) tNil)))) (tCons (tTup (tCons (tXvK A.c_TooMany ["what", "most"] ["most", "what"] (tCons (tV 0) (tCons (tV 1) tNil))) (tCons (tFn A.tabs A.lf_56) (tCons (tLst (tCons (tV 1) (tCons (tV 0) tNil))) tNil)))) (tCons (tTup (tCons (tXv A.c_BadText ["line", "word"] (tCons (tV 0) (tCons (tV 1) tNil))) (tCons (tFn A.tabs A.lf_57) (tCons (tLst (tCons (tV 0) (tCons (tV 1) tNil))) tNil)))) (tCons (tTup (tCons (tXvK A.c_BadText ["line", "word"] ["word", "line"] (tCons (tV 0) (tCons (tV 1) tNil))) (tCons (tFn A.tabs A.lf_58) (tCons (tLst (tCons (tV 1) (tCons (tV 0) tNil))) tNil)))) (tCons (tTup (tCons (tXvK A.c_BadCommand ["word"] ["word"] (tCons (tV 0) tNil)) (tCons (tFn A.tabs A.lf_59) (tCons (tLst (tCons (tV 0) tNil)) tNil)))) tNil))))))))))))))))))))))))))))))))
abbrev sp_L_made (K : PySem.W.Frag) (A : Ad) : Sp := spR N_L_made 2 (rd_L_made K A)
noncomputable def b_L_made {S : Type} (K : PySem.W.Frag) (A : Ad) : Rho → M S Out :=
  (yRet (xL (xLstN (xCons (xTup (xCons (xXv A.c_BadName ["value"] (xCons (xV 0) xNil)) (xCons (xC (.fn 30 A.lf_30)) (xCons (xL (xLstN (xCons (xV 0) xNil))) xNil)))) (xCons (xTup (xCons (xXvK A.c_BadShelf ["value"] ["value"] (xCons (xV 0) xNil)) (xCons (xC (.fn 31 A.lf_31)) (xCons (xL (xLstN (xCons (xV 0) xNil))) xNil)))) (xCons (xTup (xCons (xXv A.c_BadFlow ["part"] (xCons (xV 0) xNil)) (xCons (xC (.fn 32 A.lf_32)) (xCons (xL (xLstN (xCons (xV 0) xNil))) xNil)))) (xCons (xTup (xCons (xXvK A.c_BadNet ["part"] ["part"] (xCons (xV 0) xNil)) (xCons (xC (.fn 33 A.lf_33)) (xCons (xL (xLstN (xCons (xV 0) xNil))) xNil)))) (xCons (xTup (xCons (xXv A.c_BadPaper ["part"] (xCons (xV 0) xNil)) (xCons (xC (.fn 34 A.lf_34)) (xCons (xL (xLstN (xCons (xV 0) xNil))) xNil)))) (xCons (xTup (xCons (xXvK A.c_BadLot ["at"] ["at"] (xCons (xV 0) xNil)) (xCons (xC (.fn 35 A.lf_35)) (xCons (xL (xLstN (xCons (xV 0) xNil))) xNil)))) (xCons (xTup (xCons (xXv A.c_BadChange ["at"] (xCons (xV 0) xNil)) (xCons (xC (.fn 36 A.lf_36)) (xCons (xL (xLstN (xCons (xV 0) xNil))) xNil)))) (xCons (xTup (xCons (xXvK A.c_BadSize ["shelf"] ["shelf"] (xCons (xV 0) xNil)) (xCons (xC (.fn 37 A.lf_37)) (xCons (xL (xLstN (xCons (xV 0) xNil))) xNil)))) (xCons (xTup (xCons (xXv A.c_BadLoad ["part"] (xCons (xV 0) xNil)) (xCons (xC (.fn 38 A.lf_38)) (xCons (xL (xLstN (xCons (xV 0) xNil))) xNil)))) (xCons (xTup (xCons (xXvK A.c_BadNumber ["value"] ["value"] (xCons (xV 0) xNil)) (xCons (xC (.fn 39 A.lf_39)) (xCons (xL (xLstN (xCons (xV 0) xNil))) xNil)))) (xCons (xTup (xCons (xXv A.c_BadOrder ["at"] (xCons (xV 0) xNil)) (xCons (xC (.fn 40 A.lf_40)) (xCons (xL (xLstN (xCons (xV 0) xNil))) xNil)))) (xCons (xTup (xCons (xXvK A.c_BadLink ["at"] ["at"] (xCons (xV 0) xNil)) (xCons (xC (.fn 41 A.lf_41)) (xCons (xL (xLstN (xCons (xV 0) xNil))) xNil)))) (xCons (xTup (xCons (xXvK A.c_NoFlow ["name"] ["name"] (xCons (xV 0) xNil)) (xCons (xC (.fn 42 A.lf_42)) (xCons (xL (xLstN (xCons (xV 0) xNil))) xNil)))) (xCons (xTup (xCons (xXv A.c_NoShelf ["shelf"] (xCons (xV 0) xNil)) (xCons (xC (.fn 43 A.lf_43)) (xCons (xL (xLstN (xCons (xV 0) xNil))) xNil)))) (xCons (xTup (xCons (xXv A.c_NoStep ["shelf", "flow"] (xCons (xV 0) (xCons (xV 1) xNil))) (xCons (xC (.fn 44 A.lf_44)) (xCons (xL (xLstN (xCons (xV 0) (xCons (xV 1) xNil)))) xNil)))) (xCons (xTup (xCons (xXvK A.c_NoStep ["shelf", "flow"] ["flow", "shelf"] (xCons (xV 0) (xCons (xV 1) xNil))) (xCons (xC (.fn 45 A.lf_45)) (xCons (xL (xLstN (xCons (xV 1) (xCons (xV 0) xNil)))) xNil)))) (xCons (xTup (xCons (xXvK A.c_NotMet ["shelf", "flow"] ["shelf", "flow"] (xCons (xV 0) (xCons (xV 1) xNil))) (xCons (xC (.fn 46 A.lf_46)) (xCons (xL (xLstN (xCons (xV 0) (xCons (xV 1) xNil)))) xNil)))) (xCons (xTup (xCons (xXv A.c_NoPost ["post"] (xCons (xV 0) xNil)) (xCons (xC (.fn 47 A.lf_47)) (xCons (xL (xLstN (xCons (xV 0) xNil))) xNil)))) (xCons (xTup (xCons (xXvK A.c_NoRoom ["shelf"] ["shelf"] (xCons (xV 0) xNil)) (xCons (xC (.fn 48 A.lf_48)) (xCons (xL (xLstN (xCons (xV 0) xNil))) xNil)))) (xCons (xTup (xCons (xXv A.c_NoParcel ["number"] (xCons (xV 0) xNil)) (xCons (xC (.fn 49 A.lf_49)) (xCons (xL (xLstN (xCons (xV 0) xNil))) xNil)))) (xCons (xTup (xCons (xXvK A.c_NoWant ["want"] ["want"] (xCons (xV 0) xNil)) (xCons (xC (.fn 50 A.lf_50)) (xCons (xL (xLstN (xCons (xV 0) xNil))) xNil)))) (xCons (xTup (xCons (xXv A.c_Endless ["flow"] (xCons (xV 0) xNil)) (xCons (xC (.fn 51 A.lf_51)) (xCons (xL (xLstN (xCons (xV 0) xNil))) xNil)))) (xCons (xTup (xCons (xXvK A.c_Unsafe ["paper"] ["paper"] (xCons (xV 0) xNil)) (xCons (xC (.fn 52 A.lf_52)) (xCons (xL (xLstN (xCons (xV 0) xNil))) xNil)))) (xCons (xTup (xCons (xXv A.c_Taken ["name"] (xCons (xV 0) xNil)) (xCons (xC (.fn 53 A.lf_53)) (xCons (xL (xLstN (xCons (xV 0) xNil))) xNil)))) (xCons (xTup (xCons (xXv A.c_Nothing [] xNil) (xCons (xC (.fn 54 A.lf_54)) (xCons (xL (xLstN xNil)) xNil)))) (xCons (xTup (xCons (xXv A.c_TooMany ["what", "most"] (xCons (xV 0) (xCons (xV 1) xNil))) (xCons (xC (.fn 55 A.lf_55)) (xCons (xL (xLstN (xCons (xV 0) (xCons (xV 1) xNil)))) xNil)))) (xCons (xTup (xCons (xXvK A.c_TooMany ["what", "most"] ["most", "what"] (xCons (xV 0) (xCons (xV 1) xNil))) (xCons (xC (.fn 56 A.lf_56)) (xCons (xL (xLstN (xCons (xV 1) (xCons (xV 0) xNil)))) xNil)))) (xCons (xTup (xCons (xXv A.c_BadText ["line", "word"] (xCons (xV 0) (xCons (xV 1) xNil))) (xCons (xC (.fn 57 A.lf_57)) (xCons (xL (xLstN (xCons (xV 0) (xCons (xV 1) xNil)))) xNil)))) (xCons (xTup (xCons (xXvK A.c_BadText ["line", "word"] ["word", "line"] (xCons (xV 0) (xCons (xV 1) xNil))) (xCons (xC (.fn 58 A.lf_58)) (xCons (xL (xLstN (xCons (xV 1) (xCons (xV 0) xNil)))) xNil)))) (xCons (xTup (xCons (xXvK A.c_BadCommand ["word"] ["word"] (xCons (xV 0) xNil)) (xCons (xC (.fn 59 A.lf_59)) (xCons (xL (xLstN (xCons (xV 0) xNil))) xNil)))) xNil)))))))))))))))))))))))))))))))))
theorem S_L_made {S : Type} {C : Cfg S} {K : PySem.W.Frag} {A : Ad} (hT : ∀ s H, C.I s H → LamX.Tabs A.tabs H) (hQ : ∀ (q : Str) s H H1 cl, C.I s H → LamTo A.tabs q H H1 cl → C.I s H1 ∧ Ext C.keep H H1) : StD C (fun E => rd_L_made K A E) (b_L_made K A) :=
  (d_ret (e_new (n_lst (a_cons (e_tup (a_cons (e_xv (a_cons (e_var 0) a_nil)) (a_cons (e_fn hT (hQ _)) (a_cons (e_new (n_lst (a_cons (e_var 0) a_nil))) a_nil)))) (a_cons (e_tup (a_cons (e_xvK (a_cons (e_var 0) a_nil)) (a_cons (e_fn hT (hQ _)) (a_cons (e_new (n_lst (a_cons (e_var 0) a_nil))) a_nil)))) (a_cons (e_tup (a_cons (e_xv (a_cons (e_var 0) a_nil)) (a_cons (e_fn hT (hQ _)) (a_cons (e_new (n_lst (a_cons (e_var 0) a_nil))) a_nil)))) (a_cons (e_tup (a_cons (e_xvK (a_cons (e_var 0) a_nil)) (a_cons (e_fn hT (hQ _)) (a_cons (e_new (n_lst (a_cons (e_var 0) a_nil))) a_nil)))) (a_cons (e_tup (a_cons (e_xv (a_cons (e_var 0) a_nil)) (a_cons (e_fn hT (hQ _)) (a_cons (e_new (n_lst (a_cons (e_var 0) a_nil))) a_nil)))) (a_cons (e_tup (a_cons (e_xvK (a_cons (e_var 0) a_nil)) (a_cons (e_fn hT (hQ _)) (a_cons (e_new (n_lst (a_cons (e_var 0) a_nil))) a_nil)))) (a_cons (e_tup (a_cons (e_xv (a_cons (e_var 0) a_nil)) (a_cons (e_fn hT (hQ _)) (a_cons (e_new (n_lst (a_cons (e_var 0) a_nil))) a_nil)))) (a_cons (e_tup (a_cons (e_xvK (a_cons (e_var 0) a_nil)) (a_cons (e_fn hT (hQ _)) (a_cons (e_new (n_lst (a_cons (e_var 0) a_nil))) a_nil)))) (a_cons (e_tup (a_cons (e_xv (a_cons (e_var 0) a_nil)) (a_cons (e_fn hT (hQ _)) (a_cons (e_new (n_lst (a_cons (e_var 0) a_nil))) a_nil)))) (a_cons (e_tup (a_cons (e_xvK (a_cons (e_var 0) a_nil)) (a_cons (e_fn hT (hQ _)) (a_cons (e_new (n_lst (a_cons (e_var 0) a_nil))) a_nil)))) (a_cons (e_tup (a_cons (e_xv (a_cons (e_var 0) a_nil)) (a_cons (e_fn hT (hQ _)) (a_cons (e_new (n_lst (a_cons (e_var 0) a_nil))) a_nil)))) (a_cons (e_tup (a_cons (e_xvK (a_cons (e_var 0) a_nil)) (a_cons (e_fn hT (hQ _)) (a_cons (e_new (n_lst (a_cons (e_var 0) a_nil))) a_nil)))) (a_cons (e_tup (a_cons (e_xvK (a_cons (e_var 0) a_nil)) (a_cons (e_fn hT (hQ _)) (a_cons (e_new (n_lst (a_cons (e_var 0) a_nil))) a_nil)))) (a_cons (e_tup (a_cons (e_xv (a_cons (e_var 0) a_nil)) (a_cons (e_fn hT (hQ _)) (a_cons (e_new (n_lst (a_cons (e_var 0) a_nil))) a_nil)))) (a_cons (e_tup (a_cons (e_xv (a_cons (e_var 0) (a_cons (e_var 1) a_nil))) (a_cons (e_fn hT (hQ _)) (a_cons (e_new (n_lst (a_cons (e_var 0) (a_cons (e_var 1) a_nil)))) a_nil)))) (a_cons (e_tup (a_cons (e_xvK (a_cons (e_var 0) (a_cons (e_var 1) a_nil))) (a_cons (e_fn hT (hQ _)) (a_cons (e_new (n_lst (a_cons (e_var 1) (a_cons (e_var 0) a_nil)))) a_nil)))) (a_cons (e_tup (a_cons (e_xvK (a_cons (e_var 0) (a_cons (e_var 1) a_nil))) (a_cons (e_fn hT (hQ _)) (a_cons (e_new (n_lst (a_cons (e_var 0) (a_cons (e_var 1) a_nil)))) a_nil)))) (a_cons (e_tup (a_cons (e_xv (a_cons (e_var 0) a_nil)) (a_cons (e_fn hT (hQ _)) (a_cons (e_new (n_lst (a_cons (e_var 0) a_nil))) a_nil)))) (a_cons (e_tup (a_cons (e_xvK (a_cons (e_var 0) a_nil)) (a_cons (e_fn hT (hQ _)) (a_cons (e_new (n_lst (a_cons (e_var 0) a_nil))) a_nil)))) (a_cons (e_tup (a_cons (e_xv (a_cons (e_var 0) a_nil)) (a_cons (e_fn hT (hQ _)) (a_cons (e_new (n_lst (a_cons (e_var 0) a_nil))) a_nil)))) (a_cons (e_tup (a_cons (e_xvK (a_cons (e_var 0) a_nil)) (a_cons (e_fn hT (hQ _)) (a_cons (e_new (n_lst (a_cons (e_var 0) a_nil))) a_nil)))) (a_cons (e_tup (a_cons (e_xv (a_cons (e_var 0) a_nil)) (a_cons (e_fn hT (hQ _)) (a_cons (e_new (n_lst (a_cons (e_var 0) a_nil))) a_nil)))) (a_cons (e_tup (a_cons (e_xvK (a_cons (e_var 0) a_nil)) (a_cons (e_fn hT (hQ _)) (a_cons (e_new (n_lst (a_cons (e_var 0) a_nil))) a_nil)))) (a_cons (e_tup (a_cons (e_xv (a_cons (e_var 0) a_nil)) (a_cons (e_fn hT (hQ _)) (a_cons (e_new (n_lst (a_cons (e_var 0) a_nil))) a_nil)))) (a_cons (e_tup (a_cons (e_xv a_nil) (a_cons (e_fn hT (hQ _)) (a_cons (e_new (n_lst a_nil)) a_nil)))) (a_cons (e_tup (a_cons (e_xv (a_cons (e_var 0) (a_cons (e_var 1) a_nil))) (a_cons (e_fn hT (hQ _)) (a_cons (e_new (n_lst (a_cons (e_var 0) (a_cons (e_var 1) a_nil)))) a_nil)))) (a_cons (e_tup (a_cons (e_xvK (a_cons (e_var 0) (a_cons (e_var 1) a_nil))) (a_cons (e_fn hT (hQ _)) (a_cons (e_new (n_lst (a_cons (e_var 1) (a_cons (e_var 0) a_nil)))) a_nil)))) (a_cons (e_tup (a_cons (e_xv (a_cons (e_var 0) (a_cons (e_var 1) a_nil))) (a_cons (e_fn hT (hQ _)) (a_cons (e_new (n_lst (a_cons (e_var 0) (a_cons (e_var 1) a_nil)))) a_nil)))) (a_cons (e_tup (a_cons (e_xvK (a_cons (e_var 0) (a_cons (e_var 1) a_nil))) (a_cons (e_fn hT (hQ _)) (a_cons (e_new (n_lst (a_cons (e_var 1) (a_cons (e_var 0) a_nil)))) a_nil)))) (a_cons (e_tup (a_cons (e_xvK (a_cons (e_var 0) a_nil)) (a_cons (e_fn hT (hQ _)) (a_cons (e_new (n_lst (a_cons (e_var 0) a_nil))) a_nil)))) a_nil)))))))))))))))))))))))))))))))))
theorem SP_L_made {S : Type} {C : Cfg S} {K : PySem.W.Frag} {A : Ad} (hT : ∀ s H, C.I s H → LamX.Tabs A.tabs H) (hQ : ∀ (q : Str) s H H1 cl, C.I s H → LamTo A.tabs q H H1 cl → C.I s H1 ∧ Ext C.keep H H1) : SpD C (sp_L_made K A) (runD 2 2 (b_L_made K A)) := sp_run (N := N_L_made) (by decide) (S_L_made hT hQ)
/-- _law_pen -/
abbrev N_L_pen : List Str := ["_law_script"]
def rd_L_pen (K : PySem.W.Frag) (A : Ad) (E : XK) : TS :=
  (tRet (tLst (tCons (tCB mLst (tCons (L2.tSl (rSlG K) (tV 0) tNoPart (tPa (tC (.int 63)))) tNil)) (tCons (tC (.int 0)) (tCons (tC (.int 0)) tNil)))))
abbrev sp_L_pen (K : PySem.W.Frag) (A : Ad) : Sp := spR N_L_pen 1 (rd_L_pen K A)
/-- _law_draw -/
abbrev N_L_draw : List Str := ["_law_pen_here", "_law_many", "_law_digit", "_law_spot", "_law_cell", "_law_great", "_law_stirred"]
def rd_L_draw (K : PySem.W.Frag) (A : Ad) (E : XK) : TS :=
  (tSeq (sIf (tTs (tOp mGt (tOp mIx (tV 0) (tC (.int 2))) (tC (.int 0)))) (tSeq (tAsg (tOp mMod (tCB mIntT (tCons (tOp mIx (tV 0) (tC (.int 2))) tNil)) (tV 1)) (gName 2))
  (tSeq (tAsg (tOp mFdv (tCB mIntT (tCons (tOp mIx (tV 0) (tC (.int 2))) tNil)) (tV 1)) (gSub (tV 0) (tC (.int 2)) rSetL))
  (tRet (tV 2)))) tNext)
  (tSeq (tAsg (tOp mIx (tV 0) (tC (.int 1))) (gName 3))
  (tSeq (tAsg (tOp (mAdd K) (tV 3) (tC (.int 1))) (gSub (tV 0) (tC (.int 1)) rSetL))
  (tSeq (tAsg (tOp (mAdd K) (tOp mMul (tC (.int 90031)) (tV 3)) (tC (.int 811))) (gName 4))
  (tSeq (sIf (tTs (tOp (mNeA K) (tOp mIx (tV 0) (tC (.int 0))) (tLst tNil))) (tAsg (tOp mIx (tOp mIx (tV 0) (tC (.int 0))) (tOp mMod (tCB mIntT (tCons (tV 3) tNil)) (tCB mLen (tCons (tOp mIx (tV 0) (tC (.int 0))) tNil)))) (gName 4)) tNext)
  (tSeq (sIf (tAn (tTs (tOp mLt (tV 3) (tCB mLen (tCons (tOp mIx (tV 0) (tC (.int 0))) tNil)))) (tTs (tOp mGe (tCB mAbs (tCons (tV 4) tNil)) (tOp mPow (tC (.int 10)) (tC (.int 18)))))) (tSeq (tAsg (tOp (mAdd K) (tOp mMul (tC (.int 2)) (tOp mSub (tCB mAbs (tCons (tV 4) tNil)) (tOp mPow (tC (.int 10)) (tC (.int 18))))) (tCB mIntT (tCons (tOp mLt (tV 4) (tC (.int 0))) tNil))) (gName 5))
  (tSeq (tAsg (tOp mFdv (tCB mIntT (tCons (tV 5) tNil)) (tV 1)) (gSub (tV 0) (tC (.int 2)) rSetL))
  (tRet (tOp mMod (tCB mIntT (tCons (tV 5) tNil)) (tV 1))))) tNext)
  (tSeq (tAsg (tOp mMod (tCB mIntT (tCons (tOp mPow (tOp (mAdd K) (tOp (mAdd K) (tOp mMod (tCB mIntT (tCons (tV 4) tNil)) (tC (.int 2147439991))) (tOp mMul (tC (.int 81017)) (tV 3))) (tC (.int 409))) (tC (.int 5))) tNil)) (tC (.int 2147429993))) (gName 6))
  (tSeq (tAsg (tOp mMod (tCB mIntT (tCons (tOp mPow (tOp (mAdd K) (tOp (mAdd K) (tOp mMul (tV 6) (tOp (mAdd K) (tOp mMul (tC (.int 2)) (tV 3)) (tC (.int 121)))) (tOp mMul (tOp mMul (tC (.int 70019)) (tV 3)) (tV 3))) (tC (.int 83))) (tC (.int 3))) tNil)) (tC (.int 2147419997))) (gName 6))
  (tRet (tOp mMod (tCB mIntT (tCons (tOp mFdv (tV 6) (tC (.int 32))) tNil)) (tV 1)))))))))))
abbrev sp_L_draw (K : PySem.W.Frag) (A : Ad) : Sp := spR N_L_draw 2 (rd_L_draw K A)
noncomputable def b_L_draw (K : PySem.W.Frag) (A : Ad) (L : PenA) : Rho → M PenS Out :=
  (ySeq (yIf (xT (xOp dGt (xPen L 0 PenS.rest) (xC (.int 0)))) (ySeq (yAsg (xOp dMod (xCa dInt (xCons (xPen L 0 PenS.rest) xNil)) (xV 1)) (gV 2))
  (ySeq (yPen L 0 (fun s n => ⟨s.used, n⟩) (xOp dFdv (xCa dInt (xCons (xPen L 0 PenS.rest) xNil)) (xV 1)))
  (yRet (xV 2)))) yNx)
  (ySeq (yAsg (xPen L 0 PenS.used) (gV 3))
  (ySeq (yPen L 0 (fun s n => ⟨n, s.rest⟩) (xOp dAdd (xV 3) (xC (.int 1))))
  (ySeq (yAsg (xOp dAdd (xOp dMul (xC (.int 90031)) (xV 3)) (xC (.int 811))) (gV 4))
  (ySeq (yIf (xPenNe L 0) (yAsg (xPenCell L 0 (xOp dMod (xCa dInt (xCons (xV 3) xNil)) (xPenLen L 0))) (gV 4)) yNx)
  (ySeq (yIf (xAnd (xT (xOp dLt (xV 3) (xPenLen L 0))) (xT (xOp dGe (xCa dAbs (xCons (xV 4) xNil)) (xOp dPow (xC (.int 10)) (xC (.int 18)))))) (ySeq (yAsg (xOp dAdd (xOp dMul (xC (.int 2)) (xOp dSub (xCa dAbs (xCons (xV 4) xNil)) (xOp dPow (xC (.int 10)) (xC (.int 18))))) (xCa dInt (xCons (xOp dLt (xV 4) (xC (.int 0))) xNil))) (gV 5))
  (ySeq (yPen L 0 (fun s n => ⟨s.used, n⟩) (xOp dFdv (xCa dInt (xCons (xV 5) xNil)) (xV 1)))
  (yRet (xOp dMod (xCa dInt (xCons (xV 5) xNil)) (xV 1))))) yNx)
  (ySeq (yAsg (xOp dMod (xCa dInt (xCons (xOp dPow (xOp dAdd (xOp dAdd (xOp dMod (xCa dInt (xCons (xV 4) xNil)) (xC (.int 2147439991))) (xOp dMul (xC (.int 81017)) (xV 3))) (xC (.int 409))) (xC (.int 5))) xNil)) (xC (.int 2147429993))) (gV 6))
  (ySeq (yAsg (xOp dMod (xCa dInt (xCons (xOp dPow (xOp dAdd (xOp dAdd (xOp dMul (xV 6) (xOp dAdd (xOp dMul (xC (.int 2)) (xV 3)) (xC (.int 121)))) (xOp dMul (xOp dMul (xC (.int 70019)) (xV 3)) (xV 3))) (xC (.int 83))) (xC (.int 3))) xNil)) (xC (.int 2147419997))) (gV 6))
  (yRet (xOp dMod (xCa dInt (xCons (xOp dFdv (xV 6) (xC (.int 32))) xNil)) (xV 1)))))))))))
theorem S_L_draw {K : PySem.W.Frag} {A : Ad} {L : PenA} (hpc : L.p ≠ L.c) (hpt : ∀ t ∈ L.T, L.p ≠ t.1) : StD (penC K L) (fun E => rd_L_draw K A E) (b_L_draw K A L) :=
  (d_seq (d_if (e_test (e_op o_gt e_pen2 e_int)) (d_seq (d_asg (e_op o_mod (e_ca c_int (a_cons e_pen2 a_nil)) (e_var 1)) (g_name (vs := [2]) (by decide)))
  (d_seq (d_penSet (k := 2) (j := 2) (e_op o_fdv (e_ca c_int (a_cons e_pen2 a_nil)) (e_var 1)) rfl (fun _ _ => rfl) hpc hpt)
  (d_ret (e_var 2)))) d_nx)
  (d_seq (d_asg e_pen1 (g_name (vs := [3]) (by decide)))
  (d_seq (d_penSet (k := 1) (j := 1) (e_op o_add (e_var 3) e_int) rfl (fun _ _ => rfl) hpc hpt)
  (d_seq (d_asg (e_op o_add (e_op o_mul e_int (e_var 3)) e_int) (g_name (vs := [4]) (by decide)))
  (d_seq (d_if e_penNe (d_asg (e_penCell (e_op o_mod (e_ca c_int (a_cons (e_var 3) a_nil)) e_penLen)) (g_name (vs := [4]) (by decide))) d_nx)
  (d_seq (d_if (e_and (e_test (e_op o_lt (e_var 3) e_penLen)) (e_test (e_op o_ge (e_ca c_abs (a_cons (e_var 4) a_nil)) (e_op o_pow e_int e_int)))) (d_seq (d_asg (e_op o_add (e_op o_mul e_int (e_op o_sub (e_ca c_abs (a_cons (e_var 4) a_nil)) (e_op o_pow e_int e_int))) (e_ca c_int (a_cons (e_op o_lt (e_var 4) e_int) a_nil))) (g_name (vs := [5]) (by decide)))
  (d_seq (d_penSet (k := 2) (j := 2) (e_op o_fdv (e_ca c_int (a_cons (e_var 5) a_nil)) (e_var 1)) rfl (fun _ _ => rfl) hpc hpt)
  (d_ret (e_op o_mod (e_ca c_int (a_cons (e_var 5) a_nil)) (e_var 1))))) d_nx)
  (d_seq (d_asg (e_op o_mod (e_ca c_int (a_cons (e_op o_pow (e_op o_add (e_op o_add (e_op o_mod (e_ca c_int (a_cons (e_var 4) a_nil)) e_int) (e_op o_mul e_int (e_var 3))) e_int) e_int) a_nil)) e_int) (g_name (vs := [6]) (by decide)))
  (d_seq (d_asg (e_op o_mod (e_ca c_int (a_cons (e_op o_pow (e_op o_add (e_op o_add (e_op o_mul (e_var 6) (e_op o_add (e_op o_mul e_int (e_var 3)) e_int)) (e_op o_mul (e_op o_mul e_int (e_var 3)) (e_var 3))) e_int) e_int) a_nil)) e_int) (g_name (vs := [6]) (by decide)))
  (d_ret (e_op o_mod (e_ca c_int (a_cons (e_op o_fdv (e_var 6) e_int) a_nil)) (e_var 1)))))))))))
theorem SP_L_draw {K : PySem.W.Frag} {A : Ad} {L : PenA} (hpc : L.p ≠ L.c) (hpt : ∀ t ∈ L.T, L.p ≠ t.1) : SpD (penC K L) (sp_L_draw K A) (runD 7 2 (b_L_draw K A L)) := sp_run (N := N_L_draw) (by decide) (S_L_draw hpc hpt)
/-- _law_pick -/
abbrev N_L_pick : List Str := ["_law_pen_here", "_law_some"]
def rd_L_pick (K : PySem.W.Frag) (A : Ad) (E : XK) : TS :=
  (tRet (tOp mIx (tV 1) (tCallF (sp_L_draw K A) E (tCons (tV 0) (tCons (tCB mLen (tCons (tV 1) tNil)) tNil)))))
abbrev sp_L_pick (K : PySem.W.Frag) (A : Ad) : Sp := spR N_L_pick 2 (rd_L_pick K A)
noncomputable def b_L_pick {S : Type} (K : PySem.W.Frag) (A : Ad) (mm_L_draw : List D → M S D) : Rho → M S Out :=
  (yRet (xOp dIx (xV 1) (xF mm_L_draw (xCons (xV 0) (xCons (xCa dLen (xCons (xV 1) xNil)) xNil)))))
theorem S_L_pick {S : Type} {C : Cfg S} {K : PySem.W.Frag} {A : Ad} {mm_L_draw : List D → M S D} (h_L_draw : SpD C (sp_L_draw K A) mm_L_draw) : StD C (fun E => rd_L_pick K A E) (b_L_pick K A mm_L_draw) :=
  (d_ret (e_op o_ix (e_var 1) (e_call h_L_draw (a_cons (e_var 0) (a_cons (e_ca c_len (a_cons (e_var 1) a_nil)) a_nil)))))
theorem SP_L_pick {S : Type} {C : Cfg S} {K : PySem.W.Frag} {A : Ad} {mm_L_draw : List D → M S D} (h_L_draw : SpD C (sp_L_draw K A) mm_L_draw) : SpD C (sp_L_pick K A) (runD 2 2 (b_L_pick K A mm_L_draw)) := sp_run (N := N_L_pick) (by decide) (S_L_pick h_L_draw)
/-- _law_value -/
abbrev N_L_value : List Str := ["_law_pen_here", "_law_some"]
def rd_L_value (K : PySem.W.Frag) (A : Ad) (E : XK) : TS :=
  (tSeq (tAsg (tLst (tCons (tC .non) (tCons (tC (.bl true)) (tCons (tC (.bl false)) (tCons (tC (.int 0)) (tCons (tC (.int 1)) (tCons (tUn mNeg (tC (.int 7))) (tCons (tOp mPow (tC (.int 10)) (tC (.int 59))) (tCons (tC (.str "")) (tCons (tC (.str "a")) (tCons (tC (.str "out")) (tCons (tTup tNil) (tCons (tTup (tCons (tC (.str "a")) (tCons (tC (.int 1)) tNil))) (tCons (tLst tNil) (tCons (tLst (tCons (tC (.str "e")) tNil)) (tCons tDNewK (tCons (tDisp [((tC (.str "a")), (tC (.str "b")))]) (tCons (tC (.str "two words")) tNil)))))))))))))))))) (gName 1))
  (tRet (tCallF (sp_L_pick K A) E (tCons (tV 0) (tCons (tV 1) tNil)))))
abbrev sp_L_value (K : PySem.W.Frag) (A : Ad) : Sp := spR N_L_value 1 (rd_L_value K A)
noncomputable def b_L_value {S : Type} (K : PySem.W.Frag) (A : Ad) (mm_L_pick : List D → M S D) : Rho → M S Out :=
  (ySeq (yAsg (xL (xLstN (xCons (xC .non) (xCons (xC (.bl true)) (xCons (xC (.bl false)) (xCons (xC (.int 0)) (xCons (xC (.int 1)) (xCons (xUn dNeg (xC (.int 7))) (xCons (xOp dPow (xC (.int 10)) (xC (.int 59))) (xCons (xC (.str "")) (xCons (xC (.str "a")) (xCons (xC (.str "out")) (xCons (xTup xNil) (xCons (xTup (xCons (xC (.str "a")) (xCons (xC (.int 1)) xNil))) (xCons (xL (xLstN xNil)) (xCons (xL (xLstN (xCons (xC (.str "e")) xNil))) (xCons (xC (.dct [])) (xCons (xDisp [((xC (.str "a")), (xC (.str "b")))]) (xCons (xC (.str "two words")) xNil))))))))))))))))))) (gV 1))
  (yRet (xF mm_L_pick (xCons (xV 0) (xCons (xV 1) xNil)))))
theorem S_L_value {S : Type} {C : Cfg S} {K : PySem.W.Frag} {A : Ad} {mm_L_pick : List D → M S D} (h_L_pick : SpD C (sp_L_pick K A) mm_L_pick) : StD C (fun E => rd_L_value K A E) (b_L_value K A mm_L_pick) :=
  (d_seq (d_asg (e_new (n_lst (a_cons e_non (a_cons e_bl (a_cons e_bl (a_cons e_int (a_cons e_int (a_cons (e_un u_neg e_int) (a_cons (e_op o_pow e_int e_int) (a_cons e_str (a_cons e_str (a_cons e_str (a_cons (e_tup a_nil) (a_cons (e_tup (a_cons e_str (a_cons e_int a_nil))) (a_cons (e_new (n_lst a_nil)) (a_cons (e_new (n_lst (a_cons e_str a_nil))) (a_cons e_dnew (a_cons (e_disp (ts := [(fun E => (tC (.str "a")), fun E => (tC (.str "b")))]) (EvP.cons e_str e_str EvP.nil)) (a_cons e_str a_nil))))))))))))))))))) (g_name (vs := [1]) (by decide)))
  (d_ret (e_call h_L_pick (a_cons (e_var 0) (a_cons (e_var 1) a_nil)))))
theorem SP_L_value {S : Type} {C : Cfg S} {K : PySem.W.Frag} {A : Ad} {mm_L_pick : List D → M S D} (h_L_pick : SpD C (sp_L_pick K A) mm_L_pick) : SpD C (sp_L_value K A) (runD 2 1 (b_L_value K A mm_L_pick)) := sp_run (N := N_L_value) (by decide) (S_L_value h_L_pick)
/-- law -/
def rt_law (K : PySem.W.Frag) (A : Ad) (E : XK) : TS :=
  (tSeq (sLkO (tFor (iRng1 (tCons (tC (.int 4)) tNil)) (gName 2) (tSeq (tAsg (tTup (tCons (tCallF (sp_L_made K A) E (tCons (tCallF (sp_L_value K A) E (tCons (tV 1) tNil)) (tCons (tCallF (sp_L_value K A) E (tCons (tV 1) tNil)) tNil))) (tCons (tCallF (sp_L_kinds K A) E tNil) tNil))) (gTp (gNum 2 (gCs (gName 3) (gCs (gName 4) gNl)))))
  (sLkO (tFor (iEnum K (tCons (tV 3) tNil)) (gTp (gNum 2 (gCs (gName 5) (gCs (gName 6) gNl)))) (tSeq (tAsg (tV 6) (gTp (gNum 3 (gCs (gName 7) (gCs (gName 8) (gCs (gName 9) gNl))))))
  (tSeq (sIf (tOr' (tTs (tOp (mNeA K) (tCB (mReprD K) (tCons (tCallL (lpOf (lt K A)) E (tV 8) (tCons (tV 7) tNil)) tNil)) (tCB (mReprD K) (tCons (tV 9) tNil)))) (tOr' (tNot (tTs (tCB (mIkx K) (tCons (tV 7) (tCons (tC (.ref A.c_ShelfError)) tNil))))) (tNot (tTs (tCB (mIkx K) (tCons (tV 7) (tCons (tC (.ty "ValueError")) tNil))))))) (tRet (tC (.bl false))) tNext)
  (tSeq (tAsg (tLc (iRng1 (tCons (tCB mLen (tCons (tV 4) tNil)) tNil)) (gName 12) (tTs (tCallL (lpOf (lt K A)) (fun _ _ _ => False) (tOp mIx (tV 4) (tV 12)) (tCons (tV 7) tNil))) (tV 12) [12]) (gName 10))
  (tSeq (tAsg (tLc (iOf (tLst (tCons (tLst (tCons (tC (.int 14)) (tCons (tC (.int 15)) tNil))) (tCons (tLst (tCons (tC (.int 25)) (tCons (tC (.int 26)) tNil))) (tCons (tLst (tCons (tC (.int 27)) (tCons (tC (.int 28)) tNil))) tNil)))) (mW K)) (gName 13) (tTs (tOp (mIn K) (tV 5) (tV 13))) (tV 13) [13]) (gName 11))
  (sIf (tTs (tOp (mNeA K) (tV 10) (tIf' (tTs (tOp (mNeA K) (tV 11) (tLst tNil))) (tOp mIx (tV 11) (tC (.int 0))) (tLst (tCons (tV 5) tNil))))) (tRet (tC (.bl false))) tNext))))))))))
  (tRet (tCB (mIkx K) (tCons (fun σ H Q => (tC (.str "x")) σ H fun _ H1 => mkV A.c_ShelfError [] [] H1 Q) (tCons (tC (.ty "ValueError")) tNil)))))
abbrev N_law : List Str := ["_law_script", "_law_pen_here", "_law_turn", "_law_made_here", "_law_kinds_here", "_law_k", "_law_row", "_law_error", "_law_tell", "_law_due", "_law_known", "_law_twins", "_law_j", "_law_pair"]
def rd_law (K : PySem.W.Frag) (A : Ad) (E : XK) : TS :=
  (tSeq (tAsg (tCallF (sp_L_pen K A) E (tCons (tV 0) tNil)) (gName 1)) (rt_law K A E))
abbrev sp_law (K : PySem.W.Frag) (A : Ad) : Sp := spR N_law 1 (rd_law K A)
noncomputable def fb_law_1 {S : Type} (K : PySem.W.Frag) (A : Ad) (mm_L_kinds : List D → M S D) (mm_L_made : List D → M S D) (mm_L_pen : List D → M S D) (mm_L_value : List D → M S D) : Rho → M S Out :=
  (ySeq (yAsg (xV 6) (gVt 3 (gVc (gV 7) (gVc (gV 8) (gVc (gV 9) gVn)))))
  (ySeq (yIf (xOr (xT (xOp neA (xCa (dReprD K) (xCons (xCallL (lm K A) (xV 8) (xCons (xV 7) xNil)) xNil)) (xCa (dReprD K) (xCons (xV 9) xNil)))) (xOr (xNot (xT (xCa (dIsx K) (xCons (xV 7) (xCons (xC (.adr A.c_ShelfError)) xNil))))) (xNot (xT (xCa (dIsx K) (xCons (xV 7) (xCons (xC (.ty "ValueError")) xNil))))))) (yRet (xC (.bl false))) yNx)
  (ySeq (yAsg (xL (xLc (xR1 (xCons (xCa dLen (xCons (xV 4) xNil)) xNil)) (gV 12) (xT (xCallL0 (lm K A) (xOp dIx (xV 4) (xV 12)) (xCons (xV 7) xNil))) (xV 12) [12])) (gV 10))
  (ySeq (yAsg (xL (xLc (xIt (xL (xLstN (xCons (xL (xLstN (xCons (xC (.int 14)) (xCons (xC (.int 15)) xNil)))) (xCons (xL (xLstN (xCons (xC (.int 25)) (xCons (xC (.int 26)) xNil)))) (xCons (xL (xLstN (xCons (xC (.int 27)) (xCons (xC (.int 28)) xNil)))) xNil)))))) (gV 13) (xT (xOp dIn2 (xV 5) (xV 13))) (xV 13) [13])) (gV 11))
  (yIf (xT (xOp neA (xV 10) (xIf (xT (xOp neA (xV 11) (xL (xLstN xNil)))) (xOp dIx (xV 11) (xC (.int 0))) (xL (xLstN (xCons (xV 5) xNil)))))) (yRet (xC (.bl false))) yNx)))))
noncomputable def fb_law_2 {S : Type} (K : PySem.W.Frag) (A : Ad) (mm_L_kinds : List D → M S D) (mm_L_made : List D → M S D) (mm_L_pen : List D → M S D) (mm_L_value : List D → M S D) : Rho → M S Out :=
  (ySeq (yAsg (xTup (xCons (xF mm_L_made (xCons (xF mm_L_value (xCons (xV 1) xNil)) (xCons (xF mm_L_value (xCons (xV 1) xNil)) xNil))) (xCons (xF mm_L_kinds xNil) xNil))) (gVt 2 (gVc (gV 3) (gVc (gV 4) gVn))))
  (yFor (xEn (xCons (xV 3) xNil)) (gVt 2 (gVc (gV 5) (gVc (gV 6) gVn))) (fb_law_1 K A mm_L_kinds mm_L_made mm_L_pen mm_L_value)))
noncomputable def b_law {S : Type} (K : PySem.W.Frag) (A : Ad) (mm_L_kinds : List D → M S D) (mm_L_made : List D → M S D) (mm_L_pen : List D → M S D) (mm_L_value : List D → M S D) : Rho → M S Out :=
  (ySeq (yFor (xR1 (xCons (xC (.int 4)) xNil)) (gV 2) (fb_law_2 K A mm_L_kinds mm_L_made mm_L_pen mm_L_value))
  (yRet (xCa (dIsx K) (xCons (xXb A.c_ShelfError (xC (.str "x"))) (xCons (xC (.ty "ValueError")) xNil)))))
theorem S_law {S : Type} {C : Cfg S} {K : PySem.W.Frag} {A : Ad} {mm_L_kinds : List D → M S D} (h_L_kinds : SpD C (sp_L_kinds K A) mm_L_kinds) {mm_L_made : List D → M S D} (h_L_made : SpD C (sp_L_made K A) mm_L_made) {mm_L_pen : List D → M S D} (h_L_pen : SpD C (sp_L_pen K A) mm_L_pen) {mm_L_value : List D → M S D} (h_L_value : SpD C (sp_L_value K A) mm_L_value) : StD C (fun E => rt_law K A E) (b_law K A mm_L_kinds mm_L_made mm_L_pen mm_L_value) :=
  (d_seq (d_lkO (d_for (vs := [0, 1, 2, 3, 4, 5, 6, 7, 8, 9, 10, 11, 12, 13]) (i_rng1 (a_cons e_int a_nil)) (g_name (by decide)) (d_seq (d_asg (vs := [0, 1, 2, 3, 4, 5, 6, 7, 8, 9, 10, 11, 12, 13]) (e_tup (a_cons (e_call h_L_made (a_cons (e_call h_L_value (a_cons (e_var 1) a_nil)) (a_cons (e_call h_L_value (a_cons (e_var 1) a_nil)) a_nil))) (a_cons (e_call h_L_kinds a_nil) a_nil))) (g_tup (g_cons (g_name (by decide)) (g_cons (g_name (by decide)) g_nil))))
  (d_lkO (d_for (vs := [0, 1, 2, 3, 4, 5, 6, 7, 8, 9, 10, 11, 12, 13]) (i_enum (a_cons (e_var 3) a_nil)) (g_tup (g_cons (g_name (by decide)) (g_cons (g_name (by decide)) g_nil))) (d_seq (d_asg (vs := [0, 1, 2, 3, 4, 5, 6, 7, 8, 9, 10, 11, 12, 13]) (e_var 6) (g_tup (g_cons (g_name (by decide)) (g_cons (g_name (by decide)) (g_cons (g_name (by decide)) g_nil)))))
  (d_seq (d_if (e_or (e_test (e_op o_neA (e_ca c_reprD (a_cons (e_callL LT (e_var 8) (a_cons (e_var 7) a_nil)) a_nil)) (e_ca c_reprD (a_cons (e_var 9) a_nil)))) (e_or (e_not (e_test (e_ca c_isx (a_cons (e_var 7) (a_cons e_adr a_nil))))) (e_not (e_test (e_ca c_isx (a_cons (e_var 7) (a_cons e_ty a_nil))))))) (d_ret e_bl) d_nx)
  (d_seq (d_asg (e_new (lc_core2 (i_rng1 (a_cons (e_ca c_len (a_cons (e_var 4) a_nil)) a_nil)) (g_name (by decide)) (e_test (e_callL0 LT (e_op o_ix (e_var 4) (e_var 12)) (a_cons (e_var 7) a_nil))) (e_var 12))) (g_name (vs := [10]) (by decide)))
  (d_seq (d_asg (e_new (lc_core2 (i_of (e_new (n_lst (a_cons (e_new (n_lst (a_cons e_int (a_cons e_int a_nil)))) (a_cons (e_new (n_lst (a_cons e_int (a_cons e_int a_nil)))) (a_cons (e_new (n_lst (a_cons e_int (a_cons e_int a_nil)))) a_nil)))))) (g_name (by decide)) (e_test (e_op o_in (e_var 5) (e_var 13))) (e_var 13))) (g_name (vs := [11]) (by decide)))
  (d_if (e_test (e_op o_neA (e_var 10) (e_if (e_test (e_op o_neA (e_var 11) (e_new (n_lst a_nil)))) (e_op o_ix (e_var 11) e_int) (e_new (n_lst (a_cons (e_var 5) a_nil)))))) (d_ret e_bl) d_nx))))))))))
  (d_ret (e_ca c_isx (a_cons (e_xb e_str) (a_cons e_ty a_nil)))))
end Rk01

namespace Rk01
open PySem PySem.Spec PyProof.Rows L2 Fs
abbrev PROG : Program := PySem.Challenge.pw_fullshelves_k01_errors_kept
def top (i : Nat) : Stmt := PROG.main.body.getD i (.Pass ⟨0, 0, 0, 0⟩)
abbrev st_L_kinds : Stmt := top 35
abbrev st_L_made : Stmt := top 34
abbrev st_L_pen : Stmt := top 30
abbrev st_L_draw : Stmt := top 31
abbrev st_L_pick : Stmt := top 32
abbrev st_L_value : Stmt := top 33
abbrev st_law : Stmt := top 36
abbrev ex_0 : Expr := (eltE (retE ((defBody st_L_kinds).getD 0 (.Pass ⟨0, 0, 0, 0⟩))) 0)
abbrev ex_1 : Expr := (eltE (retE ((defBody st_L_kinds).getD 0 (.Pass ⟨0, 0, 0, 0⟩))) 1)
abbrev ex_2 : Expr := (eltE (retE ((defBody st_L_kinds).getD 0 (.Pass ⟨0, 0, 0, 0⟩))) 2)
abbrev ex_3 : Expr := (eltE (retE ((defBody st_L_kinds).getD 0 (.Pass ⟨0, 0, 0, 0⟩))) 3)
abbrev ex_4 : Expr := (eltE (retE ((defBody st_L_kinds).getD 0 (.Pass ⟨0, 0, 0, 0⟩))) 4)
abbrev ex_5 : Expr := (eltE (retE ((defBody st_L_kinds).getD 0 (.Pass ⟨0, 0, 0, 0⟩))) 5)
abbrev ex_6 : Expr := (eltE (retE ((defBody st_L_kinds).getD 0 (.Pass ⟨0, 0, 0, 0⟩))) 6)
abbrev ex_7 : Expr := (eltE (retE ((defBody st_L_kinds).getD 0 (.Pass ⟨0, 0, 0, 0⟩))) 7)
abbrev ex_8 : Expr := (eltE (retE ((defBody st_L_kinds).getD 0 (.Pass ⟨0, 0, 0, 0⟩))) 8)
abbrev ex_9 : Expr := (eltE (retE ((defBody st_L_kinds).getD 0 (.Pass ⟨0, 0, 0, 0⟩))) 9)
abbrev ex_10 : Expr := (eltE (retE ((defBody st_L_kinds).getD 0 (.Pass ⟨0, 0, 0, 0⟩))) 10)
abbrev ex_11 : Expr := (eltE (retE ((defBody st_L_kinds).getD 0 (.Pass ⟨0, 0, 0, 0⟩))) 11)
abbrev ex_12 : Expr := (eltE (retE ((defBody st_L_kinds).getD 0 (.Pass ⟨0, 0, 0, 0⟩))) 12)
abbrev ex_13 : Expr := (eltE (retE ((defBody st_L_kinds).getD 0 (.Pass ⟨0, 0, 0, 0⟩))) 13)
abbrev ex_14 : Expr := (eltE (retE ((defBody st_L_kinds).getD 0 (.Pass ⟨0, 0, 0, 0⟩))) 14)
abbrev ex_15 : Expr := (eltE (retE ((defBody st_L_kinds).getD 0 (.Pass ⟨0, 0, 0, 0⟩))) 15)
abbrev ex_16 : Expr := (eltE (retE ((defBody st_L_kinds).getD 0 (.Pass ⟨0, 0, 0, 0⟩))) 16)
abbrev ex_17 : Expr := (eltE (retE ((defBody st_L_kinds).getD 0 (.Pass ⟨0, 0, 0, 0⟩))) 17)
abbrev ex_18 : Expr := (eltE (retE ((defBody st_L_kinds).getD 0 (.Pass ⟨0, 0, 0, 0⟩))) 18)
abbrev ex_19 : Expr := (eltE (retE ((defBody st_L_kinds).getD 0 (.Pass ⟨0, 0, 0, 0⟩))) 19)
abbrev ex_20 : Expr := (eltE (retE ((defBody st_L_kinds).getD 0 (.Pass ⟨0, 0, 0, 0⟩))) 20)
abbrev ex_21 : Expr := (eltE (retE ((defBody st_L_kinds).getD 0 (.Pass ⟨0, 0, 0, 0⟩))) 21)
abbrev ex_22 : Expr := (eltE (retE ((defBody st_L_kinds).getD 0 (.Pass ⟨0, 0, 0, 0⟩))) 22)
abbrev ex_23 : Expr := (eltE (retE ((defBody st_L_kinds).getD 0 (.Pass ⟨0, 0, 0, 0⟩))) 23)
abbrev ex_24 : Expr := (eltE (retE ((defBody st_L_kinds).getD 0 (.Pass ⟨0, 0, 0, 0⟩))) 24)
abbrev ex_25 : Expr := (eltE (retE ((defBody st_L_kinds).getD 0 (.Pass ⟨0, 0, 0, 0⟩))) 25)
abbrev ex_26 : Expr := (eltE (retE ((defBody st_L_kinds).getD 0 (.Pass ⟨0, 0, 0, 0⟩))) 26)
abbrev ex_27 : Expr := (eltE (retE ((defBody st_L_kinds).getD 0 (.Pass ⟨0, 0, 0, 0⟩))) 27)
abbrev ex_28 : Expr := (eltE (retE ((defBody st_L_kinds).getD 0 (.Pass ⟨0, 0, 0, 0⟩))) 28)
abbrev ex_29 : Expr := (eltE (retE ((defBody st_L_kinds).getD 0 (.Pass ⟨0, 0, 0, 0⟩))) 29)
abbrev ex_30 : Expr := (eltE (eltE (retE ((defBody st_L_made).getD 0 (.Pass ⟨0, 0, 0, 0⟩))) 0) 1)
abbrev ex_31 : Expr := (eltE (eltE (retE ((defBody st_L_made).getD 0 (.Pass ⟨0, 0, 0, 0⟩))) 1) 1)
abbrev ex_32 : Expr := (eltE (eltE (retE ((defBody st_L_made).getD 0 (.Pass ⟨0, 0, 0, 0⟩))) 2) 1)
abbrev ex_33 : Expr := (eltE (eltE (retE ((defBody st_L_made).getD 0 (.Pass ⟨0, 0, 0, 0⟩))) 3) 1)
abbrev ex_34 : Expr := (eltE (eltE (retE ((defBody st_L_made).getD 0 (.Pass ⟨0, 0, 0, 0⟩))) 4) 1)
abbrev ex_35 : Expr := (eltE (eltE (retE ((defBody st_L_made).getD 0 (.Pass ⟨0, 0, 0, 0⟩))) 5) 1)
abbrev ex_36 : Expr := (eltE (eltE (retE ((defBody st_L_made).getD 0 (.Pass ⟨0, 0, 0, 0⟩))) 6) 1)
abbrev ex_37 : Expr := (eltE (eltE (retE ((defBody st_L_made).getD 0 (.Pass ⟨0, 0, 0, 0⟩))) 7) 1)
abbrev ex_38 : Expr := (eltE (eltE (retE ((defBody st_L_made).getD 0 (.Pass ⟨0, 0, 0, 0⟩))) 8) 1)
abbrev ex_39 : Expr := (eltE (eltE (retE ((defBody st_L_made).getD 0 (.Pass ⟨0, 0, 0, 0⟩))) 9) 1)
abbrev ex_40 : Expr := (eltE (eltE (retE ((defBody st_L_made).getD 0 (.Pass ⟨0, 0, 0, 0⟩))) 10) 1)
abbrev ex_41 : Expr := (eltE (eltE (retE ((defBody st_L_made).getD 0 (.Pass ⟨0, 0, 0, 0⟩))) 11) 1)
abbrev ex_42 : Expr := (eltE (eltE (retE ((defBody st_L_made).getD 0 (.Pass ⟨0, 0, 0, 0⟩))) 12) 1)
abbrev ex_43 : Expr := (eltE (eltE (retE ((defBody st_L_made).getD 0 (.Pass ⟨0, 0, 0, 0⟩))) 13) 1)
abbrev ex_44 : Expr := (eltE (eltE (retE ((defBody st_L_made).getD 0 (.Pass ⟨0, 0, 0, 0⟩))) 14) 1)
abbrev ex_45 : Expr := (eltE (eltE (retE ((defBody st_L_made).getD 0 (.Pass ⟨0, 0, 0, 0⟩))) 15) 1)
abbrev ex_46 : Expr := (eltE (eltE (retE ((defBody st_L_made).getD 0 (.Pass ⟨0, 0, 0, 0⟩))) 16) 1)
abbrev ex_47 : Expr := (eltE (eltE (retE ((defBody st_L_made).getD 0 (.Pass ⟨0, 0, 0, 0⟩))) 17) 1)
abbrev ex_48 : Expr := (eltE (eltE (retE ((defBody st_L_made).getD 0 (.Pass ⟨0, 0, 0, 0⟩))) 18) 1)
abbrev ex_49 : Expr := (eltE (eltE (retE ((defBody st_L_made).getD 0 (.Pass ⟨0, 0, 0, 0⟩))) 19) 1)
abbrev ex_50 : Expr := (eltE (eltE (retE ((defBody st_L_made).getD 0 (.Pass ⟨0, 0, 0, 0⟩))) 20) 1)
abbrev ex_51 : Expr := (eltE (eltE (retE ((defBody st_L_made).getD 0 (.Pass ⟨0, 0, 0, 0⟩))) 21) 1)
abbrev ex_52 : Expr := (eltE (eltE (retE ((defBody st_L_made).getD 0 (.Pass ⟨0, 0, 0, 0⟩))) 22) 1)
abbrev ex_53 : Expr := (eltE (eltE (retE ((defBody st_L_made).getD 0 (.Pass ⟨0, 0, 0, 0⟩))) 23) 1)
abbrev ex_54 : Expr := (eltE (eltE (retE ((defBody st_L_made).getD 0 (.Pass ⟨0, 0, 0, 0⟩))) 24) 1)
abbrev ex_55 : Expr := (eltE (eltE (retE ((defBody st_L_made).getD 0 (.Pass ⟨0, 0, 0, 0⟩))) 25) 1)
abbrev ex_56 : Expr := (eltE (eltE (retE ((defBody st_L_made).getD 0 (.Pass ⟨0, 0, 0, 0⟩))) 26) 1)
abbrev ex_57 : Expr := (eltE (eltE (retE ((defBody st_L_made).getD 0 (.Pass ⟨0, 0, 0, 0⟩))) 27) 1)
abbrev ex_58 : Expr := (eltE (eltE (retE ((defBody st_L_made).getD 0 (.Pass ⟨0, 0, 0, 0⟩))) 28) 1)
abbrev ex_59 : Expr := (eltE (eltE (retE ((defBody st_L_made).getD 0 (.Pass ⟨0, 0, 0, 0⟩))) 29) 1)
structure Txt (K : PySem.W.Frag) (mg : Str → Option Value) (A : Ad) : Prop where
  n_ValueError : mg "ValueError" = none
  n_abs : mg "abs" = none
  n_enumerate : mg "enumerate" = none
  n_int : mg "int" = none
  n_isinstance : mg "isinstance" = none
  n_len : mg "len" = none
  n_list : mg "list" = none
  n_range : mg "range" = none
  n_repr : mg "repr" = none
  FC_L_kinds : ∃ fd, Fun K "_law_kinds" "_law_kinds" st_L_kinds A.f_L_kinds fd ∧ fd.code = .ref A.cd_L_kinds
  g_L_kinds : mg "_law_kinds" = some (.ref A.f_L_kinds)
  k_L_kinds : PySem.W.keepIn K (.ref A.f_L_kinds) = true
  FC_L_made : ∃ fd, Fun K "_law_made" "_law_made" st_L_made A.f_L_made fd ∧ fd.code = .ref A.cd_L_made
  g_L_made : mg "_law_made" = some (.ref A.f_L_made)
  k_L_made : PySem.W.keepIn K (.ref A.f_L_made) = true
  F_L_pen : ∃ fd, Fun K "_law_pen" "_law_pen" st_L_pen A.f_L_pen fd
  g_L_pen : mg "_law_pen" = some (.ref A.f_L_pen)
  k_L_pen : PySem.W.keepIn K (.ref A.f_L_pen) = true
  F_L_draw : ∃ fd, Fun K "_law_draw" "_law_draw" st_L_draw A.f_L_draw fd
  g_L_draw : mg "_law_draw" = some (.ref A.f_L_draw)
  k_L_draw : PySem.W.keepIn K (.ref A.f_L_draw) = true
  F_L_pick : ∃ fd, Fun K "_law_pick" "_law_pick" st_L_pick A.f_L_pick fd
  g_L_pick : mg "_law_pick" = some (.ref A.f_L_pick)
  k_L_pick : PySem.W.keepIn K (.ref A.f_L_pick) = true
  F_L_value : ∃ fd, Fun K "_law_value" "_law_value" st_L_value A.f_L_value fd
  g_L_value : mg "_law_value" = some (.ref A.f_L_value)
  k_L_value : PySem.W.keepIn K (.ref A.f_L_value) = true
  F_law : ∃ fd, Fun K "law" "law" st_law A.f_law fd
  g_law : mg "law" = some (.ref A.f_law)
  k_law : PySem.W.keepIn K (.ref A.f_law) = true
  g_BadChange : mg "BadChange" = some (.ref A.c_BadChange)
  g_BadCommand : mg "BadCommand" = some (.ref A.c_BadCommand)
  g_BadFlow : mg "BadFlow" = some (.ref A.c_BadFlow)
  g_BadLink : mg "BadLink" = some (.ref A.c_BadLink)
  g_BadLoad : mg "BadLoad" = some (.ref A.c_BadLoad)
  g_BadLot : mg "BadLot" = some (.ref A.c_BadLot)
  g_BadName : mg "BadName" = some (.ref A.c_BadName)
  g_BadNet : mg "BadNet" = some (.ref A.c_BadNet)
  g_BadNumber : mg "BadNumber" = some (.ref A.c_BadNumber)
  g_BadOrder : mg "BadOrder" = some (.ref A.c_BadOrder)
  g_BadPaper : mg "BadPaper" = some (.ref A.c_BadPaper)
  g_BadShelf : mg "BadShelf" = some (.ref A.c_BadShelf)
  g_BadSize : mg "BadSize" = some (.ref A.c_BadSize)
  g_BadText : mg "BadText" = some (.ref A.c_BadText)
  g_Endless : mg "Endless" = some (.ref A.c_Endless)
  g_NoFlow : mg "NoFlow" = some (.ref A.c_NoFlow)
  g_NoParcel : mg "NoParcel" = some (.ref A.c_NoParcel)
  g_NoPost : mg "NoPost" = some (.ref A.c_NoPost)
  g_NoRoom : mg "NoRoom" = some (.ref A.c_NoRoom)
  g_NoShelf : mg "NoShelf" = some (.ref A.c_NoShelf)
  g_NoStep : mg "NoStep" = some (.ref A.c_NoStep)
  g_NoWant : mg "NoWant" = some (.ref A.c_NoWant)
  g_NotMet : mg "NotMet" = some (.ref A.c_NotMet)
  g_Nothing : mg "Nothing" = some (.ref A.c_Nothing)
  g_ShelfError : mg "ShelfError" = some (.ref A.c_ShelfError)
  g_Taken : mg "Taken" = some (.ref A.c_Taken)
  g_TooMany : mg "TooMany" = some (.ref A.c_TooMany)
  g_Unsafe : mg "Unsafe" = some (.ref A.c_Unsafe)
  w_BadCommand_word : SxKw K A.i_BadCommand ["word"] ["word"]
  w_BadLink_at : SxKw K A.i_BadLink ["at"] ["at"]
  w_BadLot_at : SxKw K A.i_BadLot ["at"] ["at"]
  w_BadNet_part : SxKw K A.i_BadNet ["part"] ["part"]
  w_BadNumber_value : SxKw K A.i_BadNumber ["value"] ["value"]
  w_BadShelf_value : SxKw K A.i_BadShelf ["value"] ["value"]
  w_BadSize_shelf : SxKw K A.i_BadSize ["shelf"] ["shelf"]
  w_BadText_word_line : SxKw K A.i_BadText ["line", "word"] ["word", "line"]
  w_NoFlow_name : SxKw K A.i_NoFlow ["name"] ["name"]
  w_NoRoom_shelf : SxKw K A.i_NoRoom ["shelf"] ["shelf"]
  w_NoStep_flow_shelf : SxKw K A.i_NoStep ["shelf", "flow"] ["flow", "shelf"]
  w_NoWant_want : SxKw K A.i_NoWant ["want"] ["want"]
  w_NotMet_shelf_flow : SxKw K A.i_NotMet ["shelf", "flow"] ["shelf", "flow"]
  w_TooMany_most_what : SxKw K A.i_TooMany ["what", "most"] ["most", "what"]
  w_Unsafe_paper : SxKw K A.i_Unsafe ["paper"] ["paper"]
  xb_ShelfError : PySem.W.excIn K A.c_ShelfError [.type "ValueError", .type "Exception", .type "BaseException", .type "object"] "ValueError.__new__" = true
  kb_ShelfError : PySem.W.keepIn K (.ref A.c_ShelfError) = true
  lf_0 : A.lf_0 = lamOf "_law_kinds" ex_0
  lf_1 : A.lf_1 = lamOf "_law_kinds" ex_1
  lf_2 : A.lf_2 = lamOf "_law_kinds" ex_2
  lf_3 : A.lf_3 = lamOf "_law_kinds" ex_3
  lf_4 : A.lf_4 = lamOf "_law_kinds" ex_4
  lf_5 : A.lf_5 = lamOf "_law_kinds" ex_5
  lf_6 : A.lf_6 = lamOf "_law_kinds" ex_6
  lf_7 : A.lf_7 = lamOf "_law_kinds" ex_7
  lf_8 : A.lf_8 = lamOf "_law_kinds" ex_8
  lf_9 : A.lf_9 = lamOf "_law_kinds" ex_9
  lf_10 : A.lf_10 = lamOf "_law_kinds" ex_10
  lf_11 : A.lf_11 = lamOf "_law_kinds" ex_11
  lf_12 : A.lf_12 = lamOf "_law_kinds" ex_12
  lf_13 : A.lf_13 = lamOf "_law_kinds" ex_13
  lf_14 : A.lf_14 = lamOf "_law_kinds" ex_14
  lf_15 : A.lf_15 = lamOf "_law_kinds" ex_15
  lf_16 : A.lf_16 = lamOf "_law_kinds" ex_16
  lf_17 : A.lf_17 = lamOf "_law_kinds" ex_17
  lf_18 : A.lf_18 = lamOf "_law_kinds" ex_18
  lf_19 : A.lf_19 = lamOf "_law_kinds" ex_19
  lf_20 : A.lf_20 = lamOf "_law_kinds" ex_20
  lf_21 : A.lf_21 = lamOf "_law_kinds" ex_21
  lf_22 : A.lf_22 = lamOf "_law_kinds" ex_22
  lf_23 : A.lf_23 = lamOf "_law_kinds" ex_23
  lf_24 : A.lf_24 = lamOf "_law_kinds" ex_24
  lf_25 : A.lf_25 = lamOf "_law_kinds" ex_25
  lf_26 : A.lf_26 = lamOf "_law_kinds" ex_26
  lf_27 : A.lf_27 = lamOf "_law_kinds" ex_27
  lf_28 : A.lf_28 = lamOf "_law_kinds" ex_28
  lf_29 : A.lf_29 = lamOf "_law_kinds" ex_29
  lf_30 : A.lf_30 = lamOf "_law_made" ex_30
  lf_31 : A.lf_31 = lamOf "_law_made" ex_31
  lf_32 : A.lf_32 = lamOf "_law_made" ex_32
  lf_33 : A.lf_33 = lamOf "_law_made" ex_33
  lf_34 : A.lf_34 = lamOf "_law_made" ex_34
  lf_35 : A.lf_35 = lamOf "_law_made" ex_35
  lf_36 : A.lf_36 = lamOf "_law_made" ex_36
  lf_37 : A.lf_37 = lamOf "_law_made" ex_37
  lf_38 : A.lf_38 = lamOf "_law_made" ex_38
  lf_39 : A.lf_39 = lamOf "_law_made" ex_39
  lf_40 : A.lf_40 = lamOf "_law_made" ex_40
  lf_41 : A.lf_41 = lamOf "_law_made" ex_41
  lf_42 : A.lf_42 = lamOf "_law_made" ex_42
  lf_43 : A.lf_43 = lamOf "_law_made" ex_43
  lf_44 : A.lf_44 = lamOf "_law_made" ex_44
  lf_45 : A.lf_45 = lamOf "_law_made" ex_45
  lf_46 : A.lf_46 = lamOf "_law_made" ex_46
  lf_47 : A.lf_47 = lamOf "_law_made" ex_47
  lf_48 : A.lf_48 = lamOf "_law_made" ex_48
  lf_49 : A.lf_49 = lamOf "_law_made" ex_49
  lf_50 : A.lf_50 = lamOf "_law_made" ex_50
  lf_51 : A.lf_51 = lamOf "_law_made" ex_51
  lf_52 : A.lf_52 = lamOf "_law_made" ex_52
  lf_53 : A.lf_53 = lamOf "_law_made" ex_53
  lf_54 : A.lf_54 = lamOf "_law_made" ex_54
  lf_55 : A.lf_55 = lamOf "_law_made" ex_55
  lf_56 : A.lf_56 = lamOf "_law_made" ex_56
  lf_57 : A.lf_57 = lamOf "_law_made" ex_57
  lf_58 : A.lf_58 = lamOf "_law_made" ex_58
  lf_59 : A.lf_59 = lamOf "_law_made" ex_59
  x_BadChange : SxTxt PROG K mg A.c_BadChange A.i_BadChange ["at"]
  x_BadCommand : SxTxt PROG K mg A.c_BadCommand A.i_BadCommand ["word"]
  x_BadFlow : SxTxt PROG K mg A.c_BadFlow A.i_BadFlow ["part"]
  x_BadLink : SxTxt PROG K mg A.c_BadLink A.i_BadLink ["at"]
  x_BadLoad : SxTxt PROG K mg A.c_BadLoad A.i_BadLoad ["part"]
  x_BadLot : SxTxt PROG K mg A.c_BadLot A.i_BadLot ["at"]
  x_BadName : SxTxt PROG K mg A.c_BadName A.i_BadName ["value"]
  x_BadNet : SxTxt PROG K mg A.c_BadNet A.i_BadNet ["part"]
  x_BadNumber : SxTxt PROG K mg A.c_BadNumber A.i_BadNumber ["value"]
  x_BadOrder : SxTxt PROG K mg A.c_BadOrder A.i_BadOrder ["at"]
  x_BadPaper : SxTxt PROG K mg A.c_BadPaper A.i_BadPaper ["part"]
  x_BadShelf : SxTxt PROG K mg A.c_BadShelf A.i_BadShelf ["value"]
  x_BadSize : SxTxt PROG K mg A.c_BadSize A.i_BadSize ["shelf"]
  x_BadText : SxTxt PROG K mg A.c_BadText A.i_BadText ["line", "word"]
  x_Endless : SxTxt PROG K mg A.c_Endless A.i_Endless ["flow"]
  x_NoFlow : SxTxt PROG K mg A.c_NoFlow A.i_NoFlow ["name"]
  x_NoParcel : SxTxt PROG K mg A.c_NoParcel A.i_NoParcel ["number"]
  x_NoPost : SxTxt PROG K mg A.c_NoPost A.i_NoPost ["post"]
  x_NoRoom : SxTxt PROG K mg A.c_NoRoom A.i_NoRoom ["shelf"]
  x_NoShelf : SxTxt PROG K mg A.c_NoShelf A.i_NoShelf ["shelf"]
  x_NoStep : SxTxt PROG K mg A.c_NoStep A.i_NoStep ["shelf", "flow"]
  x_NoWant : SxTxt PROG K mg A.c_NoWant A.i_NoWant ["want"]
  x_NotMet : SxTxt PROG K mg A.c_NotMet A.i_NotMet ["shelf", "flow"]
  x_Nothing : SxTxt PROG K mg A.c_Nothing A.i_Nothing []
  x_Taken : SxTxt PROG K mg A.c_Taken A.i_Taken ["name"]
  x_TooMany : SxTxt PROG K mg A.c_TooMany A.i_TooMany ["what", "most"]
  x_Unsafe : SxTxt PROG K mg A.c_Unsafe A.i_Unsafe ["paper"]
section
variable {w : World} {K : PySem.W.Frag} {mg : Str → Option Value} {base : Heap} {A : Ad}
theorem GL_0 (T : Txt K mg A) : LamOk PROG w K mg base (L2.CX PROG w) 1 A.lf_0 (sl_0 K A) := by
  rw [T.lf_0]
  exact lamok_of (N := ["_law_error"]) (ps := ["_law_error"]) (NdefX.nscope_by (by decide +kernel)) (fun _ _ _ us hl => match us, hl with | [_], _ => rfl) (fun Ar outer s H E f c hr => (pe_callB call_mIkx (by rfl) T.n_isinstance (by decide +kernel) (pa_cons (pvx 0) (pa_cons (pe_gr T.g_BadName) pa_nil))))
theorem GL_1 (T : Txt K mg A) : LamOk PROG w K mg base (L2.CX PROG w) 1 A.lf_1 (sl_1 K A) := by
  rw [T.lf_1]
  exact lamok_of (N := ["_law_mistake"]) (ps := ["_law_mistake"]) (NdefX.nscope_by (by decide +kernel)) (fun _ _ _ us hl => match us, hl with | [_], _ => rfl) (fun Ar outer s H E f c hr => (pe_callB call_mIkx (by rfl) T.n_isinstance (by decide +kernel) (pa_cons (pvx 0) (pa_cons (pe_gr T.g_BadShelf) pa_nil))))
theorem GL_2 (T : Txt K mg A) : LamOk PROG w K mg base (L2.CX PROG w) 1 A.lf_2 (sl_2 K A) := by
  rw [T.lf_2]
  exact lamok_of (N := ["_law_error"]) (ps := ["_law_error"]) (NdefX.nscope_by (by decide +kernel)) (fun _ _ _ us hl => match us, hl with | [_], _ => rfl) (fun Ar outer s H E f c hr => (pe_callB call_mIkx (by rfl) T.n_isinstance (by decide +kernel) (pa_cons (pvx 0) (pa_cons (pe_gr T.g_BadFlow) pa_nil))))
theorem GL_3 (T : Txt K mg A) : LamOk PROG w K mg base (L2.CX PROG w) 1 A.lf_3 (sl_3 K A) := by
  rw [T.lf_3]
  exact lamok_of (N := ["_law_mistake"]) (ps := ["_law_mistake"]) (NdefX.nscope_by (by decide +kernel)) (fun _ _ _ us hl => match us, hl with | [_], _ => rfl) (fun Ar outer s H E f c hr => (pe_callB call_mIkx (by rfl) T.n_isinstance (by decide +kernel) (pa_cons (pvx 0) (pa_cons (pe_gr T.g_BadNet) pa_nil))))
theorem GL_4 (T : Txt K mg A) : LamOk PROG w K mg base (L2.CX PROG w) 1 A.lf_4 (sl_4 K A) := by
  rw [T.lf_4]
  exact lamok_of (N := ["_law_error"]) (ps := ["_law_error"]) (NdefX.nscope_by (by decide +kernel)) (fun _ _ _ us hl => match us, hl with | [_], _ => rfl) (fun Ar outer s H E f c hr => (pe_callB call_mIkx (by rfl) T.n_isinstance (by decide +kernel) (pa_cons (pvx 0) (pa_cons (pe_gr T.g_BadPaper) pa_nil))))
theorem GL_5 (T : Txt K mg A) : LamOk PROG w K mg base (L2.CX PROG w) 1 A.lf_5 (sl_5 K A) := by
  rw [T.lf_5]
  exact lamok_of (N := ["_law_mistake"]) (ps := ["_law_mistake"]) (NdefX.nscope_by (by decide +kernel)) (fun _ _ _ us hl => match us, hl with | [_], _ => rfl) (fun Ar outer s H E f c hr => (pe_callB call_mIkx (by rfl) T.n_isinstance (by decide +kernel) (pa_cons (pvx 0) (pa_cons (pe_gr T.g_BadLot) pa_nil))))
theorem GL_6 (T : Txt K mg A) : LamOk PROG w K mg base (L2.CX PROG w) 1 A.lf_6 (sl_6 K A) := by
  rw [T.lf_6]
  exact lamok_of (N := ["_law_error"]) (ps := ["_law_error"]) (NdefX.nscope_by (by decide +kernel)) (fun _ _ _ us hl => match us, hl with | [_], _ => rfl) (fun Ar outer s H E f c hr => (pe_callB call_mIkx (by rfl) T.n_isinstance (by decide +kernel) (pa_cons (pvx 0) (pa_cons (pe_gr T.g_BadChange) pa_nil))))
theorem GL_7 (T : Txt K mg A) : LamOk PROG w K mg base (L2.CX PROG w) 1 A.lf_7 (sl_7 K A) := by
  rw [T.lf_7]
  exact lamok_of (N := ["_law_mistake"]) (ps := ["_law_mistake"]) (NdefX.nscope_by (by decide +kernel)) (fun _ _ _ us hl => match us, hl with | [_], _ => rfl) (fun Ar outer s H E f c hr => (pe_callB call_mIkx (by rfl) T.n_isinstance (by decide +kernel) (pa_cons (pvx 0) (pa_cons (pe_gr T.g_BadSize) pa_nil))))
theorem GL_8 (T : Txt K mg A) : LamOk PROG w K mg base (L2.CX PROG w) 1 A.lf_8 (sl_8 K A) := by
  rw [T.lf_8]
  exact lamok_of (N := ["_law_error"]) (ps := ["_law_error"]) (NdefX.nscope_by (by decide +kernel)) (fun _ _ _ us hl => match us, hl with | [_], _ => rfl) (fun Ar outer s H E f c hr => (pe_callB call_mIkx (by rfl) T.n_isinstance (by decide +kernel) (pa_cons (pvx 0) (pa_cons (pe_gr T.g_BadLoad) pa_nil))))
theorem GL_9 (T : Txt K mg A) : LamOk PROG w K mg base (L2.CX PROG w) 1 A.lf_9 (sl_9 K A) := by
  rw [T.lf_9]
  exact lamok_of (N := ["_law_mistake"]) (ps := ["_law_mistake"]) (NdefX.nscope_by (by decide +kernel)) (fun _ _ _ us hl => match us, hl with | [_], _ => rfl) (fun Ar outer s H E f c hr => (pe_callB call_mIkx (by rfl) T.n_isinstance (by decide +kernel) (pa_cons (pvx 0) (pa_cons (pe_gr T.g_BadNumber) pa_nil))))
theorem GL_10 (T : Txt K mg A) : LamOk PROG w K mg base (L2.CX PROG w) 1 A.lf_10 (sl_10 K A) := by
  rw [T.lf_10]
  exact lamok_of (N := ["_law_error"]) (ps := ["_law_error"]) (NdefX.nscope_by (by decide +kernel)) (fun _ _ _ us hl => match us, hl with | [_], _ => rfl) (fun Ar outer s H E f c hr => (pe_callB call_mIkx (by rfl) T.n_isinstance (by decide +kernel) (pa_cons (pvx 0) (pa_cons (pe_gr T.g_BadOrder) pa_nil))))
theorem GL_11 (T : Txt K mg A) : LamOk PROG w K mg base (L2.CX PROG w) 1 A.lf_11 (sl_11 K A) := by
  rw [T.lf_11]
  exact lamok_of (N := ["_law_mistake"]) (ps := ["_law_mistake"]) (NdefX.nscope_by (by decide +kernel)) (fun _ _ _ us hl => match us, hl with | [_], _ => rfl) (fun Ar outer s H E f c hr => (pe_callB call_mIkx (by rfl) T.n_isinstance (by decide +kernel) (pa_cons (pvx 0) (pa_cons (pe_gr T.g_BadLink) pa_nil))))
theorem GL_12 (T : Txt K mg A) : LamOk PROG w K mg base (L2.CX PROG w) 1 A.lf_12 (sl_12 K A) := by
  rw [T.lf_12]
  exact lamok_of (N := ["_law_error"]) (ps := ["_law_error"]) (NdefX.nscope_by (by decide +kernel)) (fun _ _ _ us hl => match us, hl with | [_], _ => rfl) (fun Ar outer s H E f c hr => (pe_callB call_mIkx (by rfl) T.n_isinstance (by decide +kernel) (pa_cons (pvx 0) (pa_cons (pe_gr T.g_NoFlow) pa_nil))))
theorem GL_13 (T : Txt K mg A) : LamOk PROG w K mg base (L2.CX PROG w) 1 A.lf_13 (sl_13 K A) := by
  rw [T.lf_13]
  exact lamok_of (N := ["_law_mistake"]) (ps := ["_law_mistake"]) (NdefX.nscope_by (by decide +kernel)) (fun _ _ _ us hl => match us, hl with | [_], _ => rfl) (fun Ar outer s H E f c hr => (pe_callB call_mIkx (by rfl) T.n_isinstance (by decide +kernel) (pa_cons (pvx 0) (pa_cons (pe_gr T.g_NoShelf) pa_nil))))
theorem GL_14 (T : Txt K mg A) : LamOk PROG w K mg base (L2.CX PROG w) 1 A.lf_14 (sl_14 K A) := by
  rw [T.lf_14]
  exact lamok_of (N := ["_law_error"]) (ps := ["_law_error"]) (NdefX.nscope_by (by decide +kernel)) (fun _ _ _ us hl => match us, hl with | [_], _ => rfl) (fun Ar outer s H E f c hr => (pe_callB call_mIkx (by rfl) T.n_isinstance (by decide +kernel) (pa_cons (pvx 0) (pa_cons (pe_gr T.g_NoStep) pa_nil))))
theorem GL_15 (T : Txt K mg A) : LamOk PROG w K mg base (L2.CX PROG w) 1 A.lf_15 (sl_15 K A) := by
  rw [T.lf_15]
  exact lamok_of (N := ["_law_mistake"]) (ps := ["_law_mistake"]) (NdefX.nscope_by (by decide +kernel)) (fun _ _ _ us hl => match us, hl with | [_], _ => rfl) (fun Ar outer s H E f c hr => (pe_callB call_mIkx (by rfl) T.n_isinstance (by decide +kernel) (pa_cons (pvx 0) (pa_cons (pe_gr T.g_NoStep) pa_nil))))
theorem GL_16 (T : Txt K mg A) : LamOk PROG w K mg base (L2.CX PROG w) 1 A.lf_16 (sl_16 K A) := by
  rw [T.lf_16]
  exact lamok_of (N := ["_law_error"]) (ps := ["_law_error"]) (NdefX.nscope_by (by decide +kernel)) (fun _ _ _ us hl => match us, hl with | [_], _ => rfl) (fun Ar outer s H E f c hr => (pe_callB call_mIkx (by rfl) T.n_isinstance (by decide +kernel) (pa_cons (pvx 0) (pa_cons (pe_gr T.g_NotMet) pa_nil))))
theorem GL_17 (T : Txt K mg A) : LamOk PROG w K mg base (L2.CX PROG w) 1 A.lf_17 (sl_17 K A) := by
  rw [T.lf_17]
  exact lamok_of (N := ["_law_mistake"]) (ps := ["_law_mistake"]) (NdefX.nscope_by (by decide +kernel)) (fun _ _ _ us hl => match us, hl with | [_], _ => rfl) (fun Ar outer s H E f c hr => (pe_callB call_mIkx (by rfl) T.n_isinstance (by decide +kernel) (pa_cons (pvx 0) (pa_cons (pe_gr T.g_NoPost) pa_nil))))
theorem GL_18 (T : Txt K mg A) : LamOk PROG w K mg base (L2.CX PROG w) 1 A.lf_18 (sl_18 K A) := by
  rw [T.lf_18]
  exact lamok_of (N := ["_law_error"]) (ps := ["_law_error"]) (NdefX.nscope_by (by decide +kernel)) (fun _ _ _ us hl => match us, hl with | [_], _ => rfl) (fun Ar outer s H E f c hr => (pe_callB call_mIkx (by rfl) T.n_isinstance (by decide +kernel) (pa_cons (pvx 0) (pa_cons (pe_gr T.g_NoRoom) pa_nil))))
theorem GL_19 (T : Txt K mg A) : LamOk PROG w K mg base (L2.CX PROG w) 1 A.lf_19 (sl_19 K A) := by
  rw [T.lf_19]
  exact lamok_of (N := ["_law_mistake"]) (ps := ["_law_mistake"]) (NdefX.nscope_by (by decide +kernel)) (fun _ _ _ us hl => match us, hl with | [_], _ => rfl) (fun Ar outer s H E f c hr => (pe_callB call_mIkx (by rfl) T.n_isinstance (by decide +kernel) (pa_cons (pvx 0) (pa_cons (pe_gr T.g_NoParcel) pa_nil))))
theorem GL_20 (T : Txt K mg A) : LamOk PROG w K mg base (L2.CX PROG w) 1 A.lf_20 (sl_20 K A) := by
  rw [T.lf_20]
  exact lamok_of (N := ["_law_error"]) (ps := ["_law_error"]) (NdefX.nscope_by (by decide +kernel)) (fun _ _ _ us hl => match us, hl with | [_], _ => rfl) (fun Ar outer s H E f c hr => (pe_callB call_mIkx (by rfl) T.n_isinstance (by decide +kernel) (pa_cons (pvx 0) (pa_cons (pe_gr T.g_NoWant) pa_nil))))
theorem GL_21 (T : Txt K mg A) : LamOk PROG w K mg base (L2.CX PROG w) 1 A.lf_21 (sl_21 K A) := by
  rw [T.lf_21]
  exact lamok_of (N := ["_law_mistake"]) (ps := ["_law_mistake"]) (NdefX.nscope_by (by decide +kernel)) (fun _ _ _ us hl => match us, hl with | [_], _ => rfl) (fun Ar outer s H E f c hr => (pe_callB call_mIkx (by rfl) T.n_isinstance (by decide +kernel) (pa_cons (pvx 0) (pa_cons (pe_gr T.g_Endless) pa_nil))))
theorem GL_22 (T : Txt K mg A) : LamOk PROG w K mg base (L2.CX PROG w) 1 A.lf_22 (sl_22 K A) := by
  rw [T.lf_22]
  exact lamok_of (N := ["_law_error"]) (ps := ["_law_error"]) (NdefX.nscope_by (by decide +kernel)) (fun _ _ _ us hl => match us, hl with | [_], _ => rfl) (fun Ar outer s H E f c hr => (pe_callB call_mIkx (by rfl) T.n_isinstance (by decide +kernel) (pa_cons (pvx 0) (pa_cons (pe_gr T.g_Unsafe) pa_nil))))
theorem GL_23 (T : Txt K mg A) : LamOk PROG w K mg base (L2.CX PROG w) 1 A.lf_23 (sl_23 K A) := by
  rw [T.lf_23]
  exact lamok_of (N := ["_law_mistake"]) (ps := ["_law_mistake"]) (NdefX.nscope_by (by decide +kernel)) (fun _ _ _ us hl => match us, hl with | [_], _ => rfl) (fun Ar outer s H E f c hr => (pe_callB call_mIkx (by rfl) T.n_isinstance (by decide +kernel) (pa_cons (pvx 0) (pa_cons (pe_gr T.g_Taken) pa_nil))))
theorem GL_24 (T : Txt K mg A) : LamOk PROG w K mg base (L2.CX PROG w) 1 A.lf_24 (sl_24 K A) := by
  rw [T.lf_24]
  exact lamok_of (N := ["_law_error"]) (ps := ["_law_error"]) (NdefX.nscope_by (by decide +kernel)) (fun _ _ _ us hl => match us, hl with | [_], _ => rfl) (fun Ar outer s H E f c hr => (pe_callB call_mIkx (by rfl) T.n_isinstance (by decide +kernel) (pa_cons (pvx 0) (pa_cons (pe_gr T.g_Nothing) pa_nil))))
theorem GL_25 (T : Txt K mg A) : LamOk PROG w K mg base (L2.CX PROG w) 1 A.lf_25 (sl_25 K A) := by
  rw [T.lf_25]
  exact lamok_of (N := ["_law_mistake"]) (ps := ["_law_mistake"]) (NdefX.nscope_by (by decide +kernel)) (fun _ _ _ us hl => match us, hl with | [_], _ => rfl) (fun Ar outer s H E f c hr => (pe_callB call_mIkx (by rfl) T.n_isinstance (by decide +kernel) (pa_cons (pvx 0) (pa_cons (pe_gr T.g_TooMany) pa_nil))))
theorem GL_26 (T : Txt K mg A) : LamOk PROG w K mg base (L2.CX PROG w) 1 A.lf_26 (sl_26 K A) := by
  rw [T.lf_26]
  exact lamok_of (N := ["_law_error"]) (ps := ["_law_error"]) (NdefX.nscope_by (by decide +kernel)) (fun _ _ _ us hl => match us, hl with | [_], _ => rfl) (fun Ar outer s H E f c hr => (pe_callB call_mIkx (by rfl) T.n_isinstance (by decide +kernel) (pa_cons (pvx 0) (pa_cons (pe_gr T.g_TooMany) pa_nil))))
theorem GL_27 (T : Txt K mg A) : LamOk PROG w K mg base (L2.CX PROG w) 1 A.lf_27 (sl_27 K A) := by
  rw [T.lf_27]
  exact lamok_of (N := ["_law_mistake"]) (ps := ["_law_mistake"]) (NdefX.nscope_by (by decide +kernel)) (fun _ _ _ us hl => match us, hl with | [_], _ => rfl) (fun Ar outer s H E f c hr => (pe_callB call_mIkx (by rfl) T.n_isinstance (by decide +kernel) (pa_cons (pvx 0) (pa_cons (pe_gr T.g_BadText) pa_nil))))
theorem GL_28 (T : Txt K mg A) : LamOk PROG w K mg base (L2.CX PROG w) 1 A.lf_28 (sl_28 K A) := by
  rw [T.lf_28]
  exact lamok_of (N := ["_law_error"]) (ps := ["_law_error"]) (NdefX.nscope_by (by decide +kernel)) (fun _ _ _ us hl => match us, hl with | [_], _ => rfl) (fun Ar outer s H E f c hr => (pe_callB call_mIkx (by rfl) T.n_isinstance (by decide +kernel) (pa_cons (pvx 0) (pa_cons (pe_gr T.g_BadText) pa_nil))))
theorem GL_29 (T : Txt K mg A) : LamOk PROG w K mg base (L2.CX PROG w) 1 A.lf_29 (sl_29 K A) := by
  rw [T.lf_29]
  exact lamok_of (N := ["_law_mistake"]) (ps := ["_law_mistake"]) (NdefX.nscope_by (by decide +kernel)) (fun _ _ _ us hl => match us, hl with | [_], _ => rfl) (fun Ar outer s H E f c hr => (pe_callB call_mIkx (by rfl) T.n_isinstance (by decide +kernel) (pa_cons (pvx 0) (pa_cons (pe_gr T.g_BadCommand) pa_nil))))
theorem GL_30 (T : Txt K mg A) : LamOk PROG w K mg base (L2.CX PROG w) 1 A.lf_30 (sl_30 K A) := by
  rw [T.lf_30]
  exact lamok_of (N := ["_law_error"]) (ps := ["_law_error"]) (NdefX.nscope_by (by decide +kernel)) (fun _ _ _ us hl => match us, hl with | [_], _ => rfl) (fun Ar outer s H E f c hr => (pe_lst (pa_cons (pe_xo (pvx 0) rfl) pa_nil)))
theorem GL_31 (T : Txt K mg A) : LamOk PROG w K mg base (L2.CX PROG w) 1 A.lf_31 (sl_31 K A) := by
  rw [T.lf_31]
  exact lamok_of (N := ["_law_error"]) (ps := ["_law_error"]) (NdefX.nscope_by (by decide +kernel)) (fun _ _ _ us hl => match us, hl with | [_], _ => rfl) (fun Ar outer s H E f c hr => (pe_lst (pa_cons (pe_xo (pvx 0) rfl) pa_nil)))
theorem GL_32 (T : Txt K mg A) : LamOk PROG w K mg base (L2.CX PROG w) 1 A.lf_32 (sl_32 K A) := by
  rw [T.lf_32]
  exact lamok_of (N := ["_law_error"]) (ps := ["_law_error"]) (NdefX.nscope_by (by decide +kernel)) (fun _ _ _ us hl => match us, hl with | [_], _ => rfl) (fun Ar outer s H E f c hr => (pe_lst (pa_cons (pe_xo (pvx 0) rfl) pa_nil)))
theorem GL_33 (T : Txt K mg A) : LamOk PROG w K mg base (L2.CX PROG w) 1 A.lf_33 (sl_33 K A) := by
  rw [T.lf_33]
  exact lamok_of (N := ["_law_error"]) (ps := ["_law_error"]) (NdefX.nscope_by (by decide +kernel)) (fun _ _ _ us hl => match us, hl with | [_], _ => rfl) (fun Ar outer s H E f c hr => (pe_lst (pa_cons (pe_xo (pvx 0) rfl) pa_nil)))
theorem GL_34 (T : Txt K mg A) : LamOk PROG w K mg base (L2.CX PROG w) 1 A.lf_34 (sl_34 K A) := by
  rw [T.lf_34]
  exact lamok_of (N := ["_law_error"]) (ps := ["_law_error"]) (NdefX.nscope_by (by decide +kernel)) (fun _ _ _ us hl => match us, hl with | [_], _ => rfl) (fun Ar outer s H E f c hr => (pe_lst (pa_cons (pe_xo (pvx 0) rfl) pa_nil)))
theorem GL_35 (T : Txt K mg A) : LamOk PROG w K mg base (L2.CX PROG w) 1 A.lf_35 (sl_35 K A) := by
  rw [T.lf_35]
  exact lamok_of (N := ["_law_error"]) (ps := ["_law_error"]) (NdefX.nscope_by (by decide +kernel)) (fun _ _ _ us hl => match us, hl with | [_], _ => rfl) (fun Ar outer s H E f c hr => (pe_lst (pa_cons (pe_xo (pvx 0) rfl) pa_nil)))
theorem GL_36 (T : Txt K mg A) : LamOk PROG w K mg base (L2.CX PROG w) 1 A.lf_36 (sl_36 K A) := by
  rw [T.lf_36]
  exact lamok_of (N := ["_law_error"]) (ps := ["_law_error"]) (NdefX.nscope_by (by decide +kernel)) (fun _ _ _ us hl => match us, hl with | [_], _ => rfl) (fun Ar outer s H E f c hr => (pe_lst (pa_cons (pe_xo (pvx 0) rfl) pa_nil)))
theorem GL_37 (T : Txt K mg A) : LamOk PROG w K mg base (L2.CX PROG w) 1 A.lf_37 (sl_37 K A) := by
  rw [T.lf_37]
  exact lamok_of (N := ["_law_error"]) (ps := ["_law_error"]) (NdefX.nscope_by (by decide +kernel)) (fun _ _ _ us hl => match us, hl with | [_], _ => rfl) (fun Ar outer s H E f c hr => (pe_lst (pa_cons (pe_xo (pvx 0) rfl) pa_nil)))
theorem GL_38 (T : Txt K mg A) : LamOk PROG w K mg base (L2.CX PROG w) 1 A.lf_38 (sl_38 K A) := by
  rw [T.lf_38]
  exact lamok_of (N := ["_law_error"]) (ps := ["_law_error"]) (NdefX.nscope_by (by decide +kernel)) (fun _ _ _ us hl => match us, hl with | [_], _ => rfl) (fun Ar outer s H E f c hr => (pe_lst (pa_cons (pe_xo (pvx 0) rfl) pa_nil)))
theorem GL_39 (T : Txt K mg A) : LamOk PROG w K mg base (L2.CX PROG w) 1 A.lf_39 (sl_39 K A) := by
  rw [T.lf_39]
  exact lamok_of (N := ["_law_error"]) (ps := ["_law_error"]) (NdefX.nscope_by (by decide +kernel)) (fun _ _ _ us hl => match us, hl with | [_], _ => rfl) (fun Ar outer s H E f c hr => (pe_lst (pa_cons (pe_xo (pvx 0) rfl) pa_nil)))
theorem GL_40 (T : Txt K mg A) : LamOk PROG w K mg base (L2.CX PROG w) 1 A.lf_40 (sl_40 K A) := by
  rw [T.lf_40]
  exact lamok_of (N := ["_law_error"]) (ps := ["_law_error"]) (NdefX.nscope_by (by decide +kernel)) (fun _ _ _ us hl => match us, hl with | [_], _ => rfl) (fun Ar outer s H E f c hr => (pe_lst (pa_cons (pe_xo (pvx 0) rfl) pa_nil)))
theorem GL_41 (T : Txt K mg A) : LamOk PROG w K mg base (L2.CX PROG w) 1 A.lf_41 (sl_41 K A) := by
  rw [T.lf_41]
  exact lamok_of (N := ["_law_error"]) (ps := ["_law_error"]) (NdefX.nscope_by (by decide +kernel)) (fun _ _ _ us hl => match us, hl with | [_], _ => rfl) (fun Ar outer s H E f c hr => (pe_lst (pa_cons (pe_xo (pvx 0) rfl) pa_nil)))
theorem GL_42 (T : Txt K mg A) : LamOk PROG w K mg base (L2.CX PROG w) 1 A.lf_42 (sl_42 K A) := by
  rw [T.lf_42]
  exact lamok_of (N := ["_law_error"]) (ps := ["_law_error"]) (NdefX.nscope_by (by decide +kernel)) (fun _ _ _ us hl => match us, hl with | [_], _ => rfl) (fun Ar outer s H E f c hr => (pe_lst (pa_cons (pe_xo (pvx 0) rfl) pa_nil)))
theorem GL_43 (T : Txt K mg A) : LamOk PROG w K mg base (L2.CX PROG w) 1 A.lf_43 (sl_43 K A) := by
  rw [T.lf_43]
  exact lamok_of (N := ["_law_error"]) (ps := ["_law_error"]) (NdefX.nscope_by (by decide +kernel)) (fun _ _ _ us hl => match us, hl with | [_], _ => rfl) (fun Ar outer s H E f c hr => (pe_lst (pa_cons (pe_xo (pvx 0) rfl) pa_nil)))
theorem GL_44 (T : Txt K mg A) : LamOk PROG w K mg base (L2.CX PROG w) 1 A.lf_44 (sl_44 K A) := by
  rw [T.lf_44]
  exact lamok_of (N := ["_law_error"]) (ps := ["_law_error"]) (NdefX.nscope_by (by decide +kernel)) (fun _ _ _ us hl => match us, hl with | [_], _ => rfl) (fun Ar outer s H E f c hr => (pe_lst (pa_cons (pe_xo (pvx 0) rfl) (pa_cons (pe_xo (pvx 0) rfl) pa_nil))))
theorem GL_45 (T : Txt K mg A) : LamOk PROG w K mg base (L2.CX PROG w) 1 A.lf_45 (sl_45 K A) := by
  rw [T.lf_45]
  exact lamok_of (N := ["_law_error"]) (ps := ["_law_error"]) (NdefX.nscope_by (by decide +kernel)) (fun _ _ _ us hl => match us, hl with | [_], _ => rfl) (fun Ar outer s H E f c hr => (pe_lst (pa_cons (pe_xo (pvx 0) rfl) (pa_cons (pe_xo (pvx 0) rfl) pa_nil))))
theorem GL_46 (T : Txt K mg A) : LamOk PROG w K mg base (L2.CX PROG w) 1 A.lf_46 (sl_46 K A) := by
  rw [T.lf_46]
  exact lamok_of (N := ["_law_error"]) (ps := ["_law_error"]) (NdefX.nscope_by (by decide +kernel)) (fun _ _ _ us hl => match us, hl with | [_], _ => rfl) (fun Ar outer s H E f c hr => (pe_lst (pa_cons (pe_xo (pvx 0) rfl) (pa_cons (pe_xo (pvx 0) rfl) pa_nil))))
theorem GL_47 (T : Txt K mg A) : LamOk PROG w K mg base (L2.CX PROG w) 1 A.lf_47 (sl_47 K A) := by
  rw [T.lf_47]
  exact lamok_of (N := ["_law_error"]) (ps := ["_law_error"]) (NdefX.nscope_by (by decide +kernel)) (fun _ _ _ us hl => match us, hl with | [_], _ => rfl) (fun Ar outer s H E f c hr => (pe_lst (pa_cons (pe_xo (pvx 0) rfl) pa_nil)))
theorem GL_48 (T : Txt K mg A) : LamOk PROG w K mg base (L2.CX PROG w) 1 A.lf_48 (sl_48 K A) := by
  rw [T.lf_48]
  exact lamok_of (N := ["_law_error"]) (ps := ["_law_error"]) (NdefX.nscope_by (by decide +kernel)) (fun _ _ _ us hl => match us, hl with | [_], _ => rfl) (fun Ar outer s H E f c hr => (pe_lst (pa_cons (pe_xo (pvx 0) rfl) pa_nil)))
theorem GL_49 (T : Txt K mg A) : LamOk PROG w K mg base (L2.CX PROG w) 1 A.lf_49 (sl_49 K A) := by
  rw [T.lf_49]
  exact lamok_of (N := ["_law_error"]) (ps := ["_law_error"]) (NdefX.nscope_by (by decide +kernel)) (fun _ _ _ us hl => match us, hl with | [_], _ => rfl) (fun Ar outer s H E f c hr => (pe_lst (pa_cons (pe_xo (pvx 0) rfl) pa_nil)))
theorem GL_50 (T : Txt K mg A) : LamOk PROG w K mg base (L2.CX PROG w) 1 A.lf_50 (sl_50 K A) := by
  rw [T.lf_50]
  exact lamok_of (N := ["_law_error"]) (ps := ["_law_error"]) (NdefX.nscope_by (by decide +kernel)) (fun _ _ _ us hl => match us, hl with | [_], _ => rfl) (fun Ar outer s H E f c hr => (pe_lst (pa_cons (pe_xo (pvx 0) rfl) pa_nil)))
theorem GL_51 (T : Txt K mg A) : LamOk PROG w K mg base (L2.CX PROG w) 1 A.lf_51 (sl_51 K A) := by
  rw [T.lf_51]
  exact lamok_of (N := ["_law_error"]) (ps := ["_law_error"]) (NdefX.nscope_by (by decide +kernel)) (fun _ _ _ us hl => match us, hl with | [_], _ => rfl) (fun Ar outer s H E f c hr => (pe_lst (pa_cons (pe_xo (pvx 0) rfl) pa_nil)))
theorem GL_52 (T : Txt K mg A) : LamOk PROG w K mg base (L2.CX PROG w) 1 A.lf_52 (sl_52 K A) := by
  rw [T.lf_52]
  exact lamok_of (N := ["_law_error"]) (ps := ["_law_error"]) (NdefX.nscope_by (by decide +kernel)) (fun _ _ _ us hl => match us, hl with | [_], _ => rfl) (fun Ar outer s H E f c hr => (pe_lst (pa_cons (pe_xo (pvx 0) rfl) pa_nil)))
theorem GL_53 (T : Txt K mg A) : LamOk PROG w K mg base (L2.CX PROG w) 1 A.lf_53 (sl_53 K A) := by
  rw [T.lf_53]
  exact lamok_of (N := ["_law_error"]) (ps := ["_law_error"]) (NdefX.nscope_by (by decide +kernel)) (fun _ _ _ us hl => match us, hl with | [_], _ => rfl) (fun Ar outer s H E f c hr => (pe_lst (pa_cons (pe_xo (pvx 0) rfl) pa_nil)))
theorem GL_54 (T : Txt K mg A) : LamOk PROG w K mg base (L2.CX PROG w) 1 A.lf_54 (sl_54 K A) := by
  rw [T.lf_54]
  exact lamok_of (N := ["_law_error"]) (ps := ["_law_error"]) (NdefX.nscope_by (by decide +kernel)) (fun _ _ _ us hl => match us, hl with | [_], _ => rfl) (fun Ar outer s H E f c hr => (pe_lst pa_nil))
theorem GL_55 (T : Txt K mg A) : LamOk PROG w K mg base (L2.CX PROG w) 1 A.lf_55 (sl_55 K A) := by
  rw [T.lf_55]
  exact lamok_of (N := ["_law_error"]) (ps := ["_law_error"]) (NdefX.nscope_by (by decide +kernel)) (fun _ _ _ us hl => match us, hl with | [_], _ => rfl) (fun Ar outer s H E f c hr => (pe_lst (pa_cons (pe_xo (pvx 0) rfl) (pa_cons (pe_xo (pvx 0) rfl) pa_nil))))
theorem GL_56 (T : Txt K mg A) : LamOk PROG w K mg base (L2.CX PROG w) 1 A.lf_56 (sl_56 K A) := by
  rw [T.lf_56]
  exact lamok_of (N := ["_law_error"]) (ps := ["_law_error"]) (NdefX.nscope_by (by decide +kernel)) (fun _ _ _ us hl => match us, hl with | [_], _ => rfl) (fun Ar outer s H E f c hr => (pe_lst (pa_cons (pe_xo (pvx 0) rfl) (pa_cons (pe_xo (pvx 0) rfl) pa_nil))))
theorem GL_57 (T : Txt K mg A) : LamOk PROG w K mg base (L2.CX PROG w) 1 A.lf_57 (sl_57 K A) := by
  rw [T.lf_57]
  exact lamok_of (N := ["_law_error"]) (ps := ["_law_error"]) (NdefX.nscope_by (by decide +kernel)) (fun _ _ _ us hl => match us, hl with | [_], _ => rfl) (fun Ar outer s H E f c hr => (pe_lst (pa_cons (pe_xo (pvx 0) rfl) (pa_cons (pe_xo (pvx 0) rfl) pa_nil))))
theorem GL_58 (T : Txt K mg A) : LamOk PROG w K mg base (L2.CX PROG w) 1 A.lf_58 (sl_58 K A) := by
  rw [T.lf_58]
  exact lamok_of (N := ["_law_error"]) (ps := ["_law_error"]) (NdefX.nscope_by (by decide +kernel)) (fun _ _ _ us hl => match us, hl with | [_], _ => rfl) (fun Ar outer s H E f c hr => (pe_lst (pa_cons (pe_xo (pvx 0) rfl) (pa_cons (pe_xo (pvx 0) rfl) pa_nil))))
theorem GL_59 (T : Txt K mg A) : LamOk PROG w K mg base (L2.CX PROG w) 1 A.lf_59 (sl_59 K A) := by
  rw [T.lf_59]
  exact lamok_of (N := ["_law_error"]) (ps := ["_law_error"]) (NdefX.nscope_by (by decide +kernel)) (fun _ _ _ us hl => match us, hl with | [_], _ => rfl) (fun Ar outer s H E f c hr => (pe_lst (pa_cons (pe_xo (pvx 0) rfl) pa_nil)))
theorem lams_ok (T : Txt K mg A) : ∀ p ∈ lt K A, LamOk PROG w K mg base (L2.CX PROG w) 1 p.1 p.2 := List.forall_mem_cons.mpr ⟨GL_0 T, List.forall_mem_cons.mpr ⟨GL_1 T, List.forall_mem_cons.mpr ⟨GL_2 T, List.forall_mem_cons.mpr ⟨GL_3 T, List.forall_mem_cons.mpr ⟨GL_4 T, List.forall_mem_cons.mpr ⟨GL_5 T, List.forall_mem_cons.mpr ⟨GL_6 T, List.forall_mem_cons.mpr ⟨GL_7 T, List.forall_mem_cons.mpr ⟨GL_8 T, List.forall_mem_cons.mpr ⟨GL_9 T, List.forall_mem_cons.mpr ⟨GL_10 T, List.forall_mem_cons.mpr ⟨GL_11 T, List.forall_mem_cons.mpr ⟨GL_12 T, List.forall_mem_cons.mpr ⟨GL_13 T, List.forall_mem_cons.mpr ⟨GL_14 T, List.forall_mem_cons.mpr ⟨GL_15 T, List.forall_mem_cons.mpr ⟨GL_16 T, List.forall_mem_cons.mpr ⟨GL_17 T, List.forall_mem_cons.mpr ⟨GL_18 T, List.forall_mem_cons.mpr ⟨GL_19 T, List.forall_mem_cons.mpr ⟨GL_20 T, List.forall_mem_cons.mpr ⟨GL_21 T, List.forall_mem_cons.mpr ⟨GL_22 T, List.forall_mem_cons.mpr ⟨GL_23 T, List.forall_mem_cons.mpr ⟨GL_24 T, List.forall_mem_cons.mpr ⟨GL_25 T, List.forall_mem_cons.mpr ⟨GL_26 T, List.forall_mem_cons.mpr ⟨GL_27 T, List.forall_mem_cons.mpr ⟨GL_28 T, List.forall_mem_cons.mpr ⟨GL_29 T, List.forall_mem_cons.mpr ⟨GL_30 T, List.forall_mem_cons.mpr ⟨GL_31 T, List.forall_mem_cons.mpr ⟨GL_32 T, List.forall_mem_cons.mpr ⟨GL_33 T, List.forall_mem_cons.mpr ⟨GL_34 T, List.forall_mem_cons.mpr ⟨GL_35 T, List.forall_mem_cons.mpr ⟨GL_36 T, List.forall_mem_cons.mpr ⟨GL_37 T, List.forall_mem_cons.mpr ⟨GL_38 T, List.forall_mem_cons.mpr ⟨GL_39 T, List.forall_mem_cons.mpr ⟨GL_40 T, List.forall_mem_cons.mpr ⟨GL_41 T, List.forall_mem_cons.mpr ⟨GL_42 T, List.forall_mem_cons.mpr ⟨GL_43 T, List.forall_mem_cons.mpr ⟨GL_44 T, List.forall_mem_cons.mpr ⟨GL_45 T, List.forall_mem_cons.mpr ⟨GL_46 T, List.forall_mem_cons.mpr ⟨GL_47 T, List.forall_mem_cons.mpr ⟨GL_48 T, List.forall_mem_cons.mpr ⟨GL_49 T, List.forall_mem_cons.mpr ⟨GL_50 T, List.forall_mem_cons.mpr ⟨GL_51 T, List.forall_mem_cons.mpr ⟨GL_52 T, List.forall_mem_cons.mpr ⟨GL_53 T, List.forall_mem_cons.mpr ⟨GL_54 T, List.forall_mem_cons.mpr ⟨GL_55 T, List.forall_mem_cons.mpr ⟨GL_56 T, List.forall_mem_cons.mpr ⟨GL_57 T, List.forall_mem_cons.mpr ⟨GL_58 T, List.forall_mem_cons.mpr ⟨GL_59 T, (fun p hp => nomatch hp)⟩⟩⟩⟩⟩⟩⟩⟩⟩⟩⟩⟩⟩⟩⟩⟩⟩⟩⟩⟩⟩⟩⟩⟩⟩⟩⟩⟩⟩⟩⟩⟩⟩⟩⟩⟩⟩⟩⟩⟩⟩⟩⟩⟩⟩⟩⟩⟩⟩⟩⟩⟩⟩⟩⟩⟩⟩⟩⟩⟩
theorem sc_L_kinds : FnScope N_L_kinds [] (defScope st_L_kinds) := ⟨rfl, rfl, rfl, by decide +kernel, rfl, by decide +kernel, by decide +kernel⟩
theorem G_L_kinds (T : Txt K mg A) (TB_L_kinds : LamX.TabB base mg A.cd_L_kinds A.tb_L_kinds) (TI_L_kinds : (A.tb_L_kinds, (("_law_kinds" ++ ".<locals>.") ++ "<lambda>" : Str)) ∈ A.tabs) (TU_L_kinds : ∀ p ∈ A.tabs, p.1 = A.tb_L_kinds → p.2 = (("_law_kinds" ++ ".<locals>.") ++ "<lambda>" : Str)) : FnR PROG w K mg base (L2.CX PROG w) 4 A.f_L_kinds (sp_L_kinds K A) := by
  obtain ⟨fd, F, hcd⟩ := T.FC_L_kinds
  refine fnr_ofC F hcd sc_L_kinds (F.binds (ps := []) fun _ _ _ _ _ _ us hl => match us, hl with | [], _ => rfl) (fun Ar outer s H E hr => ?_)
  exact (pss_one (ps_ret (pe_lst (pa_cons (pe_fnT T.lf_0 TB_L_kinds rfl TI_L_kinds TU_L_kinds rfl (by decide +kernel) rfl) (pa_cons (pe_fnT T.lf_1 TB_L_kinds rfl TI_L_kinds TU_L_kinds rfl (by decide +kernel) rfl) (pa_cons (pe_fnT T.lf_2 TB_L_kinds rfl TI_L_kinds TU_L_kinds rfl (by decide +kernel) rfl) (pa_cons (pe_fnT T.lf_3 TB_L_kinds rfl TI_L_kinds TU_L_kinds rfl (by decide +kernel) rfl) (pa_cons (pe_fnT T.lf_4 TB_L_kinds rfl TI_L_kinds TU_L_kinds rfl (by decide +kernel) rfl) (pa_cons (pe_fnT T.lf_5 TB_L_kinds rfl TI_L_kinds TU_L_kinds rfl (by decide +kernel) rfl) (pa_cons (pe_fnT T.lf_6 TB_L_kinds rfl TI_L_kinds TU_L_kinds rfl (by decide +kernel) rfl) (pa_cons (pe_fnT T.lf_7 TB_L_kinds rfl TI_L_kinds TU_L_kinds rfl (by decide +kernel) rfl) (pa_cons (pe_fnT T.lf_8 TB_L_kinds rfl TI_L_kinds TU_L_kinds rfl (by decide +kernel) rfl) (pa_cons (pe_fnT T.lf_9 TB_L_kinds rfl TI_L_kinds TU_L_kinds rfl (by decide +kernel) rfl) (pa_cons (pe_fnT T.lf_10 TB_L_kinds rfl TI_L_kinds TU_L_kinds rfl (by decide +kernel) rfl) (pa_cons (pe_fnT T.lf_11 TB_L_kinds rfl TI_L_kinds TU_L_kinds rfl (by decide +kernel) rfl) (pa_cons (pe_fnT T.lf_12 TB_L_kinds rfl TI_L_kinds TU_L_kinds rfl (by decide +kernel) rfl) (pa_cons (pe_fnT T.lf_13 TB_L_kinds rfl TI_L_kinds TU_L_kinds rfl (by decide +kernel) rfl) (pa_cons (pe_fnT T.lf_14 TB_L_kinds rfl TI_L_kinds TU_L_kinds rfl (by decide +kernel) rfl) (pa_cons (pe_fnT T.lf_15 TB_L_kinds rfl TI_L_kinds TU_L_kinds rfl (by decide +kernel) rfl) (pa_cons (pe_fnT T.lf_16 TB_L_kinds rfl TI_L_kinds TU_L_kinds rfl (by decide +kernel) rfl) (pa_cons (pe_fnT T.lf_17 TB_L_kinds rfl TI_L_kinds TU_L_kinds rfl (by decide +kernel) rfl) (pa_cons (pe_fnT T.lf_18 TB_L_kinds rfl TI_L_kinds TU_L_kinds rfl (by decide +kernel) rfl) (pa_cons (pe_fnT T.lf_19 TB_L_kinds rfl TI_L_kinds TU_L_kinds rfl (by decide +kernel) rfl) (pa_cons (pe_fnT T.lf_20 TB_L_kinds rfl TI_L_kinds TU_L_kinds rfl (by decide +kernel) rfl) (pa_cons (pe_fnT T.lf_21 TB_L_kinds rfl TI_L_kinds TU_L_kinds rfl (by decide +kernel) rfl) (pa_cons (pe_fnT T.lf_22 TB_L_kinds rfl TI_L_kinds TU_L_kinds rfl (by decide +kernel) rfl) (pa_cons (pe_fnT T.lf_23 TB_L_kinds rfl TI_L_kinds TU_L_kinds rfl (by decide +kernel) rfl) (pa_cons (pe_fnT T.lf_24 TB_L_kinds rfl TI_L_kinds TU_L_kinds rfl (by decide +kernel) rfl) (pa_cons (pe_fnT T.lf_25 TB_L_kinds rfl TI_L_kinds TU_L_kinds rfl (by decide +kernel) rfl) (pa_cons (pe_fnT T.lf_26 TB_L_kinds rfl TI_L_kinds TU_L_kinds rfl (by decide +kernel) rfl) (pa_cons (pe_fnT T.lf_27 TB_L_kinds rfl TI_L_kinds TU_L_kinds rfl (by decide +kernel) rfl) (pa_cons (pe_fnT T.lf_28 TB_L_kinds rfl TI_L_kinds TU_L_kinds rfl (by decide +kernel) rfl) (pa_cons (pe_fnT T.lf_29 TB_L_kinds rfl TI_L_kinds TU_L_kinds rfl (by decide +kernel) rfl) pa_nil)))))))))))))))))))))))))))))))))
theorem sc_L_made : FnScope N_L_made ["_law_one", "_law_other"] (defScope st_L_made) := ⟨rfl, rfl, rfl, by decide +kernel, rfl, by decide +kernel, by decide +kernel⟩
theorem G_L_made (T : Txt K mg A) (TB_L_made : LamX.TabB base mg A.cd_L_made A.tb_L_made) (TI_L_made : (A.tb_L_made, (("_law_made" ++ ".<locals>.") ++ "<lambda>" : Str)) ∈ A.tabs) (TU_L_made : ∀ p ∈ A.tabs, p.1 = A.tb_L_made → p.2 = (("_law_made" ++ ".<locals>.") ++ "<lambda>" : Str)) : FnR PROG w K mg base (L2.CX PROG w) 4 A.f_L_made (sp_L_made K A) := by
  obtain ⟨fd, F, hcd⟩ := T.FC_L_made
  refine fnr_ofC F hcd sc_L_made (F.binds (ps := ["_law_one", "_law_other"]) fun _ _ _ _ _ _ us hl => match us, hl with | [_, _], _ => rfl) (fun Ar outer s H E hr => ?_)
  exact (pss_one (ps_ret (pe_lst (pa_cons (pe_tup (pa_cons (pe_xv T.x_BadName T.g_BadName hr (by decide) (by decide) (pa_cons (pvx 0) pa_nil)) (pa_cons (pe_fnT T.lf_30 TB_L_made rfl TI_L_made TU_L_made rfl (by decide +kernel) rfl) (pa_cons (pe_lst (pa_cons (pvx 0) pa_nil)) pa_nil)))) (pa_cons (pe_tup (pa_cons (pe_xvK T.x_BadShelf T.w_BadShelf_value T.g_BadShelf hr (by decide) (by decide) (pk_cons (pvx 0) pk_nil)) (pa_cons (pe_fnT T.lf_31 TB_L_made rfl TI_L_made TU_L_made rfl (by decide +kernel) rfl) (pa_cons (pe_lst (pa_cons (pvx 0) pa_nil)) pa_nil)))) (pa_cons (pe_tup (pa_cons (pe_xv T.x_BadFlow T.g_BadFlow hr (by decide) (by decide) (pa_cons (pvx 0) pa_nil)) (pa_cons (pe_fnT T.lf_32 TB_L_made rfl TI_L_made TU_L_made rfl (by decide +kernel) rfl) (pa_cons (pe_lst (pa_cons (pvx 0) pa_nil)) pa_nil)))) (pa_cons (pe_tup (pa_cons (pe_xvK T.x_BadNet T.w_BadNet_part T.g_BadNet hr (by decide) (by decide) (pk_cons (pvx 0) pk_nil)) (pa_cons (pe_fnT T.lf_33 TB_L_made rfl TI_L_made TU_L_made rfl (by decide +kernel) rfl) (pa_cons (pe_lst (pa_cons (pvx 0) pa_nil)) pa_nil)))) (pa_cons (pe_tup (pa_cons (pe_xv T.x_BadPaper T.g_BadPaper hr (by decide) (by decide) (pa_cons (pvx 0) pa_nil)) (pa_cons (pe_fnT T.lf_34 TB_L_made rfl TI_L_made TU_L_made rfl (by decide +kernel) rfl) (pa_cons (pe_lst (pa_cons (pvx 0) pa_nil)) pa_nil)))) (pa_cons (pe_tup (pa_cons (pe_xvK T.x_BadLot T.w_BadLot_at T.g_BadLot hr (by decide) (by decide) (pk_cons (pvx 0) pk_nil)) (pa_cons (pe_fnT T.lf_35 TB_L_made rfl TI_L_made TU_L_made rfl (by decide +kernel) rfl) (pa_cons (pe_lst (pa_cons (pvx 0) pa_nil)) pa_nil)))) (pa_cons (pe_tup (pa_cons (pe_xv T.x_BadChange T.g_BadChange hr (by decide) (by decide) (pa_cons (pvx 0) pa_nil)) (pa_cons (pe_fnT T.lf_36 TB_L_made rfl TI_L_made TU_L_made rfl (by decide +kernel) rfl) (pa_cons (pe_lst (pa_cons (pvx 0) pa_nil)) pa_nil)))) (pa_cons (pe_tup (pa_cons (pe_xvK T.x_BadSize T.w_BadSize_shelf T.g_BadSize hr (by decide) (by decide) (pk_cons (pvx 0) pk_nil)) (pa_cons (pe_fnT T.lf_37 TB_L_made rfl TI_L_made TU_L_made rfl (by decide +kernel) rfl) (pa_cons (pe_lst (pa_cons (pvx 0) pa_nil)) pa_nil)))) (pa_cons (pe_tup (pa_cons (pe_xv T.x_BadLoad T.g_BadLoad hr (by decide) (by decide) (pa_cons (pvx 0) pa_nil)) (pa_cons (pe_fnT T.lf_38 TB_L_made rfl TI_L_made TU_L_made rfl (by decide +kernel) rfl) (pa_cons (pe_lst (pa_cons (pvx 0) pa_nil)) pa_nil)))) (pa_cons (pe_tup (pa_cons (pe_xvK T.x_BadNumber T.w_BadNumber_value T.g_BadNumber hr (by decide) (by decide) (pk_cons (pvx 0) pk_nil)) (pa_cons (pe_fnT T.lf_39 TB_L_made rfl TI_L_made TU_L_made rfl (by decide +kernel) rfl) (pa_cons (pe_lst (pa_cons (pvx 0) pa_nil)) pa_nil)))) (pa_cons (pe_tup (pa_cons (pe_xv T.x_BadOrder T.g_BadOrder hr (by decide) (by decide) (pa_cons (pvx 0) pa_nil)) (pa_cons (pe_fnT T.lf_40 TB_L_made rfl TI_L_made TU_L_made rfl (by decide +kernel) rfl) (pa_cons (pe_lst (pa_cons (pvx 0) pa_nil)) pa_nil)))) (pa_cons (pe_tup (pa_cons (pe_xvK T.x_BadLink T.w_BadLink_at T.g_BadLink hr (by decide) (by decide) (pk_cons (pvx 0) pk_nil)) (pa_cons (pe_fnT T.lf_41 TB_L_made rfl TI_L_made TU_L_made rfl (by decide +kernel) rfl) (pa_cons (pe_lst (pa_cons (pvx 0) pa_nil)) pa_nil)))) (pa_cons (pe_tup (pa_cons (pe_xvK T.x_NoFlow T.w_NoFlow_name T.g_NoFlow hr (by decide) (by decide) (pk_cons (pvx 0) pk_nil)) (pa_cons (pe_fnT T.lf_42 TB_L_made rfl TI_L_made TU_L_made rfl (by decide +kernel) rfl) (pa_cons (pe_lst (pa_cons (pvx 0) pa_nil)) pa_nil)))) (pa_cons (pe_tup (pa_cons (pe_xv T.x_NoShelf T.g_NoShelf hr (by decide) (by decide) (pa_cons (pvx 0) pa_nil)) (pa_cons (pe_fnT T.lf_43 TB_L_made rfl TI_L_made TU_L_made rfl (by decide +kernel) rfl) (pa_cons (pe_lst (pa_cons (pvx 0) pa_nil)) pa_nil)))) (pa_cons (pe_tup (pa_cons (pe_xv T.x_NoStep T.g_NoStep hr (by decide) (by decide) (pa_cons (pvx 0) (pa_cons (pvx 1) pa_nil))) (pa_cons (pe_fnT T.lf_44 TB_L_made rfl TI_L_made TU_L_made rfl (by decide +kernel) rfl) (pa_cons (pe_lst (pa_cons (pvx 0) (pa_cons (pvx 1) pa_nil))) pa_nil)))) (pa_cons (pe_tup (pa_cons (pe_xvK T.x_NoStep T.w_NoStep_flow_shelf T.g_NoStep hr (by decide) (by decide) (pk_cons (pvx 0) (pk_cons (pvx 1) pk_nil))) (pa_cons (pe_fnT T.lf_45 TB_L_made rfl TI_L_made TU_L_made rfl (by decide +kernel) rfl) (pa_cons (pe_lst (pa_cons (pvx 1) (pa_cons (pvx 0) pa_nil))) pa_nil)))) (pa_cons (pe_tup (pa_cons (pe_xvK T.x_NotMet T.w_NotMet_shelf_flow T.g_NotMet hr (by decide) (by decide) (pk_cons (pvx 0) (pk_cons (pvx 1) pk_nil))) (pa_cons (pe_fnT T.lf_46 TB_L_made rfl TI_L_made TU_L_made rfl (by decide +kernel) rfl) (pa_cons (pe_lst (pa_cons (pvx 0) (pa_cons (pvx 1) pa_nil))) pa_nil)))) (pa_cons (pe_tup (pa_cons (pe_xv T.x_NoPost T.g_NoPost hr (by decide) (by decide) (pa_cons (pvx 0) pa_nil)) (pa_cons (pe_fnT T.lf_47 TB_L_made rfl TI_L_made TU_L_made rfl (by decide +kernel) rfl) (pa_cons (pe_lst (pa_cons (pvx 0) pa_nil)) pa_nil)))) (pa_cons (pe_tup (pa_cons (pe_xvK T.x_NoRoom T.w_NoRoom_shelf T.g_NoRoom hr (by decide) (by decide) (pk_cons (pvx 0) pk_nil)) (pa_cons (pe_fnT T.lf_48 TB_L_made rfl TI_L_made TU_L_made rfl (by decide +kernel) rfl) (pa_cons (pe_lst (pa_cons (pvx 0) pa_nil)) pa_nil)))) (pa_cons (pe_tup (pa_cons (pe_xv T.x_NoParcel T.g_NoParcel hr (by decide) (by decide) (pa_cons (pvx 0) pa_nil)) (pa_cons (pe_fnT T.lf_49 TB_L_made rfl TI_L_made TU_L_made rfl (by decide +kernel) rfl) (pa_cons (pe_lst (pa_cons (pvx 0) pa_nil)) pa_nil)))) (pa_cons (pe_tup (pa_cons (pe_xvK T.x_NoWant T.w_NoWant_want T.g_NoWant hr (by decide) (by decide) (pk_cons (pvx 0) pk_nil)) (pa_cons (pe_fnT T.lf_50 TB_L_made rfl TI_L_made TU_L_made rfl (by decide +kernel) rfl) (pa_cons (pe_lst (pa_cons (pvx 0) pa_nil)) pa_nil)))) (pa_cons (pe_tup (pa_cons (pe_xv T.x_Endless T.g_Endless hr (by decide) (by decide) (pa_cons (pvx 0) pa_nil)) (pa_cons (pe_fnT T.lf_51 TB_L_made rfl TI_L_made TU_L_made rfl (by decide +kernel) rfl) (pa_cons (pe_lst (pa_cons (pvx 0) pa_nil)) pa_nil)))) (pa_cons (pe_tup (pa_cons (pe_xvK T.x_Unsafe T.w_Unsafe_paper T.g_Unsafe hr (by decide) (by decide) (pk_cons (pvx 0) pk_nil)) (pa_cons (pe_fnT T.lf_52 TB_L_made rfl TI_L_made TU_L_made rfl (by decide +kernel) rfl) (pa_cons (pe_lst (pa_cons (pvx 0) pa_nil)) pa_nil)))) (pa_cons (pe_tup (pa_cons (pe_xv T.x_Taken T.g_Taken hr (by decide) (by decide) (pa_cons (pvx 0) pa_nil)) (pa_cons (pe_fnT T.lf_53 TB_L_made rfl TI_L_made TU_L_made rfl (by decide +kernel) rfl) (pa_cons (pe_lst (pa_cons (pvx 0) pa_nil)) pa_nil)))) (pa_cons (pe_tup (pa_cons (pe_xv0 T.x_Nothing T.g_Nothing hr) (pa_cons (pe_fnT T.lf_54 TB_L_made rfl TI_L_made TU_L_made rfl (by decide +kernel) rfl) (pa_cons (pe_lst pa_nil) pa_nil)))) (pa_cons (pe_tup (pa_cons (pe_xv T.x_TooMany T.g_TooMany hr (by decide) (by decide) (pa_cons (pvx 0) (pa_cons (pvx 1) pa_nil))) (pa_cons (pe_fnT T.lf_55 TB_L_made rfl TI_L_made TU_L_made rfl (by decide +kernel) rfl) (pa_cons (pe_lst (pa_cons (pvx 0) (pa_cons (pvx 1) pa_nil))) pa_nil)))) (pa_cons (pe_tup (pa_cons (pe_xvK T.x_TooMany T.w_TooMany_most_what T.g_TooMany hr (by decide) (by decide) (pk_cons (pvx 0) (pk_cons (pvx 1) pk_nil))) (pa_cons (pe_fnT T.lf_56 TB_L_made rfl TI_L_made TU_L_made rfl (by decide +kernel) rfl) (pa_cons (pe_lst (pa_cons (pvx 1) (pa_cons (pvx 0) pa_nil))) pa_nil)))) (pa_cons (pe_tup (pa_cons (pe_xv T.x_BadText T.g_BadText hr (by decide) (by decide) (pa_cons (pvx 0) (pa_cons (pvx 1) pa_nil))) (pa_cons (pe_fnT T.lf_57 TB_L_made rfl TI_L_made TU_L_made rfl (by decide +kernel) rfl) (pa_cons (pe_lst (pa_cons (pvx 0) (pa_cons (pvx 1) pa_nil))) pa_nil)))) (pa_cons (pe_tup (pa_cons (pe_xvK T.x_BadText T.w_BadText_word_line T.g_BadText hr (by decide) (by decide) (pk_cons (pvx 0) (pk_cons (pvx 1) pk_nil))) (pa_cons (pe_fnT T.lf_58 TB_L_made rfl TI_L_made TU_L_made rfl (by decide +kernel) rfl) (pa_cons (pe_lst (pa_cons (pvx 1) (pa_cons (pvx 0) pa_nil))) pa_nil)))) (pa_cons (pe_tup (pa_cons (pe_xvK T.x_BadCommand T.w_BadCommand_word T.g_BadCommand hr (by decide) (by decide) (pk_cons (pvx 0) pk_nil)) (pa_cons (pe_fnT T.lf_59 TB_L_made rfl TI_L_made TU_L_made rfl (by decide +kernel) rfl) (pa_cons (pe_lst (pa_cons (pvx 0) pa_nil)) pa_nil)))) pa_nil)))))))))))))))))))))))))))))))))
theorem sc_L_pen : FnScope N_L_pen ["_law_script"] (defScope st_L_pen) := ⟨rfl, rfl, rfl, by decide +kernel, rfl, by decide +kernel, by decide +kernel⟩
theorem G_L_pen (T : Txt K mg A) : FnR PROG w K mg base (L2.CX PROG w) 1 A.f_L_pen (sp_L_pen K A) := by
  obtain ⟨fd, F⟩ := T.F_L_pen
  refine fnr_of F sc_L_pen (F.binds (ps := ["_law_script"]) fun _ _ _ _ _ _ us hl => match us, hl with | [_], _ => rfl) (fun cdv Ar outer s H E hr => ?_)
  exact (pss_one (ps_ret (pe_lst (pa_cons (pe_callTy call_mLst (by rfl) T.n_list (by decide +kernel) (pa_cons (pe_slice sl_any (pvx 0) po_none (posome pe_int)) pa_nil)) (pa_cons pe_int (pa_cons pe_int pa_nil))))))
theorem sc_L_draw : FnScope N_L_draw ["_law_pen_here", "_law_many"] (defScope st_L_draw) := ⟨rfl, rfl, rfl, by decide +kernel, rfl, by decide +kernel, by decide +kernel⟩
theorem G_L_draw (T : Txt K mg A) : FnR PROG w K mg base (L2.CX PROG w) 1 A.f_L_draw (sp_L_draw K A) := by
  obtain ⟨fd, F⟩ := T.F_L_draw
  refine fnr_of F sc_L_draw (F.binds (ps := ["_law_pen_here", "_law_many"]) fun _ _ _ _ _ _ us hl => match us, hl with | [_, _], _ => rfl) (fun cdv Ar outer s H E hr => ?_)
  exact (pss_cons (psif (ptcmp op_mGt (pe_ix (ix_m (u1 hr)) (pvx 0) pe_int (fun _ _ => rfl)) pe_int (nomark _)) (pss_cons (ps_set (i := 2) sc_L_draw.nd rfl (by first | exact Or.inl rfl | exact Or.inr rfl) (pe_op op_mMod (pe_callTy call_mIntT (by rfl) T.n_int (by decide +kernel) (pa_cons (pe_ix (ix_m (u1 hr)) (pvx 0) pe_int (fun _ _ => rfl)) pa_nil)) (pvx 1)))
  (pss_cons (ps_asg (pe_op op_mFdv (pe_callTy call_mIntT (by rfl) T.n_int (by decide +kernel) (pa_cons (pe_ix (ix_m (u1 hr)) (pvx 0) pe_int (fun _ _ => rfl)) pa_nil)) (pvx 1)) (pg_sub (pvx 0) pe_int set_list))
  (pss_one (ps_ret (pvx 2))))) pss_nil)
  (pss_cons (ps_set (i := 3) sc_L_draw.nd rfl (by first | exact Or.inl rfl | exact Or.inr rfl) (pe_ix (ix_m (u1 hr)) (pvx 0) pe_int (fun _ _ => rfl)))
  (pss_cons (ps_asg (pe_op op_mAdd (pvx 3) pe_int) (pg_sub (pvx 0) pe_int set_list))
  (pss_cons (ps_set (i := 4) sc_L_draw.nd rfl (by first | exact Or.inl rfl | exact Or.inr rfl) (pe_op op_mAdd (pe_op op_mMul pe_int (pvx 3)) pe_int))
  (pss_cons (psif (ptcmp (op_mNeA (u64 hr)) (pe_ix (ix_m (u1 hr)) (pvx 0) pe_int (fun _ _ => rfl)) (pe_lst pa_nil) (nomark _)) (pss_one (ps_set (i := 4) sc_L_draw.nd rfl (by first | exact Or.inl rfl | exact Or.inr rfl) (pe_ix (ix_m (u1 hr)) (pe_ix (ix_m (u1 hr)) (pvx 0) pe_int (fun _ _ => rfl)) (pe_op op_mMod (pe_callTy call_mIntT (by rfl) T.n_int (by decide +kernel) (pa_cons (pvx 3) pa_nil)) (pe_callB call_mLen (by rfl) T.n_len (by decide +kernel) (pa_cons (pe_ix (ix_m (u1 hr)) (pvx 0) pe_int (fun _ _ => rfl)) pa_nil))) (fun _ _ => rfl)))) pss_nil)
  (pss_cons (psif (PW.pt (pwand (ptcmp op_mLt (pvx 3) (pe_callB call_mLen (by rfl) T.n_len (by decide +kernel) (pa_cons (pe_ix (ix_m (u1 hr)) (pvx 0) pe_int (fun _ _ => rfl)) pa_nil)) (nomark _)) (pw_and1 (ptcmp op_mGe (pe_callB call_mAbs (by rfl) T.n_abs (by decide +kernel) (pa_cons (pvx 4) pa_nil)) (pe_op op_mPow pe_int pe_int) (nomark _))))) (pss_cons (ps_set (i := 5) sc_L_draw.nd rfl (by first | exact Or.inl rfl | exact Or.inr rfl) (pe_op op_mAdd (pe_op op_mMul pe_int (pe_op op_mSub (pe_callB call_mAbs (by rfl) T.n_abs (by decide +kernel) (pa_cons (pvx 4) pa_nil)) (pe_op op_mPow pe_int pe_int))) (pe_callTy call_mIntT (by rfl) T.n_int (by decide +kernel) (pa_cons (pe_cmpR op_mLt (pvx 4) pe_int (nomark _)) pa_nil))))
  (pss_cons (ps_asg (pe_op op_mFdv (pe_callTy call_mIntT (by rfl) T.n_int (by decide +kernel) (pa_cons (pvx 5) pa_nil)) (pvx 1)) (pg_sub (pvx 0) pe_int set_list))
  (pss_one (ps_ret (pe_op op_mMod (pe_callTy call_mIntT (by rfl) T.n_int (by decide +kernel) (pa_cons (pvx 5) pa_nil)) (pvx 1)))))) pss_nil)
  (pss_cons (ps_set (i := 6) sc_L_draw.nd rfl (by first | exact Or.inl rfl | exact Or.inr rfl) (pe_op op_mMod (pe_callTy call_mIntT (by rfl) T.n_int (by decide +kernel) (pa_cons (pe_op op_mPow (pe_op op_mAdd (pe_op op_mAdd (pe_op op_mMod (pe_callTy call_mIntT (by rfl) T.n_int (by decide +kernel) (pa_cons (pvx 4) pa_nil)) pe_int) (pe_op op_mMul pe_int (pvx 3))) pe_int) pe_int) pa_nil)) pe_int))
  (pss_cons (ps_set (i := 6) sc_L_draw.nd rfl (by first | exact Or.inl rfl | exact Or.inr rfl) (pe_op op_mMod (pe_callTy call_mIntT (by rfl) T.n_int (by decide +kernel) (pa_cons (pe_op op_mPow (pe_op op_mAdd (pe_op op_mAdd (pe_op op_mMul (pvx 6) (pe_op op_mAdd (pe_op op_mMul pe_int (pvx 3)) pe_int)) (pe_op op_mMul (pe_op op_mMul pe_int (pvx 3)) (pvx 3))) pe_int) pe_int) pa_nil)) pe_int))
  (pss_one (ps_ret (pe_op op_mMod (pe_callTy call_mIntT (by rfl) T.n_int (by decide +kernel) (pa_cons (pe_op op_mFdv (pvx 6) pe_int) pa_nil)) (pvx 1))))))))))))
theorem sc_L_pick : FnScope N_L_pick ["_law_pen_here", "_law_some"] (defScope st_L_pick) := ⟨rfl, rfl, rfl, by decide +kernel, rfl, by decide +kernel, by decide +kernel⟩
theorem G_L_pick (T : Txt K mg A) : FnR PROG w K mg base (L2.CX PROG w) 2 A.f_L_pick (sp_L_pick K A) := by
  obtain ⟨fd, F⟩ := T.F_L_pick
  refine fnr_of F sc_L_pick (F.binds (ps := ["_law_pen_here", "_law_some"]) fun _ _ _ _ _ _ us hl => match us, hl with | [_, _], _ => rfl) (fun cdv Ar outer s H E hr => ?_)
  exact (pss_one (ps_ret (pe_ix (ix_m (u1 hr)) (pvx 1) (pe_callF (G_L_draw T) hr (by decide) T.g_L_draw T.k_L_draw (passE (takes_of rfl rfl rfl rfl) (fun _ _ _ _ h => h)) (pa_cons (pvx 0) (pa_cons (pe_callB call_mLen (by rfl) T.n_len (by decide +kernel) (pa_cons (pvx 1) pa_nil)) pa_nil))) (fun _ _ => rfl))))
theorem sc_L_value : FnScope N_L_value ["_law_pen_here"] (defScope st_L_value) := ⟨rfl, rfl, rfl, by decide +kernel, rfl, by decide +kernel, by decide +kernel⟩
theorem G_L_value (T : Txt K mg A) : FnR PROG w K mg base (L2.CX PROG w) 3 A.f_L_value (sp_L_value K A) := by
  obtain ⟨fd, F⟩ := T.F_L_value
  refine fnr_of F sc_L_value (F.binds (ps := ["_law_pen_here"]) fun _ _ _ _ _ _ us hl => match us, hl with | [_], _ => rfl) (fun cdv Ar outer s H E hr => ?_)
  exact (pss_cons (ps_set (i := 1) sc_L_value.nd rfl (by first | exact Or.inl rfl | exact Or.inr rfl) (pe_lst (pa_cons pe_non (pa_cons pe_bl (pa_cons pe_bl (pa_cons pe_int (pa_cons pe_int (pa_cons (pe_un un_mNeg pe_int) (pa_cons (pe_op op_mPow pe_int pe_int) (pa_cons pe_str (pa_cons pe_str (pa_cons pe_str (pa_cons (pe_tup pa_nil) (pa_cons (pe_tup (pa_cons pe_str (pa_cons pe_int pa_nil))) (pa_cons (pe_lst pa_nil) (pa_cons (pe_lst (pa_cons pe_str pa_nil)) (pa_cons pe_dnewK (pa_cons (pe_disp (pps_cons pe_str pe_str pps_nil) rfl rfl (by simp) (by decide)) (pa_cons pe_str pa_nil)))))))))))))))))))
  (pss_one (ps_ret (pe_callF (G_L_pick T) hr (by decide) T.g_L_pick T.k_L_pick (passE (takes_of rfl rfl rfl rfl) (fun _ _ _ _ h => h)) (pa_cons (pvx 0) (pa_cons (pvx 1) pa_nil))))))
theorem sc_law : FnScope N_law ["_law_script"] (defScope st_law) := ⟨rfl, rfl, rfl, by decide +kernel, rfl, by decide +kernel, by decide +kernel⟩
theorem G_law (T : Txt K mg A) {fd : FuncData} (F : Fun K "law" "law" st_law A.f_law fd) (TB_L_kinds : LamX.TabB base mg A.cd_L_kinds A.tb_L_kinds) (TI_L_kinds : (A.tb_L_kinds, (("_law_kinds" ++ ".<locals>.") ++ "<lambda>" : Str)) ∈ A.tabs) (TU_L_kinds : ∀ p ∈ A.tabs, p.1 = A.tb_L_kinds → p.2 = (("_law_kinds" ++ ".<locals>.") ++ "<lambda>" : Str)) (TB_L_made : LamX.TabB base mg A.cd_L_made A.tb_L_made) (TI_L_made : (A.tb_L_made, (("_law_made" ++ ".<locals>.") ++ "<lambda>" : Str)) ∈ A.tabs) (TU_L_made : ∀ p ∈ A.tabs, p.1 = A.tb_L_made → p.2 = (("_law_made" ++ ".<locals>.") ++ "<lambda>" : Str)) (hr : Room 5 callerA) {s : Shared} {H : Hp} {a : Addr} {Q : VK} {E : XK} (e0 : Env0 PROG w K mg base callerA [] s H) (h : sp_law K A [.ref a] H Q E) : codeAny (model PROG w) callerA (.call (.ref A.f_law) ⟨[.ref a], []⟩) (CR (L2.CX PROG w) [] PROG w H s Q E) s := by
  refine law_run F sc_law rfl hr (F.binds (ps := ["_law_script"]) fun _ _ _ _ _ _ us hl => match us, hl with | [_], _ => rfl) (fun cdv s H E hr => ?_) e0 h
  exact (pss_cons (ps_set (i := 1) sc_law.nd rfl (by first | exact Or.inl rfl | exact Or.inr rfl) (pe_callF (G_L_pen T) hr (by decide) T.g_L_pen T.k_L_pen (passE (takes_of rfl rfl rfl rfl) (fun _ _ _ _ h => h)) (pa_cons (pvx 0) pa_nil))) (pss_cons (ps_lkO (ps_for (passes_of rfl) rfl (pi_range1 rfl T.n_range (pa_cons pe_int pa_nil)) (pg_name (i := 2) sc_law.nd rfl (by first | exact Or.inl rfl | exact Or.inr rfl)) (pss_cons (ps_asg (pe_tup (pa_cons (pe_callF (G_L_made T TB_L_made TI_L_made TU_L_made) hr (by decide) T.g_L_made T.k_L_made (passE (takes_of rfl rfl rfl rfl) (fun _ _ _ _ h => h)) (pa_cons (pe_callF (G_L_value T) hr (by decide) T.g_L_value T.k_L_value (passE (takes_of rfl rfl rfl rfl) (fun _ _ _ _ h => h)) (pa_cons (pvx 1) pa_nil)) (pa_cons (pe_callF (G_L_value T) hr (by decide) T.g_L_value T.k_L_value (passE (takes_of rfl rfl rfl rfl) (fun _ _ _ _ h => h)) (pa_cons (pvx 1) pa_nil)) pa_nil))) (pa_cons (pe_callF0 (G_L_kinds T TB_L_kinds TI_L_kinds TU_L_kinds) hr (by decide) T.g_L_kinds T.k_L_kinds (passE (takes_of rfl rfl rfl rfl) (fun _ _ _ _ h => h))) pa_nil))) (pgtup rfl (pgcons (pg_name (i := 3) sc_law.nd rfl (by first | exact Or.inl rfl | exact Or.inr rfl)) (pgcons (pg_name (i := 4) sc_law.nd rfl (by first | exact Or.inl rfl | exact Or.inr rfl)) pgnil))))
  (pss_one (ps_lkO (ps_for (passes_of rfl) rfl (pi_enum rfl T.n_enumerate (pa_cons (pvx 3) pa_nil)) (pgtup rfl (pgcons (pg_name (i := 5) sc_law.nd rfl (by first | exact Or.inl rfl | exact Or.inr rfl)) (pgcons (pg_name (i := 6) sc_law.nd rfl (by first | exact Or.inl rfl | exact Or.inr rfl)) pgnil))) (pss_cons (ps_asg (pvx 6) (pgtup rfl (pgcons (pg_name (i := 7) sc_law.nd rfl (by first | exact Or.inl rfl | exact Or.inr rfl)) (pgcons (pg_name (i := 8) sc_law.nd rfl (by first | exact Or.inl rfl | exact Or.inr rfl)) (pgcons (pg_name (i := 9) sc_law.nd rfl (by first | exact Or.inl rfl | exact Or.inr rfl)) pgnil)))))
  (pss_cons (psif (PW.pt (pwor (ptcmp (op_mNeA (u64 hr)) (pe_callB (call_mReprD rfl (u64 hr)) (by rfl) T.n_repr (by decide +kernel) (pa_cons (pe_callL (pvx 8) (lamok_all (lams_ok T)) (Room.mono hr (by decide)) (passE (takes_of rfl rfl rfl rfl) (fun _ _ _ _ h => h)) (pa_cons (pvx 7) pa_nil)) pa_nil)) (pe_callB (call_mReprD rfl (u64 hr)) (by rfl) T.n_repr (by decide +kernel) (pa_cons (pvx 9) pa_nil)) (nomark _)) (pwor (pt_not (ptv (pe_callB call_mIkx (by rfl) T.n_isinstance (by decide +kernel) (pa_cons (pvx 7) (pa_cons (pe_gr T.g_ShelfError) pa_nil))))) (pw_or1 (pt_not (ptv (pe_callB call_mIkx (by rfl) T.n_isinstance (by decide +kernel) (pa_cons (pvx 7) (pa_cons (pe_gt T.n_ValueError) pa_nil))))))))) (pss_one (ps_ret pe_bl)) pss_nil)
  (pss_cons (ps_setLc (i := 10) (own := [("_law_j", 12)]) rfl sc_law.nd rfl rfl (sw_true rfl rfl rfl (by decide +kernel)) (pi_range1 rfl T.n_range (pa_cons (pe_callB call_mLen (by rfl) T.n_len (by decide +kernel) (pa_cons (pvx 4) pa_nil)) pa_nil)) (blkOk_by (N := N_law) (sc := defScope st_law) (by decide +kernel)) (fun _ _ _ _ _ => (pg_name (i := 12) sc_law.nd rfl (by first | exact Or.inl rfl | exact Or.inr rfl))) (fun _ _ _ _ _ => (pts_one (ptv (pe_callL (pe_ix (ix_m (u1 hr)) (pvx 4) (pvx 12) (fun _ _ => rfl)) (lamok_all (lams_ok T)) (Room.mono hr (by decide)) (passE takes0 (fun _ _ _ _ h => h)) (pa_cons (pvx 7) pa_nil))))) (fun _ _ _ _ _ => (pvx 12)))
  (pss_cons (ps_setLc (i := 11) (own := [("_law_pair", 13)]) rfl sc_law.nd rfl rfl (sw_true rfl rfl rfl (by decide +kernel)) (pi_of piv_m (pe_lst (pa_cons (pe_lst (pa_cons pe_int (pa_cons pe_int pa_nil))) (pa_cons (pe_lst (pa_cons pe_int (pa_cons pe_int pa_nil))) (pa_cons (pe_lst (pa_cons pe_int (pa_cons pe_int pa_nil))) pa_nil))))) (blkOk_by (N := N_law) (sc := defScope st_law) (by decide +kernel)) (fun _ _ _ _ _ => (pg_name (i := 13) sc_law.nd rfl (by first | exact Or.inl rfl | exact Or.inr rfl))) (fun _ _ _ _ _ => (pts_one (ptcmp (op_mIn (u65 hr)) (pvx 5) (pvx 13) (by rfl)))) (fun _ _ _ _ _ => (pvx 13)))
  (pss_one (psif (ptcmp (op_mNeA (u64 hr)) (pvx 10) (peif (ptcmp (op_mNeA (u64 hr)) (pvx 11) (pe_lst pa_nil) (nomark _)) (pe_ix (ix_m (u1 hr)) (pvx 11) pe_int (fun _ _ => rfl)) (pe_lst (pa_cons (pvx 5) pa_nil))) (nomark _)) (pss_one (ps_ret pe_bl)) pss_nil))))))))))))
  (pss_one (ps_ret (pe_callB call_mIkx (by rfl) T.n_isinstance (by decide +kernel) (pa_cons (pe_xb PySem.F.excBase_ValueError T.xb_ShelfError T.g_ShelfError T.kb_ShelfError pe_str) (pa_cons (pe_gt T.n_ValueError) pa_nil)))))))
end
end Rk01

namespace Rk01
open PySem L2 Fs TL
theorem atI_nat {α : Type} (xs : List α) (k : Nat) : atI xs (k : Int) = xs[k]? := by
  unfold atI ixN
  by_cases h : k < xs.length
  · simp [h]
  · have e : xs[k]? = none := List.getElem?_eq_none_iff.mpr (by omega)
    rw [e]
    simp [h]
    all_goals omega
theorem then_ok2 {S α β : Type} {a : α} {s : S} {g : α → S → Res S β} : (Res.ok a s).then g = g a s := rfl
theorem seq_two {S : Type} {a b c : Rho → M S Out} {ρ ρ1 : Rho} {s s1 : S} (h : ySeq a b ρ s = .ok (.nx ρ1) s1) : ySeq a (ySeq b c) ρ s = c ρ1 s1 := by
  have h : (a ρ s).then (fun o => match o with
    | .nx ρ1 => b ρ1
    | .rt d => .ret (.rt d)
    | .bk ρ1 => .ret (.bk ρ1)
    | .ct ρ1 => .ret (.ct ρ1)) = .ok (.nx ρ1) s1 := h
  show (a ρ s).then (fun o => match o with
    | .nx ρ1 => ySeq b c ρ1
    | .rt d => .ret (.rt d)
    | .bk ρ1 => .ret (.bk ρ1)
    | .ct ρ1 => .ret (.ct ρ1)) = c ρ1 s1
  cases e : a ρ s with
  | ok o s2 =>
    rw [e] at h
    cases o with
    | nx ρ2 => exact seq_nx h
    | rt d => cases h
    | bk ρ2 => cases h
    | ct ρ2 => cases h
  | ex cl fs s2 => rw [e] at h; cases h
  | bad => rw [e] at h; cases h
theorem bits_small {i : Int} {n : Nat} (h : i.natAbs < 2 ^ n) : (Builtin.Int.intBits i : Int) ≤ n := by
  have := PyProof.Rows.intBits_le h
  omega
theorem canAll_int : ∀ xs : List Int, PyData.canLayAll0 (xs.map PyData.int) = true
  | [] => rfl
  | x :: xs => by
    show (true && PyData.canLayAll0 (xs.map PyData.int)) = true
    rw [canAll_int xs]; rfl
theorem depthAll_int : ∀ xs : List Int, PyData.depthAll (xs.map PyData.int) ≤ 1
  | [] => by decide
  | x :: xs => by
    show max (PyData.depth (.int x)) (PyData.depthAll (xs.map PyData.int)) ≤ 1
    have h1 : PyData.depth (.int x) ≤ 1 := by simp [PyData.depth]
    have h2 := depthAll_int xs
    omega
theorem shaped_ints (xs : List Int) : SeqAt.shaped (.list (xs.map PyData.int)) = true := by
  unfold SeqAt.shaped
  rw [Bool.and_eq_true]
  refine ⟨canAll_int xs, decide_eq_true ?_⟩
  have h2 := depthAll_int xs
  simp only [PyData.depth]
  omega
theorem neA_ints (xs : List Int) : neA (.lst (xs.map D.int)) (.lst []) = some (.bl (!xs.isEmpty)) := by
  show (eqD (.lst (xs.map D.int)) (.lst (([] : List Int).map D.int))).map (fun b => D.bl (!b)) = _
  have e : eqD (.lst (xs.map D.int)) (.lst (([] : List Int).map D.int)) = some xs.isEmpty := by
    show pyEq _ _ = _
    have tp : ∀ ys : List Int, toPy (.lst (ys.map D.int)) = some (.list (ys.map PyData.int)) := fun ys => by
      unfold toPy
      rw [toPyL_map D.int PyData.int (fun _ => rfl)]
      rfl
    unfold pyEq
    rw [tp, tp]
    simp only [shaped_ints, Bool.and_self]
    cases xs <;> rfl
  rw [e]; rfl
theorem draw_eq (K : PySem.W.Frag) (A : Ad) (L : PenA) (hc : ∀ x ∈ L.cells, x.natAbs < 2 ^ 1048577) {m : Int} (hm : 0 < m ∧ m < 1073741824) (s : PenS) (hs : 0 ≤ s.used ∧ s.used ≤ 1000000) :
    ∃ v s', runD 7 2 (b_L_draw K A L) [.adr L.p, .int m] s = .ok (.int v) s' ∧ 0 ≤ v ∧ v < m ∧ 0 ≤ s'.used ∧ s'.used ≤ s.used + 1 := by
  have pa : ∀ (l : Rho), penAt L 0 (.val (.adr L.p) :: l) = true := fun l => by
    unfold penAt
    simp
  have di : ∀ n : Int, dInt [.int n] = some (.int n) := fun _ => rfl
  have db : ∀ b : Bool, dInt [.bl b] = some (.int (if b then 1 else 0)) := fun _ => rfl
  have dmm : ∀ a : Int, dMod (.int a) (.int m) = some (.int (a % m)) := fun a => dMod_int hm.1
  have dfm : ∀ a : Int, dFdv (.int a) (.int m) = some (.int (a / m)) := fun a => dFdv_int hm
  have rng : ∀ a : Int, 0 ≤ a % m ∧ a % m < m := fun a => ⟨Int.emod_nonneg _ (by omega), Int.emod_lt_of_pos _ hm.1⟩
  by_cases hr : 0 < s.rest
  · have e1 : decide (0 < s.rest) = true := decide_eq_true hr
    refine ⟨s.rest % m, ⟨s.used, s.rest / m⟩, ?_, (rng _).1, (rng _).2, hs.1, by show s.used ≤ s.used + 1; omega⟩
    refine run_rt rfl ?_
    refine seq_rt ?_
    show (yIf _ _ _ : Rho → M PenS Out) [.val (.adr L.p), .val (.int m), .no, .no, .no, .no, .no] s = _
    simp only [runD, startR, xV, xC, xOp, xUn, xT, xAnd, xOr, xNot, xIf, xAndV, xOrV, xNotV, xCh, xNil, xCons, xTup, xLstN, xL, xCa, xF, xF0, noX, up, x1, xIt, xEn, xNo, xPa, xSl, xM1, xSplit, M.bind, M.ret, M.of, then_ok, then_ex, then_bad, yNx, yRet, yAsg, ySeq, yIf, yFor, yPar, yParK, yRaise, gV, gVt, gVc, gVn, dBl, dIn, strD, wipeR, List.getElem?_cons_zero, List.getElem?_cons_succ, List.set_cons_zero, List.set_cons_succ, Option.bind_some, Option.bind_none, Option.map_some, List.length_cons, List.length_nil, List.map_cons, List.map_nil, List.replicate_succ, List.replicate_zero, List.cons_append, List.nil_append, Nat.zero_add, Nat.reduceAdd, Nat.reduceSub, decide_true, Bool.not_true, Bool.not_false, xPen, yPen, pa, dGt_int, e1, di, dmm, dfm, then_ok2]
  · have e1 : decide (0 < s.rest) = false := decide_eq_false hr
    obtain ⟨u, q⟩ := s
    have hu : 0 ≤ u ∧ u ≤ 1000000 := hs
    have ub : ∀ n : Nat, u.natAbs < 2 ^ n → (Builtin.Int.intBits u : Int) ≤ n := fun n h => bits_small h
    have u20 : (Builtin.Int.intBits u : Int) ≤ 20 := ub 20 (by show u.natAbs < 1048576; omega)
    have mu : ∀ a : Int, a.natAbs < 2 ^ 64 → dMul (.int a) (.int u) = some (.int (a * u)) := fun a ha => dMul_int (by have := bits_small ha; omega)
    have dxx : ∀ (a b : Int), 0 < b → dMod (.int a) (.int b) = some (.int (a % b)) := fun a b h => dMod_int h
    -- the cell
    obtain ⟨cell, hcell, ev4⟩ : ∃ cell : Int, cell.natAbs < 2 ^ 1048577 ∧ (ySeq (yAsg (xOp dAdd (xOp dMul (xC (.int 90031)) (xV 3)) (xC (.int 811))) (gV 4)) (yIf (xPenNe L 0) (yAsg (xPenCell L 0 (xOp dMod (xCa dInt (xCons (xV 3) xNil)) (xPenLen L 0))) (gV 4)) yNx) : Rho → M PenS Out) [.val (.adr L.p), .val (.int m), .no, .val (.int u), .no, .no, .no] ⟨u + 1, q⟩ = .ok (.nx [.val (.adr L.p), .val (.int m), .no, .val (.int u), .val (.int cell), .no, .no]) ⟨u + 1, q⟩ := by
      have m1 := mu 90031 (by decide)
      cases hl : L.cells with
      | nil =>
        refine ⟨90031 * u + 811, ?_, ?_⟩
        · exact Nat.lt_of_lt_of_le (show (90031 * u + 811).natAbs < 2 ^ 64 by show _ < 18446744073709551616; omega) (Nat.pow_le_pow_right (by decide) (by decide))
        · have ne : neA (.lst (L.cells.map D.int)) (.lst []) = some (.bl false) := by rw [neA_ints, hl]; rfl
          simp only [runD, startR, xV, xC, xOp, xUn, xT, xAnd, xOr, xNot, xIf, xAndV, xOrV, xNotV, xCh, xNil, xCons, xTup, xLstN, xL, xCa, xF, xF0, noX, up, x1, xIt, xEn, xNo, xPa, xSl, xM1, xSplit, M.bind, M.ret, M.of, then_ok, then_ex, then_bad, yNx, yRet, yAsg, ySeq, yIf, yFor, yPar, yParK, yRaise, gV, gVt, gVc, gVn, dBl, dIn, strD, wipeR, List.getElem?_cons_zero, List.getElem?_cons_succ, List.set_cons_zero, List.set_cons_succ, Option.bind_some, Option.bind_none, Option.map_some, List.length_cons, List.length_nil, List.map_cons, List.map_nil, List.replicate_succ, List.replicate_zero, List.cons_append, List.nil_append, Nat.zero_add, Nat.reduceAdd, Nat.reduceSub, decide_true, Bool.not_true, Bool.not_false, m1, dAdd_int, xPenNe, pa, ne]
      | cons c0 cs =>
        have ne : neA (.lst (L.cells.map D.int)) (.lst []) = some (.bl true) := by rw [neA_ints, hl]; rfl
        have lp : 0 < (L.cells.length : Int) := by rw [hl, List.length_cons]; omega
        have md := dxx u L.cells.length lp
        have k1 := Int.emod_nonneg u (Int.ne_of_gt lp)
        have k2 := Int.emod_lt_of_pos u lp
        obtain ⟨j, hj⟩ : ∃ j : Nat, u % (L.cells.length : Int) = j := ⟨(u % (L.cells.length : Int)).toNat, by omega⟩
        have jl : j < L.cells.length := by omega
        have gx : atI (L.cells.map D.int) (u % (L.cells.length : Int)) = some (.int L.cells[j]) := by
          rw [hj, atI_nat, List.getElem?_map, List.getElem?_eq_getElem jl]; rfl
        refine ⟨L.cells[j], hc _ (List.getElem_mem jl), ?_⟩
        simp only [runD, startR, xV, xC, xOp, xUn, xT, xAnd, xOr, xNot, xIf, xAndV, xOrV, xNotV, xCh, xNil, xCons, xTup, xLstN, xL, xCa, xF, xF0, noX, up, x1, xIt, xEn, xNo, xPa, xSl, xM1, xSplit, M.bind, M.ret, M.of, then_ok, then_ex, then_bad, yNx, yRet, yAsg, ySeq, yIf, yFor, yPar, yParK, yRaise, gV, gVt, gVc, gVn, dBl, dIn, strD, wipeR, List.getElem?_cons_zero, List.getElem?_cons_succ, List.set_cons_zero, List.set_cons_succ, Option.bind_some, Option.bind_none, Option.map_some, List.length_cons, List.length_nil, List.map_cons, List.map_nil, List.replicate_succ, List.replicate_zero, List.cons_append, List.nil_append, Nat.zero_add, Nat.reduceAdd, Nat.reduceSub, decide_true, Bool.not_true, Bool.not_false, m1, dAdd_int, xPenNe, pa, ne, xPenCell, xPenLen, di, md, dIx_lst, gx, flatOf, flat]
    have p18 : dPow (.int 10) (.int 18) = some (.int 1000000000000000000) := by rw [dPow_int ⟨by decide, by decide, by decide⟩]; rfl
    have ab : dAbs [.int cell] = some (.int (if cell < 0 then -cell else cell)) := rfl
    have fin : ∃ v s', (ySeq (yIf (xAnd (xT (xOp dLt (xV 3) (xPenLen L 0))) (xT (xOp dGe (xCa dAbs (xCons (xV 4) xNil)) (xOp dPow (xC (.int 10)) (xC (.int 18)))))) (ySeq (yAsg (xOp dAdd (xOp dMul (xC (.int 2)) (xOp dSub (xCa dAbs (xCons (xV 4) xNil)) (xOp dPow (xC (.int 10)) (xC (.int 18))))) (xCa dInt (xCons (xOp dLt (xV 4) (xC (.int 0))) xNil))) (gV 5))
  (ySeq (yPen L 0 (fun s n => ⟨s.used, n⟩) (xOp dFdv (xCa dInt (xCons (xV 5) xNil)) (xV 1)))
  (yRet (xOp dMod (xCa dInt (xCons (xV 5) xNil)) (xV 1))))) yNx)
  (ySeq (yAsg (xOp dMod (xCa dInt (xCons (xOp dPow (xOp dAdd (xOp dAdd (xOp dMod (xCa dInt (xCons (xV 4) xNil)) (xC (.int 2147439991))) (xOp dMul (xC (.int 81017)) (xV 3))) (xC (.int 409))) (xC (.int 5))) xNil)) (xC (.int 2147429993))) (gV 6))
  (ySeq (yAsg (xOp dMod (xCa dInt (xCons (xOp dPow (xOp dAdd (xOp dAdd (xOp dMul (xV 6) (xOp dAdd (xOp dMul (xC (.int 2)) (xV 3)) (xC (.int 121)))) (xOp dMul (xOp dMul (xC (.int 70019)) (xV 3)) (xV 3))) (xC (.int 83))) (xC (.int 3))) xNil)) (xC (.int 2147419997))) (gV 6))
  (yRet (xOp dMod (xCa dInt (xCons (xOp dFdv (xV 6) (xC (.int 32))) xNil)) (xV 1))))) : Rho → M PenS Out) [.val (.adr L.p), .val (.int m), .no, .val (.int u), .val (.int cell), .no, .no] ⟨u + 1, q⟩ = .ok (.rt (.int v)) s' ∧ 0 ≤ v ∧ v < m ∧ 0 ≤ s'.used ∧ s'.used ≤ u + 1 := by
      cases hg : decide (u < (L.cells.length : Int)) && decide (1000000000000000000 ≤ (if cell < 0 then -cell else cell)) with
      | true =>
        rw [Bool.and_eq_true] at hg
        have m2 : dMul (.int 2) (.int ((if cell < 0 then -cell else cell) - 1000000000000000000)) = some (.int (2 * ((if cell < 0 then -cell else cell) - 1000000000000000000))) := dMul_int (by
          have b1 := bits_small (i := 2) (n := 2) (by decide)
          have b2 := bits_small (i := (if cell < 0 then -cell else cell) - 1000000000000000000) (n := 1048577) (Nat.lt_of_le_of_lt (by have := of_decide_eq_true hg.2; split <;> omega) hcell)
          omega)
        refine ⟨(2 * ((if cell < 0 then -cell else cell) - 1000000000000000000) + if decide (cell < 0) = true then 1 else 0) % m, ⟨u + 1, (2 * ((if cell < 0 then -cell else cell) - 1000000000000000000) + if decide (cell < 0) = true then 1 else 0) / m⟩, seq_rt (by
          simp only [runD, startR, xV, xC, xOp, xUn, xT, xAnd, xOr, xNot, xIf, xAndV, xOrV, xNotV, xCh, xNil, xCons, xTup, xLstN, xL, xCa, xF, xF0, noX, up, x1, xIt, xEn, xNo, xPa, xSl, xM1, xSplit, M.bind, M.ret, M.of, then_ok, then_ex, then_bad, yNx, yRet, yAsg, ySeq, yIf, yFor, yPar, yParK, yRaise, gV, gVt, gVc, gVn, dBl, dIn, strD, wipeR, List.getElem?_cons_zero, List.getElem?_cons_succ, List.set_cons_zero, List.set_cons_succ, Option.bind_some, Option.bind_none, Option.map_some, List.length_cons, List.length_nil, List.map_cons, List.map_nil, List.replicate_succ, List.replicate_zero, List.cons_append, List.nil_append, Nat.zero_add, Nat.reduceAdd, Nat.reduceSub, decide_true, Bool.not_true, Bool.not_false, xPen, xPenLen, yPen, pa, dLt_int, dGe_int, hg.1, hg.2, ab, p18, dSub_int, m2, db, dAdd_int, di, dmm, dfm, then_ok2]), (rng _).1, (rng _).2, by show (0 : Int) ≤ u + 1; omega, by show u + 1 ≤ u + 1; omega⟩
      | false =>
        have c1 := dxx cell 2147439991 (by decide)
        have r1 := Int.emod_nonneg cell (show (2147439991 : Int) ≠ 0 by decide)
        have r2 := Int.emod_lt_of_pos cell (show (0 : Int) < 2147439991 by decide)
        generalize cell % 2147439991 = a at c1 r1 r2
        have m1 := mu 81017 (by decide)
        have p1 : dPow (.int (a + 81017 * u + 409)) (.int 5) = some (.int ((a + 81017 * u + 409) ^ 5)) := dPow_int ⟨by decide, by decide, by show _ < 18446744073709551616; omega⟩
        have c2 := dxx ((a + 81017 * u + 409) ^ 5) 2147429993 (by decide)
        have r3 := Int.emod_nonneg ((a + 81017 * u + 409) ^ 5) (show (2147429993 : Int) ≠ 0 by decide)
        have r4 := Int.emod_lt_of_pos ((a + 81017 * u + 409) ^ 5) (show (0 : Int) < 2147429993 by decide)
        generalize (a + 81017 * u + 409) ^ 5 % 2147429993 = b at c2 r3 r4
        have m2 : dMul (.int 2) (.int u) = some (.int (2 * u)) := mu 2 (by decide)
        have bb := bits_small (i := b) (n := 31) (by show _ < 2147483648; omega)
        have b2 := bits_small (i := 2 * u + 121) (n := 31) (by show _ < 2147483648; omega)
        have m3 : dMul (.int b) (.int (2 * u + 121)) = some (.int (b * (2 * u + 121))) := dMul_int (by omega)
        have m4 : dMul (.int 70019) (.int u) = some (.int (70019 * u)) := mu 70019 (by decide)
        have m5 : dMul (.int (70019 * u)) (.int u) = some (.int (70019 * u * u)) := mu _ (by show _ < 18446744073709551616; omega)
        have z1 : 0 ≤ b * (2 * u + 121) := Int.mul_nonneg r3 (by omega)
        have z2 : b * (2 * u + 121) ≤ 2147429993 * 2000121 := Int.mul_le_mul (by omega) (by omega) (by omega) (by decide)
        have z3 : 0 ≤ 70019 * u * u := Int.mul_nonneg (by omega) hu.1
        have z4 : 70019 * u * u ≤ 70019000000 * 1000000 := Int.mul_le_mul (by omega) hu.2 hu.1 (by decide)
        have p2 : dPow (.int (b * (2 * u + 121) + 70019 * u * u + 83)) (.int 3) = some (.int ((b * (2 * u + 121) + 70019 * u * u + 83) ^ 3)) := dPow_int ⟨by decide, by decide, by show _ < 18446744073709551616; omega⟩
        have c3 := dxx ((b * (2 * u + 121) + 70019 * u * u + 83) ^ 3) 2147419997 (by decide)
        have f1 : ∀ x : Int, dFdv (.int x) (.int 32) = some (.int (x / 32)) := fun x => dFdv_int ⟨by decide, by decide⟩
        have gd : (yIf (xAnd (xT (xOp dLt (xV 3) (xPenLen L 0))) (xT (xOp dGe (xCa dAbs (xCons (xV 4) xNil)) (xOp dPow (xC (.int 10)) (xC (.int 18)))))) (ySeq (yAsg (xOp dAdd (xOp dMul (xC (.int 2)) (xOp dSub (xCa dAbs (xCons (xV 4) xNil)) (xOp dPow (xC (.int 10)) (xC (.int 18))))) (xCa dInt (xCons (xOp dLt (xV 4) (xC (.int 0))) xNil))) (gV 5))
  (ySeq (yPen L 0 (fun s n => ⟨s.used, n⟩) (xOp dFdv (xCa dInt (xCons (xV 5) xNil)) (xV 1)))
  (yRet (xOp dMod (xCa dInt (xCons (xV 5) xNil)) (xV 1))))) yNx : Rho → M PenS Out) [.val (.adr L.p), .val (.int m), .no, .val (.int u), .val (.int cell), .no, .no] ⟨u + 1, q⟩ = .ok (.nx [.val (.adr L.p), .val (.int m), .no, .val (.int u), .val (.int cell), .no, .no]) ⟨u + 1, q⟩ := by
          cases h1 : decide (u < (L.cells.length : Int)) with
          | false => simp only [runD, startR, xV, xC, xOp, xUn, xT, xAnd, xOr, xNot, xIf, xAndV, xOrV, xNotV, xCh, xNil, xCons, xTup, xLstN, xL, xCa, xF, xF0, noX, up, x1, xIt, xEn, xNo, xPa, xSl, xM1, xSplit, M.bind, M.ret, M.of, then_ok, then_ex, then_bad, yNx, yRet, yAsg, ySeq, yIf, yFor, yPar, yParK, yRaise, gV, gVt, gVc, gVn, dBl, dIn, strD, wipeR, List.getElem?_cons_zero, List.getElem?_cons_succ, List.set_cons_zero, List.set_cons_succ, Option.bind_some, Option.bind_none, Option.map_some, List.length_cons, List.length_nil, List.map_cons, List.map_nil, List.replicate_succ, List.replicate_zero, List.cons_append, List.nil_append, Nat.zero_add, Nat.reduceAdd, Nat.reduceSub, decide_true, Bool.not_true, Bool.not_false, xPenLen, pa, dLt_int, h1]
          | true =>
            rw [h1, Bool.true_and] at hg
            simp only [runD, startR, xV, xC, xOp, xUn, xT, xAnd, xOr, xNot, xIf, xAndV, xOrV, xNotV, xCh, xNil, xCons, xTup, xLstN, xL, xCa, xF, xF0, noX, up, x1, xIt, xEn, xNo, xPa, xSl, xM1, xSplit, M.bind, M.ret, M.of, then_ok, then_ex, then_bad, yNx, yRet, yAsg, ySeq, yIf, yFor, yPar, yParK, yRaise, gV, gVt, gVc, gVn, dBl, dIn, strD, wipeR, List.getElem?_cons_zero, List.getElem?_cons_succ, List.set_cons_zero, List.set_cons_succ, Option.bind_some, Option.bind_none, Option.map_some, List.length_cons, List.length_nil, List.map_cons, List.map_nil, List.replicate_succ, List.replicate_zero, List.cons_append, List.nil_append, Nat.zero_add, Nat.reduceAdd, Nat.reduceSub, decide_true, Bool.not_true, Bool.not_false, xPenLen, pa, dLt_int, h1, ab, p18, dGe_int, hg]
        refine ⟨((b * (2 * u + 121) + 70019 * u * u + 83) ^ 3 % 2147419997) / 32 % m, ⟨u + 1, q⟩, ?_, (rng _).1, (rng _).2, by show (0 : Int) ≤ u + 1; omega, by show u + 1 ≤ u + 1; omega⟩
        rw [seq_nx gd]
        rw [seq_nx (ρ1 := [.val (.adr L.p), .val (.int m), .no, .val (.int u), .val (.int cell), .no, .val (.int b)]) (s1 := (⟨u + 1, q⟩ : PenS)) (by simp only [runD, startR, xV, xC, xOp, xUn, xT, xAnd, xOr, xNot, xIf, xAndV, xOrV, xNotV, xCh, xNil, xCons, xTup, xLstN, xL, xCa, xF, xF0, noX, up, x1, xIt, xEn, xNo, xPa, xSl, xM1, xSplit, M.bind, M.ret, M.of, then_ok, then_ex, then_bad, yNx, yRet, yAsg, ySeq, yIf, yFor, yPar, yParK, yRaise, gV, gVt, gVc, gVn, dBl, dIn, strD, wipeR, List.getElem?_cons_zero, List.getElem?_cons_succ, List.set_cons_zero, List.set_cons_succ, Option.bind_some, Option.bind_none, Option.map_some, List.length_cons, List.length_nil, List.map_cons, List.map_nil, List.replicate_succ, List.replicate_zero, List.cons_append, List.nil_append, Nat.zero_add, Nat.reduceAdd, Nat.reduceSub, decide_true, Bool.not_true, Bool.not_false, di, c1, m1, dAdd_int, p1, c2])]
        rw [seq_nx (ρ1 := [.val (.adr L.p), .val (.int m), .no, .val (.int u), .val (.int cell), .no, .val (.int ((b * (2 * u + 121) + 70019 * u * u + 83) ^ 3 % 2147419997))]) (s1 := (⟨u + 1, q⟩ : PenS)) (by simp only [runD, startR, xV, xC, xOp, xUn, xT, xAnd, xOr, xNot, xIf, xAndV, xOrV, xNotV, xCh, xNil, xCons, xTup, xLstN, xL, xCa, xF, xF0, noX, up, x1, xIt, xEn, xNo, xPa, xSl, xM1, xSplit, M.bind, M.ret, M.of, then_ok, then_ex, then_bad, yNx, yRet, yAsg, ySeq, yIf, yFor, yPar, yParK, yRaise, gV, gVt, gVc, gVn, dBl, dIn, strD, wipeR, List.getElem?_cons_zero, List.getElem?_cons_succ, List.set_cons_zero, List.set_cons_succ, Option.bind_some, Option.bind_none, Option.map_some, List.length_cons, List.length_nil, List.map_cons, List.map_nil, List.replicate_succ, List.replicate_zero, List.cons_append, List.nil_append, Nat.zero_add, Nat.reduceAdd, Nat.reduceSub, decide_true, Bool.not_true, Bool.not_false, di, m2, dAdd_int, m3, m4, m5, p2, c3])]
        simp only [runD, startR, xV, xC, xOp, xUn, xT, xAnd, xOr, xNot, xIf, xAndV, xOrV, xNotV, xCh, xNil, xCons, xTup, xLstN, xL, xCa, xF, xF0, noX, up, x1, xIt, xEn, xNo, xPa, xSl, xM1, xSplit, M.bind, M.ret, M.of, then_ok, then_ex, then_bad, yNx, yRet, yAsg, ySeq, yIf, yFor, yPar, yParK, yRaise, gV, gVt, gVc, gVn, dBl, dIn, strD, wipeR, List.getElem?_cons_zero, List.getElem?_cons_succ, List.set_cons_zero, List.set_cons_succ, Option.bind_some, Option.bind_none, Option.map_some, List.length_cons, List.length_nil, List.map_cons, List.map_nil, List.replicate_succ, List.replicate_zero, List.cons_append, List.nil_append, Nat.zero_add, Nat.reduceAdd, Nat.reduceSub, decide_true, Bool.not_true, Bool.not_false, di, f1, dmm]
    obtain ⟨v, s', h1, h2, h3, h4, h5⟩ := fin
    refine ⟨v, s', run_rt rfl ?_, h2, h3, h4, h5⟩
    show ySeq _ _ [Sl.val (.adr L.p), .val (.int m), .no, .no, .no, .no, .no] (⟨u, q⟩ : PenS) = _
    rw [seq_nx (ρ1 := [.val (.adr L.p), .val (.int m), .no, .no, .no, .no, .no]) (s1 := (⟨u, q⟩ : PenS)) (by simp only [runD, startR, xV, xC, xOp, xUn, xT, xAnd, xOr, xNot, xIf, xAndV, xOrV, xNotV, xCh, xNil, xCons, xTup, xLstN, xL, xCa, xF, xF0, noX, up, x1, xIt, xEn, xNo, xPa, xSl, xM1, xSplit, M.bind, M.ret, M.of, then_ok, then_ex, then_bad, yNx, yRet, yAsg, ySeq, yIf, yFor, yPar, yParK, yRaise, gV, gVt, gVc, gVn, dBl, dIn, strD, wipeR, List.getElem?_cons_zero, List.getElem?_cons_succ, List.set_cons_zero, List.set_cons_succ, Option.bind_some, Option.bind_none, Option.map_some, List.length_cons, List.length_nil, List.map_cons, List.map_nil, List.replicate_succ, List.replicate_zero, List.cons_append, List.nil_append, Nat.zero_add, Nat.reduceAdd, Nat.reduceSub, decide_true, Bool.not_true, Bool.not_false, xPen, pa, dGt_int, e1])]
    rw [seq_nx (ρ1 := [.val (.adr L.p), .val (.int m), .no, .val (.int u), .no, .no, .no]) (s1 := (⟨u, q⟩ : PenS)) (by simp only [runD, startR, xV, xC, xOp, xUn, xT, xAnd, xOr, xNot, xIf, xAndV, xOrV, xNotV, xCh, xNil, xCons, xTup, xLstN, xL, xCa, xF, xF0, noX, up, x1, xIt, xEn, xNo, xPa, xSl, xM1, xSplit, M.bind, M.ret, M.of, then_ok, then_ex, then_bad, yNx, yRet, yAsg, ySeq, yIf, yFor, yPar, yParK, yRaise, gV, gVt, gVc, gVn, dBl, dIn, strD, wipeR, List.getElem?_cons_zero, List.getElem?_cons_succ, List.set_cons_zero, List.set_cons_succ, Option.bind_some, Option.bind_none, Option.map_some, List.length_cons, List.length_nil, List.map_cons, List.map_nil, List.replicate_succ, List.replicate_zero, List.cons_append, List.nil_append, Nat.zero_add, Nat.reduceAdd, Nat.reduceSub, decide_true, Bool.not_true, Bool.not_false, xPen, pa])]
    rw [seq_nx (ρ1 := [.val (.adr L.p), .val (.int m), .no, .val (.int u), .no, .no, .no]) (s1 := (⟨u + 1, q⟩ : PenS)) (by simp only [runD, startR, xV, xC, xOp, xUn, xT, xAnd, xOr, xNot, xIf, xAndV, xOrV, xNotV, xCh, xNil, xCons, xTup, xLstN, xL, xCa, xF, xF0, noX, up, x1, xIt, xEn, xNo, xPa, xSl, xM1, xSplit, M.bind, M.ret, M.of, then_ok, then_ex, then_bad, yNx, yRet, yAsg, ySeq, yIf, yFor, yPar, yParK, yRaise, gV, gVt, gVc, gVn, dBl, dIn, strD, wipeR, List.getElem?_cons_zero, List.getElem?_cons_succ, List.set_cons_zero, List.set_cons_succ, Option.bind_some, Option.bind_none, Option.map_some, List.length_cons, List.length_nil, List.map_cons, List.map_nil, List.replicate_succ, List.replicate_zero, List.cons_append, List.nil_append, Nat.zero_add, Nat.reduceAdd, Nat.reduceSub, decide_true, Bool.not_true, Bool.not_false, yPen, pa, dAdd_int, then_ok2])]
    rw [seq_two ev4]
    exact h1
def Us (n : Nat) (s : PenS) : Prop := 0 ≤ s.used ∧ s.used ≤ (n : Int)
theorem Us.more {n m : Nat} {s : PenS} (h : Us n s) (k : n ≤ m) : Us m s := ⟨h.1, by have := h.2; omega⟩
/-- what draws -/
def Drw (L : PenA) (dr : List D → M PenS D) : Prop := ∀ (m : Int), 0 < m ∧ m < 1073741824 → ∀ (n : Nat) (s : PenS), Us n s → n ≤ 1000000 → ∃ (v : Int) (s' : PenS), dr [.adr L.p, .int m] s = .ok (.int v) s' ∧ 0 ≤ v ∧ v < m ∧ Us (n + 1) s'
theorem drw_nat {L : PenA} {dr : List D → M PenS D} (h : Drw L dr) (m : Nat) (hm : 0 < m ∧ m < 1073741824) (n : Nat) (s : PenS) (u : Us n s) (hn : n ≤ 1000000) : ∃ (v : Nat) (s' : PenS), dr [.adr L.p, .int m] s = .ok (.int v) s' ∧ v < m ∧ Us (n + 1) s' := by
  obtain ⟨v, s', h1, h2, h3, h4⟩ := h m ⟨by omega, by omega⟩ n s u hn
  obtain ⟨k, rfl⟩ : ∃ k : Nat, v = k := ⟨v.toNat, by omega⟩
  exact ⟨k, s', h1, by omega, h4⟩
theorem pick_eq {K : PySem.W.Frag} {A : Ad} {L : PenA} {dr : List D → M PenS D} (h : Drw L dr) {xs : List D} (h0 : xs ≠ []) (hl : xs.length ≤ 1000000) {n : Nat} {s : PenS} (u : Us n s) (hn : n ≤ 1000000) :
    ∃ x ∈ xs, ∃ s', runD 2 2 (b_L_pick K A dr) [.adr L.p, .lst xs] s = .ok x s' ∧ Us (n + 1) s' := by
  obtain ⟨v, s', h1, h2, h3⟩ := drw_nat h xs.length ⟨List.length_pos_iff.mpr h0, by omega⟩ n s u hn
  refine ⟨xs[v], List.getElem_mem h2, s', run_rt rfl ?_, h3⟩
  have e : atI xs (v : Int) = some xs[v] := by rw [atI_nat, List.getElem?_eq_getElem h2]
  show (b_L_pick K A dr : Rho → M PenS Out) [.val (.adr L.p), .val (.lst xs)] s = _
  unfold b_L_pick
  simp only [runD, startR, xV, xC, xOp, xUn, xT, xAnd, xOr, xNot, xIf, xAndV, xOrV, xNotV, xCh, xNil, xCons, xTup, xLstN, xL, xCa, xF, xF0, noX, up, x1, xIt, xEn, xNo, xPa, xSl, xM1, xSplit, M.bind, M.ret, M.of, then_ok, then_ex, then_bad, yNx, yRet, yAsg, ySeq, yIf, yFor, yPar, yParK, yRaise, gV, gVt, gVc, gVn, dBl, dIn, strD, wipeR, List.getElem?_cons_zero, List.getElem?_cons_succ, List.set_cons_zero, List.set_cons_succ, Option.bind_some, Option.bind_none, Option.map_some, List.length_cons, List.length_nil, List.map_cons, List.map_nil, List.replicate_succ, List.replicate_zero, List.cons_append, List.nil_append, Nat.zero_add, Nat.reduceAdd, Nat.reduceSub, decide_true, Bool.not_true, Bool.not_false, dLen_lst, h1, dIx_lst, e]
def Pkr (L : PenA) (pk : List D → M PenS D) : Prop := ∀ (xs : List D), xs ≠ [] → xs.length ≤ 1000000 → ∀ (n : Nat) (s : PenS), Us n s → n ≤ 1000000 → ∃ x ∈ xs, ∃ s', pk [.adr L.p, .lst xs] s = .ok x s' ∧ Us (n + 1) s'
theorem pkr_of {K : PySem.W.Frag} {A : Ad} {L : PenA} {dr : List D → M PenS D} (h : Drw L dr) : Pkr L (runD 2 2 (b_L_pick K A dr)) := fun xs h0 hl n s u hn => pick_eq h h0 hl u hn
end Rk01

namespace Rk01
open PySem L2 Fs TL
abbrev clsL (A : Ad) : List Addr := [A.c_BadName, A.c_BadShelf, A.c_BadFlow, A.c_BadNet, A.c_BadPaper, A.c_BadLot, A.c_BadChange, A.c_BadSize, A.c_BadLoad, A.c_BadNumber, A.c_BadOrder, A.c_BadLink, A.c_NoFlow, A.c_NoShelf, A.c_NoStep, A.c_NoStep, A.c_NotMet, A.c_NoPost, A.c_NoRoom, A.c_NoParcel, A.c_NoWant, A.c_Endless, A.c_Unsafe, A.c_Taken, A.c_Nothing, A.c_TooMany, A.c_TooMany, A.c_BadText, A.c_BadText, A.c_BadCommand]
def clsA (A : Ad) (k : Nat) : Addr := (clsL A).getD k 0
def NS : List (List Str) := [["value"], ["value"], ["part"], ["part"], ["part"], ["at"], ["at"], ["shelf"], ["part"], ["value"], ["at"], ["at"], ["name"], ["shelf"], ["shelf", "flow"], ["shelf", "flow"], ["shelf", "flow"], ["post"], ["shelf"], ["number"], ["want"], ["flow"], ["paper"], ["name"], [], ["what", "most"], ["what", "most"], ["line", "word"], ["line", "word"], ["word"]]
def nsOf (k : Nat) : List Str := NS.getD k []
def vsOf (x y : D) (k : Nat) : List D := ([[x], [x], [x], [x], [x], [x], [x], [x], [x], [x], [x], [x], [x], [x], [x, y], [y, x], [x, y], [x], [x], [x], [x], [x], [x], [x], [], [x, y], [y, x], [x, y], [y, x], [x]] : List (List D)).getD k []
abbrev lfL (A : Ad) : List LF := [A.lf_0, A.lf_1, A.lf_2, A.lf_3, A.lf_4, A.lf_5, A.lf_6, A.lf_7, A.lf_8, A.lf_9, A.lf_10, A.lf_11, A.lf_12, A.lf_13, A.lf_14, A.lf_15, A.lf_16, A.lf_17, A.lf_18, A.lf_19, A.lf_20, A.lf_21, A.lf_22, A.lf_23, A.lf_24, A.lf_25, A.lf_26, A.lf_27, A.lf_28, A.lf_29, A.lf_30, A.lf_31, A.lf_32, A.lf_33, A.lf_34, A.lf_35, A.lf_36, A.lf_37, A.lf_38, A.lf_39, A.lf_40, A.lf_41, A.lf_42, A.lf_43, A.lf_44, A.lf_45, A.lf_46, A.lf_47, A.lf_48, A.lf_49, A.lf_50, A.lf_51, A.lf_52, A.lf_53, A.lf_54, A.lf_55, A.lf_56, A.lf_57, A.lf_58, A.lf_59]
def lfA (A : Ad) (k : Nat) : LF := (lfL A).getD k A.lf_0
def NM : List Nat := [0, 1, 2, 3, 4, 5, 6, 7, 8, 9, 10, 11, 12, 13, 14, 14, 16, 17, 18, 19, 20, 21, 22, 23, 24, 25, 25, 27, 27, 29]
def nm (k : Nat) : Nat := NM.getD k 0
def excA (A : Ad) (x y : D) (k : Nat) : D := .exc (clsA A k) (fldsD (nsOf k) (vsOf x y k))
def rowD (A : Ad) (x y : D) (k : Nat) : D := .tup [excA A x y k, .fn (30 + k) (lfA A (30 + k)), .lst (vsOf x y k)]
def rows (A : Ad) (x y : D) : List D := (List.range 30).map (rowD A x y)
def kinds (A : Ad) : List D := (List.range 30).map fun j => .fn j (lfA A j)
/-- what the head tells -/
structure KE (K : PySem.W.Frag) (A : Ad) : Prop where
  sys : SysIn K
  fld : ∀ k, k < 30 → ∀ f ∈ nsOf k, ∀ fs, dXf K f (.exc (clsA A k) fs) = fs.lookup f
  kin : ∀ k, k < 30 → ∀ j, j < 30 → ∀ fs, dIsx K [.exc (clsA A k) fs, .adr (clsA A j)] = some (.bl (decide (nm k = nm j)))
  she : ∀ k, k < 30 → ∀ fs, dIsx K [.exc (clsA A k) fs, .adr A.c_ShelfError] = some (.bl true)
  val : ∀ k, k < 30 → ∀ fs, dIsx K [.exc (clsA A k) fs, .ty "ValueError"] = some (.bl true)
  top : dIsx K [.exc A.c_ShelfError [], .ty "ValueError"] = some (.bl true)
section
variable {S : Type} {K : PySem.W.Frag} {A : Ad}
theorem made_eq (x y : D) (s : S) : runD 2 2 (b_L_made K A) [x, y] s = .ok (.lst (rows A x y)) s := by
  have l0 : lim 0 = true := rfl
  have l1 : lim 1 = true := rfl
  have l2 : lim 2 = true := rfl
  have l3 : lim 3 = true := rfl
  have l30 : lim 30 = true := rfl
  have e_BadName : ∀ x : D, excD' A.c_BadName ["value"] [x] = some (.exc A.c_BadName (fldsD ["value"] [x])) := fun x => rfl
  have e_BadShelf : ∀ x : D, excD' A.c_BadShelf ["value"] [x] = some (.exc A.c_BadShelf (fldsD ["value"] [x])) := fun x => rfl
  have e_BadFlow : ∀ x : D, excD' A.c_BadFlow ["part"] [x] = some (.exc A.c_BadFlow (fldsD ["part"] [x])) := fun x => rfl
  have e_BadNet : ∀ x : D, excD' A.c_BadNet ["part"] [x] = some (.exc A.c_BadNet (fldsD ["part"] [x])) := fun x => rfl
  have e_BadPaper : ∀ x : D, excD' A.c_BadPaper ["part"] [x] = some (.exc A.c_BadPaper (fldsD ["part"] [x])) := fun x => rfl
  have e_BadLot : ∀ x : D, excD' A.c_BadLot ["at"] [x] = some (.exc A.c_BadLot (fldsD ["at"] [x])) := fun x => rfl
  have e_BadChange : ∀ x : D, excD' A.c_BadChange ["at"] [x] = some (.exc A.c_BadChange (fldsD ["at"] [x])) := fun x => rfl
  have e_BadSize : ∀ x : D, excD' A.c_BadSize ["shelf"] [x] = some (.exc A.c_BadSize (fldsD ["shelf"] [x])) := fun x => rfl
  have e_BadLoad : ∀ x : D, excD' A.c_BadLoad ["part"] [x] = some (.exc A.c_BadLoad (fldsD ["part"] [x])) := fun x => rfl
  have e_BadNumber : ∀ x : D, excD' A.c_BadNumber ["value"] [x] = some (.exc A.c_BadNumber (fldsD ["value"] [x])) := fun x => rfl
  have e_BadOrder : ∀ x : D, excD' A.c_BadOrder ["at"] [x] = some (.exc A.c_BadOrder (fldsD ["at"] [x])) := fun x => rfl
  have e_BadLink : ∀ x : D, excD' A.c_BadLink ["at"] [x] = some (.exc A.c_BadLink (fldsD ["at"] [x])) := fun x => rfl
  have e_NoFlow : ∀ x : D, excD' A.c_NoFlow ["name"] [x] = some (.exc A.c_NoFlow (fldsD ["name"] [x])) := fun x => rfl
  have e_NoShelf : ∀ x : D, excD' A.c_NoShelf ["shelf"] [x] = some (.exc A.c_NoShelf (fldsD ["shelf"] [x])) := fun x => rfl
  have e_NoStep : ∀ x y : D, excD' A.c_NoStep ["shelf", "flow"] [x, y] = some (.exc A.c_NoStep (fldsD ["shelf", "flow"] [x, y])) := fun x y => rfl
  have e_NotMet : ∀ x y : D, excD' A.c_NotMet ["shelf", "flow"] [x, y] = some (.exc A.c_NotMet (fldsD ["shelf", "flow"] [x, y])) := fun x y => rfl
  have e_NoPost : ∀ x : D, excD' A.c_NoPost ["post"] [x] = some (.exc A.c_NoPost (fldsD ["post"] [x])) := fun x => rfl
  have e_NoRoom : ∀ x : D, excD' A.c_NoRoom ["shelf"] [x] = some (.exc A.c_NoRoom (fldsD ["shelf"] [x])) := fun x => rfl
  have e_NoParcel : ∀ x : D, excD' A.c_NoParcel ["number"] [x] = some (.exc A.c_NoParcel (fldsD ["number"] [x])) := fun x => rfl
  have e_NoWant : ∀ x : D, excD' A.c_NoWant ["want"] [x] = some (.exc A.c_NoWant (fldsD ["want"] [x])) := fun x => rfl
  have e_Endless : ∀ x : D, excD' A.c_Endless ["flow"] [x] = some (.exc A.c_Endless (fldsD ["flow"] [x])) := fun x => rfl
  have e_Unsafe : ∀ x : D, excD' A.c_Unsafe ["paper"] [x] = some (.exc A.c_Unsafe (fldsD ["paper"] [x])) := fun x => rfl
  have e_Taken : ∀ x : D, excD' A.c_Taken ["name"] [x] = some (.exc A.c_Taken (fldsD ["name"] [x])) := fun x => rfl
  have e_Nothing : excD' A.c_Nothing [] [] = some (.exc A.c_Nothing (fldsD [] [])) := rfl
  have e_TooMany : ∀ x y : D, excD' A.c_TooMany ["what", "most"] [x, y] = some (.exc A.c_TooMany (fldsD ["what", "most"] [x, y])) := fun x y => rfl
  have e_BadText : ∀ x y : D, excD' A.c_BadText ["line", "word"] [x, y] = some (.exc A.c_BadText (fldsD ["line", "word"] [x, y])) := fun x y => rfl
  have e_BadCommand : ∀ x : D, excD' A.c_BadCommand ["word"] [x] = some (.exc A.c_BadCommand (fldsD ["word"] [x])) := fun x => rfl
  have k_1 : ∀ x : D, excK A.c_BadShelf ["value"] ["value"] [x] = some (.exc A.c_BadShelf (fldsD ["value"] [x])) := fun x => rfl
  have k_3 : ∀ x : D, excK A.c_BadNet ["part"] ["part"] [x] = some (.exc A.c_BadNet (fldsD ["part"] [x])) := fun x => rfl
  have k_5 : ∀ x : D, excK A.c_BadLot ["at"] ["at"] [x] = some (.exc A.c_BadLot (fldsD ["at"] [x])) := fun x => rfl
  have k_7 : ∀ x : D, excK A.c_BadSize ["shelf"] ["shelf"] [x] = some (.exc A.c_BadSize (fldsD ["shelf"] [x])) := fun x => rfl
  have k_9 : ∀ x : D, excK A.c_BadNumber ["value"] ["value"] [x] = some (.exc A.c_BadNumber (fldsD ["value"] [x])) := fun x => rfl
  have k_11 : ∀ x : D, excK A.c_BadLink ["at"] ["at"] [x] = some (.exc A.c_BadLink (fldsD ["at"] [x])) := fun x => rfl
  have k_12 : ∀ x : D, excK A.c_NoFlow ["name"] ["name"] [x] = some (.exc A.c_NoFlow (fldsD ["name"] [x])) := fun x => rfl
  have k_15 : ∀ x y : D, excK A.c_NoStep ["shelf", "flow"] ["flow", "shelf"] [x, y] = some (.exc A.c_NoStep (fldsD ["shelf", "flow"] [y, x])) := fun x y => rfl
  have k_16 : ∀ x y : D, excK A.c_NotMet ["shelf", "flow"] ["shelf", "flow"] [x, y] = some (.exc A.c_NotMet (fldsD ["shelf", "flow"] [x, y])) := fun x y => rfl
  have k_18 : ∀ x : D, excK A.c_NoRoom ["shelf"] ["shelf"] [x] = some (.exc A.c_NoRoom (fldsD ["shelf"] [x])) := fun x => rfl
  have k_20 : ∀ x : D, excK A.c_NoWant ["want"] ["want"] [x] = some (.exc A.c_NoWant (fldsD ["want"] [x])) := fun x => rfl
  have k_22 : ∀ x : D, excK A.c_Unsafe ["paper"] ["paper"] [x] = some (.exc A.c_Unsafe (fldsD ["paper"] [x])) := fun x => rfl
  have k_26 : ∀ x y : D, excK A.c_TooMany ["what", "most"] ["most", "what"] [x, y] = some (.exc A.c_TooMany (fldsD ["what", "most"] [y, x])) := fun x y => rfl
  have k_28 : ∀ x y : D, excK A.c_BadText ["line", "word"] ["word", "line"] [x, y] = some (.exc A.c_BadText (fldsD ["line", "word"] [y, x])) := fun x y => rfl
  have k_29 : ∀ x : D, excK A.c_BadCommand ["word"] ["word"] [x] = some (.exc A.c_BadCommand (fldsD ["word"] [x])) := fun x => rfl
  refine run_rt rfl ?_
  show (b_L_made K A : Rho → M S Out) [.val x, .val y] s = _
  unfold b_L_made
  simp only [runD, startR, xV, xC, xOp, xUn, xT, xAnd, xOr, xNot, xIf, xAndV, xOrV, xNotV, xCh, xNil, xCons, xTup, xLstN, xL, xCa, xF, xF0, noX, up, x1, xIt, xEn, xNo, xPa, xSl, xM1, xSplit, M.bind, M.ret, M.of, then_ok, then_ex, then_bad, yNx, yRet, yAsg, ySeq, yIf, yFor, yPar, yParK, yRaise, gV, gVt, gVc, gVn, dBl, dIn, strD, wipeR, List.getElem?_cons_zero, List.getElem?_cons_succ, List.set_cons_zero, List.set_cons_succ, Option.bind_some, Option.bind_none, Option.map_some, List.length_cons, List.length_nil, List.map_cons, List.map_nil, List.replicate_succ, List.replicate_zero, List.cons_append, List.nil_append, Nat.zero_add, Nat.reduceAdd, Nat.reduceSub, decide_true, Bool.not_true, Bool.not_false, xXv, xXvK, l0, l1, l2, l3, l30, then_ok2, e_BadName, e_BadShelf, e_BadFlow, e_BadNet, e_BadPaper, e_BadLot, e_BadChange, e_BadSize, e_BadLoad, e_BadNumber, e_BadOrder, e_BadLink, e_NoFlow, e_NoShelf, e_NoStep, e_NotMet, e_NoPost, e_NoRoom, e_NoParcel, e_NoWant, e_Endless, e_Unsafe, e_Taken, e_Nothing, e_TooMany, e_BadText, e_BadCommand, k_1, k_3, k_5, k_7, k_9, k_11, k_12, k_15, k_16, k_18, k_20, k_22, k_26, k_28, k_29]
  rfl
theorem kinds_eq (s : S) : runD 0 0 (b_L_kinds K A) [] s = .ok (.lst (kinds A)) s := by
  have l30 : lim 30 = true := rfl
  refine run_rt rfl ?_
  show (b_L_kinds K A : Rho → M S Out) [] s = _
  unfold b_L_kinds
  simp only [runD, startR, xV, xC, xOp, xUn, xT, xAnd, xOr, xNot, xIf, xAndV, xOrV, xNotV, xCh, xNil, xCons, xTup, xLstN, xL, xCa, xF, xF0, noX, up, x1, xIt, xEn, xNo, xPa, xSl, xM1, xSplit, M.bind, M.ret, M.of, then_ok, then_ex, then_bad, yNx, yRet, yAsg, ySeq, yIf, yFor, yPar, yParK, yRaise, gV, gVt, gVc, gVn, dBl, dIn, strD, wipeR, List.getElem?_cons_zero, List.getElem?_cons_succ, List.set_cons_zero, List.set_cons_succ, Option.bind_some, Option.bind_none, Option.map_some, List.length_cons, List.length_nil, List.map_cons, List.map_nil, List.replicate_succ, List.replicate_zero, List.cons_append, List.nil_append, Nat.zero_add, Nat.reduceAdd, Nat.reduceSub, decide_true, Bool.not_true, Bool.not_false, l30, then_ok2]
  rfl
theorem kin_0 {d : D} {b : Bool} (h : dIsx K [d, .adr A.c_BadName] = some (.bl b)) (s : S) : callL (lm K A) (.fn 0 A.lf_0) [d] s = .ok (.bl b) s := by
  rw [callL_at (m := ml_0 K A) rfl]
  unfold ml_0
  refine run_rt rfl ?_
  show yRet _ [.val d] s = _
  simp only [runD, startR, xV, xC, xOp, xUn, xT, xAnd, xOr, xNot, xIf, xAndV, xOrV, xNotV, xCh, xNil, xCons, xTup, xLstN, xL, xCa, xF, xF0, noX, up, x1, xIt, xEn, xNo, xPa, xSl, xM1, xSplit, M.bind, M.ret, M.of, then_ok, then_ex, then_bad, yNx, yRet, yAsg, ySeq, yIf, yFor, yPar, yParK, yRaise, gV, gVt, gVc, gVn, dBl, dIn, strD, wipeR, List.getElem?_cons_zero, List.getElem?_cons_succ, List.set_cons_zero, List.set_cons_succ, Option.bind_some, Option.bind_none, Option.map_some, List.length_cons, List.length_nil, List.map_cons, List.map_nil, List.replicate_succ, List.replicate_zero, List.cons_append, List.nil_append, Nat.zero_add, Nat.reduceAdd, Nat.reduceSub, decide_true, Bool.not_true, Bool.not_false, h, then_ok2]
theorem kin_1 {d : D} {b : Bool} (h : dIsx K [d, .adr A.c_BadShelf] = some (.bl b)) (s : S) : callL (lm K A) (.fn 1 A.lf_1) [d] s = .ok (.bl b) s := by
  rw [callL_at (m := ml_1 K A) rfl]
  unfold ml_1
  refine run_rt rfl ?_
  show yRet _ [.val d] s = _
  simp only [runD, startR, xV, xC, xOp, xUn, xT, xAnd, xOr, xNot, xIf, xAndV, xOrV, xNotV, xCh, xNil, xCons, xTup, xLstN, xL, xCa, xF, xF0, noX, up, x1, xIt, xEn, xNo, xPa, xSl, xM1, xSplit, M.bind, M.ret, M.of, then_ok, then_ex, then_bad, yNx, yRet, yAsg, ySeq, yIf, yFor, yPar, yParK, yRaise, gV, gVt, gVc, gVn, dBl, dIn, strD, wipeR, List.getElem?_cons_zero, List.getElem?_cons_succ, List.set_cons_zero, List.set_cons_succ, Option.bind_some, Option.bind_none, Option.map_some, List.length_cons, List.length_nil, List.map_cons, List.map_nil, List.replicate_succ, List.replicate_zero, List.cons_append, List.nil_append, Nat.zero_add, Nat.reduceAdd, Nat.reduceSub, decide_true, Bool.not_true, Bool.not_false, h, then_ok2]
theorem kin_2 {d : D} {b : Bool} (h : dIsx K [d, .adr A.c_BadFlow] = some (.bl b)) (s : S) : callL (lm K A) (.fn 2 A.lf_2) [d] s = .ok (.bl b) s := by
  rw [callL_at (m := ml_2 K A) rfl]
  unfold ml_2
  refine run_rt rfl ?_
  show yRet _ [.val d] s = _
  simp only [runD, startR, xV, xC, xOp, xUn, xT, xAnd, xOr, xNot, xIf, xAndV, xOrV, xNotV, xCh, xNil, xCons, xTup, xLstN, xL, xCa, xF, xF0, noX, up, x1, xIt, xEn, xNo, xPa, xSl, xM1, xSplit, M.bind, M.ret, M.of, then_ok, then_ex, then_bad, yNx, yRet, yAsg, ySeq, yIf, yFor, yPar, yParK, yRaise, gV, gVt, gVc, gVn, dBl, dIn, strD, wipeR, List.getElem?_cons_zero, List.getElem?_cons_succ, List.set_cons_zero, List.set_cons_succ, Option.bind_some, Option.bind_none, Option.map_some, List.length_cons, List.length_nil, List.map_cons, List.map_nil, List.replicate_succ, List.replicate_zero, List.cons_append, List.nil_append, Nat.zero_add, Nat.reduceAdd, Nat.reduceSub, decide_true, Bool.not_true, Bool.not_false, h, then_ok2]
theorem kin_3 {d : D} {b : Bool} (h : dIsx K [d, .adr A.c_BadNet] = some (.bl b)) (s : S) : callL (lm K A) (.fn 3 A.lf_3) [d] s = .ok (.bl b) s := by
  rw [callL_at (m := ml_3 K A) rfl]
  unfold ml_3
  refine run_rt rfl ?_
  show yRet _ [.val d] s = _
  simp only [runD, startR, xV, xC, xOp, xUn, xT, xAnd, xOr, xNot, xIf, xAndV, xOrV, xNotV, xCh, xNil, xCons, xTup, xLstN, xL, xCa, xF, xF0, noX, up, x1, xIt, xEn, xNo, xPa, xSl, xM1, xSplit, M.bind, M.ret, M.of, then_ok, then_ex, then_bad, yNx, yRet, yAsg, ySeq, yIf, yFor, yPar, yParK, yRaise, gV, gVt, gVc, gVn, dBl, dIn, strD, wipeR, List.getElem?_cons_zero, List.getElem?_cons_succ, List.set_cons_zero, List.set_cons_succ, Option.bind_some, Option.bind_none, Option.map_some, List.length_cons, List.length_nil, List.map_cons, List.map_nil, List.replicate_succ, List.replicate_zero, List.cons_append, List.nil_append, Nat.zero_add, Nat.reduceAdd, Nat.reduceSub, decide_true, Bool.not_true, Bool.not_false, h, then_ok2]
theorem kin_4 {d : D} {b : Bool} (h : dIsx K [d, .adr A.c_BadPaper] = some (.bl b)) (s : S) : callL (lm K A) (.fn 4 A.lf_4) [d] s = .ok (.bl b) s := by
  rw [callL_at (m := ml_4 K A) rfl]
  unfold ml_4
  refine run_rt rfl ?_
  show yRet _ [.val d] s = _
  simp only [runD, startR, xV, xC, xOp, xUn, xT, xAnd, xOr, xNot, xIf, xAndV, xOrV, xNotV, xCh, xNil, xCons, xTup, xLstN, xL, xCa, xF, xF0, noX, up, x1, xIt, xEn, xNo, xPa, xSl, xM1, xSplit, M.bind, M.ret, M.of, then_ok, then_ex, then_bad, yNx, yRet, yAsg, ySeq, yIf, yFor, yPar, yParK, yRaise, gV, gVt, gVc, gVn, dBl, dIn, strD, wipeR, List.getElem?_cons_zero, List.getElem?_cons_succ, List.set_cons_zero, List.set_cons_succ, Option.bind_some, Option.bind_none, Option.map_some, List.length_cons, List.length_nil, List.map_cons, List.map_nil, List.replicate_succ, List.replicate_zero, List.cons_append, List.nil_append, Nat.zero_add, Nat.reduceAdd, Nat.reduceSub, decide_true, Bool.not_true, Bool.not_false, h, then_ok2]
theorem kin_5 {d : D} {b : Bool} (h : dIsx K [d, .adr A.c_BadLot] = some (.bl b)) (s : S) : callL (lm K A) (.fn 5 A.lf_5) [d] s = .ok (.bl b) s := by
  rw [callL_at (m := ml_5 K A) rfl]
  unfold ml_5
  refine run_rt rfl ?_
  show yRet _ [.val d] s = _
  simp only [runD, startR, xV, xC, xOp, xUn, xT, xAnd, xOr, xNot, xIf, xAndV, xOrV, xNotV, xCh, xNil, xCons, xTup, xLstN, xL, xCa, xF, xF0, noX, up, x1, xIt, xEn, xNo, xPa, xSl, xM1, xSplit, M.bind, M.ret, M.of, then_ok, then_ex, then_bad, yNx, yRet, yAsg, ySeq, yIf, yFor, yPar, yParK, yRaise, gV, gVt, gVc, gVn, dBl, dIn, strD, wipeR, List.getElem?_cons_zero, List.getElem?_cons_succ, List.set_cons_zero, List.set_cons_succ, Option.bind_some, Option.bind_none, Option.map_some, List.length_cons, List.length_nil, List.map_cons, List.map_nil, List.replicate_succ, List.replicate_zero, List.cons_append, List.nil_append, Nat.zero_add, Nat.reduceAdd, Nat.reduceSub, decide_true, Bool.not_true, Bool.not_false, h, then_ok2]
theorem kin_6 {d : D} {b : Bool} (h : dIsx K [d, .adr A.c_BadChange] = some (.bl b)) (s : S) : callL (lm K A) (.fn 6 A.lf_6) [d] s = .ok (.bl b) s := by
  rw [callL_at (m := ml_6 K A) rfl]
  unfold ml_6
  refine run_rt rfl ?_
  show yRet _ [.val d] s = _
  simp only [runD, startR, xV, xC, xOp, xUn, xT, xAnd, xOr, xNot, xIf, xAndV, xOrV, xNotV, xCh, xNil, xCons, xTup, xLstN, xL, xCa, xF, xF0, noX, up, x1, xIt, xEn, xNo, xPa, xSl, xM1, xSplit, M.bind, M.ret, M.of, then_ok, then_ex, then_bad, yNx, yRet, yAsg, ySeq, yIf, yFor, yPar, yParK, yRaise, gV, gVt, gVc, gVn, dBl, dIn, strD, wipeR, List.getElem?_cons_zero, List.getElem?_cons_succ, List.set_cons_zero, List.set_cons_succ, Option.bind_some, Option.bind_none, Option.map_some, List.length_cons, List.length_nil, List.map_cons, List.map_nil, List.replicate_succ, List.replicate_zero, List.cons_append, List.nil_append, Nat.zero_add, Nat.reduceAdd, Nat.reduceSub, decide_true, Bool.not_true, Bool.not_false, h, then_ok2]
theorem kin_7 {d : D} {b : Bool} (h : dIsx K [d, .adr A.c_BadSize] = some (.bl b)) (s : S) : callL (lm K A) (.fn 7 A.lf_7) [d] s = .ok (.bl b) s := by
  rw [callL_at (m := ml_7 K A) rfl]
  unfold ml_7
  refine run_rt rfl ?_
  show yRet _ [.val d] s = _
  simp only [runD, startR, xV, xC, xOp, xUn, xT, xAnd, xOr, xNot, xIf, xAndV, xOrV, xNotV, xCh, xNil, xCons, xTup, xLstN, xL, xCa, xF, xF0, noX, up, x1, xIt, xEn, xNo, xPa, xSl, xM1, xSplit, M.bind, M.ret, M.of, then_ok, then_ex, then_bad, yNx, yRet, yAsg, ySeq, yIf, yFor, yPar, yParK, yRaise, gV, gVt, gVc, gVn, dBl, dIn, strD, wipeR, List.getElem?_cons_zero, List.getElem?_cons_succ, List.set_cons_zero, List.set_cons_succ, Option.bind_some, Option.bind_none, Option.map_some, List.length_cons, List.length_nil, List.map_cons, List.map_nil, List.replicate_succ, List.replicate_zero, List.cons_append, List.nil_append, Nat.zero_add, Nat.reduceAdd, Nat.reduceSub, decide_true, Bool.not_true, Bool.not_false, h, then_ok2]
theorem kin_8 {d : D} {b : Bool} (h : dIsx K [d, .adr A.c_BadLoad] = some (.bl b)) (s : S) : callL (lm K A) (.fn 8 A.lf_8) [d] s = .ok (.bl b) s := by
  rw [callL_at (m := ml_8 K A) rfl]
  unfold ml_8
  refine run_rt rfl ?_
  show yRet _ [.val d] s = _
  simp only [runD, startR, xV, xC, xOp, xUn, xT, xAnd, xOr, xNot, xIf, xAndV, xOrV, xNotV, xCh, xNil, xCons, xTup, xLstN, xL, xCa, xF, xF0, noX, up, x1, xIt, xEn, xNo, xPa, xSl, xM1, xSplit, M.bind, M.ret, M.of, then_ok, then_ex, then_bad, yNx, yRet, yAsg, ySeq, yIf, yFor, yPar, yParK, yRaise, gV, gVt, gVc, gVn, dBl, dIn, strD, wipeR, List.getElem?_cons_zero, List.getElem?_cons_succ, List.set_cons_zero, List.set_cons_succ, Option.bind_some, Option.bind_none, Option.map_some, List.length_cons, List.length_nil, List.map_cons, List.map_nil, List.replicate_succ, List.replicate_zero, List.cons_append, List.nil_append, Nat.zero_add, Nat.reduceAdd, Nat.reduceSub, decide_true, Bool.not_true, Bool.not_false, h, then_ok2]
theorem kin_9 {d : D} {b : Bool} (h : dIsx K [d, .adr A.c_BadNumber] = some (.bl b)) (s : S) : callL (lm K A) (.fn 9 A.lf_9) [d] s = .ok (.bl b) s := by
  rw [callL_at (m := ml_9 K A) rfl]
  unfold ml_9
  refine run_rt rfl ?_
  show yRet _ [.val d] s = _
  simp only [runD, startR, xV, xC, xOp, xUn, xT, xAnd, xOr, xNot, xIf, xAndV, xOrV, xNotV, xCh, xNil, xCons, xTup, xLstN, xL, xCa, xF, xF0, noX, up, x1, xIt, xEn, xNo, xPa, xSl, xM1, xSplit, M.bind, M.ret, M.of, then_ok, then_ex, then_bad, yNx, yRet, yAsg, ySeq, yIf, yFor, yPar, yParK, yRaise, gV, gVt, gVc, gVn, dBl, dIn, strD, wipeR, List.getElem?_cons_zero, List.getElem?_cons_succ, List.set_cons_zero, List.set_cons_succ, Option.bind_some, Option.bind_none, Option.map_some, List.length_cons, List.length_nil, List.map_cons, List.map_nil, List.replicate_succ, List.replicate_zero, List.cons_append, List.nil_append, Nat.zero_add, Nat.reduceAdd, Nat.reduceSub, decide_true, Bool.not_true, Bool.not_false, h, then_ok2]
theorem kin_10 {d : D} {b : Bool} (h : dIsx K [d, .adr A.c_BadOrder] = some (.bl b)) (s : S) : callL (lm K A) (.fn 10 A.lf_10) [d] s = .ok (.bl b) s := by
  rw [callL_at (m := ml_10 K A) rfl]
  unfold ml_10
  refine run_rt rfl ?_
  show yRet _ [.val d] s = _
  simp only [runD, startR, xV, xC, xOp, xUn, xT, xAnd, xOr, xNot, xIf, xAndV, xOrV, xNotV, xCh, xNil, xCons, xTup, xLstN, xL, xCa, xF, xF0, noX, up, x1, xIt, xEn, xNo, xPa, xSl, xM1, xSplit, M.bind, M.ret, M.of, then_ok, then_ex, then_bad, yNx, yRet, yAsg, ySeq, yIf, yFor, yPar, yParK, yRaise, gV, gVt, gVc, gVn, dBl, dIn, strD, wipeR, List.getElem?_cons_zero, List.getElem?_cons_succ, List.set_cons_zero, List.set_cons_succ, Option.bind_some, Option.bind_none, Option.map_some, List.length_cons, List.length_nil, List.map_cons, List.map_nil, List.replicate_succ, List.replicate_zero, List.cons_append, List.nil_append, Nat.zero_add, Nat.reduceAdd, Nat.reduceSub, decide_true, Bool.not_true, Bool.not_false, h, then_ok2]
theorem kin_11 {d : D} {b : Bool} (h : dIsx K [d, .adr A.c_BadLink] = some (.bl b)) (s : S) : callL (lm K A) (.fn 11 A.lf_11) [d] s = .ok (.bl b) s := by
  rw [callL_at (m := ml_11 K A) rfl]
  unfold ml_11
  refine run_rt rfl ?_
  show yRet _ [.val d] s = _
  simp only [runD, startR, xV, xC, xOp, xUn, xT, xAnd, xOr, xNot, xIf, xAndV, xOrV, xNotV, xCh, xNil, xCons, xTup, xLstN, xL, xCa, xF, xF0, noX, up, x1, xIt, xEn, xNo, xPa, xSl, xM1, xSplit, M.bind, M.ret, M.of, then_ok, then_ex, then_bad, yNx, yRet, yAsg, ySeq, yIf, yFor, yPar, yParK, yRaise, gV, gVt, gVc, gVn, dBl, dIn, strD, wipeR, List.getElem?_cons_zero, List.getElem?_cons_succ, List.set_cons_zero, List.set_cons_succ, Option.bind_some, Option.bind_none, Option.map_some, List.length_cons, List.length_nil, List.map_cons, List.map_nil, List.replicate_succ, List.replicate_zero, List.cons_append, List.nil_append, Nat.zero_add, Nat.reduceAdd, Nat.reduceSub, decide_true, Bool.not_true, Bool.not_false, h, then_ok2]
theorem kin_12 {d : D} {b : Bool} (h : dIsx K [d, .adr A.c_NoFlow] = some (.bl b)) (s : S) : callL (lm K A) (.fn 12 A.lf_12) [d] s = .ok (.bl b) s := by
  rw [callL_at (m := ml_12 K A) rfl]
  unfold ml_12
  refine run_rt rfl ?_
  show yRet _ [.val d] s = _
  simp only [runD, startR, xV, xC, xOp, xUn, xT, xAnd, xOr, xNot, xIf, xAndV, xOrV, xNotV, xCh, xNil, xCons, xTup, xLstN, xL, xCa, xF, xF0, noX, up, x1, xIt, xEn, xNo, xPa, xSl, xM1, xSplit, M.bind, M.ret, M.of, then_ok, then_ex, then_bad, yNx, yRet, yAsg, ySeq, yIf, yFor, yPar, yParK, yRaise, gV, gVt, gVc, gVn, dBl, dIn, strD, wipeR, List.getElem?_cons_zero, List.getElem?_cons_succ, List.set_cons_zero, List.set_cons_succ, Option.bind_some, Option.bind_none, Option.map_some, List.length_cons, List.length_nil, List.map_cons, List.map_nil, List.replicate_succ, List.replicate_zero, List.cons_append, List.nil_append, Nat.zero_add, Nat.reduceAdd, Nat.reduceSub, decide_true, Bool.not_true, Bool.not_false, h, then_ok2]
theorem kin_13 {d : D} {b : Bool} (h : dIsx K [d, .adr A.c_NoShelf] = some (.bl b)) (s : S) : callL (lm K A) (.fn 13 A.lf_13) [d] s = .ok (.bl b) s := by
  rw [callL_at (m := ml_13 K A) rfl]
  unfold ml_13
  refine run_rt rfl ?_
  show yRet _ [.val d] s = _
  simp only [runD, startR, xV, xC, xOp, xUn, xT, xAnd, xOr, xNot, xIf, xAndV, xOrV, xNotV, xCh, xNil, xCons, xTup, xLstN, xL, xCa, xF, xF0, noX, up, x1, xIt, xEn, xNo, xPa, xSl, xM1, xSplit, M.bind, M.ret, M.of, then_ok, then_ex, then_bad, yNx, yRet, yAsg, ySeq, yIf, yFor, yPar, yParK, yRaise, gV, gVt, gVc, gVn, dBl, dIn, strD, wipeR, List.getElem?_cons_zero, List.getElem?_cons_succ, List.set_cons_zero, List.set_cons_succ, Option.bind_some, Option.bind_none, Option.map_some, List.length_cons, List.length_nil, List.map_cons, List.map_nil, List.replicate_succ, List.replicate_zero, List.cons_append, List.nil_append, Nat.zero_add, Nat.reduceAdd, Nat.reduceSub, decide_true, Bool.not_true, Bool.not_false, h, then_ok2]
theorem kin_14 {d : D} {b : Bool} (h : dIsx K [d, .adr A.c_NoStep] = some (.bl b)) (s : S) : callL (lm K A) (.fn 14 A.lf_14) [d] s = .ok (.bl b) s := by
  rw [callL_at (m := ml_14 K A) rfl]
  unfold ml_14
  refine run_rt rfl ?_
  show yRet _ [.val d] s = _
  simp only [runD, startR, xV, xC, xOp, xUn, xT, xAnd, xOr, xNot, xIf, xAndV, xOrV, xNotV, xCh, xNil, xCons, xTup, xLstN, xL, xCa, xF, xF0, noX, up, x1, xIt, xEn, xNo, xPa, xSl, xM1, xSplit, M.bind, M.ret, M.of, then_ok, then_ex, then_bad, yNx, yRet, yAsg, ySeq, yIf, yFor, yPar, yParK, yRaise, gV, gVt, gVc, gVn, dBl, dIn, strD, wipeR, List.getElem?_cons_zero, List.getElem?_cons_succ, List.set_cons_zero, List.set_cons_succ, Option.bind_some, Option.bind_none, Option.map_some, List.length_cons, List.length_nil, List.map_cons, List.map_nil, List.replicate_succ, List.replicate_zero, List.cons_append, List.nil_append, Nat.zero_add, Nat.reduceAdd, Nat.reduceSub, decide_true, Bool.not_true, Bool.not_false, h, then_ok2]
theorem kin_15 {d : D} {b : Bool} (h : dIsx K [d, .adr A.c_NoStep] = some (.bl b)) (s : S) : callL (lm K A) (.fn 15 A.lf_15) [d] s = .ok (.bl b) s := by
  rw [callL_at (m := ml_15 K A) rfl]
  unfold ml_15
  refine run_rt rfl ?_
  show yRet _ [.val d] s = _
  simp only [runD, startR, xV, xC, xOp, xUn, xT, xAnd, xOr, xNot, xIf, xAndV, xOrV, xNotV, xCh, xNil, xCons, xTup, xLstN, xL, xCa, xF, xF0, noX, up, x1, xIt, xEn, xNo, xPa, xSl, xM1, xSplit, M.bind, M.ret, M.of, then_ok, then_ex, then_bad, yNx, yRet, yAsg, ySeq, yIf, yFor, yPar, yParK, yRaise, gV, gVt, gVc, gVn, dBl, dIn, strD, wipeR, List.getElem?_cons_zero, List.getElem?_cons_succ, List.set_cons_zero, List.set_cons_succ, Option.bind_some, Option.bind_none, Option.map_some, List.length_cons, List.length_nil, List.map_cons, List.map_nil, List.replicate_succ, List.replicate_zero, List.cons_append, List.nil_append, Nat.zero_add, Nat.reduceAdd, Nat.reduceSub, decide_true, Bool.not_true, Bool.not_false, h, then_ok2]
theorem kin_16 {d : D} {b : Bool} (h : dIsx K [d, .adr A.c_NotMet] = some (.bl b)) (s : S) : callL (lm K A) (.fn 16 A.lf_16) [d] s = .ok (.bl b) s := by
  rw [callL_at (m := ml_16 K A) rfl]
  unfold ml_16
  refine run_rt rfl ?_
  show yRet _ [.val d] s = _
  simp only [runD, startR, xV, xC, xOp, xUn, xT, xAnd, xOr, xNot, xIf, xAndV, xOrV, xNotV, xCh, xNil, xCons, xTup, xLstN, xL, xCa, xF, xF0, noX, up, x1, xIt, xEn, xNo, xPa, xSl, xM1, xSplit, M.bind, M.ret, M.of, then_ok, then_ex, then_bad, yNx, yRet, yAsg, ySeq, yIf, yFor, yPar, yParK, yRaise, gV, gVt, gVc, gVn, dBl, dIn, strD, wipeR, List.getElem?_cons_zero, List.getElem?_cons_succ, List.set_cons_zero, List.set_cons_succ, Option.bind_some, Option.bind_none, Option.map_some, List.length_cons, List.length_nil, List.map_cons, List.map_nil, List.replicate_succ, List.replicate_zero, List.cons_append, List.nil_append, Nat.zero_add, Nat.reduceAdd, Nat.reduceSub, decide_true, Bool.not_true, Bool.not_false, h, then_ok2]
theorem kin_17 {d : D} {b : Bool} (h : dIsx K [d, .adr A.c_NoPost] = some (.bl b)) (s : S) : callL (lm K A) (.fn 17 A.lf_17) [d] s = .ok (.bl b) s := by
  rw [callL_at (m := ml_17 K A) rfl]
  unfold ml_17
  refine run_rt rfl ?_
  show yRet _ [.val d] s = _
  simp only [runD, startR, xV, xC, xOp, xUn, xT, xAnd, xOr, xNot, xIf, xAndV, xOrV, xNotV, xCh, xNil, xCons, xTup, xLstN, xL, xCa, xF, xF0, noX, up, x1, xIt, xEn, xNo, xPa, xSl, xM1, xSplit, M.bind, M.ret, M.of, then_ok, then_ex, then_bad, yNx, yRet, yAsg, ySeq, yIf, yFor, yPar, yParK, yRaise, gV, gVt, gVc, gVn, dBl, dIn, strD, wipeR, List.getElem?_cons_zero, List.getElem?_cons_succ, List.set_cons_zero, List.set_cons_succ, Option.bind_some, Option.bind_none, Option.map_some, List.length_cons, List.length_nil, List.map_cons, List.map_nil, List.replicate_succ, List.replicate_zero, List.cons_append, List.nil_append, Nat.zero_add, Nat.reduceAdd, Nat.reduceSub, decide_true, Bool.not_true, Bool.not_false, h, then_ok2]
theorem kin_18 {d : D} {b : Bool} (h : dIsx K [d, .adr A.c_NoRoom] = some (.bl b)) (s : S) : callL (lm K A) (.fn 18 A.lf_18) [d] s = .ok (.bl b) s := by
  rw [callL_at (m := ml_18 K A) rfl]
  unfold ml_18
  refine run_rt rfl ?_
  show yRet _ [.val d] s = _
  simp only [runD, startR, xV, xC, xOp, xUn, xT, xAnd, xOr, xNot, xIf, xAndV, xOrV, xNotV, xCh, xNil, xCons, xTup, xLstN, xL, xCa, xF, xF0, noX, up, x1, xIt, xEn, xNo, xPa, xSl, xM1, xSplit, M.bind, M.ret, M.of, then_ok, then_ex, then_bad, yNx, yRet, yAsg, ySeq, yIf, yFor, yPar, yParK, yRaise, gV, gVt, gVc, gVn, dBl, dIn, strD, wipeR, List.getElem?_cons_zero, List.getElem?_cons_succ, List.set_cons_zero, List.set_cons_succ, Option.bind_some, Option.bind_none, Option.map_some, List.length_cons, List.length_nil, List.map_cons, List.map_nil, List.replicate_succ, List.replicate_zero, List.cons_append, List.nil_append, Nat.zero_add, Nat.reduceAdd, Nat.reduceSub, decide_true, Bool.not_true, Bool.not_false, h, then_ok2]
theorem kin_19 {d : D} {b : Bool} (h : dIsx K [d, .adr A.c_NoParcel] = some (.bl b)) (s : S) : callL (lm K A) (.fn 19 A.lf_19) [d] s = .ok (.bl b) s := by
  rw [callL_at (m := ml_19 K A) rfl]
  unfold ml_19
  refine run_rt rfl ?_
  show yRet _ [.val d] s = _
  simp only [runD, startR, xV, xC, xOp, xUn, xT, xAnd, xOr, xNot, xIf, xAndV, xOrV, xNotV, xCh, xNil, xCons, xTup, xLstN, xL, xCa, xF, xF0, noX, up, x1, xIt, xEn, xNo, xPa, xSl, xM1, xSplit, M.bind, M.ret, M.of, then_ok, then_ex, then_bad, yNx, yRet, yAsg, ySeq, yIf, yFor, yPar, yParK, yRaise, gV, gVt, gVc, gVn, dBl, dIn, strD, wipeR, List.getElem?_cons_zero, List.getElem?_cons_succ, List.set_cons_zero, List.set_cons_succ, Option.bind_some, Option.bind_none, Option.map_some, List.length_cons, List.length_nil, List.map_cons, List.map_nil, List.replicate_succ, List.replicate_zero, List.cons_append, List.nil_append, Nat.zero_add, Nat.reduceAdd, Nat.reduceSub, decide_true, Bool.not_true, Bool.not_false, h, then_ok2]
theorem kin_20 {d : D} {b : Bool} (h : dIsx K [d, .adr A.c_NoWant] = some (.bl b)) (s : S) : callL (lm K A) (.fn 20 A.lf_20) [d] s = .ok (.bl b) s := by
  rw [callL_at (m := ml_20 K A) rfl]
  unfold ml_20
  refine run_rt rfl ?_
  show yRet _ [.val d] s = _
  simp only [runD, startR, xV, xC, xOp, xUn, xT, xAnd, xOr, xNot, xIf, xAndV, xOrV, xNotV, xCh, xNil, xCons, xTup, xLstN, xL, xCa, xF, xF0, noX, up, x1, xIt, xEn, xNo, xPa, xSl, xM1, xSplit, M.bind, M.ret, M.of, then_ok, then_ex, then_bad, yNx, yRet, yAsg, ySeq, yIf, yFor, yPar, yParK, yRaise, gV, gVt, gVc, gVn, dBl, dIn, strD, wipeR, List.getElem?_cons_zero, List.getElem?_cons_succ, List.set_cons_zero, List.set_cons_succ, Option.bind_some, Option.bind_none, Option.map_some, List.length_cons, List.length_nil, List.map_cons, List.map_nil, List.replicate_succ, List.replicate_zero, List.cons_append, List.nil_append, Nat.zero_add, Nat.reduceAdd, Nat.reduceSub, decide_true, Bool.not_true, Bool.not_false, h, then_ok2]
theorem kin_21 {d : D} {b : Bool} (h : dIsx K [d, .adr A.c_Endless] = some (.bl b)) (s : S) : callL (lm K A) (.fn 21 A.lf_21) [d] s = .ok (.bl b) s := by
  rw [callL_at (m := ml_21 K A) rfl]
  unfold ml_21
  refine run_rt rfl ?_
  show yRet _ [.val d] s = _
  simp only [runD, startR, xV, xC, xOp, xUn, xT, xAnd, xOr, xNot, xIf, xAndV, xOrV, xNotV, xCh, xNil, xCons, xTup, xLstN, xL, xCa, xF, xF0, noX, up, x1, xIt, xEn, xNo, xPa, xSl, xM1, xSplit, M.bind, M.ret, M.of, then_ok, then_ex, then_bad, yNx, yRet, yAsg, ySeq, yIf, yFor, yPar, yParK, yRaise, gV, gVt, gVc, gVn, dBl, dIn, strD, wipeR, List.getElem?_cons_zero, List.getElem?_cons_succ, List.set_cons_zero, List.set_cons_succ, Option.bind_some, Option.bind_none, Option.map_some, List.length_cons, List.length_nil, List.map_cons, List.map_nil, List.replicate_succ, List.replicate_zero, List.cons_append, List.nil_append, Nat.zero_add, Nat.reduceAdd, Nat.reduceSub, decide_true, Bool.not_true, Bool.not_false, h, then_ok2]
theorem kin_22 {d : D} {b : Bool} (h : dIsx K [d, .adr A.c_Unsafe] = some (.bl b)) (s : S) : callL (lm K A) (.fn 22 A.lf_22) [d] s = .ok (.bl b) s := by
  rw [callL_at (m := ml_22 K A) rfl]
  unfold ml_22
  refine run_rt rfl ?_
  show yRet _ [.val d] s = _
  simp only [runD, startR, xV, xC, xOp, xUn, xT, xAnd, xOr, xNot, xIf, xAndV, xOrV, xNotV, xCh, xNil, xCons, xTup, xLstN, xL, xCa, xF, xF0, noX, up, x1, xIt, xEn, xNo, xPa, xSl, xM1, xSplit, M.bind, M.ret, M.of, then_ok, then_ex, then_bad, yNx, yRet, yAsg, ySeq, yIf, yFor, yPar, yParK, yRaise, gV, gVt, gVc, gVn, dBl, dIn, strD, wipeR, List.getElem?_cons_zero, List.getElem?_cons_succ, List.set_cons_zero, List.set_cons_succ, Option.bind_some, Option.bind_none, Option.map_some, List.length_cons, List.length_nil, List.map_cons, List.map_nil, List.replicate_succ, List.replicate_zero, List.cons_append, List.nil_append, Nat.zero_add, Nat.reduceAdd, Nat.reduceSub, decide_true, Bool.not_true, Bool.not_false, h, then_ok2]
theorem kin_23 {d : D} {b : Bool} (h : dIsx K [d, .adr A.c_Taken] = some (.bl b)) (s : S) : callL (lm K A) (.fn 23 A.lf_23) [d] s = .ok (.bl b) s := by
  rw [callL_at (m := ml_23 K A) rfl]
  unfold ml_23
  refine run_rt rfl ?_
  show yRet _ [.val d] s = _
  simp only [runD, startR, xV, xC, xOp, xUn, xT, xAnd, xOr, xNot, xIf, xAndV, xOrV, xNotV, xCh, xNil, xCons, xTup, xLstN, xL, xCa, xF, xF0, noX, up, x1, xIt, xEn, xNo, xPa, xSl, xM1, xSplit, M.bind, M.ret, M.of, then_ok, then_ex, then_bad, yNx, yRet, yAsg, ySeq, yIf, yFor, yPar, yParK, yRaise, gV, gVt, gVc, gVn, dBl, dIn, strD, wipeR, List.getElem?_cons_zero, List.getElem?_cons_succ, List.set_cons_zero, List.set_cons_succ, Option.bind_some, Option.bind_none, Option.map_some, List.length_cons, List.length_nil, List.map_cons, List.map_nil, List.replicate_succ, List.replicate_zero, List.cons_append, List.nil_append, Nat.zero_add, Nat.reduceAdd, Nat.reduceSub, decide_true, Bool.not_true, Bool.not_false, h, then_ok2]
theorem kin_24 {d : D} {b : Bool} (h : dIsx K [d, .adr A.c_Nothing] = some (.bl b)) (s : S) : callL (lm K A) (.fn 24 A.lf_24) [d] s = .ok (.bl b) s := by
  rw [callL_at (m := ml_24 K A) rfl]
  unfold ml_24
  refine run_rt rfl ?_
  show yRet _ [.val d] s = _
  simp only [runD, startR, xV, xC, xOp, xUn, xT, xAnd, xOr, xNot, xIf, xAndV, xOrV, xNotV, xCh, xNil, xCons, xTup, xLstN, xL, xCa, xF, xF0, noX, up, x1, xIt, xEn, xNo, xPa, xSl, xM1, xSplit, M.bind, M.ret, M.of, then_ok, then_ex, then_bad, yNx, yRet, yAsg, ySeq, yIf, yFor, yPar, yParK, yRaise, gV, gVt, gVc, gVn, dBl, dIn, strD, wipeR, List.getElem?_cons_zero, List.getElem?_cons_succ, List.set_cons_zero, List.set_cons_succ, Option.bind_some, Option.bind_none, Option.map_some, List.length_cons, List.length_nil, List.map_cons, List.map_nil, List.replicate_succ, List.replicate_zero, List.cons_append, List.nil_append, Nat.zero_add, Nat.reduceAdd, Nat.reduceSub, decide_true, Bool.not_true, Bool.not_false, h, then_ok2]
theorem kin_25 {d : D} {b : Bool} (h : dIsx K [d, .adr A.c_TooMany] = some (.bl b)) (s : S) : callL (lm K A) (.fn 25 A.lf_25) [d] s = .ok (.bl b) s := by
  rw [callL_at (m := ml_25 K A) rfl]
  unfold ml_25
  refine run_rt rfl ?_
  show yRet _ [.val d] s = _
  simp only [runD, startR, xV, xC, xOp, xUn, xT, xAnd, xOr, xNot, xIf, xAndV, xOrV, xNotV, xCh, xNil, xCons, xTup, xLstN, xL, xCa, xF, xF0, noX, up, x1, xIt, xEn, xNo, xPa, xSl, xM1, xSplit, M.bind, M.ret, M.of, then_ok, then_ex, then_bad, yNx, yRet, yAsg, ySeq, yIf, yFor, yPar, yParK, yRaise, gV, gVt, gVc, gVn, dBl, dIn, strD, wipeR, List.getElem?_cons_zero, List.getElem?_cons_succ, List.set_cons_zero, List.set_cons_succ, Option.bind_some, Option.bind_none, Option.map_some, List.length_cons, List.length_nil, List.map_cons, List.map_nil, List.replicate_succ, List.replicate_zero, List.cons_append, List.nil_append, Nat.zero_add, Nat.reduceAdd, Nat.reduceSub, decide_true, Bool.not_true, Bool.not_false, h, then_ok2]
theorem kin_26 {d : D} {b : Bool} (h : dIsx K [d, .adr A.c_TooMany] = some (.bl b)) (s : S) : callL (lm K A) (.fn 26 A.lf_26) [d] s = .ok (.bl b) s := by
  rw [callL_at (m := ml_26 K A) rfl]
  unfold ml_26
  refine run_rt rfl ?_
  show yRet _ [.val d] s = _
  simp only [runD, startR, xV, xC, xOp, xUn, xT, xAnd, xOr, xNot, xIf, xAndV, xOrV, xNotV, xCh, xNil, xCons, xTup, xLstN, xL, xCa, xF, xF0, noX, up, x1, xIt, xEn, xNo, xPa, xSl, xM1, xSplit, M.bind, M.ret, M.of, then_ok, then_ex, then_bad, yNx, yRet, yAsg, ySeq, yIf, yFor, yPar, yParK, yRaise, gV, gVt, gVc, gVn, dBl, dIn, strD, wipeR, List.getElem?_cons_zero, List.getElem?_cons_succ, List.set_cons_zero, List.set_cons_succ, Option.bind_some, Option.bind_none, Option.map_some, List.length_cons, List.length_nil, List.map_cons, List.map_nil, List.replicate_succ, List.replicate_zero, List.cons_append, List.nil_append, Nat.zero_add, Nat.reduceAdd, Nat.reduceSub, decide_true, Bool.not_true, Bool.not_false, h, then_ok2]
theorem kin_27 {d : D} {b : Bool} (h : dIsx K [d, .adr A.c_BadText] = some (.bl b)) (s : S) : callL (lm K A) (.fn 27 A.lf_27) [d] s = .ok (.bl b) s := by
  rw [callL_at (m := ml_27 K A) rfl]
  unfold ml_27
  refine run_rt rfl ?_
  show yRet _ [.val d] s = _
  simp only [runD, startR, xV, xC, xOp, xUn, xT, xAnd, xOr, xNot, xIf, xAndV, xOrV, xNotV, xCh, xNil, xCons, xTup, xLstN, xL, xCa, xF, xF0, noX, up, x1, xIt, xEn, xNo, xPa, xSl, xM1, xSplit, M.bind, M.ret, M.of, then_ok, then_ex, then_bad, yNx, yRet, yAsg, ySeq, yIf, yFor, yPar, yParK, yRaise, gV, gVt, gVc, gVn, dBl, dIn, strD, wipeR, List.getElem?_cons_zero, List.getElem?_cons_succ, List.set_cons_zero, List.set_cons_succ, Option.bind_some, Option.bind_none, Option.map_some, List.length_cons, List.length_nil, List.map_cons, List.map_nil, List.replicate_succ, List.replicate_zero, List.cons_append, List.nil_append, Nat.zero_add, Nat.reduceAdd, Nat.reduceSub, decide_true, Bool.not_true, Bool.not_false, h, then_ok2]
theorem kin_28 {d : D} {b : Bool} (h : dIsx K [d, .adr A.c_BadText] = some (.bl b)) (s : S) : callL (lm K A) (.fn 28 A.lf_28) [d] s = .ok (.bl b) s := by
  rw [callL_at (m := ml_28 K A) rfl]
  unfold ml_28
  refine run_rt rfl ?_
  show yRet _ [.val d] s = _
  simp only [runD, startR, xV, xC, xOp, xUn, xT, xAnd, xOr, xNot, xIf, xAndV, xOrV, xNotV, xCh, xNil, xCons, xTup, xLstN, xL, xCa, xF, xF0, noX, up, x1, xIt, xEn, xNo, xPa, xSl, xM1, xSplit, M.bind, M.ret, M.of, then_ok, then_ex, then_bad, yNx, yRet, yAsg, ySeq, yIf, yFor, yPar, yParK, yRaise, gV, gVt, gVc, gVn, dBl, dIn, strD, wipeR, List.getElem?_cons_zero, List.getElem?_cons_succ, List.set_cons_zero, List.set_cons_succ, Option.bind_some, Option.bind_none, Option.map_some, List.length_cons, List.length_nil, List.map_cons, List.map_nil, List.replicate_succ, List.replicate_zero, List.cons_append, List.nil_append, Nat.zero_add, Nat.reduceAdd, Nat.reduceSub, decide_true, Bool.not_true, Bool.not_false, h, then_ok2]
theorem kin_29 {d : D} {b : Bool} (h : dIsx K [d, .adr A.c_BadCommand] = some (.bl b)) (s : S) : callL (lm K A) (.fn 29 A.lf_29) [d] s = .ok (.bl b) s := by
  rw [callL_at (m := ml_29 K A) rfl]
  unfold ml_29
  refine run_rt rfl ?_
  show yRet _ [.val d] s = _
  simp only [runD, startR, xV, xC, xOp, xUn, xT, xAnd, xOr, xNot, xIf, xAndV, xOrV, xNotV, xCh, xNil, xCons, xTup, xLstN, xL, xCa, xF, xF0, noX, up, x1, xIt, xEn, xNo, xPa, xSl, xM1, xSplit, M.bind, M.ret, M.of, then_ok, then_ex, then_bad, yNx, yRet, yAsg, ySeq, yIf, yFor, yPar, yParK, yRaise, gV, gVt, gVc, gVn, dBl, dIn, strD, wipeR, List.getElem?_cons_zero, List.getElem?_cons_succ, List.set_cons_zero, List.set_cons_succ, Option.bind_some, Option.bind_none, Option.map_some, List.length_cons, List.length_nil, List.map_cons, List.map_nil, List.replicate_succ, List.replicate_zero, List.cons_append, List.nil_append, Nat.zero_add, Nat.reduceAdd, Nat.reduceSub, decide_true, Bool.not_true, Bool.not_false, h, then_ok2]
theorem kin_all (k : Nat) (hk : k < 30) {d : D} {b : Bool} (h : dIsx K [d, .adr (clsA A k)] = some (.bl b)) (s : S) : callL (lm K A) (.fn k (lfA A k)) [d] s = .ok (.bl b) s := by
  match k, hk, h with
  | 0, _, h => exact kin_0 h s
  | 1, _, h => exact kin_1 h s
  | 2, _, h => exact kin_2 h s
  | 3, _, h => exact kin_3 h s
  | 4, _, h => exact kin_4 h s
  | 5, _, h => exact kin_5 h s
  | 6, _, h => exact kin_6 h s
  | 7, _, h => exact kin_7 h s
  | 8, _, h => exact kin_8 h s
  | 9, _, h => exact kin_9 h s
  | 10, _, h => exact kin_10 h s
  | 11, _, h => exact kin_11 h s
  | 12, _, h => exact kin_12 h s
  | 13, _, h => exact kin_13 h s
  | 14, _, h => exact kin_14 h s
  | 15, _, h => exact kin_15 h s
  | 16, _, h => exact kin_16 h s
  | 17, _, h => exact kin_17 h s
  | 18, _, h => exact kin_18 h s
  | 19, _, h => exact kin_19 h s
  | 20, _, h => exact kin_20 h s
  | 21, _, h => exact kin_21 h s
  | 22, _, h => exact kin_22 h s
  | 23, _, h => exact kin_23 h s
  | 24, _, h => exact kin_24 h s
  | 25, _, h => exact kin_25 h s
  | 26, _, h => exact kin_26 h s
  | 27, _, h => exact kin_27 h s
  | 28, _, h => exact kin_28 h s
  | 29, _, h => exact kin_29 h s
  | n + 30, hk, _ => omega
theorem tell_0 (x : D) (h0 : ∀ fs, dXf K "value" (.exc A.c_BadName fs) = fs.lookup ("value" : Str)) (s : S) : callL (lm K A) (.fn 30 A.lf_30) [.exc A.c_BadName (fldsD ["value"] [x])] s = .ok (.lst [x]) s := by
  have l : lim 1 = true := rfl
  have g0 : (fldsD ["value"] [x]).lookup ("value" : Str) = some x := rfl
  rw [callL_at (m := ml_30 K A) rfl]
  unfold ml_30
  refine run_rt rfl ?_
  show yRet _ [.val (.exc A.c_BadName (fldsD ["value"] [x]))] s = _
  simp only [runD, startR, xV, xC, xOp, xUn, xT, xAnd, xOr, xNot, xIf, xAndV, xOrV, xNotV, xCh, xNil, xCons, xTup, xLstN, xL, xCa, xF, xF0, noX, up, x1, xIt, xEn, xNo, xPa, xSl, xM1, xSplit, M.bind, M.ret, M.of, then_ok, then_ex, then_bad, yNx, yRet, yAsg, ySeq, yIf, yFor, yPar, yParK, yRaise, gV, gVt, gVc, gVn, dBl, dIn, strD, wipeR, List.getElem?_cons_zero, List.getElem?_cons_succ, List.set_cons_zero, List.set_cons_succ, Option.bind_some, Option.bind_none, Option.map_some, List.length_cons, List.length_nil, List.map_cons, List.map_nil, List.replicate_succ, List.replicate_zero, List.cons_append, List.nil_append, Nat.zero_add, Nat.reduceAdd, Nat.reduceSub, decide_true, Bool.not_true, Bool.not_false, l, then_ok2, h0, g0]
theorem tell_1 (x : D) (h0 : ∀ fs, dXf K "value" (.exc A.c_BadShelf fs) = fs.lookup ("value" : Str)) (s : S) : callL (lm K A) (.fn 31 A.lf_31) [.exc A.c_BadShelf (fldsD ["value"] [x])] s = .ok (.lst [x]) s := by
  have l : lim 1 = true := rfl
  have g0 : (fldsD ["value"] [x]).lookup ("value" : Str) = some x := rfl
  rw [callL_at (m := ml_31 K A) rfl]
  unfold ml_31
  refine run_rt rfl ?_
  show yRet _ [.val (.exc A.c_BadShelf (fldsD ["value"] [x]))] s = _
  simp only [runD, startR, xV, xC, xOp, xUn, xT, xAnd, xOr, xNot, xIf, xAndV, xOrV, xNotV, xCh, xNil, xCons, xTup, xLstN, xL, xCa, xF, xF0, noX, up, x1, xIt, xEn, xNo, xPa, xSl, xM1, xSplit, M.bind, M.ret, M.of, then_ok, then_ex, then_bad, yNx, yRet, yAsg, ySeq, yIf, yFor, yPar, yParK, yRaise, gV, gVt, gVc, gVn, dBl, dIn, strD, wipeR, List.getElem?_cons_zero, List.getElem?_cons_succ, List.set_cons_zero, List.set_cons_succ, Option.bind_some, Option.bind_none, Option.map_some, List.length_cons, List.length_nil, List.map_cons, List.map_nil, List.replicate_succ, List.replicate_zero, List.cons_append, List.nil_append, Nat.zero_add, Nat.reduceAdd, Nat.reduceSub, decide_true, Bool.not_true, Bool.not_false, l, then_ok2, h0, g0]
theorem tell_2 (x : D) (h0 : ∀ fs, dXf K "part" (.exc A.c_BadFlow fs) = fs.lookup ("part" : Str)) (s : S) : callL (lm K A) (.fn 32 A.lf_32) [.exc A.c_BadFlow (fldsD ["part"] [x])] s = .ok (.lst [x]) s := by
  have l : lim 1 = true := rfl
  have g0 : (fldsD ["part"] [x]).lookup ("part" : Str) = some x := rfl
  rw [callL_at (m := ml_32 K A) rfl]
  unfold ml_32
  refine run_rt rfl ?_
  show yRet _ [.val (.exc A.c_BadFlow (fldsD ["part"] [x]))] s = _
  simp only [runD, startR, xV, xC, xOp, xUn, xT, xAnd, xOr, xNot, xIf, xAndV, xOrV, xNotV, xCh, xNil, xCons, xTup, xLstN, xL, xCa, xF, xF0, noX, up, x1, xIt, xEn, xNo, xPa, xSl, xM1, xSplit, M.bind, M.ret, M.of, then_ok, then_ex, then_bad, yNx, yRet, yAsg, ySeq, yIf, yFor, yPar, yParK, yRaise, gV, gVt, gVc, gVn, dBl, dIn, strD, wipeR, List.getElem?_cons_zero, List.getElem?_cons_succ, List.set_cons_zero, List.set_cons_succ, Option.bind_some, Option.bind_none, Option.map_some, List.length_cons, List.length_nil, List.map_cons, List.map_nil, List.replicate_succ, List.replicate_zero, List.cons_append, List.nil_append, Nat.zero_add, Nat.reduceAdd, Nat.reduceSub, decide_true, Bool.not_true, Bool.not_false, l, then_ok2, h0, g0]
theorem tell_3 (x : D) (h0 : ∀ fs, dXf K "part" (.exc A.c_BadNet fs) = fs.lookup ("part" : Str)) (s : S) : callL (lm K A) (.fn 33 A.lf_33) [.exc A.c_BadNet (fldsD ["part"] [x])] s = .ok (.lst [x]) s := by
  have l : lim 1 = true := rfl
  have g0 : (fldsD ["part"] [x]).lookup ("part" : Str) = some x := rfl
  rw [callL_at (m := ml_33 K A) rfl]
  unfold ml_33
  refine run_rt rfl ?_
  show yRet _ [.val (.exc A.c_BadNet (fldsD ["part"] [x]))] s = _
  simp only [runD, startR, xV, xC, xOp, xUn, xT, xAnd, xOr, xNot, xIf, xAndV, xOrV, xNotV, xCh, xNil, xCons, xTup, xLstN, xL, xCa, xF, xF0, noX, up, x1, xIt, xEn, xNo, xPa, xSl, xM1, xSplit, M.bind, M.ret, M.of, then_ok, then_ex, then_bad, yNx, yRet, yAsg, ySeq, yIf, yFor, yPar, yParK, yRaise, gV, gVt, gVc, gVn, dBl, dIn, strD, wipeR, List.getElem?_cons_zero, List.getElem?_cons_succ, List.set_cons_zero, List.set_cons_succ, Option.bind_some, Option.bind_none, Option.map_some, List.length_cons, List.length_nil, List.map_cons, List.map_nil, List.replicate_succ, List.replicate_zero, List.cons_append, List.nil_append, Nat.zero_add, Nat.reduceAdd, Nat.reduceSub, decide_true, Bool.not_true, Bool.not_false, l, then_ok2, h0, g0]
theorem tell_4 (x : D) (h0 : ∀ fs, dXf K "part" (.exc A.c_BadPaper fs) = fs.lookup ("part" : Str)) (s : S) : callL (lm K A) (.fn 34 A.lf_34) [.exc A.c_BadPaper (fldsD ["part"] [x])] s = .ok (.lst [x]) s := by
  have l : lim 1 = true := rfl
  have g0 : (fldsD ["part"] [x]).lookup ("part" : Str) = some x := rfl
  rw [callL_at (m := ml_34 K A) rfl]
  unfold ml_34
  refine run_rt rfl ?_
  show yRet _ [.val (.exc A.c_BadPaper (fldsD ["part"] [x]))] s = _
  simp only [runD, startR, xV, xC, xOp, xUn, xT, xAnd, xOr, xNot, xIf, xAndV, xOrV, xNotV, xCh, xNil, xCons, xTup, xLstN, xL, xCa, xF, xF0, noX, up, x1, xIt, xEn, xNo, xPa, xSl, xM1, xSplit, M.bind, M.ret, M.of, then_ok, then_ex, then_bad, yNx, yRet, yAsg, ySeq, yIf, yFor, yPar, yParK, yRaise, gV, gVt, gVc, gVn, dBl, dIn, strD, wipeR, List.getElem?_cons_zero, List.getElem?_cons_succ, List.set_cons_zero, List.set_cons_succ, Option.bind_some, Option.bind_none, Option.map_some, List.length_cons, List.length_nil, List.map_cons, List.map_nil, List.replicate_succ, List.replicate_zero, List.cons_append, List.nil_append, Nat.zero_add, Nat.reduceAdd, Nat.reduceSub, decide_true, Bool.not_true, Bool.not_false, l, then_ok2, h0, g0]
theorem tell_5 (x : D) (h0 : ∀ fs, dXf K "at" (.exc A.c_BadLot fs) = fs.lookup ("at" : Str)) (s : S) : callL (lm K A) (.fn 35 A.lf_35) [.exc A.c_BadLot (fldsD ["at"] [x])] s = .ok (.lst [x]) s := by
  have l : lim 1 = true := rfl
  have g0 : (fldsD ["at"] [x]).lookup ("at" : Str) = some x := rfl
  rw [callL_at (m := ml_35 K A) rfl]
  unfold ml_35
  refine run_rt rfl ?_
  show yRet _ [.val (.exc A.c_BadLot (fldsD ["at"] [x]))] s = _
  simp only [runD, startR, xV, xC, xOp, xUn, xT, xAnd, xOr, xNot, xIf, xAndV, xOrV, xNotV, xCh, xNil, xCons, xTup, xLstN, xL, xCa, xF, xF0, noX, up, x1, xIt, xEn, xNo, xPa, xSl, xM1, xSplit, M.bind, M.ret, M.of, then_ok, then_ex, then_bad, yNx, yRet, yAsg, ySeq, yIf, yFor, yPar, yParK, yRaise, gV, gVt, gVc, gVn, dBl, dIn, strD, wipeR, List.getElem?_cons_zero, List.getElem?_cons_succ, List.set_cons_zero, List.set_cons_succ, Option.bind_some, Option.bind_none, Option.map_some, List.length_cons, List.length_nil, List.map_cons, List.map_nil, List.replicate_succ, List.replicate_zero, List.cons_append, List.nil_append, Nat.zero_add, Nat.reduceAdd, Nat.reduceSub, decide_true, Bool.not_true, Bool.not_false, l, then_ok2, h0, g0]
theorem tell_6 (x : D) (h0 : ∀ fs, dXf K "at" (.exc A.c_BadChange fs) = fs.lookup ("at" : Str)) (s : S) : callL (lm K A) (.fn 36 A.lf_36) [.exc A.c_BadChange (fldsD ["at"] [x])] s = .ok (.lst [x]) s := by
  have l : lim 1 = true := rfl
  have g0 : (fldsD ["at"] [x]).lookup ("at" : Str) = some x := rfl
  rw [callL_at (m := ml_36 K A) rfl]
  unfold ml_36
  refine run_rt rfl ?_
  show yRet _ [.val (.exc A.c_BadChange (fldsD ["at"] [x]))] s = _
  simp only [runD, startR, xV, xC, xOp, xUn, xT, xAnd, xOr, xNot, xIf, xAndV, xOrV, xNotV, xCh, xNil, xCons, xTup, xLstN, xL, xCa, xF, xF0, noX, up, x1, xIt, xEn, xNo, xPa, xSl, xM1, xSplit, M.bind, M.ret, M.of, then_ok, then_ex, then_bad, yNx, yRet, yAsg, ySeq, yIf, yFor, yPar, yParK, yRaise, gV, gVt, gVc, gVn, dBl, dIn, strD, wipeR, List.getElem?_cons_zero, List.getElem?_cons_succ, List.set_cons_zero, List.set_cons_succ, Option.bind_some, Option.bind_none, Option.map_some, List.length_cons, List.length_nil, List.map_cons, List.map_nil, List.replicate_succ, List.replicate_zero, List.cons_append, List.nil_append, Nat.zero_add, Nat.reduceAdd, Nat.reduceSub, decide_true, Bool.not_true, Bool.not_false, l, then_ok2, h0, g0]
theorem tell_7 (x : D) (h0 : ∀ fs, dXf K "shelf" (.exc A.c_BadSize fs) = fs.lookup ("shelf" : Str)) (s : S) : callL (lm K A) (.fn 37 A.lf_37) [.exc A.c_BadSize (fldsD ["shelf"] [x])] s = .ok (.lst [x]) s := by
  have l : lim 1 = true := rfl
  have g0 : (fldsD ["shelf"] [x]).lookup ("shelf" : Str) = some x := rfl
  rw [callL_at (m := ml_37 K A) rfl]
  unfold ml_37
  refine run_rt rfl ?_
  show yRet _ [.val (.exc A.c_BadSize (fldsD ["shelf"] [x]))] s = _
  simp only [runD, startR, xV, xC, xOp, xUn, xT, xAnd, xOr, xNot, xIf, xAndV, xOrV, xNotV, xCh, xNil, xCons, xTup, xLstN, xL, xCa, xF, xF0, noX, up, x1, xIt, xEn, xNo, xPa, xSl, xM1, xSplit, M.bind, M.ret, M.of, then_ok, then_ex, then_bad, yNx, yRet, yAsg, ySeq, yIf, yFor, yPar, yParK, yRaise, gV, gVt, gVc, gVn, dBl, dIn, strD, wipeR, List.getElem?_cons_zero, List.getElem?_cons_succ, List.set_cons_zero, List.set_cons_succ, Option.bind_some, Option.bind_none, Option.map_some, List.length_cons, List.length_nil, List.map_cons, List.map_nil, List.replicate_succ, List.replicate_zero, List.cons_append, List.nil_append, Nat.zero_add, Nat.reduceAdd, Nat.reduceSub, decide_true, Bool.not_true, Bool.not_false, l, then_ok2, h0, g0]
theorem tell_8 (x : D) (h0 : ∀ fs, dXf K "part" (.exc A.c_BadLoad fs) = fs.lookup ("part" : Str)) (s : S) : callL (lm K A) (.fn 38 A.lf_38) [.exc A.c_BadLoad (fldsD ["part"] [x])] s = .ok (.lst [x]) s := by
  have l : lim 1 = true := rfl
  have g0 : (fldsD ["part"] [x]).lookup ("part" : Str) = some x := rfl
  rw [callL_at (m := ml_38 K A) rfl]
  unfold ml_38
  refine run_rt rfl ?_
  show yRet _ [.val (.exc A.c_BadLoad (fldsD ["part"] [x]))] s = _
  simp only [runD, startR, xV, xC, xOp, xUn, xT, xAnd, xOr, xNot, xIf, xAndV, xOrV, xNotV, xCh, xNil, xCons, xTup, xLstN, xL, xCa, xF, xF0, noX, up, x1, xIt, xEn, xNo, xPa, xSl, xM1, xSplit, M.bind, M.ret, M.of, then_ok, then_ex, then_bad, yNx, yRet, yAsg, ySeq, yIf, yFor, yPar, yParK, yRaise, gV, gVt, gVc, gVn, dBl, dIn, strD, wipeR, List.getElem?_cons_zero, List.getElem?_cons_succ, List.set_cons_zero, List.set_cons_succ, Option.bind_some, Option.bind_none, Option.map_some, List.length_cons, List.length_nil, List.map_cons, List.map_nil, List.replicate_succ, List.replicate_zero, List.cons_append, List.nil_append, Nat.zero_add, Nat.reduceAdd, Nat.reduceSub, decide_true, Bool.not_true, Bool.not_false, l, then_ok2, h0, g0]
theorem tell_9 (x : D) (h0 : ∀ fs, dXf K "value" (.exc A.c_BadNumber fs) = fs.lookup ("value" : Str)) (s : S) : callL (lm K A) (.fn 39 A.lf_39) [.exc A.c_BadNumber (fldsD ["value"] [x])] s = .ok (.lst [x]) s := by
  have l : lim 1 = true := rfl
  have g0 : (fldsD ["value"] [x]).lookup ("value" : Str) = some x := rfl
  rw [callL_at (m := ml_39 K A) rfl]
  unfold ml_39
  refine run_rt rfl ?_
  show yRet _ [.val (.exc A.c_BadNumber (fldsD ["value"] [x]))] s = _
  simp only [runD, startR, xV, xC, xOp, xUn, xT, xAnd, xOr, xNot, xIf, xAndV, xOrV, xNotV, xCh, xNil, xCons, xTup, xLstN, xL, xCa, xF, xF0, noX, up, x1, xIt, xEn, xNo, xPa, xSl, xM1, xSplit, M.bind, M.ret, M.of, then_ok, then_ex, then_bad, yNx, yRet, yAsg, ySeq, yIf, yFor, yPar, yParK, yRaise, gV, gVt, gVc, gVn, dBl, dIn, strD, wipeR, List.getElem?_cons_zero, List.getElem?_cons_succ, List.set_cons_zero, List.set_cons_succ, Option.bind_some, Option.bind_none, Option.map_some, List.length_cons, List.length_nil, List.map_cons, List.map_nil, List.replicate_succ, List.replicate_zero, List.cons_append, List.nil_append, Nat.zero_add, Nat.reduceAdd, Nat.reduceSub, decide_true, Bool.not_true, Bool.not_false, l, then_ok2, h0, g0]
theorem tell_10 (x : D) (h0 : ∀ fs, dXf K "at" (.exc A.c_BadOrder fs) = fs.lookup ("at" : Str)) (s : S) : callL (lm K A) (.fn 40 A.lf_40) [.exc A.c_BadOrder (fldsD ["at"] [x])] s = .ok (.lst [x]) s := by
  have l : lim 1 = true := rfl
  have g0 : (fldsD ["at"] [x]).lookup ("at" : Str) = some x := rfl
  rw [callL_at (m := ml_40 K A) rfl]
  unfold ml_40
  refine run_rt rfl ?_
  show yRet _ [.val (.exc A.c_BadOrder (fldsD ["at"] [x]))] s = _
  simp only [runD, startR, xV, xC, xOp, xUn, xT, xAnd, xOr, xNot, xIf, xAndV, xOrV, xNotV, xCh, xNil, xCons, xTup, xLstN, xL, xCa, xF, xF0, noX, up, x1, xIt, xEn, xNo, xPa, xSl, xM1, xSplit, M.bind, M.ret, M.of, then_ok, then_ex, then_bad, yNx, yRet, yAsg, ySeq, yIf, yFor, yPar, yParK, yRaise, gV, gVt, gVc, gVn, dBl, dIn, strD, wipeR, List.getElem?_cons_zero, List.getElem?_cons_succ, List.set_cons_zero, List.set_cons_succ, Option.bind_some, Option.bind_none, Option.map_some, List.length_cons, List.length_nil, List.map_cons, List.map_nil, List.replicate_succ, List.replicate_zero, List.cons_append, List.nil_append, Nat.zero_add, Nat.reduceAdd, Nat.reduceSub, decide_true, Bool.not_true, Bool.not_false, l, then_ok2, h0, g0]
theorem tell_11 (x : D) (h0 : ∀ fs, dXf K "at" (.exc A.c_BadLink fs) = fs.lookup ("at" : Str)) (s : S) : callL (lm K A) (.fn 41 A.lf_41) [.exc A.c_BadLink (fldsD ["at"] [x])] s = .ok (.lst [x]) s := by
  have l : lim 1 = true := rfl
  have g0 : (fldsD ["at"] [x]).lookup ("at" : Str) = some x := rfl
  rw [callL_at (m := ml_41 K A) rfl]
  unfold ml_41
  refine run_rt rfl ?_
  show yRet _ [.val (.exc A.c_BadLink (fldsD ["at"] [x]))] s = _
  simp only [runD, startR, xV, xC, xOp, xUn, xT, xAnd, xOr, xNot, xIf, xAndV, xOrV, xNotV, xCh, xNil, xCons, xTup, xLstN, xL, xCa, xF, xF0, noX, up, x1, xIt, xEn, xNo, xPa, xSl, xM1, xSplit, M.bind, M.ret, M.of, then_ok, then_ex, then_bad, yNx, yRet, yAsg, ySeq, yIf, yFor, yPar, yParK, yRaise, gV, gVt, gVc, gVn, dBl, dIn, strD, wipeR, List.getElem?_cons_zero, List.getElem?_cons_succ, List.set_cons_zero, List.set_cons_succ, Option.bind_some, Option.bind_none, Option.map_some, List.length_cons, List.length_nil, List.map_cons, List.map_nil, List.replicate_succ, List.replicate_zero, List.cons_append, List.nil_append, Nat.zero_add, Nat.reduceAdd, Nat.reduceSub, decide_true, Bool.not_true, Bool.not_false, l, then_ok2, h0, g0]
theorem tell_12 (x : D) (h0 : ∀ fs, dXf K "name" (.exc A.c_NoFlow fs) = fs.lookup ("name" : Str)) (s : S) : callL (lm K A) (.fn 42 A.lf_42) [.exc A.c_NoFlow (fldsD ["name"] [x])] s = .ok (.lst [x]) s := by
  have l : lim 1 = true := rfl
  have g0 : (fldsD ["name"] [x]).lookup ("name" : Str) = some x := rfl
  rw [callL_at (m := ml_42 K A) rfl]
  unfold ml_42
  refine run_rt rfl ?_
  show yRet _ [.val (.exc A.c_NoFlow (fldsD ["name"] [x]))] s = _
  simp only [runD, startR, xV, xC, xOp, xUn, xT, xAnd, xOr, xNot, xIf, xAndV, xOrV, xNotV, xCh, xNil, xCons, xTup, xLstN, xL, xCa, xF, xF0, noX, up, x1, xIt, xEn, xNo, xPa, xSl, xM1, xSplit, M.bind, M.ret, M.of, then_ok, then_ex, then_bad, yNx, yRet, yAsg, ySeq, yIf, yFor, yPar, yParK, yRaise, gV, gVt, gVc, gVn, dBl, dIn, strD, wipeR, List.getElem?_cons_zero, List.getElem?_cons_succ, List.set_cons_zero, List.set_cons_succ, Option.bind_some, Option.bind_none, Option.map_some, List.length_cons, List.length_nil, List.map_cons, List.map_nil, List.replicate_succ, List.replicate_zero, List.cons_append, List.nil_append, Nat.zero_add, Nat.reduceAdd, Nat.reduceSub, decide_true, Bool.not_true, Bool.not_false, l, then_ok2, h0, g0]
theorem tell_13 (x : D) (h0 : ∀ fs, dXf K "shelf" (.exc A.c_NoShelf fs) = fs.lookup ("shelf" : Str)) (s : S) : callL (lm K A) (.fn 43 A.lf_43) [.exc A.c_NoShelf (fldsD ["shelf"] [x])] s = .ok (.lst [x]) s := by
  have l : lim 1 = true := rfl
  have g0 : (fldsD ["shelf"] [x]).lookup ("shelf" : Str) = some x := rfl
  rw [callL_at (m := ml_43 K A) rfl]
  unfold ml_43
  refine run_rt rfl ?_
  show yRet _ [.val (.exc A.c_NoShelf (fldsD ["shelf"] [x]))] s = _
  simp only [runD, startR, xV, xC, xOp, xUn, xT, xAnd, xOr, xNot, xIf, xAndV, xOrV, xNotV, xCh, xNil, xCons, xTup, xLstN, xL, xCa, xF, xF0, noX, up, x1, xIt, xEn, xNo, xPa, xSl, xM1, xSplit, M.bind, M.ret, M.of, then_ok, then_ex, then_bad, yNx, yRet, yAsg, ySeq, yIf, yFor, yPar, yParK, yRaise, gV, gVt, gVc, gVn, dBl, dIn, strD, wipeR, List.getElem?_cons_zero, List.getElem?_cons_succ, List.set_cons_zero, List.set_cons_succ, Option.bind_some, Option.bind_none, Option.map_some, List.length_cons, List.length_nil, List.map_cons, List.map_nil, List.replicate_succ, List.replicate_zero, List.cons_append, List.nil_append, Nat.zero_add, Nat.reduceAdd, Nat.reduceSub, decide_true, Bool.not_true, Bool.not_false, l, then_ok2, h0, g0]
theorem tell_14 (x y : D) (h0 : ∀ fs, dXf K "shelf" (.exc A.c_NoStep fs) = fs.lookup ("shelf" : Str)) (h1 : ∀ fs, dXf K "flow" (.exc A.c_NoStep fs) = fs.lookup ("flow" : Str)) (s : S) : callL (lm K A) (.fn 44 A.lf_44) [.exc A.c_NoStep (fldsD ["shelf", "flow"] [x, y])] s = .ok (.lst [x, y]) s := by
  have l : lim 2 = true := rfl
  have g0 : (fldsD ["shelf", "flow"] [x, y]).lookup ("shelf" : Str) = some x := rfl
  have g1 : (fldsD ["shelf", "flow"] [x, y]).lookup ("flow" : Str) = some y := rfl
  rw [callL_at (m := ml_44 K A) rfl]
  unfold ml_44
  refine run_rt rfl ?_
  show yRet _ [.val (.exc A.c_NoStep (fldsD ["shelf", "flow"] [x, y]))] s = _
  simp only [runD, startR, xV, xC, xOp, xUn, xT, xAnd, xOr, xNot, xIf, xAndV, xOrV, xNotV, xCh, xNil, xCons, xTup, xLstN, xL, xCa, xF, xF0, noX, up, x1, xIt, xEn, xNo, xPa, xSl, xM1, xSplit, M.bind, M.ret, M.of, then_ok, then_ex, then_bad, yNx, yRet, yAsg, ySeq, yIf, yFor, yPar, yParK, yRaise, gV, gVt, gVc, gVn, dBl, dIn, strD, wipeR, List.getElem?_cons_zero, List.getElem?_cons_succ, List.set_cons_zero, List.set_cons_succ, Option.bind_some, Option.bind_none, Option.map_some, List.length_cons, List.length_nil, List.map_cons, List.map_nil, List.replicate_succ, List.replicate_zero, List.cons_append, List.nil_append, Nat.zero_add, Nat.reduceAdd, Nat.reduceSub, decide_true, Bool.not_true, Bool.not_false, l, then_ok2, h0, g0, h1, g1]
theorem tell_15 (x y : D) (h0 : ∀ fs, dXf K "shelf" (.exc A.c_NoStep fs) = fs.lookup ("shelf" : Str)) (h1 : ∀ fs, dXf K "flow" (.exc A.c_NoStep fs) = fs.lookup ("flow" : Str)) (s : S) : callL (lm K A) (.fn 45 A.lf_45) [.exc A.c_NoStep (fldsD ["shelf", "flow"] [x, y])] s = .ok (.lst [x, y]) s := by
  have l : lim 2 = true := rfl
  have g0 : (fldsD ["shelf", "flow"] [x, y]).lookup ("shelf" : Str) = some x := rfl
  have g1 : (fldsD ["shelf", "flow"] [x, y]).lookup ("flow" : Str) = some y := rfl
  rw [callL_at (m := ml_45 K A) rfl]
  unfold ml_45
  refine run_rt rfl ?_
  show yRet _ [.val (.exc A.c_NoStep (fldsD ["shelf", "flow"] [x, y]))] s = _
  simp only [runD, startR, xV, xC, xOp, xUn, xT, xAnd, xOr, xNot, xIf, xAndV, xOrV, xNotV, xCh, xNil, xCons, xTup, xLstN, xL, xCa, xF, xF0, noX, up, x1, xIt, xEn, xNo, xPa, xSl, xM1, xSplit, M.bind, M.ret, M.of, then_ok, then_ex, then_bad, yNx, yRet, yAsg, ySeq, yIf, yFor, yPar, yParK, yRaise, gV, gVt, gVc, gVn, dBl, dIn, strD, wipeR, List.getElem?_cons_zero, List.getElem?_cons_succ, List.set_cons_zero, List.set_cons_succ, Option.bind_some, Option.bind_none, Option.map_some, List.length_cons, List.length_nil, List.map_cons, List.map_nil, List.replicate_succ, List.replicate_zero, List.cons_append, List.nil_append, Nat.zero_add, Nat.reduceAdd, Nat.reduceSub, decide_true, Bool.not_true, Bool.not_false, l, then_ok2, h0, g0, h1, g1]
theorem tell_16 (x y : D) (h0 : ∀ fs, dXf K "shelf" (.exc A.c_NotMet fs) = fs.lookup ("shelf" : Str)) (h1 : ∀ fs, dXf K "flow" (.exc A.c_NotMet fs) = fs.lookup ("flow" : Str)) (s : S) : callL (lm K A) (.fn 46 A.lf_46) [.exc A.c_NotMet (fldsD ["shelf", "flow"] [x, y])] s = .ok (.lst [x, y]) s := by
  have l : lim 2 = true := rfl
  have g0 : (fldsD ["shelf", "flow"] [x, y]).lookup ("shelf" : Str) = some x := rfl
  have g1 : (fldsD ["shelf", "flow"] [x, y]).lookup ("flow" : Str) = some y := rfl
  rw [callL_at (m := ml_46 K A) rfl]
  unfold ml_46
  refine run_rt rfl ?_
  show yRet _ [.val (.exc A.c_NotMet (fldsD ["shelf", "flow"] [x, y]))] s = _
  simp only [runD, startR, xV, xC, xOp, xUn, xT, xAnd, xOr, xNot, xIf, xAndV, xOrV, xNotV, xCh, xNil, xCons, xTup, xLstN, xL, xCa, xF, xF0, noX, up, x1, xIt, xEn, xNo, xPa, xSl, xM1, xSplit, M.bind, M.ret, M.of, then_ok, then_ex, then_bad, yNx, yRet, yAsg, ySeq, yIf, yFor, yPar, yParK, yRaise, gV, gVt, gVc, gVn, dBl, dIn, strD, wipeR, List.getElem?_cons_zero, List.getElem?_cons_succ, List.set_cons_zero, List.set_cons_succ, Option.bind_some, Option.bind_none, Option.map_some, List.length_cons, List.length_nil, List.map_cons, List.map_nil, List.replicate_succ, List.replicate_zero, List.cons_append, List.nil_append, Nat.zero_add, Nat.reduceAdd, Nat.reduceSub, decide_true, Bool.not_true, Bool.not_false, l, then_ok2, h0, g0, h1, g1]
theorem tell_17 (x : D) (h0 : ∀ fs, dXf K "post" (.exc A.c_NoPost fs) = fs.lookup ("post" : Str)) (s : S) : callL (lm K A) (.fn 47 A.lf_47) [.exc A.c_NoPost (fldsD ["post"] [x])] s = .ok (.lst [x]) s := by
  have l : lim 1 = true := rfl
  have g0 : (fldsD ["post"] [x]).lookup ("post" : Str) = some x := rfl
  rw [callL_at (m := ml_47 K A) rfl]
  unfold ml_47
  refine run_rt rfl ?_
  show yRet _ [.val (.exc A.c_NoPost (fldsD ["post"] [x]))] s = _
  simp only [runD, startR, xV, xC, xOp, xUn, xT, xAnd, xOr, xNot, xIf, xAndV, xOrV, xNotV, xCh, xNil, xCons, xTup, xLstN, xL, xCa, xF, xF0, noX, up, x1, xIt, xEn, xNo, xPa, xSl, xM1, xSplit, M.bind, M.ret, M.of, then_ok, then_ex, then_bad, yNx, yRet, yAsg, ySeq, yIf, yFor, yPar, yParK, yRaise, gV, gVt, gVc, gVn, dBl, dIn, strD, wipeR, List.getElem?_cons_zero, List.getElem?_cons_succ, List.set_cons_zero, List.set_cons_succ, Option.bind_some, Option.bind_none, Option.map_some, List.length_cons, List.length_nil, List.map_cons, List.map_nil, List.replicate_succ, List.replicate_zero, List.cons_append, List.nil_append, Nat.zero_add, Nat.reduceAdd, Nat.reduceSub, decide_true, Bool.not_true, Bool.not_false, l, then_ok2, h0, g0]
theorem tell_18 (x : D) (h0 : ∀ fs, dXf K "shelf" (.exc A.c_NoRoom fs) = fs.lookup ("shelf" : Str)) (s : S) : callL (lm K A) (.fn 48 A.lf_48) [.exc A.c_NoRoom (fldsD ["shelf"] [x])] s = .ok (.lst [x]) s := by
  have l : lim 1 = true := rfl
  have g0 : (fldsD ["shelf"] [x]).lookup ("shelf" : Str) = some x := rfl
  rw [callL_at (m := ml_48 K A) rfl]
  unfold ml_48
  refine run_rt rfl ?_
  show yRet _ [.val (.exc A.c_NoRoom (fldsD ["shelf"] [x]))] s = _
  simp only [runD, startR, xV, xC, xOp, xUn, xT, xAnd, xOr, xNot, xIf, xAndV, xOrV, xNotV, xCh, xNil, xCons, xTup, xLstN, xL, xCa, xF, xF0, noX, up, x1, xIt, xEn, xNo, xPa, xSl, xM1, xSplit, M.bind, M.ret, M.of, then_ok, then_ex, then_bad, yNx, yRet, yAsg, ySeq, yIf, yFor, yPar, yParK, yRaise, gV, gVt, gVc, gVn, dBl, dIn, strD, wipeR, List.getElem?_cons_zero, List.getElem?_cons_succ, List.set_cons_zero, List.set_cons_succ, Option.bind_some, Option.bind_none, Option.map_some, List.length_cons, List.length_nil, List.map_cons, List.map_nil, List.replicate_succ, List.replicate_zero, List.cons_append, List.nil_append, Nat.zero_add, Nat.reduceAdd, Nat.reduceSub, decide_true, Bool.not_true, Bool.not_false, l, then_ok2, h0, g0]
theorem tell_19 (x : D) (h0 : ∀ fs, dXf K "number" (.exc A.c_NoParcel fs) = fs.lookup ("number" : Str)) (s : S) : callL (lm K A) (.fn 49 A.lf_49) [.exc A.c_NoParcel (fldsD ["number"] [x])] s = .ok (.lst [x]) s := by
  have l : lim 1 = true := rfl
  have g0 : (fldsD ["number"] [x]).lookup ("number" : Str) = some x := rfl
  rw [callL_at (m := ml_49 K A) rfl]
  unfold ml_49
  refine run_rt rfl ?_
  show yRet _ [.val (.exc A.c_NoParcel (fldsD ["number"] [x]))] s = _
  simp only [runD, startR, xV, xC, xOp, xUn, xT, xAnd, xOr, xNot, xIf, xAndV, xOrV, xNotV, xCh, xNil, xCons, xTup, xLstN, xL, xCa, xF, xF0, noX, up, x1, xIt, xEn, xNo, xPa, xSl, xM1, xSplit, M.bind, M.ret, M.of, then_ok, then_ex, then_bad, yNx, yRet, yAsg, ySeq, yIf, yFor, yPar, yParK, yRaise, gV, gVt, gVc, gVn, dBl, dIn, strD, wipeR, List.getElem?_cons_zero, List.getElem?_cons_succ, List.set_cons_zero, List.set_cons_succ, Option.bind_some, Option.bind_none, Option.map_some, List.length_cons, List.length_nil, List.map_cons, List.map_nil, List.replicate_succ, List.replicate_zero, List.cons_append, List.nil_append, Nat.zero_add, Nat.reduceAdd, Nat.reduceSub, decide_true, Bool.not_true, Bool.not_false, l, then_ok2, h0, g0]
theorem tell_20 (x : D) (h0 : ∀ fs, dXf K "want" (.exc A.c_NoWant fs) = fs.lookup ("want" : Str)) (s : S) : callL (lm K A) (.fn 50 A.lf_50) [.exc A.c_NoWant (fldsD ["want"] [x])] s = .ok (.lst [x]) s := by
  have l : lim 1 = true := rfl
  have g0 : (fldsD ["want"] [x]).lookup ("want" : Str) = some x := rfl
  rw [callL_at (m := ml_50 K A) rfl]
  unfold ml_50
  refine run_rt rfl ?_
  show yRet _ [.val (.exc A.c_NoWant (fldsD ["want"] [x]))] s = _
  simp only [runD, startR, xV, xC, xOp, xUn, xT, xAnd, xOr, xNot, xIf, xAndV, xOrV, xNotV, xCh, xNil, xCons, xTup, xLstN, xL, xCa, xF, xF0, noX, up, x1, xIt, xEn, xNo, xPa, xSl, xM1, xSplit, M.bind, M.ret, M.of, then_ok, then_ex, then_bad, yNx, yRet, yAsg, ySeq, yIf, yFor, yPar, yParK, yRaise, gV, gVt, gVc, gVn, dBl, dIn, strD, wipeR, List.getElem?_cons_zero, List.getElem?_cons_succ, List.set_cons_zero, List.set_cons_succ, Option.bind_some, Option.bind_none, Option.map_some, List.length_cons, List.length_nil, List.map_cons, List.map_nil, List.replicate_succ, List.replicate_zero, List.cons_append, List.nil_append, Nat.zero_add, Nat.reduceAdd, Nat.reduceSub, decide_true, Bool.not_true, Bool.not_false, l, then_ok2, h0, g0]
theorem tell_21 (x : D) (h0 : ∀ fs, dXf K "flow" (.exc A.c_Endless fs) = fs.lookup ("flow" : Str)) (s : S) : callL (lm K A) (.fn 51 A.lf_51) [.exc A.c_Endless (fldsD ["flow"] [x])] s = .ok (.lst [x]) s := by
  have l : lim 1 = true := rfl
  have g0 : (fldsD ["flow"] [x]).lookup ("flow" : Str) = some x := rfl
  rw [callL_at (m := ml_51 K A) rfl]
  unfold ml_51
  refine run_rt rfl ?_
  show yRet _ [.val (.exc A.c_Endless (fldsD ["flow"] [x]))] s = _
  simp only [runD, startR, xV, xC, xOp, xUn, xT, xAnd, xOr, xNot, xIf, xAndV, xOrV, xNotV, xCh, xNil, xCons, xTup, xLstN, xL, xCa, xF, xF0, noX, up, x1, xIt, xEn, xNo, xPa, xSl, xM1, xSplit, M.bind, M.ret, M.of, then_ok, then_ex, then_bad, yNx, yRet, yAsg, ySeq, yIf, yFor, yPar, yParK, yRaise, gV, gVt, gVc, gVn, dBl, dIn, strD, wipeR, List.getElem?_cons_zero, List.getElem?_cons_succ, List.set_cons_zero, List.set_cons_succ, Option.bind_some, Option.bind_none, Option.map_some, List.length_cons, List.length_nil, List.map_cons, List.map_nil, List.replicate_succ, List.replicate_zero, List.cons_append, List.nil_append, Nat.zero_add, Nat.reduceAdd, Nat.reduceSub, decide_true, Bool.not_true, Bool.not_false, l, then_ok2, h0, g0]
theorem tell_22 (x : D) (h0 : ∀ fs, dXf K "paper" (.exc A.c_Unsafe fs) = fs.lookup ("paper" : Str)) (s : S) : callL (lm K A) (.fn 52 A.lf_52) [.exc A.c_Unsafe (fldsD ["paper"] [x])] s = .ok (.lst [x]) s := by
  have l : lim 1 = true := rfl
  have g0 : (fldsD ["paper"] [x]).lookup ("paper" : Str) = some x := rfl
  rw [callL_at (m := ml_52 K A) rfl]
  unfold ml_52
  refine run_rt rfl ?_
  show yRet _ [.val (.exc A.c_Unsafe (fldsD ["paper"] [x]))] s = _
  simp only [runD, startR, xV, xC, xOp, xUn, xT, xAnd, xOr, xNot, xIf, xAndV, xOrV, xNotV, xCh, xNil, xCons, xTup, xLstN, xL, xCa, xF, xF0, noX, up, x1, xIt, xEn, xNo, xPa, xSl, xM1, xSplit, M.bind, M.ret, M.of, then_ok, then_ex, then_bad, yNx, yRet, yAsg, ySeq, yIf, yFor, yPar, yParK, yRaise, gV, gVt, gVc, gVn, dBl, dIn, strD, wipeR, List.getElem?_cons_zero, List.getElem?_cons_succ, List.set_cons_zero, List.set_cons_succ, Option.bind_some, Option.bind_none, Option.map_some, List.length_cons, List.length_nil, List.map_cons, List.map_nil, List.replicate_succ, List.replicate_zero, List.cons_append, List.nil_append, Nat.zero_add, Nat.reduceAdd, Nat.reduceSub, decide_true, Bool.not_true, Bool.not_false, l, then_ok2, h0, g0]
theorem tell_23 (x : D) (h0 : ∀ fs, dXf K "name" (.exc A.c_Taken fs) = fs.lookup ("name" : Str)) (s : S) : callL (lm K A) (.fn 53 A.lf_53) [.exc A.c_Taken (fldsD ["name"] [x])] s = .ok (.lst [x]) s := by
  have l : lim 1 = true := rfl
  have g0 : (fldsD ["name"] [x]).lookup ("name" : Str) = some x := rfl
  rw [callL_at (m := ml_53 K A) rfl]
  unfold ml_53
  refine run_rt rfl ?_
  show yRet _ [.val (.exc A.c_Taken (fldsD ["name"] [x]))] s = _
  simp only [runD, startR, xV, xC, xOp, xUn, xT, xAnd, xOr, xNot, xIf, xAndV, xOrV, xNotV, xCh, xNil, xCons, xTup, xLstN, xL, xCa, xF, xF0, noX, up, x1, xIt, xEn, xNo, xPa, xSl, xM1, xSplit, M.bind, M.ret, M.of, then_ok, then_ex, then_bad, yNx, yRet, yAsg, ySeq, yIf, yFor, yPar, yParK, yRaise, gV, gVt, gVc, gVn, dBl, dIn, strD, wipeR, List.getElem?_cons_zero, List.getElem?_cons_succ, List.set_cons_zero, List.set_cons_succ, Option.bind_some, Option.bind_none, Option.map_some, List.length_cons, List.length_nil, List.map_cons, List.map_nil, List.replicate_succ, List.replicate_zero, List.cons_append, List.nil_append, Nat.zero_add, Nat.reduceAdd, Nat.reduceSub, decide_true, Bool.not_true, Bool.not_false, l, then_ok2, h0, g0]
theorem tell_24   (s : S) : callL (lm K A) (.fn 54 A.lf_54) [.exc A.c_Nothing (fldsD [] [])] s = .ok (.lst []) s := by
  have l : lim 0 = true := rfl

  rw [callL_at (m := ml_54 K A) rfl]
  unfold ml_54
  refine run_rt rfl ?_
  show yRet _ [.val (.exc A.c_Nothing (fldsD [] []))] s = _
  simp only [runD, startR, xV, xC, xOp, xUn, xT, xAnd, xOr, xNot, xIf, xAndV, xOrV, xNotV, xCh, xNil, xCons, xTup, xLstN, xL, xCa, xF, xF0, noX, up, x1, xIt, xEn, xNo, xPa, xSl, xM1, xSplit, M.bind, M.ret, M.of, then_ok, then_ex, then_bad, yNx, yRet, yAsg, ySeq, yIf, yFor, yPar, yParK, yRaise, gV, gVt, gVc, gVn, dBl, dIn, strD, wipeR, List.getElem?_cons_zero, List.getElem?_cons_succ, List.set_cons_zero, List.set_cons_succ, Option.bind_some, Option.bind_none, Option.map_some, List.length_cons, List.length_nil, List.map_cons, List.map_nil, List.replicate_succ, List.replicate_zero, List.cons_append, List.nil_append, Nat.zero_add, Nat.reduceAdd, Nat.reduceSub, decide_true, Bool.not_true, Bool.not_false, l, then_ok2]
theorem tell_25 (x y : D) (h0 : ∀ fs, dXf K "what" (.exc A.c_TooMany fs) = fs.lookup ("what" : Str)) (h1 : ∀ fs, dXf K "most" (.exc A.c_TooMany fs) = fs.lookup ("most" : Str)) (s : S) : callL (lm K A) (.fn 55 A.lf_55) [.exc A.c_TooMany (fldsD ["what", "most"] [x, y])] s = .ok (.lst [x, y]) s := by
  have l : lim 2 = true := rfl
  have g0 : (fldsD ["what", "most"] [x, y]).lookup ("what" : Str) = some x := rfl
  have g1 : (fldsD ["what", "most"] [x, y]).lookup ("most" : Str) = some y := rfl
  rw [callL_at (m := ml_55 K A) rfl]
  unfold ml_55
  refine run_rt rfl ?_
  show yRet _ [.val (.exc A.c_TooMany (fldsD ["what", "most"] [x, y]))] s = _
  simp only [runD, startR, xV, xC, xOp, xUn, xT, xAnd, xOr, xNot, xIf, xAndV, xOrV, xNotV, xCh, xNil, xCons, xTup, xLstN, xL, xCa, xF, xF0, noX, up, x1, xIt, xEn, xNo, xPa, xSl, xM1, xSplit, M.bind, M.ret, M.of, then_ok, then_ex, then_bad, yNx, yRet, yAsg, ySeq, yIf, yFor, yPar, yParK, yRaise, gV, gVt, gVc, gVn, dBl, dIn, strD, wipeR, List.getElem?_cons_zero, List.getElem?_cons_succ, List.set_cons_zero, List.set_cons_succ, Option.bind_some, Option.bind_none, Option.map_some, List.length_cons, List.length_nil, List.map_cons, List.map_nil, List.replicate_succ, List.replicate_zero, List.cons_append, List.nil_append, Nat.zero_add, Nat.reduceAdd, Nat.reduceSub, decide_true, Bool.not_true, Bool.not_false, l, then_ok2, h0, g0, h1, g1]
theorem tell_26 (x y : D) (h0 : ∀ fs, dXf K "what" (.exc A.c_TooMany fs) = fs.lookup ("what" : Str)) (h1 : ∀ fs, dXf K "most" (.exc A.c_TooMany fs) = fs.lookup ("most" : Str)) (s : S) : callL (lm K A) (.fn 56 A.lf_56) [.exc A.c_TooMany (fldsD ["what", "most"] [x, y])] s = .ok (.lst [x, y]) s := by
  have l : lim 2 = true := rfl
  have g0 : (fldsD ["what", "most"] [x, y]).lookup ("what" : Str) = some x := rfl
  have g1 : (fldsD ["what", "most"] [x, y]).lookup ("most" : Str) = some y := rfl
  rw [callL_at (m := ml_56 K A) rfl]
  unfold ml_56
  refine run_rt rfl ?_
  show yRet _ [.val (.exc A.c_TooMany (fldsD ["what", "most"] [x, y]))] s = _
  simp only [runD, startR, xV, xC, xOp, xUn, xT, xAnd, xOr, xNot, xIf, xAndV, xOrV, xNotV, xCh, xNil, xCons, xTup, xLstN, xL, xCa, xF, xF0, noX, up, x1, xIt, xEn, xNo, xPa, xSl, xM1, xSplit, M.bind, M.ret, M.of, then_ok, then_ex, then_bad, yNx, yRet, yAsg, ySeq, yIf, yFor, yPar, yParK, yRaise, gV, gVt, gVc, gVn, dBl, dIn, strD, wipeR, List.getElem?_cons_zero, List.getElem?_cons_succ, List.set_cons_zero, List.set_cons_succ, Option.bind_some, Option.bind_none, Option.map_some, List.length_cons, List.length_nil, List.map_cons, List.map_nil, List.replicate_succ, List.replicate_zero, List.cons_append, List.nil_append, Nat.zero_add, Nat.reduceAdd, Nat.reduceSub, decide_true, Bool.not_true, Bool.not_false, l, then_ok2, h0, g0, h1, g1]
theorem tell_27 (x y : D) (h0 : ∀ fs, dXf K "line" (.exc A.c_BadText fs) = fs.lookup ("line" : Str)) (h1 : ∀ fs, dXf K "word" (.exc A.c_BadText fs) = fs.lookup ("word" : Str)) (s : S) : callL (lm K A) (.fn 57 A.lf_57) [.exc A.c_BadText (fldsD ["line", "word"] [x, y])] s = .ok (.lst [x, y]) s := by
  have l : lim 2 = true := rfl
  have g0 : (fldsD ["line", "word"] [x, y]).lookup ("line" : Str) = some x := rfl
  have g1 : (fldsD ["line", "word"] [x, y]).lookup ("word" : Str) = some y := rfl
  rw [callL_at (m := ml_57 K A) rfl]
  unfold ml_57
  refine run_rt rfl ?_
  show yRet _ [.val (.exc A.c_BadText (fldsD ["line", "word"] [x, y]))] s = _
  simp only [runD, startR, xV, xC, xOp, xUn, xT, xAnd, xOr, xNot, xIf, xAndV, xOrV, xNotV, xCh, xNil, xCons, xTup, xLstN, xL, xCa, xF, xF0, noX, up, x1, xIt, xEn, xNo, xPa, xSl, xM1, xSplit, M.bind, M.ret, M.of, then_ok, then_ex, then_bad, yNx, yRet, yAsg, ySeq, yIf, yFor, yPar, yParK, yRaise, gV, gVt, gVc, gVn, dBl, dIn, strD, wipeR, List.getElem?_cons_zero, List.getElem?_cons_succ, List.set_cons_zero, List.set_cons_succ, Option.bind_some, Option.bind_none, Option.map_some, List.length_cons, List.length_nil, List.map_cons, List.map_nil, List.replicate_succ, List.replicate_zero, List.cons_append, List.nil_append, Nat.zero_add, Nat.reduceAdd, Nat.reduceSub, decide_true, Bool.not_true, Bool.not_false, l, then_ok2, h0, g0, h1, g1]
theorem tell_28 (x y : D) (h0 : ∀ fs, dXf K "line" (.exc A.c_BadText fs) = fs.lookup ("line" : Str)) (h1 : ∀ fs, dXf K "word" (.exc A.c_BadText fs) = fs.lookup ("word" : Str)) (s : S) : callL (lm K A) (.fn 58 A.lf_58) [.exc A.c_BadText (fldsD ["line", "word"] [x, y])] s = .ok (.lst [x, y]) s := by
  have l : lim 2 = true := rfl
  have g0 : (fldsD ["line", "word"] [x, y]).lookup ("line" : Str) = some x := rfl
  have g1 : (fldsD ["line", "word"] [x, y]).lookup ("word" : Str) = some y := rfl
  rw [callL_at (m := ml_58 K A) rfl]
  unfold ml_58
  refine run_rt rfl ?_
  show yRet _ [.val (.exc A.c_BadText (fldsD ["line", "word"] [x, y]))] s = _
  simp only [runD, startR, xV, xC, xOp, xUn, xT, xAnd, xOr, xNot, xIf, xAndV, xOrV, xNotV, xCh, xNil, xCons, xTup, xLstN, xL, xCa, xF, xF0, noX, up, x1, xIt, xEn, xNo, xPa, xSl, xM1, xSplit, M.bind, M.ret, M.of, then_ok, then_ex, then_bad, yNx, yRet, yAsg, ySeq, yIf, yFor, yPar, yParK, yRaise, gV, gVt, gVc, gVn, dBl, dIn, strD, wipeR, List.getElem?_cons_zero, List.getElem?_cons_succ, List.set_cons_zero, List.set_cons_succ, Option.bind_some, Option.bind_none, Option.map_some, List.length_cons, List.length_nil, List.map_cons, List.map_nil, List.replicate_succ, List.replicate_zero, List.cons_append, List.nil_append, Nat.zero_add, Nat.reduceAdd, Nat.reduceSub, decide_true, Bool.not_true, Bool.not_false, l, then_ok2, h0, g0, h1, g1]
theorem tell_29 (x : D) (h0 : ∀ fs, dXf K "word" (.exc A.c_BadCommand fs) = fs.lookup ("word" : Str)) (s : S) : callL (lm K A) (.fn 59 A.lf_59) [.exc A.c_BadCommand (fldsD ["word"] [x])] s = .ok (.lst [x]) s := by
  have l : lim 1 = true := rfl
  have g0 : (fldsD ["word"] [x]).lookup ("word" : Str) = some x := rfl
  rw [callL_at (m := ml_59 K A) rfl]
  unfold ml_59
  refine run_rt rfl ?_
  show yRet _ [.val (.exc A.c_BadCommand (fldsD ["word"] [x]))] s = _
  simp only [runD, startR, xV, xC, xOp, xUn, xT, xAnd, xOr, xNot, xIf, xAndV, xOrV, xNotV, xCh, xNil, xCons, xTup, xLstN, xL, xCa, xF, xF0, noX, up, x1, xIt, xEn, xNo, xPa, xSl, xM1, xSplit, M.bind, M.ret, M.of, then_ok, then_ex, then_bad, yNx, yRet, yAsg, ySeq, yIf, yFor, yPar, yParK, yRaise, gV, gVt, gVc, gVn, dBl, dIn, strD, wipeR, List.getElem?_cons_zero, List.getElem?_cons_succ, List.set_cons_zero, List.set_cons_succ, Option.bind_some, Option.bind_none, Option.map_some, List.length_cons, List.length_nil, List.map_cons, List.map_nil, List.replicate_succ, List.replicate_zero, List.cons_append, List.nil_append, Nat.zero_add, Nat.reduceAdd, Nat.reduceSub, decide_true, Bool.not_true, Bool.not_false, l, then_ok2, h0, g0]
theorem tell_all (ke : KE K A) (x y : D) (k : Nat) (hk : k < 30) (s : S) : callL (lm K A) (.fn (30 + k) (lfA A (30 + k))) [excA A x y k] s = .ok (.lst (vsOf x y k)) s := by
  match k, hk with
  | 0, hk => exact tell_0 x (ke.fld 0 hk "value" (by decide)) s
  | 1, hk => exact tell_1 x (ke.fld 1 hk "value" (by decide)) s
  | 2, hk => exact tell_2 x (ke.fld 2 hk "part" (by decide)) s
  | 3, hk => exact tell_3 x (ke.fld 3 hk "part" (by decide)) s
  | 4, hk => exact tell_4 x (ke.fld 4 hk "part" (by decide)) s
  | 5, hk => exact tell_5 x (ke.fld 5 hk "at" (by decide)) s
  | 6, hk => exact tell_6 x (ke.fld 6 hk "at" (by decide)) s
  | 7, hk => exact tell_7 x (ke.fld 7 hk "shelf" (by decide)) s
  | 8, hk => exact tell_8 x (ke.fld 8 hk "part" (by decide)) s
  | 9, hk => exact tell_9 x (ke.fld 9 hk "value" (by decide)) s
  | 10, hk => exact tell_10 x (ke.fld 10 hk "at" (by decide)) s
  | 11, hk => exact tell_11 x (ke.fld 11 hk "at" (by decide)) s
  | 12, hk => exact tell_12 x (ke.fld 12 hk "name" (by decide)) s
  | 13, hk => exact tell_13 x (ke.fld 13 hk "shelf" (by decide)) s
  | 14, hk => exact tell_14 x y (ke.fld 14 hk "shelf" (by decide)) (ke.fld 14 hk "flow" (by decide)) s
  | 15, hk => exact tell_15 y x (ke.fld 15 hk "shelf" (by decide)) (ke.fld 15 hk "flow" (by decide)) s
  | 16, hk => exact tell_16 x y (ke.fld 16 hk "shelf" (by decide)) (ke.fld 16 hk "flow" (by decide)) s
  | 17, hk => exact tell_17 x (ke.fld 17 hk "post" (by decide)) s
  | 18, hk => exact tell_18 x (ke.fld 18 hk "shelf" (by decide)) s
  | 19, hk => exact tell_19 x (ke.fld 19 hk "number" (by decide)) s
  | 20, hk => exact tell_20 x (ke.fld 20 hk "want" (by decide)) s
  | 21, hk => exact tell_21 x (ke.fld 21 hk "flow" (by decide)) s
  | 22, hk => exact tell_22 x (ke.fld 22 hk "paper" (by decide)) s
  | 23, hk => exact tell_23 x (ke.fld 23 hk "name" (by decide)) s
  | 24, hk => exact tell_24   s
  | 25, hk => exact tell_25 x y (ke.fld 25 hk "what" (by decide)) (ke.fld 25 hk "most" (by decide)) s
  | 26, hk => exact tell_26 y x (ke.fld 26 hk "what" (by decide)) (ke.fld 26 hk "most" (by decide)) s
  | 27, hk => exact tell_27 x y (ke.fld 27 hk "line" (by decide)) (ke.fld 27 hk "word" (by decide)) s
  | 28, hk => exact tell_28 y x (ke.fld 28 hk "line" (by decide)) (ke.fld 28 hk "word" (by decide)) s
  | 29, hk => exact tell_29 x (ke.fld 29 hk "word" (by decide)) s
  | n + 30, hk => omega
theorem vs_cases (x y : D) (k : Nat) (hk : k < 30) : vsOf x y k = [] ∨ vsOf x y k = [x] ∨ vsOf x y k = [x, y] ∨ vsOf x y k = [y, x] := by
  match k, hk with
  | 0, _ => exact .inr (.inl rfl)
  | 1, _ => exact .inr (.inl rfl)
  | 2, _ => exact .inr (.inl rfl)
  | 3, _ => exact .inr (.inl rfl)
  | 4, _ => exact .inr (.inl rfl)
  | 5, _ => exact .inr (.inl rfl)
  | 6, _ => exact .inr (.inl rfl)
  | 7, _ => exact .inr (.inl rfl)
  | 8, _ => exact .inr (.inl rfl)
  | 9, _ => exact .inr (.inl rfl)
  | 10, _ => exact .inr (.inl rfl)
  | 11, _ => exact .inr (.inl rfl)
  | 12, _ => exact .inr (.inl rfl)
  | 13, _ => exact .inr (.inl rfl)
  | 14, _ => exact .inr (.inr (.inl rfl))
  | 15, _ => exact .inr (.inr (.inr rfl))
  | 16, _ => exact .inr (.inr (.inl rfl))
  | 17, _ => exact .inr (.inl rfl)
  | 18, _ => exact .inr (.inl rfl)
  | 19, _ => exact .inr (.inl rfl)
  | 20, _ => exact .inr (.inl rfl)
  | 21, _ => exact .inr (.inl rfl)
  | 22, _ => exact .inr (.inl rfl)
  | 23, _ => exact .inr (.inl rfl)
  | 24, _ => exact .inl rfl
  | 25, _ => exact .inr (.inr (.inl rfl))
  | 26, _ => exact .inr (.inr (.inr rfl))
  | 27, _ => exact .inr (.inr (.inl rfl))
  | 28, _ => exact .inr (.inr (.inr rfl))
  | 29, _ => exact .inr (.inl rfl)
  | n + 30, hk => omega
end
end Rk01

namespace Rk01
open PySem L2 Fs TL
/-- the values that are drawn -/
def VALS : List D := [.non, .bl true, .bl false, .int 0, .int 1, .int (-7), .int 100000000000000000000000000000000000000000000000000000000000, .str "", .str "a", .str "out", .tup [], .tup [.str "a", .int 1], .lst [], .lst [.str "e"], .dct [], .dct [(.inr "a", .str "b")], .str "two words"]
theorem repr_two : (VALS.all fun x => VALS.all fun y => (dReprD1 (.lst [x, y])).isSome) = true := by decide +kernel
theorem repr_one : (VALS.all fun x => (dReprD1 (.lst [x])).isSome) = true := by decide +kernel
theorem repr_nil : (dReprD1 (.lst [])).isSome = true := by decide +kernel
theorem repr_str {x d : D} (h : dReprD1 x = some d) : ∃ z, d = .str z := by
  unfold dReprD1 at h
  split at h
  · split at h
    · split at h
      · exact ⟨_, (Option.some.inj h).symm⟩
      · cases h
    · split at h
      · exact ⟨_, (Option.some.inj h).symm⟩
      · cases h
    · split at h
      · exact ⟨_, (Option.some.inj h).symm⟩
      · cases h
    · cases h
  · cases h
theorem reprs {K : PySem.W.Frag} {A : Ad} (ke : KE K A) {x y : D} (hx : x ∈ VALS) (hy : y ∈ VALS) (k : Nat) (hk : k < 30) : ∃ z, dReprD K [.lst (vsOf x y k)] = some (.str z) := by
  have h : (dReprD1 (.lst (vsOf x y k))).isSome = true := by
    rcases vs_cases x y k hk with e | e | e | e <;> rw [e]
    · exact repr_nil
    · exact List.all_eq_true.mp repr_one x hx
    · exact List.all_eq_true.mp (List.all_eq_true.mp repr_two x hx) y hy
    · exact List.all_eq_true.mp (List.all_eq_true.mp repr_two y hy) x hx
  obtain ⟨d, e⟩ := Option.isSome_iff_exists.mp h
  obtain ⟨z, rfl⟩ := repr_str e
  refine ⟨z, ?_⟩
  show (match chk (SysIn K) with | true => dReprD1 (.lst (vsOf x y k)) | false => none) = _
  rw [chk_true ke.sys, e]
def isB (o : Option D) (b : Bool) : Bool := match o with
  | some (.bl c) => c == b
  | _ => false
theorem isB_ok {o : Option D} {b : Bool} (h : isB o b = true) : o = some (.bl b) := by
  unfold isB at h
  split at h
  · rw [eq_of_beq h]
  · cases h
abbrev INTS : List D := (List.range 30).map fun j => D.int (j : Nat)
def toN : D → Nat
  | .int i => i.toNat
  | _ => 0
abbrev known (k : Nat) : List D := INTS.filter fun d => decide (nm k = nm (toN d))
abbrev PAIRS : List D := [.lst [.int 14, .int 15], .lst [.int 25, .int 26], .lst [.int 27, .int 28]]
def hasB (k : Nat) (d : D) : Bool := match dIn2 (.int k) d with
  | some (.bl b) => b
  | _ => false
abbrev twins (k : Nat) : List D := PAIRS.filter (hasB k)
theorem in_all : ((List.range 30).all fun k => PAIRS.all fun d => isB (dIn2 (.int (k : Nat)) d) (hasB k d)) = true := by decide +kernel
theorem two_all : ((List.range 30).all fun k => isB (neA (.lst (twins k)) (.lst [])) (!(twins k).isEmpty)) = true := by decide +kernel
def endB (k : Nat) : Bool := match (twins k).isEmpty with
  | true => isB (neA (.lst (known k)) (.lst [.int (k : Nat)])) false
  | false => (match dIx (.lst (twins k)) (.int 0) with | some w => isB (neA (.lst (known k)) w) false | none => false)
theorem end_all : ((List.range 30).all endB) = true := by decide +kernel
theorem rng_all {f : Nat → Bool} (h : (List.range 30).all f = true) {k : Nat} (hk : k < 30) : f k = true := List.all_eq_true.mp h k (List.mem_range.mpr hk)
section
variable {K : PySem.W.Frag} {A : Ad} {L : PenA} {mk mm mp mv : List D → M PenS D}
theorem step_eq (ke : KE K A) {x y : D} (hx : x ∈ VALS) (hy : y ∈ VALS) {k : Nat} (hk : k < 30) {u0 u1 u2 u3 u7 u8 u9 u10 u11 u12 u13 : Sl} (s : PenS) :
    ∃ y7 y8 y9 y10 y11, (fb_law_1 K A mk mm mp mv : Rho → M PenS Out) [u0, u1, u2, u3, .val (.lst (kinds A)), .val (.int (k : Nat)), .val (rowD A x y k), u7, u8, u9, u10, u11, u12, u13] s
      = .ok (.nx [u0, u1, u2, u3, .val (.lst (kinds A)), .val (.int (k : Nat)), .val (rowD A x y k), y7, y8, y9, y10, y11, u12, u13]) s := by
  obtain ⟨z, hz⟩ := reprs ke hx hy k hk
  have tl := tell_all ke x y k hk s
  have sh : dIsx K [excA A x y k, .adr A.c_ShelfError] = some (.bl true) := ke.she k hk _
  have vl : dIsx K [excA A x y k, .ty "ValueError"] = some (.bl true) := ke.val k hk _
  have nz : neA (.str z) (.str z) = some (.bl false) := by rw [neA_str]; simp
  refine ⟨.val (excA A x y k), .val (.fn (30 + k) (lfA A (30 + k))), .val (.lst (vsOf x y k)), .val (.lst (known k)), .val (.lst (twins k)), ?_⟩
  unfold fb_law_1
  rw [seq_nx (ρ1 := [u0, u1, u2, u3, .val (.lst (kinds A)), .val (.int (k : Nat)), .val (rowD A x y k), .val (excA A x y k), .val (.fn (30 + k) (lfA A (30 + k))), .val (.lst (vsOf x y k)), u10, u11, u12, u13]) (s1 := s) (by unfold rowD; simp only [runD, startR, xV, xC, xOp, xUn, xT, xAnd, xOr, xNot, xIf, xAndV, xOrV, xNotV, xCh, xNil, xCons, xTup, xLstN, xL, xCa, xF, xF0, noX, up, x1, xIt, xEn, xNo, xPa, xSl, xM1, xSplit, M.bind, M.ret, M.of, then_ok, then_ex, then_bad, yNx, yRet, yAsg, ySeq, yIf, yFor, yPar, yParK, yRaise, gV, gVt, gVc, gVn, dBl, dIn, strD, wipeR, List.getElem?_cons_zero, List.getElem?_cons_succ, List.set_cons_zero, List.set_cons_succ, Option.bind_some, Option.bind_none, Option.map_some, List.length_cons, List.length_nil, List.map_cons, List.map_nil, List.replicate_succ, List.replicate_zero, List.cons_append, List.nil_append, Nat.zero_add, Nat.reduceAdd, Nat.reduceSub, decide_true, Bool.not_true, Bool.not_false, then_ok2])]
  rw [seq_nx (ρ1 := [u0, u1, u2, u3, .val (.lst (kinds A)), .val (.int (k : Nat)), .val (rowD A x y k), .val (excA A x y k), .val (.fn (30 + k) (lfA A (30 + k))), .val (.lst (vsOf x y k)), u10, u11, u12, u13]) (s1 := s) (by simp only [runD, startR, xV, xC, xOp, xUn, xT, xAnd, xOr, xNot, xIf, xAndV, xOrV, xNotV, xCh, xNil, xCons, xTup, xLstN, xL, xCa, xF, xF0, noX, up, x1, xIt, xEn, xNo, xPa, xSl, xM1, xSplit, M.bind, M.ret, M.of, then_ok, then_ex, then_bad, yNx, yRet, yAsg, ySeq, yIf, yFor, yPar, yParK, yRaise, gV, gVt, gVc, gVn, dBl, dIn, strD, wipeR, List.getElem?_cons_zero, List.getElem?_cons_succ, List.set_cons_zero, List.set_cons_succ, Option.bind_some, Option.bind_none, Option.map_some, List.length_cons, List.length_nil, List.map_cons, List.map_nil, List.replicate_succ, List.replicate_zero, List.cons_append, List.nil_append, Nat.zero_add, Nat.reduceAdd, Nat.reduceSub, decide_true, Bool.not_true, Bool.not_false, xCallL, isFn, tl, hz, nz, sh, vl, then_ok2])]
  have kl : (kinds A).length = 30 := by unfold kinds; rw [List.length_map, List.length_range]
  have rg : r1D [.int (30 : Nat)] = some INTS := rfl
  have c1 : compD (gV 12) (xT (xCallL0 (lm K A) (xOp dIx (xV 4) (xV 12)) (xCons (xV 7) xNil))) (xV 12) [u0, u1, u2, u3, .val (.lst (kinds A)), .val (.int (k : Nat)), .val (rowD A x y k), .val (excA A x y k), .val (.fn (30 + k) (lfA A (30 + k))), .val (.lst (vsOf x y k)), u10, u11, .no, u13] INTS s = .ok (known k) s := by
    have h := comp_pure (g := gV 12) (t := xT (xCallL0 (lm K A) (xOp dIx (xV 4) (xV 12)) (xCons (xV 7) xNil))) (e := xV 12) (ρ := [u0, u1, u2, u3, .val (.lst (kinds A)), .val (.int (k : Nat)), .val (rowD A x y k), .val (excA A x y k), .val (.fn (30 + k) (lfA A (30 + k))), .val (.lst (vsOf x y k)), u10, u11, .no, u13]) (s := s) (fun d => decide (nm k = nm (toN d))) id INTS fun d hd => by
      obtain ⟨j, hj, rfl⟩ := List.mem_map.mp hd
      have hj : j < 30 := List.mem_range.mp hj
      have gx : dIx (.lst (kinds A)) (.int (j : Nat)) = some (.fn j (lfA A j)) := by
        rw [dIx_lst, atI_nat]
        unfold kinds
        rw [List.getElem?_map, List.getElem?_range hj]
        rfl
      refine ⟨[u0, u1, u2, u3, .val (.lst (kinds A)), .val (.int (k : Nat)), .val (rowD A x y k), .val (excA A x y k), .val (.fn (30 + k) (lfA A (30 + k))), .val (.lst (vsOf x y k)), u10, u11, .val (.int (j : Nat)), u13], rfl, ?_, fun _ => rfl⟩
      have kn : callL (lm K A) (.fn j (lfA A j)) [excA A x y k] s = .ok (.bl (decide (nm k = nm j))) s := kin_all j hj (ke.kin k hk j hj _) s
      simp only [runD, startR, xV, xC, xOp, xUn, xT, xAnd, xOr, xNot, xIf, xAndV, xOrV, xNotV, xCh, xNil, xCons, xTup, xLstN, xL, xCa, xF, xF0, noX, up, x1, xIt, xEn, xNo, xPa, xSl, xM1, xSplit, M.bind, M.ret, M.of, then_ok, then_ex, then_bad, yNx, yRet, yAsg, ySeq, yIf, yFor, yPar, yParK, yRaise, gV, gVt, gVc, gVn, dBl, dIn, strD, wipeR, List.getElem?_cons_zero, List.getElem?_cons_succ, List.set_cons_zero, List.set_cons_succ, Option.bind_some, Option.bind_none, Option.map_some, List.length_cons, List.length_nil, List.map_cons, List.map_nil, List.replicate_succ, List.replicate_zero, List.cons_append, List.nil_append, Nat.zero_add, Nat.reduceAdd, Nat.reduceSub, decide_true, Bool.not_true, Bool.not_false, xCallL0, isFn, gx, kn, then_ok2]
      rfl
    rw [h, List.map_id]
  rw [seq_nx (ρ1 := [u0, u1, u2, u3, .val (.lst (kinds A)), .val (.int (k : Nat)), .val (rowD A x y k), .val (excA A x y k), .val (.fn (30 + k) (lfA A (30 + k))), .val (.lst (vsOf x y k)), .val (.lst (known k)), u11, u12, u13]) (s1 := s) (by
    have l30 : lim INTS.length = true := rfl
    simp only [runD, startR, xV, xC, xOp, xUn, xT, xAnd, xOr, xNot, xIf, xAndV, xOrV, xNotV, xCh, xNil, xCons, xTup, xLstN, xL, xCa, xF, xF0, noX, up, x1, xIt, xEn, xNo, xPa, xSl, xM1, xSplit, M.bind, M.ret, M.of, then_ok, then_ex, then_bad, yNx, yRet, yAsg, ySeq, yIf, yFor, yPar, yParK, yRaise, gV, gVt, gVc, gVn, dBl, dIn, strD, wipeR, List.getElem?_cons_zero, List.getElem?_cons_succ, List.set_cons_zero, List.set_cons_succ, Option.bind_some, Option.bind_none, Option.map_some, List.length_cons, List.length_nil, List.map_cons, List.map_nil, List.replicate_succ, List.replicate_zero, List.cons_append, List.nil_append, Nat.zero_add, Nat.reduceAdd, Nat.reduceSub, decide_true, Bool.not_true, Bool.not_false, xLc, xR1, dLen_lst, kl, rg, l30, c1, then_ok2])]
  have c2 : compD (gV 13) (xT (xOp dIn2 (xV 5) (xV 13))) (xV 13) [u0, u1, u2, u3, .val (.lst (kinds A)), .val (.int (k : Nat)), .val (rowD A x y k), .val (excA A x y k), .val (.fn (30 + k) (lfA A (30 + k))), .val (.lst (vsOf x y k)), .val (.lst (known k)), u11, u12, .no] PAIRS s = .ok (twins k) s := by
    have h := comp_pure (g := gV 13) (t := xT (xOp dIn2 (xV 5) (xV 13))) (e := xV 13) (ρ := [u0, u1, u2, u3, .val (.lst (kinds A)), .val (.int (k : Nat)), .val (rowD A x y k), .val (excA A x y k), .val (.fn (30 + k) (lfA A (30 + k))), .val (.lst (vsOf x y k)), .val (.lst (known k)), u11, u12, .no]) (s := s) (hasB k) id PAIRS fun d hd => by
      have e := isB_ok (List.all_eq_true.mp (rng_all in_all hk) d hd)
      refine ⟨[u0, u1, u2, u3, .val (.lst (kinds A)), .val (.int (k : Nat)), .val (rowD A x y k), .val (excA A x y k), .val (.fn (30 + k) (lfA A (30 + k))), .val (.lst (vsOf x y k)), .val (.lst (known k)), u11, u12, .val d], rfl, ?_, fun _ => rfl⟩
      simp only [runD, startR, xV, xC, xOp, xUn, xT, xAnd, xOr, xNot, xIf, xAndV, xOrV, xNotV, xCh, xNil, xCons, xTup, xLstN, xL, xCa, xF, xF0, noX, up, x1, xIt, xEn, xNo, xPa, xSl, xM1, xSplit, M.bind, M.ret, M.of, then_ok, then_ex, then_bad, yNx, yRet, yAsg, ySeq, yIf, yFor, yPar, yParK, yRaise, gV, gVt, gVc, gVn, dBl, dIn, strD, wipeR, List.getElem?_cons_zero, List.getElem?_cons_succ, List.set_cons_zero, List.set_cons_succ, Option.bind_some, Option.bind_none, Option.map_some, List.length_cons, List.length_nil, List.map_cons, List.map_nil, List.replicate_succ, List.replicate_zero, List.cons_append, List.nil_append, Nat.zero_add, Nat.reduceAdd, Nat.reduceSub, decide_true, Bool.not_true, Bool.not_false, e, then_ok2]
    rw [h, List.map_id]
  rw [seq_nx (ρ1 := [u0, u1, u2, u3, .val (.lst (kinds A)), .val (.int (k : Nat)), .val (rowD A x y k), .val (excA A x y k), .val (.fn (30 + k) (lfA A (30 + k))), .val (.lst (vsOf x y k)), .val (.lst (known k)), .val (.lst (twins k)), u12, u13]) (s1 := s) (by
    have l2 : lim 2 = true := rfl
    have l3 : lim 3 = true := rfl
    have it : items (.lst PAIRS) = some PAIRS := rfl
    simp only [runD, startR, xV, xC, xOp, xUn, xT, xAnd, xOr, xNot, xIf, xAndV, xOrV, xNotV, xCh, xNil, xCons, xTup, xLstN, xL, xCa, xF, xF0, noX, up, x1, xIt, xEn, xNo, xPa, xSl, xM1, xSplit, M.bind, M.ret, M.of, then_ok, then_ex, then_bad, yNx, yRet, yAsg, ySeq, yIf, yFor, yPar, yParK, yRaise, gV, gVt, gVc, gVn, dBl, dIn, strD, wipeR, List.getElem?_cons_zero, List.getElem?_cons_succ, List.set_cons_zero, List.set_cons_succ, Option.bind_some, Option.bind_none, Option.map_some, List.length_cons, List.length_nil, List.map_cons, List.map_nil, List.replicate_succ, List.replicate_zero, List.cons_append, List.nil_append, Nat.zero_add, Nat.reduceAdd, Nat.reduceSub, decide_true, Bool.not_true, Bool.not_false, xLc, l2, l3, it, c2, then_ok2])]
  have e1 := isB_ok (rng_all two_all hk)
  have e2 := rng_all end_all hk
  unfold endB at e2
  cases eb : (twins k).isEmpty with
  | true =>
    rw [eb] at e1 e2
    have e3 := isB_ok e2
    have l1 : lim 1 = true := rfl
    have l0 : lim 0 = true := rfl
    simp only [runD, startR, xV, xC, xOp, xUn, xT, xAnd, xOr, xNot, xIf, xAndV, xOrV, xNotV, xCh, xNil, xCons, xTup, xLstN, xL, xCa, xF, xF0, noX, up, x1, xIt, xEn, xNo, xPa, xSl, xM1, xSplit, M.bind, M.ret, M.of, then_ok, then_ex, then_bad, yNx, yRet, yAsg, ySeq, yIf, yFor, yPar, yParK, yRaise, gV, gVt, gVc, gVn, dBl, dIn, strD, wipeR, List.getElem?_cons_zero, List.getElem?_cons_succ, List.set_cons_zero, List.set_cons_succ, Option.bind_some, Option.bind_none, Option.map_some, List.length_cons, List.length_nil, List.map_cons, List.map_nil, List.replicate_succ, List.replicate_zero, List.cons_append, List.nil_append, Nat.zero_add, Nat.reduceAdd, Nat.reduceSub, decide_true, Bool.not_true, Bool.not_false, l0, l1, e1, e3, then_ok2]
  | false =>
    rw [eb] at e1 e2
    have l0 : lim 0 = true := rfl
    cases ew : dIx (.lst (twins k)) (.int 0) with
    | none => rw [ew] at e2; cases e2
    | some w =>
      rw [ew] at e2
      have e3 := isB_ok e2
      simp only [runD, startR, xV, xC, xOp, xUn, xT, xAnd, xOr, xNot, xIf, xAndV, xOrV, xNotV, xCh, xNil, xCons, xTup, xLstN, xL, xCa, xF, xF0, noX, up, x1, xIt, xEn, xNo, xPa, xSl, xM1, xSplit, M.bind, M.ret, M.of, then_ok, then_ex, then_bad, yNx, yRet, yAsg, ySeq, yIf, yFor, yPar, yParK, yRaise, gV, gVt, gVc, gVn, dBl, dIn, strD, wipeR, List.getElem?_cons_zero, List.getElem?_cons_succ, List.set_cons_zero, List.set_cons_succ, Option.bind_some, Option.bind_none, Option.map_some, List.length_cons, List.length_nil, List.map_cons, List.map_nil, List.replicate_succ, List.replicate_zero, List.cons_append, List.nil_append, Nat.zero_add, Nat.reduceAdd, Nat.reduceSub, decide_true, Bool.not_true, Bool.not_false, l0, e1, ew, e3, then_ok2]
end
end Rk01

namespace Rk01
open PySem L2 Fs TL
section
variable {K : PySem.W.Frag} {A : Ad} {L : PenA} {pk : List D → M PenS D}
theorem value_eq (h : Pkr L pk) {n : Nat} {s : PenS} (u : Us n s) (hn : n ≤ 1000000) : ∃ x ∈ VALS, ∃ s', runD 2 1 (b_L_value K A pk) [.adr L.p] s = .ok x s' ∧ Us (n + 1) s' := by
  obtain ⟨x, hx, s', e, u'⟩ := h VALS (by simp [VALS]) (by show 17 ≤ 1000000; decide) n s u hn
  refine ⟨x, hx, s', run_rt rfl ?_, u'⟩
  show (b_L_value K A pk : Rho → M PenS Out) [.val (.adr L.p), .no] s = _
  have l0 : lim 0 = true := rfl
  have l1 : lim 1 = true := rfl
  have l2 : lim 2 = true := rfl
  have l17 : lim 17 = true := rfl
  have ng : dNeg (.int 7) = some (.int (-7)) := rfl
  have p59 : dPow (.int 10) (.int 59) = some (.int 100000000000000000000000000000000000000000000000000000000000) := by rw [dPow_int ⟨by decide, by decide, by decide⟩]; rfl
  have dd : dispD [(.str "a", .str "b")] = some (.dct [(.inr "a", .str "b")]) := rfl
  unfold VALS at e
  unfold b_L_value
  simp only [runD, startR, xV, xC, xOp, xUn, xT, xAnd, xOr, xNot, xIf, xAndV, xOrV, xNotV, xCh, xNil, xCons, xTup, xLstN, xL, xCa, xF, xF0, noX, up, x1, xIt, xEn, xNo, xPa, xSl, xM1, xSplit, M.bind, M.ret, M.of, then_ok, then_ex, then_bad, yNx, yRet, yAsg, ySeq, yIf, yFor, yPar, yParK, yRaise, gV, gVt, gVc, gVn, dBl, dIn, strD, wipeR, List.getElem?_cons_zero, List.getElem?_cons_succ, List.set_cons_zero, List.set_cons_succ, Option.bind_some, Option.bind_none, Option.map_some, List.length_cons, List.length_nil, List.map_cons, List.map_nil, List.replicate_succ, List.replicate_zero, List.cons_append, List.nil_append, Nat.zero_add, Nat.reduceAdd, Nat.reduceSub, decide_true, Bool.not_true, Bool.not_false, xDisp, pairsR, l0, l1, l2, l17, ng, p59, dd, e, then_ok2]
theorem rows_loop (ke : KE K A) {mk mm mp mv : List D → M PenS D} {x y : D} (hx : x ∈ VALS) (hy : y ∈ VALS) {u0 u1 u2 u3 : Sl} (s : PenS) : ∀ (n m : Nat), m + n = 30 → ∀ u5 u6 u7 u8 u9 u10 u11 u12 u13 : Sl,
    ∃ y5 y6 y7 y8 y9 y10 y11, (loopD (gVt 2 (gVc (gV 5) (gVc (gV 6) gVn))) (fb_law_1 K A mk mm mp mv) ((List.range' m n).map fun k => D.tup [.int (k : Nat), rowD A x y k]) : Rho → M PenS Out) [u0, u1, u2, u3, .val (.lst (kinds A)), u5, u6, u7, u8, u9, u10, u11, u12, u13] s
      = .ok (.nx [u0, u1, u2, u3, .val (.lst (kinds A)), y5, y6, y7, y8, y9, y10, y11, u12, u13]) s
  | 0, m, _, u5, u6, u7, u8, u9, u10, u11, u12, u13 => ⟨u5, u6, u7, u8, u9, u10, u11, rfl⟩
  | n + 1, m, hm, u5, u6, u7, u8, u9, u10, u11, u12, u13 => by
    obtain ⟨z7, z8, z9, z10, z11, e⟩ := step_eq (mk := mk) (mm := mm) (mp := mp) (mv := mv) ke hx hy (k := m) (by omega) (u0 := u0) (u1 := u1) (u2 := u2) (u3 := u3) (u7 := u7) (u8 := u8) (u9 := u9) (u10 := u10) (u11 := u11) (u12 := u12) (u13 := u13) s
    obtain ⟨y5, y6, y7, y8, y9, y10, y11, e2⟩ := rows_loop ke (mk := mk) (mm := mm) (mp := mp) (mv := mv) hx hy (u0 := u0) (u1 := u1) (u2 := u2) (u3 := u3) s n (m + 1) (by omega) (.val (.int (m : Nat))) (.val (rowD A x y m)) z7 z8 z9 z10 z11 u12 u13
    refine ⟨y5, y6, y7, y8, y9, y10, y11, ?_⟩
    rw [List.range'_succ, List.map_cons]
    simp only [loopD, gVt, gVc, gVn, gV, List.length_cons, List.length_nil, Nat.zero_add, Nat.reduceAdd, decide_true, List.set_cons_zero, List.set_cons_succ, Option.bind_some, M.bind, M.ret, then_ok, e, e2]
theorem turn_eq (ke : KE K A) (h : Pkr L pk) {mp : List D → M PenS D} {n : Nat} {s : PenS} (u : Us n s) (hn : n + 2 ≤ 1000000) {u0 u2 u3 u4 u5 u6 u7 u8 u9 u10 u11 u12 u13 : Sl} :
    ∃ y3 y4 y5 y6 y7 y8 y9 y10 y11 s', (fb_law_2 K A (runD 0 0 (b_L_kinds K A)) (runD 2 2 (b_L_made K A)) mp (runD 2 1 (b_L_value K A pk)) : Rho → M PenS Out) [u0, .val (.adr L.p), u2, u3, u4, u5, u6, u7, u8, u9, u10, u11, u12, u13] s
      = .ok (.nx [u0, .val (.adr L.p), u2, y3, y4, y5, y6, y7, y8, y9, y10, y11, u12, u13]) s' ∧ Us (n + 2) s' := by
  obtain ⟨x, hx, s1, e1, v1⟩ := value_eq (K := K) (A := A) h u (by omega)
  obtain ⟨y, hy, s2, e2, v2⟩ := value_eq (K := K) (A := A) h v1 (by omega)
  obtain ⟨y5, y6, y7, y8, y9, y10, y11, e3⟩ := rows_loop ke (mk := runD 0 0 (b_L_kinds K A)) (mm := runD 2 2 (b_L_made K A)) (mp := mp) (mv := runD 2 1 (b_L_value K A pk)) hx hy (u0 := u0) (u1 := .val (.adr L.p)) (u2 := u2) (u3 := .val (.lst (rows A x y))) s2 30 0 rfl u5 u6 u7 u8 u9 u10 u11 u12 u13
  refine ⟨.val (.lst (rows A x y)), .val (.lst (kinds A)), y5, y6, y7, y8, y9, y10, y11, s2, ?_, v2⟩
  have l2 : lim 2 = true := rfl
  have em := made_eq (K := K) (A := A) x y s2
  have ek := kinds_eq (K := K) (A := A) s2
  unfold fb_law_2
  rw [seq_nx (ρ1 := [u0, .val (.adr L.p), u2, .val (.lst (rows A x y)), .val (.lst (kinds A)), u5, u6, u7, u8, u9, u10, u11, u12, u13]) (s1 := s2) (by
    simp only [xTup, xF, xCons, xV, xNil, yAsg, gV, gVt, gVc, gVn, M.bind, M.ret, M.of, then_ok, then_ok2, List.getElem?_cons_zero, List.getElem?_cons_succ, List.set_cons_zero, List.set_cons_succ, List.length_cons, List.length_nil, Nat.zero_add, Nat.reduceAdd, decide_true, Option.bind_some, e1, e2, em, ek, l2])]
  rw [for_of (ds := (List.range' 0 30).map fun k => D.tup [.int (k : Nat), rowD A x y k]) (s1 := s2) (by
    have en : enD [.lst (rows A x y)] = some ((List.range' 0 30).map fun k => D.tup [.int (k : Nat), rowD A x y k]) := rfl
    simp only [xEn, xCons, xV, xNil, M.bind, M.ret, M.of, then_ok, then_ok2, List.getElem?_cons_zero, List.getElem?_cons_succ, en])]
  exact e3
theorem turns_eq (ke : KE K A) (h : Pkr L pk) {mp : List D → M PenS D} {u0 u12 u13 : Sl} : ∀ (ds : List D) (n : Nat) (s : PenS), Us n s → n + 2 * ds.length ≤ 1000000 → ∀ u2 u3 u4 u5 u6 u7 u8 u9 u10 u11 : Sl,
    ∃ y2 y3 y4 y5 y6 y7 y8 y9 y10 y11 s', (loopD (gV 2) (fb_law_2 K A (runD 0 0 (b_L_kinds K A)) (runD 2 2 (b_L_made K A)) mp (runD 2 1 (b_L_value K A pk))) ds : Rho → M PenS Out) [u0, .val (.adr L.p), u2, u3, u4, u5, u6, u7, u8, u9, u10, u11, u12, u13] s
      = .ok (.nx [u0, .val (.adr L.p), y2, y3, y4, y5, y6, y7, y8, y9, y10, y11, u12, u13]) s'
  | [], n, s, u, hn, u2, u3, u4, u5, u6, u7, u8, u9, u10, u11 => ⟨u2, u3, u4, u5, u6, u7, u8, u9, u10, u11, s, rfl⟩
  | d :: ds, n, s, u, hn, u2, u3, u4, u5, u6, u7, u8, u9, u10, u11 => by
    rw [List.length_cons] at hn
    obtain ⟨z3, z4, z5, z6, z7, z8, z9, z10, z11, s1, e1, u1⟩ := turn_eq ke h (mp := mp) u (by omega) (u0 := u0) (u2 := .val d) (u3 := u3) (u4 := u4) (u5 := u5) (u6 := u6) (u7 := u7) (u8 := u8) (u9 := u9) (u10 := u10) (u11 := u11) (u12 := u12) (u13 := u13)
    obtain ⟨y2, y3, y4, y5, y6, y7, y8, y9, y10, y11, s2, e2⟩ := turns_eq ke h (mp := mp) (u0 := u0) (u12 := u12) (u13 := u13) ds (n + 2) s1 u1 (by omega) (.val d) z3 z4 z5 z6 z7 z8 z9 z10 z11
    refine ⟨y2, y3, y4, y5, y6, y7, y8, y9, y10, y11, s2, ?_⟩
    simp only [loopD, gV, List.set_cons_zero, List.set_cons_succ, M.bind, then_ok, e1, e2]
theorem law_eq (ke : KE K A) (h : Pkr L pk) {mp : List D → M PenS D} {s : PenS} (u : Us 0 s) :
    ∃ s', (b_law K A (runD 0 0 (b_L_kinds K A)) (runD 2 2 (b_L_made K A)) mp (runD 2 1 (b_L_value K A pk)) : Rho → M PenS Out) [.no, .val (.adr L.p), .no, .no, .no, .no, .no, .no, .no, .no, .no, .no, .no, .no] s = .ok (.rt (.bl true)) s' := by
  have r4 : r1D [.int 4] = some [.int 0, .int 1, .int 2, .int 3] := rfl
  obtain ⟨y2, y3, y4, y5, y6, y7, y8, y9, y10, y11, s2, e2⟩ := turns_eq (u0 := .no) (u12 := .no) (u13 := .no) ke h (mp := mp) [.int 0, .int 1, .int 2, .int 3] 0 s u (by decide) .no .no .no .no .no .no .no .no .no .no
  refine ⟨s2, ?_⟩
  unfold b_law
  rw [seq_nx (ρ1 := [.no, .val (.adr L.p), y2, y3, y4, y5, y6, y7, y8, y9, y10, y11, .no, .no]) (s1 := s2) (by
    rw [for_of (ds := [.int 0, .int 1, .int 2, .int 3]) (s1 := s) (by simp only [xR1, xCons, xC, xNil, M.bind, M.ret, M.of, then_ok, r4])]
    exact e2)]
  have t := ke.top
  simp only [runD, startR, xV, xC, xOp, xUn, xT, xAnd, xOr, xNot, xIf, xAndV, xOrV, xNotV, xCh, xNil, xCons, xTup, xLstN, xL, xCa, xF, xF0, noX, up, x1, xIt, xEn, xNo, xPa, xSl, xM1, xSplit, M.bind, M.ret, M.of, then_ok, then_ex, then_bad, yNx, yRet, yAsg, ySeq, yIf, yFor, yPar, yParK, yRaise, gV, gVt, gVc, gVn, dBl, dIn, strD, wipeR, List.getElem?_cons_zero, List.getElem?_cons_succ, List.set_cons_zero, List.set_cons_succ, Option.bind_some, Option.bind_none, Option.map_some, List.length_cons, List.length_nil, List.map_cons, List.map_nil, List.replicate_succ, List.replicate_zero, List.cons_append, List.nil_append, Nat.zero_add, Nat.reduceAdd, Nat.reduceSub, decide_true, Bool.not_true, Bool.not_false, xXb, t, then_ok2]
end
end Rk01

namespace Rk01
open PySem PySem.Spec PyProof.Rows L2 Fs
def cN : List Str := ["BadName", "BadShelf", "BadFlow", "BadNet", "BadPaper", "BadLot", "BadChange", "BadSize", "BadLoad", "BadNumber", "BadOrder", "BadLink", "NoFlow", "NoShelf", "NoStep", "NotMet", "NoPost", "NoRoom", "NoParcel", "NoWant", "Endless", "Unsafe", "Taken", "Nothing", "TooMany", "BadText", "BadCommand"]
def fN : List (Str × Str) := [("BadName", "value"), ("BadShelf", "value"), ("BadFlow", "part"), ("BadNet", "part"), ("BadPaper", "part"), ("BadLot", "at"), ("BadChange", "at"), ("BadSize", "shelf"), ("BadLoad", "part"), ("BadNumber", "value"), ("BadOrder", "at"), ("BadLink", "at"), ("NoFlow", "name"), ("NoShelf", "shelf"), ("NoStep", "shelf"), ("NoStep", "flow"), ("NotMet", "shelf"), ("NotMet", "flow"), ("NoPost", "post"), ("NoRoom", "shelf"), ("NoParcel", "number"), ("NoWant", "want"), ("Endless", "flow"), ("Unsafe", "paper"), ("Taken", "name"), ("TooMany", "what"), ("TooMany", "most"), ("BadText", "line"), ("BadText", "word"), ("BadCommand", "word")]
def hfa0 : List He.Fa := [.free "ValueError",
  .free "abs",
  .free "enumerate",
  .free "int",
  .free "isinstance",
  .free "len",
  .free "list",
  .free "range",
  .free "repr",
  .glo "_law_kinds",
  .glo "_law_made",
  .glo "_law_pen",
  .glo "_law_draw",
  .glo "_law_pick",
  .glo "_law_value",
  .glo "law"]
def hfa1 : List He.Fa := [.glo "BadChange",
  .glo "BadCommand",
  .glo "BadFlow",
  .glo "BadLink",
  .glo "BadLoad",
  .glo "BadLot",
  .glo "BadName",
  .glo "BadNet",
  .glo "BadNumber",
  .glo "BadOrder",
  .glo "BadPaper",
  .glo "BadShelf",
  .glo "BadSize",
  .glo "BadText",
  .glo "Endless",
  .glo "NoFlow"]
def hfa2 : List He.Fa := [.glo "NoParcel",
  .glo "NoPost",
  .glo "NoRoom",
  .glo "NoShelf",
  .glo "NoStep",
  .glo "NoWant",
  .glo "NotMet",
  .glo "Nothing",
  .glo "ShelfError",
  .glo "Taken",
  .glo "TooMany",
  .glo "Unsafe",
  .free "super"]
def hfa : List He.Fa := hfa0 ++ (hfa1 ++ (hfa2))
def hfn0 : List He.DefD := [⟨("_law_kinds", none), "_law_kinds", "_law_kinds", defArgs st_L_kinds, defBody st_L_kinds, defScope st_L_kinds, [], []⟩,
  ⟨("_law_made", none), "_law_made", "_law_made", defArgs st_L_made, defBody st_L_made, defScope st_L_made, [], []⟩,
  ⟨("_law_pen", none), "_law_pen", "_law_pen", defArgs st_L_pen, defBody st_L_pen, defScope st_L_pen, [], []⟩,
  ⟨("_law_draw", none), "_law_draw", "_law_draw", defArgs st_L_draw, defBody st_L_draw, defScope st_L_draw, [], []⟩,
  ⟨("_law_pick", none), "_law_pick", "_law_pick", defArgs st_L_pick, defBody st_L_pick, defScope st_L_pick, [], []⟩,
  ⟨("_law_value", none), "_law_value", "_law_value", defArgs st_L_value, defBody st_L_value, defScope st_L_value, [], []⟩,
  ⟨("law", none), "law", "law", defArgs st_law, defBody st_law, defScope st_law, [], []⟩]
def hfn : List He.DefD := hfn0
abbrev st_BadChange_ini : Stmt := inClass (top 8) 0
def in_BadChange : InD := ⟨"BadChange", "BadChange.__init__", defArgs st_BadChange_ini, defBody st_BadChange_ini, defScope st_BadChange_ini⟩
theorem is_BadChange : InS in_BadChange ["at"] := ⟨by decide, ⟨_, _, _, _, _, _, _, _, _, _, rfl, rfl, ⟨_, _, _, _, _, rfl, rfl⟩, rfl, rfl⟩, rfl, rfl, rfl, by decide +kernel, by decide +kernel, ⟨rfl, rfl, rfl⟩, fun _ _ _ _ _ _ _ _ _ us hu => match us, hu with | [_], _ => .of_eq rfl⟩
abbrev st_BadCommand_ini : Stmt := inClass (top 28) 0
def in_BadCommand : InD := ⟨"BadCommand", "BadCommand.__init__", defArgs st_BadCommand_ini, defBody st_BadCommand_ini, defScope st_BadCommand_ini⟩
theorem is_BadCommand : InS in_BadCommand ["word"] := ⟨by decide, ⟨_, _, _, _, _, _, _, _, _, _, rfl, rfl, ⟨_, _, _, _, _, rfl, rfl⟩, rfl, rfl⟩, rfl, rfl, rfl, by decide +kernel, by decide +kernel, ⟨rfl, rfl, rfl⟩, fun _ _ _ _ _ _ _ _ _ us hu => match us, hu with | [_], _ => .of_eq rfl⟩
abbrev st_BadFlow_ini : Stmt := inClass (top 4) 0
def in_BadFlow : InD := ⟨"BadFlow", "BadFlow.__init__", defArgs st_BadFlow_ini, defBody st_BadFlow_ini, defScope st_BadFlow_ini⟩
theorem is_BadFlow : InS in_BadFlow ["part"] := ⟨by decide, ⟨_, _, _, _, _, _, _, _, _, _, rfl, rfl, ⟨_, _, _, _, _, rfl, rfl⟩, rfl, rfl⟩, rfl, rfl, rfl, by decide +kernel, by decide +kernel, ⟨rfl, rfl, rfl⟩, fun _ _ _ _ _ _ _ _ _ us hu => match us, hu with | [_], _ => .of_eq rfl⟩
abbrev st_BadLink_ini : Stmt := inClass (top 13) 0
def in_BadLink : InD := ⟨"BadLink", "BadLink.__init__", defArgs st_BadLink_ini, defBody st_BadLink_ini, defScope st_BadLink_ini⟩
theorem is_BadLink : InS in_BadLink ["at"] := ⟨by decide, ⟨_, _, _, _, _, _, _, _, _, _, rfl, rfl, ⟨_, _, _, _, _, rfl, rfl⟩, rfl, rfl⟩, rfl, rfl, rfl, by decide +kernel, by decide +kernel, ⟨rfl, rfl, rfl⟩, fun _ _ _ _ _ _ _ _ _ us hu => match us, hu with | [_], _ => .of_eq rfl⟩
abbrev st_BadLoad_ini : Stmt := inClass (top 10) 0
def in_BadLoad : InD := ⟨"BadLoad", "BadLoad.__init__", defArgs st_BadLoad_ini, defBody st_BadLoad_ini, defScope st_BadLoad_ini⟩
theorem is_BadLoad : InS in_BadLoad ["part"] := ⟨by decide, ⟨_, _, _, _, _, _, _, _, _, _, rfl, rfl, ⟨_, _, _, _, _, rfl, rfl⟩, rfl, rfl⟩, rfl, rfl, rfl, by decide +kernel, by decide +kernel, ⟨rfl, rfl, rfl⟩, fun _ _ _ _ _ _ _ _ _ us hu => match us, hu with | [_], _ => .of_eq rfl⟩
abbrev st_BadLot_ini : Stmt := inClass (top 7) 0
def in_BadLot : InD := ⟨"BadLot", "BadLot.__init__", defArgs st_BadLot_ini, defBody st_BadLot_ini, defScope st_BadLot_ini⟩
theorem is_BadLot : InS in_BadLot ["at"] := ⟨by decide, ⟨_, _, _, _, _, _, _, _, _, _, rfl, rfl, ⟨_, _, _, _, _, rfl, rfl⟩, rfl, rfl⟩, rfl, rfl, rfl, by decide +kernel, by decide +kernel, ⟨rfl, rfl, rfl⟩, fun _ _ _ _ _ _ _ _ _ us hu => match us, hu with | [_], _ => .of_eq rfl⟩
abbrev st_BadName_ini : Stmt := inClass (top 2) 0
def in_BadName : InD := ⟨"BadName", "BadName.__init__", defArgs st_BadName_ini, defBody st_BadName_ini, defScope st_BadName_ini⟩
theorem is_BadName : InS in_BadName ["value"] := ⟨by decide, ⟨_, _, _, _, _, _, _, _, _, _, rfl, rfl, ⟨_, _, _, _, _, rfl, rfl⟩, rfl, rfl⟩, rfl, rfl, rfl, by decide +kernel, by decide +kernel, ⟨rfl, rfl, rfl⟩, fun _ _ _ _ _ _ _ _ _ us hu => match us, hu with | [_], _ => .of_eq rfl⟩
abbrev st_BadNet_ini : Stmt := inClass (top 5) 0
def in_BadNet : InD := ⟨"BadNet", "BadNet.__init__", defArgs st_BadNet_ini, defBody st_BadNet_ini, defScope st_BadNet_ini⟩
theorem is_BadNet : InS in_BadNet ["part"] := ⟨by decide, ⟨_, _, _, _, _, _, _, _, _, _, rfl, rfl, ⟨_, _, _, _, _, rfl, rfl⟩, rfl, rfl⟩, rfl, rfl, rfl, by decide +kernel, by decide +kernel, ⟨rfl, rfl, rfl⟩, fun _ _ _ _ _ _ _ _ _ us hu => match us, hu with | [_], _ => .of_eq rfl⟩
abbrev st_BadNumber_ini : Stmt := inClass (top 11) 0
def in_BadNumber : InD := ⟨"BadNumber", "BadNumber.__init__", defArgs st_BadNumber_ini, defBody st_BadNumber_ini, defScope st_BadNumber_ini⟩
theorem is_BadNumber : InS in_BadNumber ["value"] := ⟨by decide, ⟨_, _, _, _, _, _, _, _, _, _, rfl, rfl, ⟨_, _, _, _, _, rfl, rfl⟩, rfl, rfl⟩, rfl, rfl, rfl, by decide +kernel, by decide +kernel, ⟨rfl, rfl, rfl⟩, fun _ _ _ _ _ _ _ _ _ us hu => match us, hu with | [_], _ => .of_eq rfl⟩
abbrev st_BadOrder_ini : Stmt := inClass (top 12) 0
def in_BadOrder : InD := ⟨"BadOrder", "BadOrder.__init__", defArgs st_BadOrder_ini, defBody st_BadOrder_ini, defScope st_BadOrder_ini⟩
theorem is_BadOrder : InS in_BadOrder ["at"] := ⟨by decide, ⟨_, _, _, _, _, _, _, _, _, _, rfl, rfl, ⟨_, _, _, _, _, rfl, rfl⟩, rfl, rfl⟩, rfl, rfl, rfl, by decide +kernel, by decide +kernel, ⟨rfl, rfl, rfl⟩, fun _ _ _ _ _ _ _ _ _ us hu => match us, hu with | [_], _ => .of_eq rfl⟩
abbrev st_BadPaper_ini : Stmt := inClass (top 6) 0
def in_BadPaper : InD := ⟨"BadPaper", "BadPaper.__init__", defArgs st_BadPaper_ini, defBody st_BadPaper_ini, defScope st_BadPaper_ini⟩
theorem is_BadPaper : InS in_BadPaper ["part"] := ⟨by decide, ⟨_, _, _, _, _, _, _, _, _, _, rfl, rfl, ⟨_, _, _, _, _, rfl, rfl⟩, rfl, rfl⟩, rfl, rfl, rfl, by decide +kernel, by decide +kernel, ⟨rfl, rfl, rfl⟩, fun _ _ _ _ _ _ _ _ _ us hu => match us, hu with | [_], _ => .of_eq rfl⟩
abbrev st_BadShelf_ini : Stmt := inClass (top 3) 0
def in_BadShelf : InD := ⟨"BadShelf", "BadShelf.__init__", defArgs st_BadShelf_ini, defBody st_BadShelf_ini, defScope st_BadShelf_ini⟩
theorem is_BadShelf : InS in_BadShelf ["value"] := ⟨by decide, ⟨_, _, _, _, _, _, _, _, _, _, rfl, rfl, ⟨_, _, _, _, _, rfl, rfl⟩, rfl, rfl⟩, rfl, rfl, rfl, by decide +kernel, by decide +kernel, ⟨rfl, rfl, rfl⟩, fun _ _ _ _ _ _ _ _ _ us hu => match us, hu with | [_], _ => .of_eq rfl⟩
abbrev st_BadSize_ini : Stmt := inClass (top 9) 0
def in_BadSize : InD := ⟨"BadSize", "BadSize.__init__", defArgs st_BadSize_ini, defBody st_BadSize_ini, defScope st_BadSize_ini⟩
theorem is_BadSize : InS in_BadSize ["shelf"] := ⟨by decide, ⟨_, _, _, _, _, _, _, _, _, _, rfl, rfl, ⟨_, _, _, _, _, rfl, rfl⟩, rfl, rfl⟩, rfl, rfl, rfl, by decide +kernel, by decide +kernel, ⟨rfl, rfl, rfl⟩, fun _ _ _ _ _ _ _ _ _ us hu => match us, hu with | [_], _ => .of_eq rfl⟩
abbrev st_BadText_ini : Stmt := inClass (top 27) 0
def in_BadText : InD := ⟨"BadText", "BadText.__init__", defArgs st_BadText_ini, defBody st_BadText_ini, defScope st_BadText_ini⟩
theorem is_BadText : InS in_BadText ["line", "word"] := ⟨by decide, ⟨_, _, _, _, _, _, _, _, _, _, rfl, rfl, ⟨_, _, _, _, _, rfl, ⟨_, _, _, _, _, rfl, rfl⟩⟩, rfl, rfl⟩, rfl, rfl, rfl, by decide +kernel, by decide +kernel, ⟨rfl, rfl, rfl⟩, fun _ _ _ _ _ _ _ _ _ us hu => match us, hu with | [_, _], _ => .of_eq rfl⟩
abbrev st_Endless_ini : Stmt := inClass (top 22) 0
def in_Endless : InD := ⟨"Endless", "Endless.__init__", defArgs st_Endless_ini, defBody st_Endless_ini, defScope st_Endless_ini⟩
theorem is_Endless : InS in_Endless ["flow"] := ⟨by decide, ⟨_, _, _, _, _, _, _, _, _, _, rfl, rfl, ⟨_, _, _, _, _, rfl, rfl⟩, rfl, rfl⟩, rfl, rfl, rfl, by decide +kernel, by decide +kernel, ⟨rfl, rfl, rfl⟩, fun _ _ _ _ _ _ _ _ _ us hu => match us, hu with | [_], _ => .of_eq rfl⟩
abbrev st_NoFlow_ini : Stmt := inClass (top 14) 0
def in_NoFlow : InD := ⟨"NoFlow", "NoFlow.__init__", defArgs st_NoFlow_ini, defBody st_NoFlow_ini, defScope st_NoFlow_ini⟩
theorem is_NoFlow : InS in_NoFlow ["name"] := ⟨by decide, ⟨_, _, _, _, _, _, _, _, _, _, rfl, rfl, ⟨_, _, _, _, _, rfl, rfl⟩, rfl, rfl⟩, rfl, rfl, rfl, by decide +kernel, by decide +kernel, ⟨rfl, rfl, rfl⟩, fun _ _ _ _ _ _ _ _ _ us hu => match us, hu with | [_], _ => .of_eq rfl⟩
abbrev st_NoParcel_ini : Stmt := inClass (top 20) 0
def in_NoParcel : InD := ⟨"NoParcel", "NoParcel.__init__", defArgs st_NoParcel_ini, defBody st_NoParcel_ini, defScope st_NoParcel_ini⟩
theorem is_NoParcel : InS in_NoParcel ["number"] := ⟨by decide, ⟨_, _, _, _, _, _, _, _, _, _, rfl, rfl, ⟨_, _, _, _, _, rfl, rfl⟩, rfl, rfl⟩, rfl, rfl, rfl, by decide +kernel, by decide +kernel, ⟨rfl, rfl, rfl⟩, fun _ _ _ _ _ _ _ _ _ us hu => match us, hu with | [_], _ => .of_eq rfl⟩
abbrev st_NoPost_ini : Stmt := inClass (top 18) 0
def in_NoPost : InD := ⟨"NoPost", "NoPost.__init__", defArgs st_NoPost_ini, defBody st_NoPost_ini, defScope st_NoPost_ini⟩
theorem is_NoPost : InS in_NoPost ["post"] := ⟨by decide, ⟨_, _, _, _, _, _, _, _, _, _, rfl, rfl, ⟨_, _, _, _, _, rfl, rfl⟩, rfl, rfl⟩, rfl, rfl, rfl, by decide +kernel, by decide +kernel, ⟨rfl, rfl, rfl⟩, fun _ _ _ _ _ _ _ _ _ us hu => match us, hu with | [_], _ => .of_eq rfl⟩
abbrev st_NoRoom_ini : Stmt := inClass (top 19) 0
def in_NoRoom : InD := ⟨"NoRoom", "NoRoom.__init__", defArgs st_NoRoom_ini, defBody st_NoRoom_ini, defScope st_NoRoom_ini⟩
theorem is_NoRoom : InS in_NoRoom ["shelf"] := ⟨by decide, ⟨_, _, _, _, _, _, _, _, _, _, rfl, rfl, ⟨_, _, _, _, _, rfl, rfl⟩, rfl, rfl⟩, rfl, rfl, rfl, by decide +kernel, by decide +kernel, ⟨rfl, rfl, rfl⟩, fun _ _ _ _ _ _ _ _ _ us hu => match us, hu with | [_], _ => .of_eq rfl⟩
abbrev st_NoShelf_ini : Stmt := inClass (top 15) 0
def in_NoShelf : InD := ⟨"NoShelf", "NoShelf.__init__", defArgs st_NoShelf_ini, defBody st_NoShelf_ini, defScope st_NoShelf_ini⟩
theorem is_NoShelf : InS in_NoShelf ["shelf"] := ⟨by decide, ⟨_, _, _, _, _, _, _, _, _, _, rfl, rfl, ⟨_, _, _, _, _, rfl, rfl⟩, rfl, rfl⟩, rfl, rfl, rfl, by decide +kernel, by decide +kernel, ⟨rfl, rfl, rfl⟩, fun _ _ _ _ _ _ _ _ _ us hu => match us, hu with | [_], _ => .of_eq rfl⟩
abbrev st_NoStep_ini : Stmt := inClass (top 16) 0
def in_NoStep : InD := ⟨"NoStep", "NoStep.__init__", defArgs st_NoStep_ini, defBody st_NoStep_ini, defScope st_NoStep_ini⟩
theorem is_NoStep : InS in_NoStep ["shelf", "flow"] := ⟨by decide, ⟨_, _, _, _, _, _, _, _, _, _, rfl, rfl, ⟨_, _, _, _, _, rfl, ⟨_, _, _, _, _, rfl, rfl⟩⟩, rfl, rfl⟩, rfl, rfl, rfl, by decide +kernel, by decide +kernel, ⟨rfl, rfl, rfl⟩, fun _ _ _ _ _ _ _ _ _ us hu => match us, hu with | [_, _], _ => .of_eq rfl⟩
abbrev st_NoWant_ini : Stmt := inClass (top 21) 0
def in_NoWant : InD := ⟨"NoWant", "NoWant.__init__", defArgs st_NoWant_ini, defBody st_NoWant_ini, defScope st_NoWant_ini⟩
theorem is_NoWant : InS in_NoWant ["want"] := ⟨by decide, ⟨_, _, _, _, _, _, _, _, _, _, rfl, rfl, ⟨_, _, _, _, _, rfl, rfl⟩, rfl, rfl⟩, rfl, rfl, rfl, by decide +kernel, by decide +kernel, ⟨rfl, rfl, rfl⟩, fun _ _ _ _ _ _ _ _ _ us hu => match us, hu with | [_], _ => .of_eq rfl⟩
abbrev st_NotMet_ini : Stmt := inClass (top 17) 0
def in_NotMet : InD := ⟨"NotMet", "NotMet.__init__", defArgs st_NotMet_ini, defBody st_NotMet_ini, defScope st_NotMet_ini⟩
theorem is_NotMet : InS in_NotMet ["shelf", "flow"] := ⟨by decide, ⟨_, _, _, _, _, _, _, _, _, _, rfl, rfl, ⟨_, _, _, _, _, rfl, ⟨_, _, _, _, _, rfl, rfl⟩⟩, rfl, rfl⟩, rfl, rfl, rfl, by decide +kernel, by decide +kernel, ⟨rfl, rfl, rfl⟩, fun _ _ _ _ _ _ _ _ _ us hu => match us, hu with | [_, _], _ => .of_eq rfl⟩
abbrev st_Nothing_ini : Stmt := inClass (top 25) 0
def in_Nothing : InD := ⟨"Nothing", "Nothing.__init__", defArgs st_Nothing_ini, defBody st_Nothing_ini, defScope st_Nothing_ini⟩
theorem is_Nothing : InS in_Nothing [] := ⟨by decide, ⟨_, _, _, _, _, _, _, _, _, _, rfl, rfl, rfl, rfl, rfl⟩, rfl, rfl, rfl, by decide +kernel, by decide +kernel, ⟨rfl, rfl, rfl⟩, fun _ _ _ _ _ _ _ _ _ us hu => match us, hu with | [], _ => .of_eq rfl⟩
abbrev st_Taken_ini : Stmt := inClass (top 24) 0
def in_Taken : InD := ⟨"Taken", "Taken.__init__", defArgs st_Taken_ini, defBody st_Taken_ini, defScope st_Taken_ini⟩
theorem is_Taken : InS in_Taken ["name"] := ⟨by decide, ⟨_, _, _, _, _, _, _, _, _, _, rfl, rfl, ⟨_, _, _, _, _, rfl, rfl⟩, rfl, rfl⟩, rfl, rfl, rfl, by decide +kernel, by decide +kernel, ⟨rfl, rfl, rfl⟩, fun _ _ _ _ _ _ _ _ _ us hu => match us, hu with | [_], _ => .of_eq rfl⟩
abbrev st_TooMany_ini : Stmt := inClass (top 26) 0
def in_TooMany : InD := ⟨"TooMany", "TooMany.__init__", defArgs st_TooMany_ini, defBody st_TooMany_ini, defScope st_TooMany_ini⟩
theorem is_TooMany : InS in_TooMany ["what", "most"] := ⟨by decide, ⟨_, _, _, _, _, _, _, _, _, _, rfl, rfl, ⟨_, _, _, _, _, rfl, ⟨_, _, _, _, _, rfl, rfl⟩⟩, rfl, rfl⟩, rfl, rfl, rfl, by decide +kernel, by decide +kernel, ⟨rfl, rfl, rfl⟩, fun _ _ _ _ _ _ _ _ _ us hu => match us, hu with | [_, _], _ => .of_eq rfl⟩
abbrev st_Unsafe_ini : Stmt := inClass (top 23) 0
def in_Unsafe : InD := ⟨"Unsafe", "Unsafe.__init__", defArgs st_Unsafe_ini, defBody st_Unsafe_ini, defScope st_Unsafe_ini⟩
theorem is_Unsafe : InS in_Unsafe ["paper"] := ⟨by decide, ⟨_, _, _, _, _, _, _, _, _, _, rfl, rfl, ⟨_, _, _, _, _, rfl, rfl⟩, rfl, rfl⟩, rfl, rfl, rfl, by decide +kernel, by decide +kernel, ⟨rfl, rfl, rfl⟩, fun _ _ _ _ _ _ _ _ _ us hu => match us, hu with | [_], _ => .of_eq rfl⟩
def hin0 : List InD := [in_BadChange,
  in_BadCommand,
  in_BadFlow,
  in_BadLink,
  in_BadLoad,
  in_BadLot,
  in_BadName,
  in_BadNet,
  in_BadNumber,
  in_BadOrder,
  in_BadPaper,
  in_BadShelf]
def hin1 : List InD := [in_BadSize,
  in_BadText,
  in_Endless,
  in_NoFlow,
  in_NoParcel,
  in_NoPost,
  in_NoRoom,
  in_NoShelf,
  in_NoStep,
  in_NoWant,
  in_NotMet,
  in_Nothing]
def hin2 : List InD := [in_Taken,
  in_TooMany,
  in_Unsafe]
def hin : List InD := hin0 ++ (hin1 ++ (hin2))
def hex (K : PySem.W.Frag) : List Bool := [PySem.W.excIn K (He.ga K "ShelfError") [.type "ValueError", .type "Exception", .type "BaseException", .type "object"] "ValueError.__new__",
  PySem.W.keepIn K (.ref (He.ga K "ShelfError")),
  inB PROG.main.file K in_BadChange ["at"],
  inB PROG.main.file K in_BadCommand ["word"],
  inB PROG.main.file K in_BadFlow ["part"],
  inB PROG.main.file K in_BadLink ["at"],
  inB PROG.main.file K in_BadLoad ["part"],
  inB PROG.main.file K in_BadLot ["at"],
  inB PROG.main.file K in_BadName ["value"],
  inB PROG.main.file K in_BadNet ["part"],
  inB PROG.main.file K in_BadNumber ["value"],
  inB PROG.main.file K in_BadOrder ["at"],
  inB PROG.main.file K in_BadPaper ["part"],
  inB PROG.main.file K in_BadShelf ["value"],
  inB PROG.main.file K in_BadSize ["shelf"],
  inB PROG.main.file K in_BadText ["line", "word"],
  inB PROG.main.file K in_Endless ["flow"],
  inB PROG.main.file K in_NoFlow ["name"],
  inB PROG.main.file K in_NoParcel ["number"],
  inB PROG.main.file K in_NoPost ["post"],
  inB PROG.main.file K in_NoRoom ["shelf"],
  inB PROG.main.file K in_NoShelf ["shelf"],
  inB PROG.main.file K in_NoStep ["shelf", "flow"],
  inB PROG.main.file K in_NoWant ["want"],
  inB PROG.main.file K in_NotMet ["shelf", "flow"],
  inB PROG.main.file K in_Nothing [],
  inB PROG.main.file K in_Taken ["name"],
  inB PROG.main.file K in_TooMany ["what", "most"],
  inB PROG.main.file K in_Unsafe ["paper"],
  !decide (He.tabOf K (He.codeOf K ("_law_kinds", none)) = He.tabOf K (He.codeOf K ("_law_made", none))),
  sysB K,
  (cN.all fun n => exB K (He.ga K n)),
  (cN.all fun n => xfB K (He.ga K n)),
  (cN.all fun n => cN.all fun m => isCB K (.ref (He.ga K n)) (He.ga K m) (decide (n = m))),
  (cN.all fun n => isCB K (.ref (He.ga K n)) (He.ga K "ShelfError") true),
  (cN.all fun n => kitB K (.ref (He.ga K n)) (.type "ValueError") true),
  (fN.all fun p => He.eqO (PySem.W.findIn K (.ref (He.ga K p.1)) p.2) (some none)),
  exB K (He.ga K "ShelfError"),
  kitB K (.ref (He.ga K "ShelfError")) (.type "ValueError") true]
def htf : List He.Defn := [("_law_kinds", none), ("_law_made", none)]
def hd : Hd := ⟨5, hfa, hfn, hin, htf, fun K => (hex K).all id⟩
def mkAd (K : PySem.W.Frag) : Ad where
  f_L_kinds := He.ga K "_law_kinds"
  f_L_made := He.ga K "_law_made"
  f_L_pen := He.ga K "_law_pen"
  f_L_draw := He.ga K "_law_draw"
  f_L_pick := He.ga K "_law_pick"
  f_L_value := He.ga K "_law_value"
  f_law := He.ga K "law"
  c_BadChange := He.ga K "BadChange"
  c_BadCommand := He.ga K "BadCommand"
  c_BadFlow := He.ga K "BadFlow"
  c_BadLink := He.ga K "BadLink"
  c_BadLoad := He.ga K "BadLoad"
  c_BadLot := He.ga K "BadLot"
  c_BadName := He.ga K "BadName"
  c_BadNet := He.ga K "BadNet"
  c_BadNumber := He.ga K "BadNumber"
  c_BadOrder := He.ga K "BadOrder"
  c_BadPaper := He.ga K "BadPaper"
  c_BadShelf := He.ga K "BadShelf"
  c_BadSize := He.ga K "BadSize"
  c_BadText := He.ga K "BadText"
  c_Endless := He.ga K "Endless"
  c_NoFlow := He.ga K "NoFlow"
  c_NoParcel := He.ga K "NoParcel"
  c_NoPost := He.ga K "NoPost"
  c_NoRoom := He.ga K "NoRoom"
  c_NoShelf := He.ga K "NoShelf"
  c_NoStep := He.ga K "NoStep"
  c_NoWant := He.ga K "NoWant"
  c_NotMet := He.ga K "NotMet"
  c_Nothing := He.ga K "Nothing"
  c_ShelfError := He.ga K "ShelfError"
  c_Taken := He.ga K "Taken"
  c_TooMany := He.ga K "TooMany"
  c_Unsafe := He.ga K "Unsafe"
  i_BadChange := He.ma K (He.ga K "BadChange") "__init__"
  i_BadCommand := He.ma K (He.ga K "BadCommand") "__init__"
  i_BadFlow := He.ma K (He.ga K "BadFlow") "__init__"
  i_BadLink := He.ma K (He.ga K "BadLink") "__init__"
  i_BadLoad := He.ma K (He.ga K "BadLoad") "__init__"
  i_BadLot := He.ma K (He.ga K "BadLot") "__init__"
  i_BadName := He.ma K (He.ga K "BadName") "__init__"
  i_BadNet := He.ma K (He.ga K "BadNet") "__init__"
  i_BadNumber := He.ma K (He.ga K "BadNumber") "__init__"
  i_BadOrder := He.ma K (He.ga K "BadOrder") "__init__"
  i_BadPaper := He.ma K (He.ga K "BadPaper") "__init__"
  i_BadShelf := He.ma K (He.ga K "BadShelf") "__init__"
  i_BadSize := He.ma K (He.ga K "BadSize") "__init__"
  i_BadText := He.ma K (He.ga K "BadText") "__init__"
  i_Endless := He.ma K (He.ga K "Endless") "__init__"
  i_NoFlow := He.ma K (He.ga K "NoFlow") "__init__"
  i_NoParcel := He.ma K (He.ga K "NoParcel") "__init__"
  i_NoPost := He.ma K (He.ga K "NoPost") "__init__"
  i_NoRoom := He.ma K (He.ga K "NoRoom") "__init__"
  i_NoShelf := He.ma K (He.ga K "NoShelf") "__init__"
  i_NoStep := He.ma K (He.ga K "NoStep") "__init__"
  i_NoWant := He.ma K (He.ga K "NoWant") "__init__"
  i_NotMet := He.ma K (He.ga K "NotMet") "__init__"
  i_Nothing := He.ma K (He.ga K "Nothing") "__init__"
  i_Taken := He.ma K (He.ga K "Taken") "__init__"
  i_TooMany := He.ma K (He.ga K "TooMany") "__init__"
  i_Unsafe := He.ma K (He.ga K "Unsafe") "__init__"
  cd_L_kinds := He.codeOf K ("_law_kinds", none)
  tb_L_kinds := He.tabOf K (He.codeOf K ("_law_kinds", none))
  cd_L_made := He.codeOf K ("_law_made", none)
  tb_L_made := He.tabOf K (He.codeOf K ("_law_made", none))
  lf_0 := lamOf "_law_kinds" ex_0
  lf_1 := lamOf "_law_kinds" ex_1
  lf_2 := lamOf "_law_kinds" ex_2
  lf_3 := lamOf "_law_kinds" ex_3
  lf_4 := lamOf "_law_kinds" ex_4
  lf_5 := lamOf "_law_kinds" ex_5
  lf_6 := lamOf "_law_kinds" ex_6
  lf_7 := lamOf "_law_kinds" ex_7
  lf_8 := lamOf "_law_kinds" ex_8
  lf_9 := lamOf "_law_kinds" ex_9
  lf_10 := lamOf "_law_kinds" ex_10
  lf_11 := lamOf "_law_kinds" ex_11
  lf_12 := lamOf "_law_kinds" ex_12
  lf_13 := lamOf "_law_kinds" ex_13
  lf_14 := lamOf "_law_kinds" ex_14
  lf_15 := lamOf "_law_kinds" ex_15
  lf_16 := lamOf "_law_kinds" ex_16
  lf_17 := lamOf "_law_kinds" ex_17
  lf_18 := lamOf "_law_kinds" ex_18
  lf_19 := lamOf "_law_kinds" ex_19
  lf_20 := lamOf "_law_kinds" ex_20
  lf_21 := lamOf "_law_kinds" ex_21
  lf_22 := lamOf "_law_kinds" ex_22
  lf_23 := lamOf "_law_kinds" ex_23
  lf_24 := lamOf "_law_kinds" ex_24
  lf_25 := lamOf "_law_kinds" ex_25
  lf_26 := lamOf "_law_kinds" ex_26
  lf_27 := lamOf "_law_kinds" ex_27
  lf_28 := lamOf "_law_kinds" ex_28
  lf_29 := lamOf "_law_kinds" ex_29
  lf_30 := lamOf "_law_made" ex_30
  lf_31 := lamOf "_law_made" ex_31
  lf_32 := lamOf "_law_made" ex_32
  lf_33 := lamOf "_law_made" ex_33
  lf_34 := lamOf "_law_made" ex_34
  lf_35 := lamOf "_law_made" ex_35
  lf_36 := lamOf "_law_made" ex_36
  lf_37 := lamOf "_law_made" ex_37
  lf_38 := lamOf "_law_made" ex_38
  lf_39 := lamOf "_law_made" ex_39
  lf_40 := lamOf "_law_made" ex_40
  lf_41 := lamOf "_law_made" ex_41
  lf_42 := lamOf "_law_made" ex_42
  lf_43 := lamOf "_law_made" ex_43
  lf_44 := lamOf "_law_made" ex_44
  lf_45 := lamOf "_law_made" ex_45
  lf_46 := lamOf "_law_made" ex_46
  lf_47 := lamOf "_law_made" ex_47
  lf_48 := lamOf "_law_made" ex_48
  lf_49 := lamOf "_law_made" ex_49
  lf_50 := lamOf "_law_made" ex_50
  lf_51 := lamOf "_law_made" ex_51
  lf_52 := lamOf "_law_made" ex_52
  lf_53 := lamOf "_law_made" ex_53
  lf_54 := lamOf "_law_made" ex_54
  lf_55 := lamOf "_law_made" ex_55
  lf_56 := lamOf "_law_made" ex_56
  lf_57 := lamOf "_law_made" ex_57
  lf_58 := lamOf "_law_made" ex_58
  lf_59 := lamOf "_law_made" ex_59
  dummy := 0
theorem txt_of {K : PySem.W.Frag} {h : Heap} {mg : Str → Option Value} (X : K.In h) (G : h.Ns mainGlobals mg) (c : SaysZ hd h K) : Txt K mg (mkAd K) where
  n_ValueError := He.free_ok X G (c.d.fact 0 (f := .free "ValueError") rfl)
  n_abs := He.free_ok X G (c.d.fact 1 (f := .free "abs") rfl)
  n_enumerate := He.free_ok X G (c.d.fact 2 (f := .free "enumerate") rfl)
  n_int := He.free_ok X G (c.d.fact 3 (f := .free "int") rfl)
  n_isinstance := He.free_ok X G (c.d.fact 4 (f := .free "isinstance") rfl)
  n_len := He.free_ok X G (c.d.fact 5 (f := .free "len") rfl)
  n_list := He.free_ok X G (c.d.fact 6 (f := .free "list") rfl)
  n_range := He.free_ok X G (c.d.fact 7 (f := .free "range") rfl)
  n_repr := He.free_ok X G (c.d.fact 8 (f := .free "repr") rfl)
  FC_L_kinds := (He.SaysD.def_ c.d 0 (d := ⟨("_law_kinds", none), "_law_kinds", "_law_kinds", defArgs st_L_kinds, defBody st_L_kinds, defScope st_L_kinds, [], []⟩) rfl).imp fun fd F => ⟨fun_of F, code_of (p := ("_law_kinds", none)) F⟩
  g_L_kinds := He.glo_ok X G (c.d.fact 9 (f := .glo "_law_kinds") rfl)
  k_L_kinds := (He.SaysD.def_ c.d 0 (d := ⟨("_law_kinds", none), "_law_kinds", "_law_kinds", defArgs st_L_kinds, defBody st_L_kinds, defScope st_L_kinds, [], []⟩) rfl).elim fun fd F => F.kp
  FC_L_made := (He.SaysD.def_ c.d 1 (d := ⟨("_law_made", none), "_law_made", "_law_made", defArgs st_L_made, defBody st_L_made, defScope st_L_made, [], []⟩) rfl).imp fun fd F => ⟨fun_of F, code_of (p := ("_law_made", none)) F⟩
  g_L_made := He.glo_ok X G (c.d.fact 10 (f := .glo "_law_made") rfl)
  k_L_made := (He.SaysD.def_ c.d 1 (d := ⟨("_law_made", none), "_law_made", "_law_made", defArgs st_L_made, defBody st_L_made, defScope st_L_made, [], []⟩) rfl).elim fun fd F => F.kp
  F_L_pen := (He.SaysD.def_ c.d 2 (d := ⟨("_law_pen", none), "_law_pen", "_law_pen", defArgs st_L_pen, defBody st_L_pen, defScope st_L_pen, [], []⟩) rfl).imp fun fd F => fun_of F
  g_L_pen := He.glo_ok X G (c.d.fact 11 (f := .glo "_law_pen") rfl)
  k_L_pen := (He.SaysD.def_ c.d 2 (d := ⟨("_law_pen", none), "_law_pen", "_law_pen", defArgs st_L_pen, defBody st_L_pen, defScope st_L_pen, [], []⟩) rfl).elim fun fd F => F.kp
  F_L_draw := (He.SaysD.def_ c.d 3 (d := ⟨("_law_draw", none), "_law_draw", "_law_draw", defArgs st_L_draw, defBody st_L_draw, defScope st_L_draw, [], []⟩) rfl).imp fun fd F => fun_of F
  g_L_draw := He.glo_ok X G (c.d.fact 12 (f := .glo "_law_draw") rfl)
  k_L_draw := (He.SaysD.def_ c.d 3 (d := ⟨("_law_draw", none), "_law_draw", "_law_draw", defArgs st_L_draw, defBody st_L_draw, defScope st_L_draw, [], []⟩) rfl).elim fun fd F => F.kp
  F_L_pick := (He.SaysD.def_ c.d 4 (d := ⟨("_law_pick", none), "_law_pick", "_law_pick", defArgs st_L_pick, defBody st_L_pick, defScope st_L_pick, [], []⟩) rfl).imp fun fd F => fun_of F
  g_L_pick := He.glo_ok X G (c.d.fact 13 (f := .glo "_law_pick") rfl)
  k_L_pick := (He.SaysD.def_ c.d 4 (d := ⟨("_law_pick", none), "_law_pick", "_law_pick", defArgs st_L_pick, defBody st_L_pick, defScope st_L_pick, [], []⟩) rfl).elim fun fd F => F.kp
  F_L_value := (He.SaysD.def_ c.d 5 (d := ⟨("_law_value", none), "_law_value", "_law_value", defArgs st_L_value, defBody st_L_value, defScope st_L_value, [], []⟩) rfl).imp fun fd F => fun_of F
  g_L_value := He.glo_ok X G (c.d.fact 14 (f := .glo "_law_value") rfl)
  k_L_value := (He.SaysD.def_ c.d 5 (d := ⟨("_law_value", none), "_law_value", "_law_value", defArgs st_L_value, defBody st_L_value, defScope st_L_value, [], []⟩) rfl).elim fun fd F => F.kp
  F_law := (He.SaysD.def_ c.d 6 (d := ⟨("law", none), "law", "law", defArgs st_law, defBody st_law, defScope st_law, [], []⟩) rfl).imp fun fd F => fun_of F
  g_law := He.glo_ok X G (c.d.fact 15 (f := .glo "law") rfl)
  k_law := (He.SaysD.def_ c.d 6 (d := ⟨("law", none), "law", "law", defArgs st_law, defBody st_law, defScope st_law, [], []⟩) rfl).elim fun fd F => F.kp
  g_BadChange := He.glo_ok X G (c.d.fact 16 (f := .glo "BadChange") rfl)
  g_BadCommand := He.glo_ok X G (c.d.fact 17 (f := .glo "BadCommand") rfl)
  g_BadFlow := He.glo_ok X G (c.d.fact 18 (f := .glo "BadFlow") rfl)
  g_BadLink := He.glo_ok X G (c.d.fact 19 (f := .glo "BadLink") rfl)
  g_BadLoad := He.glo_ok X G (c.d.fact 20 (f := .glo "BadLoad") rfl)
  g_BadLot := He.glo_ok X G (c.d.fact 21 (f := .glo "BadLot") rfl)
  g_BadName := He.glo_ok X G (c.d.fact 22 (f := .glo "BadName") rfl)
  g_BadNet := He.glo_ok X G (c.d.fact 23 (f := .glo "BadNet") rfl)
  g_BadNumber := He.glo_ok X G (c.d.fact 24 (f := .glo "BadNumber") rfl)
  g_BadOrder := He.glo_ok X G (c.d.fact 25 (f := .glo "BadOrder") rfl)
  g_BadPaper := He.glo_ok X G (c.d.fact 26 (f := .glo "BadPaper") rfl)
  g_BadShelf := He.glo_ok X G (c.d.fact 27 (f := .glo "BadShelf") rfl)
  g_BadSize := He.glo_ok X G (c.d.fact 28 (f := .glo "BadSize") rfl)
  g_BadText := He.glo_ok X G (c.d.fact 29 (f := .glo "BadText") rfl)
  g_Endless := He.glo_ok X G (c.d.fact 30 (f := .glo "Endless") rfl)
  g_NoFlow := He.glo_ok X G (c.d.fact 31 (f := .glo "NoFlow") rfl)
  g_NoParcel := He.glo_ok X G (c.d.fact 32 (f := .glo "NoParcel") rfl)
  g_NoPost := He.glo_ok X G (c.d.fact 33 (f := .glo "NoPost") rfl)
  g_NoRoom := He.glo_ok X G (c.d.fact 34 (f := .glo "NoRoom") rfl)
  g_NoShelf := He.glo_ok X G (c.d.fact 35 (f := .glo "NoShelf") rfl)
  g_NoStep := He.glo_ok X G (c.d.fact 36 (f := .glo "NoStep") rfl)
  g_NoWant := He.glo_ok X G (c.d.fact 37 (f := .glo "NoWant") rfl)
  g_NotMet := He.glo_ok X G (c.d.fact 38 (f := .glo "NotMet") rfl)
  g_Nothing := He.glo_ok X G (c.d.fact 39 (f := .glo "Nothing") rfl)
  g_ShelfError := He.glo_ok X G (c.d.fact 40 (f := .glo "ShelfError") rfl)
  g_Taken := He.glo_ok X G (c.d.fact 41 (f := .glo "Taken") rfl)
  g_TooMany := He.glo_ok X G (c.d.fact 42 (f := .glo "TooMany") rfl)
  g_Unsafe := He.glo_ok X G (c.d.fact 43 (f := .glo "Unsafe") rfl)
  w_BadCommand_word := in_kw (P := PROG) (d := in_BadCommand) (names := ["word"]) (ks := ["word"]) (all_at c.more 3 rfl) (c.ini 1 rfl) (fun _ _ _ _ _ _ _ _ _ ws hw => match ws, hw with | [_], _ => .of_eq rfl)
  w_BadLink_at := in_kw (P := PROG) (d := in_BadLink) (names := ["at"]) (ks := ["at"]) (all_at c.more 5 rfl) (c.ini 3 rfl) (fun _ _ _ _ _ _ _ _ _ ws hw => match ws, hw with | [_], _ => .of_eq rfl)
  w_BadLot_at := in_kw (P := PROG) (d := in_BadLot) (names := ["at"]) (ks := ["at"]) (all_at c.more 7 rfl) (c.ini 5 rfl) (fun _ _ _ _ _ _ _ _ _ ws hw => match ws, hw with | [_], _ => .of_eq rfl)
  w_BadNet_part := in_kw (P := PROG) (d := in_BadNet) (names := ["part"]) (ks := ["part"]) (all_at c.more 9 rfl) (c.ini 7 rfl) (fun _ _ _ _ _ _ _ _ _ ws hw => match ws, hw with | [_], _ => .of_eq rfl)
  w_BadNumber_value := in_kw (P := PROG) (d := in_BadNumber) (names := ["value"]) (ks := ["value"]) (all_at c.more 10 rfl) (c.ini 8 rfl) (fun _ _ _ _ _ _ _ _ _ ws hw => match ws, hw with | [_], _ => .of_eq rfl)
  w_BadShelf_value := in_kw (P := PROG) (d := in_BadShelf) (names := ["value"]) (ks := ["value"]) (all_at c.more 13 rfl) (c.ini 11 rfl) (fun _ _ _ _ _ _ _ _ _ ws hw => match ws, hw with | [_], _ => .of_eq rfl)
  w_BadSize_shelf := in_kw (P := PROG) (d := in_BadSize) (names := ["shelf"]) (ks := ["shelf"]) (all_at c.more 14 rfl) (c.ini 12 rfl) (fun _ _ _ _ _ _ _ _ _ ws hw => match ws, hw with | [_], _ => .of_eq rfl)
  w_BadText_word_line := in_kw (P := PROG) (d := in_BadText) (names := ["line", "word"]) (ks := ["word", "line"]) (all_at c.more 15 rfl) (c.ini 13 rfl) (fun _ _ _ _ _ _ _ _ _ ws hw => match ws, hw with | [_, _], _ => .of_eq rfl)
  w_NoFlow_name := in_kw (P := PROG) (d := in_NoFlow) (names := ["name"]) (ks := ["name"]) (all_at c.more 17 rfl) (c.ini 15 rfl) (fun _ _ _ _ _ _ _ _ _ ws hw => match ws, hw with | [_], _ => .of_eq rfl)
  w_NoRoom_shelf := in_kw (P := PROG) (d := in_NoRoom) (names := ["shelf"]) (ks := ["shelf"]) (all_at c.more 20 rfl) (c.ini 18 rfl) (fun _ _ _ _ _ _ _ _ _ ws hw => match ws, hw with | [_], _ => .of_eq rfl)
  w_NoStep_flow_shelf := in_kw (P := PROG) (d := in_NoStep) (names := ["shelf", "flow"]) (ks := ["flow", "shelf"]) (all_at c.more 22 rfl) (c.ini 20 rfl) (fun _ _ _ _ _ _ _ _ _ ws hw => match ws, hw with | [_, _], _ => .of_eq rfl)
  w_NoWant_want := in_kw (P := PROG) (d := in_NoWant) (names := ["want"]) (ks := ["want"]) (all_at c.more 23 rfl) (c.ini 21 rfl) (fun _ _ _ _ _ _ _ _ _ ws hw => match ws, hw with | [_], _ => .of_eq rfl)
  w_NotMet_shelf_flow := in_kw (P := PROG) (d := in_NotMet) (names := ["shelf", "flow"]) (ks := ["shelf", "flow"]) (all_at c.more 24 rfl) (c.ini 22 rfl) (fun _ _ _ _ _ _ _ _ _ ws hw => match ws, hw with | [_, _], _ => .of_eq rfl)
  w_TooMany_most_what := in_kw (P := PROG) (d := in_TooMany) (names := ["what", "most"]) (ks := ["most", "what"]) (all_at c.more 27 rfl) (c.ini 25 rfl) (fun _ _ _ _ _ _ _ _ _ ws hw => match ws, hw with | [_, _], _ => .of_eq rfl)
  w_Unsafe_paper := in_kw (P := PROG) (d := in_Unsafe) (names := ["paper"]) (ks := ["paper"]) (all_at c.more 28 rfl) (c.ini 26 rfl) (fun _ _ _ _ _ _ _ _ _ ws hw => match ws, hw with | [_], _ => .of_eq rfl)
  xb_ShelfError := all_at c.more 0 rfl
  kb_ShelfError := all_at c.more 1 rfl
  lf_0 := rfl
  lf_1 := rfl
  lf_2 := rfl
  lf_3 := rfl
  lf_4 := rfl
  lf_5 := rfl
  lf_6 := rfl
  lf_7 := rfl
  lf_8 := rfl
  lf_9 := rfl
  lf_10 := rfl
  lf_11 := rfl
  lf_12 := rfl
  lf_13 := rfl
  lf_14 := rfl
  lf_15 := rfl
  lf_16 := rfl
  lf_17 := rfl
  lf_18 := rfl
  lf_19 := rfl
  lf_20 := rfl
  lf_21 := rfl
  lf_22 := rfl
  lf_23 := rfl
  lf_24 := rfl
  lf_25 := rfl
  lf_26 := rfl
  lf_27 := rfl
  lf_28 := rfl
  lf_29 := rfl
  lf_30 := rfl
  lf_31 := rfl
  lf_32 := rfl
  lf_33 := rfl
  lf_34 := rfl
  lf_35 := rfl
  lf_36 := rfl
  lf_37 := rfl
  lf_38 := rfl
  lf_39 := rfl
  lf_40 := rfl
  lf_41 := rfl
  lf_42 := rfl
  lf_43 := rfl
  lf_44 := rfl
  lf_45 := rfl
  lf_46 := rfl
  lf_47 := rfl
  lf_48 := rfl
  lf_49 := rfl
  lf_50 := rfl
  lf_51 := rfl
  lf_52 := rfl
  lf_53 := rfl
  lf_54 := rfl
  lf_55 := rfl
  lf_56 := rfl
  lf_57 := rfl
  lf_58 := rfl
  lf_59 := rfl
  x_BadChange := in_sx (P := PROG) is_BadChange (all_at c.more 2 rfl) (c.ini 0 rfl) (He.free_ok X G (c.d.fact 44 (f := .free "super") rfl)) (by decide +kernel)
  x_BadCommand := in_sx (P := PROG) is_BadCommand (all_at c.more 3 rfl) (c.ini 1 rfl) (He.free_ok X G (c.d.fact 44 (f := .free "super") rfl)) (by decide +kernel)
  x_BadFlow := in_sx (P := PROG) is_BadFlow (all_at c.more 4 rfl) (c.ini 2 rfl) (He.free_ok X G (c.d.fact 44 (f := .free "super") rfl)) (by decide +kernel)
  x_BadLink := in_sx (P := PROG) is_BadLink (all_at c.more 5 rfl) (c.ini 3 rfl) (He.free_ok X G (c.d.fact 44 (f := .free "super") rfl)) (by decide +kernel)
  x_BadLoad := in_sx (P := PROG) is_BadLoad (all_at c.more 6 rfl) (c.ini 4 rfl) (He.free_ok X G (c.d.fact 44 (f := .free "super") rfl)) (by decide +kernel)
  x_BadLot := in_sx (P := PROG) is_BadLot (all_at c.more 7 rfl) (c.ini 5 rfl) (He.free_ok X G (c.d.fact 44 (f := .free "super") rfl)) (by decide +kernel)
  x_BadName := in_sx (P := PROG) is_BadName (all_at c.more 8 rfl) (c.ini 6 rfl) (He.free_ok X G (c.d.fact 44 (f := .free "super") rfl)) (by decide +kernel)
  x_BadNet := in_sx (P := PROG) is_BadNet (all_at c.more 9 rfl) (c.ini 7 rfl) (He.free_ok X G (c.d.fact 44 (f := .free "super") rfl)) (by decide +kernel)
  x_BadNumber := in_sx (P := PROG) is_BadNumber (all_at c.more 10 rfl) (c.ini 8 rfl) (He.free_ok X G (c.d.fact 44 (f := .free "super") rfl)) (by decide +kernel)
  x_BadOrder := in_sx (P := PROG) is_BadOrder (all_at c.more 11 rfl) (c.ini 9 rfl) (He.free_ok X G (c.d.fact 44 (f := .free "super") rfl)) (by decide +kernel)
  x_BadPaper := in_sx (P := PROG) is_BadPaper (all_at c.more 12 rfl) (c.ini 10 rfl) (He.free_ok X G (c.d.fact 44 (f := .free "super") rfl)) (by decide +kernel)
  x_BadShelf := in_sx (P := PROG) is_BadShelf (all_at c.more 13 rfl) (c.ini 11 rfl) (He.free_ok X G (c.d.fact 44 (f := .free "super") rfl)) (by decide +kernel)
  x_BadSize := in_sx (P := PROG) is_BadSize (all_at c.more 14 rfl) (c.ini 12 rfl) (He.free_ok X G (c.d.fact 44 (f := .free "super") rfl)) (by decide +kernel)
  x_BadText := in_sx (P := PROG) is_BadText (all_at c.more 15 rfl) (c.ini 13 rfl) (He.free_ok X G (c.d.fact 44 (f := .free "super") rfl)) (by decide +kernel)
  x_Endless := in_sx (P := PROG) is_Endless (all_at c.more 16 rfl) (c.ini 14 rfl) (He.free_ok X G (c.d.fact 44 (f := .free "super") rfl)) (by decide +kernel)
  x_NoFlow := in_sx (P := PROG) is_NoFlow (all_at c.more 17 rfl) (c.ini 15 rfl) (He.free_ok X G (c.d.fact 44 (f := .free "super") rfl)) (by decide +kernel)
  x_NoParcel := in_sx (P := PROG) is_NoParcel (all_at c.more 18 rfl) (c.ini 16 rfl) (He.free_ok X G (c.d.fact 44 (f := .free "super") rfl)) (by decide +kernel)
  x_NoPost := in_sx (P := PROG) is_NoPost (all_at c.more 19 rfl) (c.ini 17 rfl) (He.free_ok X G (c.d.fact 44 (f := .free "super") rfl)) (by decide +kernel)
  x_NoRoom := in_sx (P := PROG) is_NoRoom (all_at c.more 20 rfl) (c.ini 18 rfl) (He.free_ok X G (c.d.fact 44 (f := .free "super") rfl)) (by decide +kernel)
  x_NoShelf := in_sx (P := PROG) is_NoShelf (all_at c.more 21 rfl) (c.ini 19 rfl) (He.free_ok X G (c.d.fact 44 (f := .free "super") rfl)) (by decide +kernel)
  x_NoStep := in_sx (P := PROG) is_NoStep (all_at c.more 22 rfl) (c.ini 20 rfl) (He.free_ok X G (c.d.fact 44 (f := .free "super") rfl)) (by decide +kernel)
  x_NoWant := in_sx (P := PROG) is_NoWant (all_at c.more 23 rfl) (c.ini 21 rfl) (He.free_ok X G (c.d.fact 44 (f := .free "super") rfl)) (by decide +kernel)
  x_NotMet := in_sx (P := PROG) is_NotMet (all_at c.more 24 rfl) (c.ini 22 rfl) (He.free_ok X G (c.d.fact 44 (f := .free "super") rfl)) (by decide +kernel)
  x_Nothing := in_sx (P := PROG) is_Nothing (all_at c.more 25 rfl) (c.ini 23 rfl) (He.free_ok X G (c.d.fact 44 (f := .free "super") rfl)) (by decide +kernel)
  x_Taken := in_sx (P := PROG) is_Taken (all_at c.more 26 rfl) (c.ini 24 rfl) (He.free_ok X G (c.d.fact 44 (f := .free "super") rfl)) (by decide +kernel)
  x_TooMany := in_sx (P := PROG) is_TooMany (all_at c.more 27 rfl) (c.ini 25 rfl) (He.free_ok X G (c.d.fact 44 (f := .free "super") rfl)) (by decide +kernel)
  x_Unsafe := in_sx (P := PROG) is_Unsafe (all_at c.more 28 rfl) (c.ini 26 rfl) (He.free_ok X G (c.d.fact 44 (f := .free "super") rfl)) (by decide +kernel)
def loose0 : List Str := ["ShelfError",
  "BadName",
  "BadShelf",
  "BadFlow",
  "BadNet",
  "BadPaper",
  "BadLot",
  "BadChange",
  "BadSize",
  "BadLoad",
  "BadNumber",
  "BadOrder",
  "BadLink",
  "NoFlow",
  "NoShelf",
  "NoStep"]
def loose1 : List Str := ["NotMet",
  "NoPost",
  "NoRoom",
  "NoParcel",
  "NoWant",
  "Endless",
  "Unsafe",
  "Taken",
  "Nothing",
  "TooMany",
  "BadText",
  "BadCommand",
  "_law_pen",
  "_law_draw",
  "_law_pick",
  "_law_value"]
def loose2 : List Str := ["_law_made",
  "_law_kinds"]
def loose : List Str := loose0 ++ (loose1 ++ (loose2))
abbrev ROW : PySem.W.OpenRow := PySem.W.OpenLaw.row PySem.Challenge.rw_fullshelves_k01_errors_kept
abbrev hk : PySem.W.Hook := hookZ hd
def ob (s : PySem.W.SharedT) : AlZ := obsZ hd (HandSHeadRun.getT s)
theorem ob_eq (s : PySem.W.SharedT) : ob s = hk.obs s.abs := obsZ_eq (HandSHeadRun.getT_eq s)
theorem run (w : World) : HandSHeadRun.RunEq ROW (PySem.W.view ROW.prog [36]) hk ob 8000 loose w := by
  intro os
  kernel_rfl
def lawI : Nat := 36
end Rk01

namespace Rk01
open PySem PySem.Spec PyProof.Rows L2 Fs
/-- the row's class, by name -/
def rN : List Str := ["BadName", "BadShelf", "BadFlow", "BadNet", "BadPaper", "BadLot", "BadChange", "BadSize", "BadLoad", "BadNumber", "BadOrder", "BadLink", "NoFlow", "NoShelf", "NoStep", "NoStep", "NotMet", "NoPost", "NoRoom", "NoParcel", "NoWant", "Endless", "Unsafe", "Taken", "Nothing", "TooMany", "TooMany", "BadText", "BadText", "BadCommand"]
def rA (k : Nat) : Str := rN.getD k ""
theorem clsA_eq (K : PySem.W.Frag) : ∀ k, k < 30 → clsA (mkAd K) k = He.ga K (rA k) := fun k hk => by
  match k, hk with
  | 0, _ => rfl | 1, _ => rfl | 2, _ => rfl | 3, _ => rfl | 4, _ => rfl | 5, _ => rfl | 6, _ => rfl | 7, _ => rfl | 8, _ => rfl | 9, _ => rfl
  | 10, _ => rfl | 11, _ => rfl | 12, _ => rfl | 13, _ => rfl | 14, _ => rfl | 15, _ => rfl | 16, _ => rfl | 17, _ => rfl | 18, _ => rfl | 19, _ => rfl
  | 20, _ => rfl | 21, _ => rfl | 22, _ => rfl | 23, _ => rfl | 24, _ => rfl | 25, _ => rfl | 26, _ => rfl | 27, _ => rfl | 28, _ => rfl | 29, _ => rfl
  | n + 30, hk => omega
theorem rA_mem : ((List.range 30).all fun k => decide (rA k ∈ cN)) = true := by decide +kernel
theorem rA_eq : ((List.range 30).all fun k => (List.range 30).all fun j => decide (rA k = rA j) == decide (nm k = nm j)) = true := by decide +kernel
theorem rA_fld : ((List.range 30).all fun k => (nsOf k).all fun f => decide ((rA k, f) ∈ fN)) = true := by decide +kernel
theorem ke_of {K : PySem.W.Frag} {h : Heap} (c : SaysZ hd h K) : KE K (mkAd K) := by
  have mem : ∀ k, k < 30 → rA k ∈ cN := fun k hk => of_decide_eq_true (rng_all rA_mem hk)
  have ex : ∀ k, k < 30 → ExcC K (He.ga K (rA k)) := fun k hk => exB_ok (List.all_eq_true.mp (all_at c.more 31 rfl) _ (mem k hk))
  refine ⟨sysB_ok (all_at c.more 30 rfl), fun k hk f hf fs => ?_, fun k hk j hj fs => ?_, fun k hk fs => ?_, fun k hk fs => ?_, ?_⟩
  · rw [clsA_eq K k hk]
    have xf : XfC K (He.ga K (rA k)) := xfB_ok (List.all_eq_true.mp (all_at c.more 32 rfl) _ (mem k hk))
    have m : (rA k, f) ∈ fN := of_decide_eq_true (List.all_eq_true.mp (rng_all rA_fld hk) f hf)
    have no : PySem.W.findIn K (.ref (He.ga K (rA k))) f = some none := He.eqO_ok (List.all_eq_true.mp (all_at c.more 36 rfl) _ m)
    show (match chk (XfC K (He.ga K (rA k)) ∧ PySem.W.findIn K (.ref (He.ga K (rA k))) f = some none) with | true => fs.lookup f | false => none) = _
    rw [chk_true ⟨xf, no⟩]
  · rw [clsA_eq K k hk, clsA_eq K j hj]
    have e := List.all_eq_true.mp (rng_all rA_eq hk) j (List.mem_range.mpr hj)
    rw [← eq_of_beq e]
    exact dIsx_of (ex k hk) (isCB_ok (List.all_eq_true.mp (List.all_eq_true.mp (all_at c.more 33 rfl) _ (mem k hk)) _ (mem j hj)))
  · rw [clsA_eq K k hk]
    exact dIsx_of (ex k hk) (isCB_ok (List.all_eq_true.mp (all_at c.more 34 rfl) _ (mem k hk)))
  · rw [clsA_eq K k hk]
    exact dIsx_of (ex k hk) (kitB_ok (List.all_eq_true.mp (all_at c.more 35 rfl) _ (mem k hk)))
  · exact dIsx_of (exB_ok (all_at c.more 37 rfl)) (kitB_ok (all_at c.more 38 rfl))
theorem law_at {w : World} {mg : Str → Option Value} {fa : Addr} {h : Heap} (Y : ∃ K : PySem.W.Frag, K.In h ∧ SaysZ hd h K) (G : h.Ns mainGlobals mg) (hmg : mg ("law" : Str) = some (.ref fa)) :
    ∃ K : PySem.W.Frag, K.In h ∧ LawAtG PySem.Challenge.rw_fullshelves_k01_errors_kept w K (L2.CX PROG w) 63 mg fa h := by
  obtain ⟨K, X, c⟩ := Y
  have T := txt_of X G c
  have ke := ke_of c
  obtain ⟨fd, F⟩ := T.F_law
  have ef : (mkAd K).f_law = fa := by
    have e := T.g_law.symm.trans hmg
    cases e; rfl
  have ne : (mkAd K).tb_L_kinds ≠ (mkAd K).tb_L_made := by
    have e : (!decide ((mkAd K).tb_L_kinds = (mkAd K).tb_L_made)) = true := all_at c.more 29 rfl
    simpa using e
  have m1 : (mkAd K).tabs = [((mkAd K).tb_L_kinds, (("_law_kinds" ++ ".<locals>.") ++ "<lambda>" : Str)), ((mkAd K).tb_L_made, (("_law_made" ++ ".<locals>.") ++ "<lambda>" : Str))] := rfl
  have cs : htf.map (fun p => He.cT K p) = [((mkAd K).cd_L_kinds, (mkAd K).tb_L_kinds), ((mkAd K).cd_L_made, (mkAd K).tb_L_made)] := rfl
  have hm : ∀ p ∈ [((mkAd K).cd_L_kinds, (mkAd K).tb_L_kinds), ((mkAd K).cd_L_made, (mkAd K).tb_L_made)], ∃ q ∈ htf, He.cT K q = p := fun p hp => by
    rw [← cs] at hp
    obtain ⟨q, hq, e⟩ := List.mem_map.mp hp
    exact ⟨q, hq, e⟩
  refine ⟨K, X, [((mkAd K).cd_L_kinds, (mkAd K).tb_L_kinds), ((mkAd K).cd_L_made, (mkAd K).tb_L_made)], fun p hp => ?_, fun p hp => ?_, fun p hp => ?_, fun base s H a ns hl hb hK hN hTB e0 hT hS => ?_⟩
  · obtain ⟨q, hq, rfl⟩ := hm p hp
    exact c.empty q hq
  · obtain ⟨q, hq, rfl⟩ := hm p hp
    exact c.out q hq
  · obtain ⟨q, hq, rfl⟩ := hm p hp
    exact PySem.W.codeHd_of_K X (c.hd q hq)
  · rw [← ef]
    have tb1 := hTB ((mkAd K).cd_L_kinds, (mkAd K).tb_L_kinds) (by simp)
    have tb2 := hTB ((mkAd K).cd_L_made, (mkAd K).tb_L_made) (by simp)
    refine G_law T F tb1 (by rw [m1]; simp) (fun p hp e => ?_) tb2 (by rw [m1]; simp) (fun p hp e => ?_) ⟨rfl, by decide, by decide⟩ e0 ?_
    · rw [m1] at hp
      simp only [List.mem_cons, List.not_mem_nil, or_false] at hp
      rcases hp with rfl | rfl
      · rfl
      · exact absurd e.symm ne
    · rw [m1] at hp
      simp only [List.mem_cons, List.not_mem_nil, or_false] at hp
      rcases hp with rfl | rfl
      · exact absurd e ne
      · rfl
    have hT2 : ∀ t ∈ (mkAd K).tabs, H t.1 = some (.tbl #[]) := fun t ht => by
      rw [m1] at ht
      simp only [List.mem_cons, List.not_mem_nil, or_false] at ht
      rcases ht with rfl | rfl
      · exact hT ((mkAd K).cd_L_kinds, (mkAd K).tb_L_kinds) (by simp)
      · exact hT ((mkAd K).cd_L_made, (mkAd K).tb_L_made) (by simp)
    refine law_sp (Np := N_L_pen) (N := N_law) (T := (mkAd K).tabs) (rt := rt_law K (mkAd K)) (f := fun L => b_law K (mkAd K) (runD 0 0 (b_L_kinds K (mkAd K))) (runD 2 2 (b_L_made K (mkAd K))) (fun _ _ => .bad) (runD 2 1 (b_L_value K (mkAd K) (runD 2 2 (b_L_pick K (mkAd K) (runD 7 2 (b_L_draw K (mkAd K) L))))))) (by decide) hT2 hS hl hb ?_ ?_
    · intro L hL hpc hpt
      have tabs : ∀ s H, (penC K L).I s H → LamX.Tabs (mkAd K).tabs H := fun s H I => by rw [← hL]; exact pen_tabs s H I
      have lam : ∀ (q : Str) s H H1 cl, (penC K L).I s H → LamTo (mkAd K).tabs q H H1 cl → (penC K L).I s H1 ∧ Ext (penC K L).keep H H1 := fun q s H H1 cl I l => pen_lam s H H1 cl I (by rw [hL]; exact l)
      exact S_law (SP_L_kinds tabs lam) (SP_L_made tabs lam) (mm_L_pen := fun _ _ => .bad) (fun A H vs ds s Q E _ _ _ _ W => W.elim) (SP_L_value (SP_L_pick (SP_L_draw hpc hpt)))
    · intro L hL hpc hpt hcl
      have dr : Drw L (runD 7 2 (b_L_draw K (mkAd K) L)) := fun m hm n s u hn => by
        obtain ⟨v, s', h1, h2, h3, h4, h5⟩ := draw_eq K (mkAd K) L (fun x hx => by
          rw [hcl] at hx
          exact Nat.lt_of_lt_of_le (bits_nat (hb x hx)) (Nat.pow_le_pow_right (by decide) (by decide))) hm s ⟨u.1, by have := u.2; omega⟩
        exact ⟨v, s', h1, h2, h3, h4, by have := u.2; omega⟩
      exact law_eq ke (pkr_of dr) (s := ⟨0, 0⟩) ⟨by decide, by decide⟩
end Rk01
open PySem PySem.W PySem.Calls PyProof.Rows
theorem PySem.Challenge.cw_fullshelves_k01_errors_kept_holds : PySem.Challenge.rw_fullshelves_k01_errors_kept.Holds := by
  w_on; o_law
  refine HandSHeadRun.head_any (r := Rk01.ROW) (q := view Rk01.ROW.prog [36]) (H := Rk01.hk) (ob := Rk01.ob) (M := 8000) (loose := Rk01.loose) (d := HandSHeadRun.topDef Rk01.ROW.prog 36) (kwd := []) Rk01.ob_eq
    (by kernel_rfl) (fun s => by kernel_rfl) Rk01.run (by kernel_rfl) (by kernel_rfl) (by kernel_rfl) (by rfl) (by first | assumption | decide +kernel) (by decide +kernel) ⟨rfl, rfl, rfl, rfl, rfl, by decide +kernel⟩ ?hw ?hc
  case hw => w_witness2
  case hc =>
    refine Fs.walk_ofG (l := PySem.Challenge.rw_fullshelves_k01_errors_kept) (n := 63) (CX := fun w => L2.CX Rk01.PROG w) rfl (by decide) (by kernel_rfl) ?F (fun w H s e s' z => ?_)
    case F =>
      intro w mg fa h Y G hmg0
      have hmg : mg ("law" : PySem.Str) = some (.ref fa) := by
        have e : (HandSHeadRun.topDef Rk01.ROW.prog 36).name = ("law" : PySem.Str) := by kernel_rfl
        rw [← e]
        exact hmg0
      exact Rk01.law_at Y G hmg
    · obtain ⟨a, B, H', cls, d, _, _, _, _, _, _, _, q⟩ := z
      exact q
