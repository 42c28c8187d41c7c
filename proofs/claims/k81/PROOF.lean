import PyProof.Rows.All
import Wide.All
import OpenK.AllK
import Wide.FinOn
import KE.KStateDown
import HandS.ForMost
import HandS.More
import HandS.Exc
import HandS.Defaults
import HandS.Conv
import HandS.Deep
import HandS.TupAny
import HandS.TupMul
import HandS.TupLe
import HandS.Zip
import HandS.Wide
import HandS.IsInst
import HandS.SortInts
import HandS.Flow
import HandS.Walk
import HandS.Style
import HandS.Head0
import HandS.Head1
import HandS.Head2
import HandS.HeadEnd
import HandS.HeadHook1
import HandS.HeadHook2
import HandS.HeadHook3
import KE.GoesNew
import HandS.HeadHook4
import KE.KDictKeyed
import HandS.DictComp
import HandS.Evl
import PySem.Challenge.RW_latekinds_k81_whole_programs_run
set_option Elab.async false
set_option linter.all false
set_option maxRecDepth 100000
set_option maxHeartbeats 2000000
/-! U: rules by values, whatever the kinds: one rule an operator. -/
namespace U
open PySem PySem.Spec PyProof.Rows L2
theorem OpR.imp {X : Cx} {f : Value → Value → Sem Value} {r r' : R2} (h : OpR X f r) (hi : ∀ x y H Q, r' x y H Q → r x y H Q) : OpR X f r' :=
  fun pins s σ H x y v u Q I rx ry q => h pins s σ H x y v u Q I rx ry (hi _ _ _ _ q)
theorem IxR.imp {X : Cx} {r r' : R2} (h : IxR X r) (hi : ∀ x y H Q, r' x y H Q → r x y H Q) : IxR X r' :=
  fun value slice pins s σ H x y v u Q I rx ry q hs => h value slice pins s σ H x y v u Q I rx ry (hi _ _ _ _ q) hs
theorem CallR.imp {X : Cx} {f : Value} {r r' : List V → Hp → VK → Prop} (h : CallR X f r) (hi : ∀ xs H Q, r' xs H Q → r xs H Q) : CallR X f r' :=
  fun pins s σ H xs us Q I rs q => h pins s σ H xs us Q I rs (hi _ _ _ q)
theorem PSet.or {X : Cx} {t t' : TSet} (h : PSet X t) (h' : PSet X t') : PSet X (fun o i v H Q => t o i v H Q ∨ t' o i v H Q) := by
  intro pins s σ H o i v ov iv u Q I ro ri rv q
  rcases q with q | q
  · exact h pins s σ H o i v ov iv u Q I ro ri rv q
  · exact h' pins s σ H o i v ov iv u Q I ro ri rv q
theorem PEor {X : Cx} {e : Expr} {t t' : TE} (h : PE X e t) (h' : PE X e t') : PE X e (fun σ H Q => t σ H Q ∨ t' σ H Q) :=
  ⟨fun pins s σ H Q I q => q.elim (h.run pins s σ H Q I) (h'.run pins s σ H Q I)⟩
theorem PIor {X : Cx} {tg iter : Expr} {t t' : TI} (h : PI X tg iter t) (h' : PI X tg iter t') : PI X tg iter (fun σ H Q => t σ H Q ∨ t' σ H Q) :=
  ⟨fun pins s σ H Q I q => q.elim (h.run pins s σ H Q I) (h'.run pins s σ H Q I)⟩

/-! ### arithmetic -/
def rAddU (K : PySem.W.Frag) : R2 := fun x y H Q => match x, y with
  | .int i, .int j => Q (.int (i + j)) H
  | .str a, .str b => a.length + b.length ≤ sizeLine ∧ Q (.str (a ++ b)) H
  | .ref a, .ref b => rCat (.ref a) (.ref b) H Q ∨ rCatA K (.ref a) (.ref b) H Q
  | _, _ => False
def rSubU : R2 := fun x y H Q => match x, y with
  | .int i, .int j => Q (.int (i - j)) H
  | _, _ => False
def rMulU (K : PySem.W.Frag) : R2 := fun x y H Q => match x, y with
  | .int i, .int j => (CMul i j ∨ CMulW i j) ∧ Q (.int (i * j)) H
  | .ref a, .int k => rRep (.ref a) (.int k) H Q ∨ rRepT K (.ref a) (.int k) H Q
  | _, _ => False
def rModU : R2 := fun x y H Q => match x, y with
  | .int i, .int j => 0 < j ∧ Q (.int (i % j)) H
  | _, _ => False
def rDivU : R2 := fun x y H Q => match x, y with
  | .int i, .int j => (CDiv i j ∨ CDivW i j) ∧ Q (.int (i / j)) H
  | _, _ => False
def rPowU : R2 := fun x y H Q => match x, y with
  | .int i, .int j => CPow i j ∧ Q (.int (i ^ j.toNat)) H
  | _, _ => False
def rShlU : R2 := fun x y H Q => match x, y with
  | .int i, .int j => CPow i j ∧ Q (.int (i * 2 ^ j.toNat)) H
  | _, _ => False
def rShrU : R2 := fun x y H Q => match x, y with
  | .int i, .int j => 0 ≤ j ∧ Q (.int (i / 2 ^ j.toNat)) H
  | _, _ => False
def rAndU : R2 := fun x y H Q => match x, y with
  | .int i, .int j => Q (.int (Builtin.bitAnd i j)) H
  | _, _ => False
def rOrU : R2 := fun x y H Q => match x, y with
  | .int i, .int j => Q (.int (Builtin.bitOr i j)) H
  | _, _ => False
section
variable {X : Cx}
theorem addU : OpR X (binaryOp .Add) (rAddU X.K) := OpR.imp (OpR.or op_add (OpR.or op_add_str (OpR.or op_cat op_catA))) fun x y H Q h => by
  unfold rAddU at h
  split at h
  · exact .inl ⟨_, _, rfl, rfl, h⟩
  · exact .inr (.inl ⟨_, _, rfl, rfl, h⟩)
  · exact .inr (.inr h)
  · exact h.elim
theorem subU : OpR X (binaryOp .Sub) rSubU := OpR.imp op_sub fun x y H Q h => by
  unfold rSubU at h
  split at h
  · exact ⟨_, _, rfl, rfl, h⟩
  · exact h.elim
theorem mulU : OpR X (binaryOp .Mult) (rMulU X.K) := OpR.imp (OpR.or op_mul (OpR.or op_mulW (OpR.or op_rep op_repT))) fun x y H Q h => by
  unfold rMulU at h
  split at h
  · obtain ⟨c | c, q⟩ := h
    · exact .inl ⟨_, _, rfl, rfl, c, q⟩
    · exact .inr (.inl ⟨_, _, rfl, rfl, c, q⟩)
  · exact .inr (.inr h)
  · exact h.elim
theorem modU : OpR X (binaryOp .Mod) rModU := OpR.imp op_mod fun x y H Q h => by
  unfold rModU at h
  split at h
  · exact ⟨_, _, rfl, rfl, h.1, h.2⟩
  · exact h.elim
theorem divU : OpR X (binaryOp .FloorDiv) rDivU := OpR.imp (OpR.or op_fdiv op_fdivW) fun x y H Q h => by
  unfold rDivU at h
  split at h
  · obtain ⟨c | c, q⟩ := h
    · exact .inl ⟨_, _, rfl, rfl, c, q⟩
    · exact .inr ⟨_, _, rfl, rfl, c, q⟩
  · exact h.elim
theorem powU : OpR X (binaryOp .Pow) rPowU := OpR.imp op_pow fun x y H Q h => by
  unfold rPowU at h
  split at h
  · exact ⟨_, _, rfl, rfl, h.1, h.2⟩
  · exact h.elim
theorem shlU : OpR X (binaryOp .LShift) rShlU := OpR.imp op_shl fun x y H Q h => by
  unfold rShlU at h
  split at h
  · exact ⟨_, _, rfl, rfl, h.1, h.2⟩
  · exact h.elim
theorem shrU : OpR X (binaryOp .RShift) rShrU := OpR.imp op_shr fun x y H Q h => by
  unfold rShrU at h
  split at h
  · exact ⟨_, _, rfl, rfl, h.1, h.2⟩
  · exact h.elim
theorem andU : OpR X (binaryOp .BitAnd) rAndU := OpR.imp op_and fun x y H Q h => by
  unfold rAndU at h
  split at h
  · exact ⟨_, _, rfl, rfl, h⟩
  · exact h.elim
theorem orU : OpR X (binaryOp .BitOr) rOrU := OpR.imp op_or fun x y H Q h => by
  unfold rOrU at h
  split at h
  · exact ⟨_, _, rfl, rfl, h⟩
  · exact h.elim
end
/-! augmented: the same readings -/
section
variable {X : Cx}
theorem iaddU : PIp X .Add (fun x y H Q => match x, y with
    | .int i, .int j => Q (.int (i + j)) H
    | .str a, .str b => a.length + b.length ≤ sizeLine ∧ Q (.str (a ++ b)) H
    | _, _ => False) := by
  intro pins s σ H x y v u Q I rx ry h
  split at h
  · exact iop_add pins s σ H _ _ v u Q I rx ry ⟨_, _, rfl, rfl, h⟩
  · exact iop_add_str pins s σ H _ _ v u Q I rx ry ⟨_, _, rfl, rfl, h⟩
  · exact h.elim
theorem ior_U : PIp X .BitOr rOrU := by
  intro pins s σ H x y v u Q I rx ry h
  unfold rOrU at h
  split at h
  · exact iop_or pins s σ H _ _ v u Q I rx ry ⟨_, _, rfl, rfl, h⟩
  · exact h.elim
end
def rIAddU : TIp := fun x y H Q => match x, y with
  | .int i, .int j => Q (.int (i + j)) H
  | .str a, .str b => a.length + b.length ≤ sizeLine ∧ Q (.str (a ++ b)) H
  | _, _ => False

/-! ### comparisons -/
def rEqU (K : PySem.W.Frag) : R2 := fun x y H Q => match x, y with
  | .ref a, .ref b => rEqD K (.ref a) (.ref b) H Q
  | x, y => (scal x y = true ∧ Q (.bl (decide (x = y))) H) ∨ rEqD K x y H Q
def rNeU (K : PySem.W.Frag) : R2 := fun x y H Q => match x, y with
  | .ref a, .ref b => rNeD K (.ref a) (.ref b) H Q
  | x, y => (scal x y = true ∧ Q (.bl (!decide (x = y))) H) ∨ rNeD K x y H Q
def rLtU (K : PySem.W.Frag) : R2 := fun x y H Q => match x, y with
  | .int i, .int j => Q (.bl (decide (i < j))) H
  | .str i, .str j => Q (.bl (decide (i.cps.toList < j.cps.toList))) H
  | .ref a, .ref b => rLtT K (.ref a) (.ref b) H Q
  | _, _ => False
def rLeU : R2 := fun x y H Q => match x, y with
  | .int i, .int j => Q (.bl (decide (i ≤ j))) H
  | _, _ => False
def rGtU : R2 := fun x y H Q => match x, y with
  | .int i, .int j => Q (.bl (decide (j < i))) H
  | _, _ => False
def rGeU : R2 := fun x y H Q => match x, y with
  | .int i, .int j => Q (.bl (decide (j ≤ i))) H
  | _, _ => False
def rIsU : R2 := fun x y H Q => match y with
  | .non => Q (.bl (decide (x = .non))) H
  | .bl b => ∃ a, x = .bl a ∧ Q (.bl (decide (a = b))) H
  | _ => False
def rIsNotU : R2 := fun x y H Q => match y with
  | .non => Q (.bl (!decide (x = .non))) H
  | .bl b => ∃ a, x = .bl a ∧ Q (.bl (!decide (a = b))) H
  | _ => False
section
variable {X : Cx}
theorem eqU (hu : X.A.units + 64 < cLine) : OpR X (compareOp .Eq) (rEqU X.K) := OpR.imp (OpR.or op_eq (op_eqD hu)) fun x y H Q h => by
  unfold rEqU at h
  split at h
  · exact .inr h
  · exact h
theorem neU (hu : X.A.units + 64 < cLine) : OpR X (compareOp .NotEq) (rNeU X.K) := OpR.imp (OpR.or op_ne (op_neD hu)) fun x y H Q h => by
  unfold rNeU at h
  split at h
  · exact .inr h
  · exact h
theorem ltU (hu : X.A.units < cLine) : OpR X (compareOp .Lt) (rLtU X.K) := OpR.imp (OpR.or op_lt (OpR.or op_lt_str (op_ltT hu))) fun x y H Q h => by
  unfold rLtU at h
  split at h
  · exact .inl ⟨_, _, rfl, rfl, h⟩
  · exact .inr (.inl ⟨_, _, rfl, rfl, h⟩)
  · exact .inr (.inr h)
  · exact h.elim
theorem leU : OpR X (compareOp .LtE) rLeU := OpR.imp op_le fun x y H Q h => by
  unfold rLeU at h
  split at h
  · exact ⟨_, _, rfl, rfl, h⟩
  · exact h.elim
theorem gtU : OpR X (compareOp .Gt) rGtU := OpR.imp op_gt fun x y H Q h => by
  unfold rGtU at h
  split at h
  · exact ⟨_, _, rfl, rfl, h⟩
  · exact h.elim
theorem geU : OpR X (compareOp .GtE) rGeU := OpR.imp op_ge fun x y H Q h => by
  unfold rGeU at h
  split at h
  · exact ⟨_, _, rfl, rfl, h⟩
  · exact h.elim
theorem isU : OpR X (compareOp .Is) rIsU := OpR.imp (OpR.or op_isN op_is_bl) fun x y H Q h => by
  unfold rIsU at h
  split at h
  · exact .inl ⟨rfl, h⟩
  · exact .inr (h.elim fun a q => ⟨a, _, q.1, rfl, q.2⟩)
  · exact h.elim
theorem isNotU : OpR X (compareOp .IsNot) rIsNotU := OpR.imp (OpR.or op_notN op_isnot_bl) fun x y H Q h => by
  unfold rIsNotU at h
  split at h
  · exact .inl ⟨rfl, h⟩
  · exact .inr (h.elim fun a q => ⟨a, _, q.1, rfl, q.2⟩)
  · exact h.elim
/-- y in d, by values -/
theorem in_dict (hu : X.A.units + 1 < cLine) : OpR X (compareOp .In) (fun y x H Q => ∃ a o, x = .ref a ∧ DGet H a y o ∧ Q (.bl o.isSome) H) := by
  intro pins s σ H y x iv u Q I ry rx h
  obtain ⟨a, ov, ex, g, q⟩ := h
  subst ex
  obtain rfl : u = Value.ref a := rx
  exact d_in hu I g ry fun s3 I3 => ⟨.bl ov.isSome, H, I3, rfl, q⟩
theorem notIn_dict (hu : X.A.units + 1 < cLine) : OpR X (compareOp .NotIn) (fun y x H Q => ∃ a o, x = .ref a ∧ DGet H a y o ∧ Q (.bl (!o.isSome)) H) := by
  intro pins s σ H y x iv u Q I ry rx h
  obtain ⟨a, ov, ex, g, q⟩ := h
  subst ex
  obtain rfl : u = Value.ref a := rx
  exact d_notIn hu I g ry fun s3 I3 => ⟨.bl (!ov.isSome), H, I3, rfl, q⟩
end
/-- x in y: a dict's key; a flat item of a list or tuple; an item of data of a list; a sign of a text -/
def rInU (K : PySem.W.Frag) : R2 := fun x y H Q => match y with
  | .ref a => (∃ o, DGet H a x o ∧ Q (.bl o.isSome) H) ∨ rIn K false x (.ref a) H Q ∨ rInD K x (.ref a) H Q
  | .str z => ∃ c : Nat, x = .str ⟨#[c]⟩ ∧ Q (.bl (decide (c ∈ z.cps.toList))) H
  | _ => False
def rNotInU (K : PySem.W.Frag) : R2 := fun x y H Q => match y with
  | .ref a => (∃ o, DGet H a x o ∧ Q (.bl (!o.isSome)) H) ∨ rIn K true x (.ref a) H Q ∨ rNotInD K x (.ref a) H Q
  | .str z => ∃ c : Nat, x = .str ⟨#[c]⟩ ∧ Q (.bl (!decide (c ∈ z.cps.toList))) H
  | _ => False
section
variable {X : Cx}
theorem inU (hu : X.A.units + 65 < cLine) : OpR X (compareOp .In) (rInU X.K) := OpR.imp (OpR.or (in_dict (by omega)) (OpR.or op_in_seq (OpR.or (op_inD hu) op_in_sign))) fun x y H Q h => by
  unfold rInU at h
  split at h
  · rcases h with ⟨o, g, q⟩ | h | h
    · exact .inl ⟨_, o, rfl, g, q⟩
    · exact .inr (.inl h)
    · exact .inr (.inr (.inl h))
  · obtain ⟨c, e, q⟩ := h
    exact .inr (.inr (.inr ⟨c, _, e, rfl, q⟩))
  · exact h.elim
theorem notInU (hu : X.A.units + 65 < cLine) : OpR X (compareOp .NotIn) (rNotInU X.K) := OpR.imp (OpR.or (notIn_dict (by omega)) (OpR.or op_notIn_seq (OpR.or (op_notInD hu) op_notIn_sign))) fun x y H Q h => by
  unfold rNotInU at h
  split at h
  · rcases h with ⟨o, g, q⟩ | h | h
    · exact .inl ⟨_, o, rfl, g, q⟩
    · exact .inr (.inl h)
    · exact .inr (.inr (.inl h))
  · obtain ⟨c, e, q⟩ := h
    exact .inr (.inr (.inr ⟨c, _, e, rfl, q⟩))
  · exact h.elim
end

/-! ### subscripts -/
section
variable {X : Cx}
/-- d[y], by values -/
theorem ix_dict (hu : X.A.units + 1 < cLine) : IxR X (fun x y H Q => ∃ a v, x = .ref a ∧ DGet H a y (some v) ∧ Q v H) := by
  intro value slice pins s σ H x y v u Q I rx ry h hs
  obtain ⟨a, z, ex, g, q⟩ := h
  subst ex
  obtain rfl : v = Value.ref a := rx
  exact tail_any (dict_typeIs I g) PySem.F.slot_dict_getitem.lookup (d_getItem hu I g ry fun w' s3 I3 rw' => ⟨z, H, I3, rw', q⟩) hs
theorem set_dict (hu : X.A.units + 1 < cLine) : PSet X (fun o i v H Q => ∃ a H', o = .ref a ∧ DPut H a i v H' ∧ Q H') := by
  intro pins s σ H o i v ov iv u Q I ro ri rv h
  obtain ⟨a, H', eo, g, q⟩ := h
  subst eo
  obtain rfl : ov = Value.ref a := ro
  exact d_setItem hu I g ri rv fun s4 I4 => ⟨H', I4, q⟩
end
def rIxU (K : PySem.W.Frag) : R2 := fun x y H Q => match x, y with
  | .str z, .int i => ∃ c, z.length ≤ sizeLine ∧ atI z.cps.toList i = some c ∧ Q (.str ⟨#[c]⟩) H
  | .ref a, y => (∃ xs i v, y = .int i ∧ (SqL K H a xs ∨ SqT K H a xs) ∧ atI xs i = some v ∧ Q v H) ∨ ∃ v, DGet H a y (some v) ∧ Q v H
  | _, _ => False
def rSetU : TSet := fun o i v H Q => match o with
  | .ref a => (∃ xs k j, i = .int k ∧ H a = some (.lst xs) ∧ ixN xs.length k = some j ∧ Q (upd H a (.lst (xs.set j v)))) ∨ ∃ H', DPut H a i v H' ∧ Q H'
  | _ => False
section
variable {X : Cx}
theorem ixU (hu : X.A.units + 1 < cLine) : IxR X (rIxU X.K) := IxR.imp (IxR.or ix_list (IxR.or ix_tup (IxR.or ix_str (ix_dict hu)))) fun x y H Q h => by
  unfold rIxU at h
  split at h
  · obtain ⟨c, h1, h2, q⟩ := h
    exact .inr (.inr (.inl ⟨_, _, c, rfl, rfl, h1, h2, q⟩))
  · rcases h with ⟨xs, i, v, e, hq | hq, ha, q⟩ | ⟨v, g, q⟩
    · exact .inl ⟨_, xs, i, v, rfl, e, hq, ha, q⟩
    · exact .inr (.inl ⟨_, xs, i, v, rfl, e, hq, ha, q⟩)
    · exact .inr (.inr (.inr ⟨_, v, rfl, g, q⟩))
  · exact h.elim
theorem setU (hu : X.A.units + 1 < cLine) : PSet X rSetU := by
  intro pins s σ H o i v ov iv u Q I ro ri rv h
  unfold rSetU at h
  split at h
  · rcases h with ⟨xs, k, j, e, hp, hj, q⟩ | ⟨H', g, q⟩
    · exact set_list pins s σ H _ i v ov iv u Q I ro ri rv ⟨_, xs, k, j, rfl, e, hp, hj, q⟩
    · exact set_dict hu pins s σ H _ i v ov iv u Q I ro ri rv ⟨_, H', rfl, g, q⟩
  · exact h.elim
end
def rSlU (K : PySem.W.Frag) : V → Option Int → Option Int → Hp → VK → Prop := fun x lo hi H Q => match x with
  | .str z => z.length ≤ sizeLine ∧ Q (.str (cutS z lo hi)) H
  | .ref a => rSlL K (.ref a) lo hi H Q ∨ rSlA K (.ref a) lo hi H Q
  | _ => False
theorem slU {X : Cx} : SlR X (rSlU X.K) := by
  intro pins s σ H x v vl vu lo hi sl Q I rx hs pl pu h
  unfold rSlU at h
  split at h
  · exact sl_str pins s σ H _ v vl vu lo hi sl Q I rx hs pl pu ⟨_, rfl, h.1, h.2⟩
  · rcases h with h | h
    · exact sl_list pins s σ H _ v vl vu lo hi sl Q I rx hs pl pu h
    · exact sl_tupA pins s σ H _ v vl vu lo hi sl Q I rx hs pl pu h
  · exact h.elim

/-! ### built-in calls -/
def rLenU (K : PySem.W.Frag) : List V → Hp → VK → Prop := fun xs H Q => match xs with
  | [.str z] => z.length ≤ sizeLine ∧ Q (.int z.length) H
  | [.ref a] => (∃ ys, (SqL K H a ys ∨ SqT K H a ys) ∧ Q (.int ys.length) H) ∨ ∃ kvs, H a = some (.dK kvs) ∧ Q (.int kvs.length) H
  | _ => False
def rIntU : List V → Hp → VK → Prop := fun xs H Q => match xs with
  | [.int i] => Q (.int i) H
  | [.bl b] => Q (.int (if b then 1 else 0)) H
  | [.str a] => ∃ n, PySem.intText? a = some n ∧ a.length ≤ 640 ∧ Q (.int n) H
  | _ => False
def rStrU : List V → Hp → VK → Prop := fun xs H Q => match xs with
  | [.int i] => i.natAbs.log2 < 1920 ∧ Q (.str (toString i)) H
  | _ => False
def rAbsU : List V → Hp → VK → Prop := fun xs H Q => match xs with
  | [.int i] => Q (.int (if i < 0 then -i else i)) H
  | _ => False
def rListU (K : PySem.W.Frag) : List V → Hp → VK → Prop := fun xs H Q => match xs with
  | [.ref p] => (∃ ys, (SqL K H p ys ∨ SqT K H p ys) ∧ ∀ l, H l = none → Q (.ref l) (upd H l (.lst ys))) ∨ ∃ kvs, Rd H p (.dK kvs) ∧ ∀ l, H l = none → Q (.ref l) (upd H l (.lst (kvs.map fun kv => kV kv.1)))
  | _ => False
def rTupU (K : PySem.W.Frag) : List V → Hp → VK → Prop := fun xs H Q => match xs with
  | [.ref p] => (∃ ys, SqL K H p ys ∧ ∀ l, H l = none → Q (.ref l) (upd H l (.tup ys))) ∨ ∃ ys, SqT K H p ys ∧ Q (.ref p) H
  | _ => False
def rMinU (K : PySem.W.Frag) : List V → Hp → VK → Prop := fun xs H Q => match xs with
  | [.int i, .int j] => Q (.int (if j < i then j else i)) H
  | xs => rMin K xs H Q
def rMaxU (K : PySem.W.Frag) : List V → Hp → VK → Prop := fun xs H Q => match xs with
  | [.int i, .int j] => Q (.int (if j > i then j else i)) H
  | xs => rMax K xs H Q
section
variable {X : Cx}
theorem lenU : CallR X (.builtin "len") (rLenU X.K) := CallR.imp (CallR.or call_len_seq (CallR.or call_len_str call_lenD)) fun xs H Q h => by
  unfold rLenU at h
  split at h
  · exact .inr (.inl ⟨_, rfl, h.1, h.2⟩)
  · rcases h with ⟨ys, hq, q⟩ | ⟨kvs, hk, q⟩
    · exact .inl ⟨_, ys, rfl, hq, q⟩
    · exact .inr (.inr ⟨_, kvs, rfl, hk, q⟩)
  · exact h.elim
theorem intU : CallR X (.type "int") rIntU := CallR.imp (CallR.or call_int1 call_int_str) fun xs H Q h => by
  unfold rIntU at h
  split at h
  · exact .inl (.inl ⟨_, rfl, h⟩)
  · exact .inl (.inr ⟨_, rfl, h⟩)
  · obtain ⟨n, h1, h2, q⟩ := h
    exact .inr ⟨_, n, rfl, h1, h2, q⟩
  · exact h.elim
theorem strU : CallR X (.type "str") rStrU := CallR.imp call_str_int fun xs H Q h => by
  unfold rStrU at h
  split at h
  · exact ⟨_, rfl, h.1, h.2⟩
  · exact h.elim
theorem absU : CallR X (.builtin "abs") rAbsU := CallR.imp call_abs fun xs H Q h => by
  unfold rAbsU at h
  split at h
  · exact ⟨_, rfl, h⟩
  · exact h.elim
theorem listU (hc : X.calm = true) : CallR X (.type "list") (rListU X.K) := CallR.imp (CallR.or call_list_of (call_listD hc)) fun xs H Q h => by
  unfold rListU at h
  split at h
  · rcases h with ⟨ys, hq, q⟩ | ⟨kvs, hk, q⟩
    · exact .inl ⟨_, ys, rfl, hq, q⟩
    · exact .inr ⟨_, kvs, rfl, hk, q⟩
  · exact h.elim
theorem tupU : CallR X (.type "tuple") (rTupU X.K) := CallR.imp call_tuple_of fun xs H Q h => by
  unfold rTupU at h
  split at h
  · rcases h with ⟨ys, hq, q⟩ | ⟨ys, hq, q⟩
    · exact ⟨_, ys, rfl, .inl ⟨hq, q⟩⟩
    · exact ⟨_, ys, rfl, .inr ⟨hq, q⟩⟩
  · exact h.elim
theorem minU (hc : X.calm = true) : CallR X (.builtin "min") (rMinU X.K) := CallR.imp (CallR.or (call_min2 hc) (cr_min hc)) fun xs H Q h => by
  unfold rMinU at h
  split at h
  · exact .inl ⟨_, _, rfl, h⟩
  · exact .inr h
theorem maxU (hc : X.calm = true) : CallR X (.builtin "max") (rMaxU X.K) := CallR.imp (CallR.or (call_max2 hc) (cr_max hc)) fun xs H Q h => by
  unfold rMaxU at h
  split at h
  · exact .inl ⟨_, _, rfl, h⟩
  · exact .inr h
end

/-! ### a def's promise is its own reading -/
/-- the promise of a def whose body reads t (E: what is wanted of an exception) -/
def spOf (N : List Str) (n : Nat) (t : XK → TS) : Sp := fun vs H Q E => vs.length = n ∧ t E { nx := fun _ H' => Q .non H', rt := Q } (start N vs) H
/-- a def as it stands at an address, keeping a promise, its arguments bound in order -/
def FnEx (P : Program) (w : World) (K : PySem.W.Frag) (mg : Str → Option Value) (base : Heap) (CX : CXT) (k : Nat) (f : Addr) (ps : List Str) (sp : Sp) : Prop :=
  ∃ fd : FuncData, Binds K fd ps [] ∧ PySem.W.keepIn K (.ref f) = true ∧ FnOk P w K mg base CX k f fd ps sp
section
variable {P : Program} {w : World} {K : PySem.W.Frag} {mg : Str → Option Value} {base : Heap}
theorem fnEx {CX : CXT} {d : He.DefD} {N ps : List Str} {k n : Nat} {t : XK → TS} (h : ∃ fd, FunD K d.name d.qual d.params d.body d.scope (d.dvs K) (d.kws K) (He.fAd K d.at_) fd)
    (hd : d.dfl = []) (hk : d.kwd = []) (S : FnScope N ps d.scope) (hn : n = ps.length)
    (hb : ∀ (kV doc pm : Value) (an : Option Addr) (cdv ct : Value) (us : List Value), us.length = ps.length → bindArgs (PySem.W.fnOf d.name d.qual d.params d.body d.scope .none kV doc pm an cdv ct) ⟨us, []⟩ = pure (ps.zip us))
    (body : ∀ (cdv : Value) (A : Around) (outer : List Env) (s : Shared) (H : Hp) (E : XK), Room k (A.deeper (envOfC d.qual d.scope s.heap.objs.size (He.fAd K d.at_) cdv)) →
      PSs (cxOf CX P w K mg base N d.qual d.scope (He.fAd K d.at_) cdv A outer s H E) d.body (t E)) :
    FnEx P w K mg base CX (k + 1) (He.fAd K d.at_) ps (spOf N n t) := by
  obtain ⟨fd, F⟩ := h
  have e1 : d.dvs K = [] := by unfold He.DefD.dvs; rw [hd]; rfl
  have e2 : d.kws K = [] := by unfold He.DefD.kws; rw [hk]; rfl
  rw [e1, e2] at F
  refine ⟨fd, F.bindsN fun kV doc pm an cdv ct us hl => hb kV doc pm an cdv ct us hl, F.kp, F.ok S (fun vs H Q E h => h.1.trans hn) fun cdv A outer s H vs Q E hr h => ⟨t E, body cdv A outer s H E hr, h.2⟩⟩
/-- the same of a def that is known (the law's) -/
theorem fnOkD {CX : CXT} {d : He.DefD} {N ps : List Str} {k n : Nat} {t : XK → TS} {fd : FuncData} (F : FunD K d.name d.qual d.params d.body d.scope (d.dvs K) (d.kws K) (He.fAd K d.at_) fd)
    (hd : d.dfl = []) (hk : d.kwd = []) (S : FnScope N ps d.scope) (hn : n = ps.length)
    (body : ∀ (cdv : Value) (A : Around) (outer : List Env) (s : Shared) (H : Hp) (E : XK), Room k (A.deeper (envOfC d.qual d.scope s.heap.objs.size (He.fAd K d.at_) cdv)) →
      PSs (cxOf CX P w K mg base N d.qual d.scope (He.fAd K d.at_) cdv A outer s H E) d.body (t E)) :
    FnOk P w K mg base CX (k + 1) (He.fAd K d.at_) fd ps (spOf N n t) := by
  have e1 : d.dvs K = [] := by unfold He.DefD.dvs; rw [hd]; rfl
  have e2 : d.kws K = [] := by unfold He.DefD.kws; rw [hk]; rfl
  rw [e1, e2] at F
  exact F.ok S (fun vs H Q E h => h.1.trans hn) fun cdv A outer s H vs Q E hr h => ⟨t E, body cdv A outer s H E hr, h.2⟩
variable {CX : CXT} {k : Nat} {f : Addr} {ps : List Str} {sp : Sp}
theorem FnEx.mono {j : Nat} (F : FnEx P w K mg base CX j f ps sp) (h : j ≤ k) : FnEx P w K mg base CX k f ps sp :=
  let ⟨fd, b, kp, F⟩ := F
  ⟨fd, b, kp, F.mono h⟩
end
section
variable {X : Cx} {CX : CXT} {k : Nat} {f C : Addr} {ps : List Str} {sp : Sp} {E : XK} {x m : Str} {p pos apos : Pos} {e o : Expr} {es : List Expr} {ta : TE} {t : TA}
theorem pe_callE (F : FnEx X.prog X.w X.K X.mg X.base CX k f ps sp) (hr : Room k X.A) (hm : X.mg x = some (.ref f)) (hx : Passes CX X E) (ha : PA X (e :: es) t) (hg : Gl X x := by rfl)
    (hdb : (x == ("__debug__" : Str)) = false := by decide) (he : starEach (e :: es) X.env = (false, eval e X.env) :: starEach es X.env := by rfl) (hpl : (backTo pos (starEach es X.env)).any (·.1) = false := by rfl) :
    PE X (.Call (.Name x p) (e :: es) [] pos) (tCall sp [] E t) :=
  let ⟨_, b, kp, F⟩ := F
  pe_call F hr hg hm kp b .nil hx ha hdb he hpl
theorem pe_methE {pl : Sem Bool} (he : PE X o ta) (c : Cls X.K C) (hm : Meth X.K C m f) (F : FnEx X.prog X.w X.K X.mg X.base CX k f ps sp) (hr : Room k X.A) (hx : Passes CX X E) (ha : PA X (e :: es) t)
    (hst : starEach (e :: es) X.env = (false, eval e X.env) :: starEach es X.env := by rfl) (hpl : (backTo pos (starEach es X.env)).any (·.1) = false := by rfl)
    (ht : eval (.Call (.Attribute o m apos) (e :: es) [] pos) X.env = (do
      let ov ← eval o X.env
      standAt apos.atName
      let (f, first) ← holding [ov] (getMethod ov m pl)
      callWith pos f first (backTo pos (starEach (e :: es) X.env)) (backToKw pos (keywordEach [] X.env))) := by rfl) :
    PE X (.Call (.Attribute o m apos) (e :: es) [] pos) (tMeth C m sp [] E ta t) :=
  let ⟨_, b, _, F⟩ := F
  pe_meth he c hm F hr b .nil hx ha hst hpl ht
theorem pe_methE0 {pl : Sem Bool} (he : PE X o ta) (c : Cls X.K C) (hm : Meth X.K C m f) (F : FnEx X.prog X.w X.K X.mg X.base CX k f ps sp) (hr : Room k X.A) (hx : Passes CX X E)
    (ht : eval (.Call (.Attribute o m apos) [] [] pos) X.env = (do
      let ov ← eval o X.env
      standAt apos.atName
      let (f, first) ← holding [ov] (getMethod ov m pl)
      callWith pos f first (backTo pos (starEach [] X.env)) (backToKw pos (keywordEach [] X.env))) := by rfl) :
    PE X (.Call (.Attribute o m apos) [] [] pos) (tMeth C m sp [] E ta tNil) :=
  let ⟨_, b, _, F⟩ := F
  pe_meth0 he c hm F hr b .nil hx ht
theorem pe_makeE0 (M : Mk X.K C f) (F : FnEx X.prog X.w X.K X.mg X.base CX k f ps sp) (hr : Room (k + 1) X.A) (hm : X.mg x = some (.ref C)) (hx : Passes CX X E) (hg : Gl X x := by rfl) (hdb : (x == ("__debug__" : Str)) = false := by decide) :
    PE X (.Call (.Name x p) [] [] pos) (tMake C sp [] E tNil) :=
  let ⟨_, b, _, F⟩ := F
  pe_make0 M F hr hg hm b .nil hx hdb
theorem pe_makeE (M : Mk X.K C f) (F : FnEx X.prog X.w X.K X.mg X.base CX k f ps sp) (hr : Room (k + 1) X.A) (hm : X.mg x = some (.ref C)) (hx : Passes CX X E) (ha : PA X (e :: es) t) (hg : Gl X x := by rfl)
    (hdb : (x == ("__debug__" : Str)) = false := by decide) (he : starEach (e :: es) X.env = (false, eval e X.env) :: starEach es X.env := by rfl) (hpl : (backTo pos (starEach es X.env)).any (·.1) = false := by rfl) :
    PE X (.Call (.Name x p) (e :: es) [] pos) (tMake C sp [] E t) :=
  let ⟨_, b, _, F⟩ := F
  pe_make M F hr hg hm b .nil hx ha hdb he hpl
end
end U

set_option maxHeartbeats 2000000
/-! U2: walks over a list, a tuple, a text, alone, enumerated, zipped; further rules. -/
namespace U
open PySem PySem.Spec PyProof.Rows L2
/-! ### what is walked: a list, a tuple, a text -/
inductive Kd where
  | l | t | s
/-- the signs of a text, as texts -/
def signsV (z : Str) : List V := z.cps.toList.map fun c => .str ⟨#[c]⟩
def SrcK (K : PySem.W.Frag) (H : Hp) (k : Kd) (v : V) (xs : List V) : Prop := match k with
  | .l => ∃ a, v = .ref a ∧ SqL K H a xs
  | .t => ∃ a, v = .ref a ∧ SqT K H a xs
  | .s => ∃ z, v = .str z ∧ xs = signsV z
/-- an iterator over u at it, i items gone -/
def ItK (k : Kd) (u : Value) (it : Addr) (i : Nat) (h : Heap) : Prop := match k with
  | .l => ∃ a, u = .ref a ∧ h.IsListIter it a i
  | .t => ∃ a, u = .ref a ∧ h.IsTupleIter it a i
  | .s => ∃ x t, u = .str x t ∧ h.IsStrIter it (strIterType x) x t i
theorem ItK.obj {k : Kd} {u : Value} {it : Addr} {i : Nat} {h : Heap} (st : ItK k u it i h) : ∃ o, h.get? it = some o ∧ ∀ v, o.data ≠ .cell v := by
  cases k with
  | l => obtain ⟨a, _, o, e, _, d⟩ := st; exact ⟨o, e, fun v z => by rw [d] at z; cases z⟩
  | t => obtain ⟨a, _, o, e, _, d⟩ := st; exact ⟨o, e, fun v z => by rw [d] at z; cases z⟩
  | s => obtain ⟨x, t, _, o, e, _, d⟩ := st; exact ⟨o, e, fun v z => by rw [d] at z; cases z⟩
theorem ItK.keep {k : Kd} {u : Value} {it : Addr} {i : Nat} {h h' : Heap} (st : ItK k u it i h) (kp : ∀ o, h.get? it = some o → h'.get? it = some o) : ItK k u it i h' := by
  cases k with
  | l => obtain ⟨a, e, s⟩ := st; exact ⟨a, e, s.at kp⟩
  | t => obtain ⟨a, e, s⟩ := st; exact ⟨a, e, s.at kp⟩
  | s => obtain ⟨x, t, e, o, ho, r⟩ := st; exact ⟨x, t, e, o, kp o ho, r⟩
section
variable {X : Cx} {pins : List (Addr × Obj)} {σ : L2.St} {H : Hp} {s : Shared}
theorem src_inj {k : Kd} {v : V} {xs ys : List V} (I : Inv X pins σ H s) (h : SrcK X.K H k v xs) (h' : SrcK X.K H k v ys) : xs = ys := by
  cases k with
  | l => obtain ⟨a, rfl, h⟩ := h; obtain ⟨b, e, h'⟩ := h'; cases e; exact I.list_inj h h'
  | t => obtain ⟨a, rfl, h⟩ := h; obtain ⟨b, e, h'⟩ := h'; cases e; exact I.tuple_inj h h'
  | s => obtain ⟨a, rfl, h⟩ := h; obtain ⟨b, e, h'⟩ := h'; cases e; exact h.trans h'.symm
theorem signs_get {z : Str} {i : Nat} {c : Nat} (h : z.cps[i]? = some c) : (signsV z)[i]? = some (.str ⟨#[c]⟩) := by
  unfold signsV
  rw [List.getElem?_map]
  have e : z.cps.toList[i]? = some c := by rw [Array.getElem?_toList]; exact h
  rw [e]
  rfl
/-- what an iterator over it draws; the source's own address is no new one -/
theorem src_draws {A : Around} (hh : A.handled = none) {k : Kd} {v : V} {u : Value} {xs : List V} {it : Addr} {i : Nat} (I : Inv X pins σ H s) (r : RelV v u) (h : SrcK X.K H k v xs) (st : ItK k u it i s.heap) :
    ∃ (fp : List Addr) (P : Nat → Value → Prop) (S : Nat → Heap → Prop), Draws X.prog X.w A it fp xs.length P S ∧ it ∈ fp ∧ (∀ b ∈ fp, b = it ∨ u = .ref b) ∧ S i s.heap ∧ (∀ j h, S j h → ItK k u it j h) ∧ ∀ j w', P j w' → ∃ x, xs[j]? = some x ∧ RelV x w' := by
  have fin : ∀ {its : List Value} (rv : Vals xs its) {j : Nat} {w' : Value}, its.toArray[j]? = some w' → ∃ x, xs[j]? = some x ∧ RelV x w' := fun {its} rv {j w'} e => by
    have e2 : its[j]? = some w' := by simpa using e
    have hj : j < xs.length := by rw [rv.length]; exact (List.getElem?_eq_some_iff.mp e2).1
    obtain ⟨w2, e3, r3⟩ := rv.get (List.getElem?_eq_getElem hj)
    rw [e2] at e3; cases e3
    exact ⟨_, List.getElem?_eq_getElem hj, r3⟩
  cases k with
  | l =>
    obtain ⟨a, rfl, h⟩ := h
    obtain rfl : u = Value.ref a := r
    obtain ⟨b, e, st⟩ := st
    cases e
    obtain ⟨its, rv, pl, hz⟩ := I.list h
    have hl : its.toArray.size = xs.length := by rw [List.size_toArray]; exact rv.length.symm
    have hne : a ≠ it := fun e => by
      subst e
      obtain ⟨o, e1, c1, _⟩ := st
      obtain ⟨o', e2, c2, _⟩ := pl.isList
      rw [e1] at e2; cases e2
      rw [c1] at c2
      exact absurd c2 (by decide)
    have D := Draws.list (prog := X.prog) (w := X.w) hh it a hne its.toArray
    rw [hl] at D
    exact ⟨_, _, _, D, by simp, fun b hb => by
      have e' : b = it ∨ b = a := by simpa using hb
      exact e'.imp id fun q => by rw [q], ⟨st, pl.isList⟩, fun j h' q => ⟨a, rfl, q.1⟩, fun j w' e => fin rv e⟩
  | t =>
    obtain ⟨a, rfl, h⟩ := h
    obtain rfl : u = Value.ref a := r
    obtain ⟨b, e, st⟩ := st
    cases e
    obtain ⟨its, rv, pl, hz⟩ := I.tuple h
    have hl : its.toArray.size = xs.length := by rw [List.size_toArray]; exact rv.length.symm
    have hne : a ≠ it := fun e => by
      subst e
      obtain ⟨o, e1, c1, _⟩ := st
      obtain ⟨o', e2, c2, _⟩ := pl
      rw [e1] at e2; cases e2
      rw [c1] at c2
      exact absurd c2 (by decide)
    have D := Draws.tuple (prog := X.prog) (w := X.w) hh it a hne its.toArray
    rw [hl] at D
    exact ⟨_, _, _, D, by simp, fun b hb => by
      have e' : b = it ∨ b = a := by simpa using hb
      exact e'.imp id fun q => by rw [q], ⟨st, pl⟩, fun j h' q => ⟨a, rfl, q.1⟩, fun j w' e => fin rv e⟩
  | s =>
    obtain ⟨z, rfl, rfl⟩ := h
    obtain ⟨t, rfl⟩ := r
    obtain ⟨x, t', e, st⟩ := st
    cases e
    have D := Draws.text (prog := X.prog) (w := X.w) hh it z t
    have hl : (signsV z).length = z.cps.size := by unfold signsV; rw [List.length_map, Array.length_toList]
    rw [← hl] at D
    exact ⟨_, _, _, D, by simp, fun b hb => .inl (by simpa using hb), st, fun j h' q => ⟨z, t, rfl, q⟩, fun j w' e => by
      obtain ⟨c, u, e1, rfl⟩ := e
      exact ⟨_, signs_get e1, u, rfl⟩⟩
theorem src_begins {k : Kd} {v : V} {u : Value} {xs : List V} (I : Inv X pins σ H s) (r : RelV v u) (h : SrcK X.K H k v xs) :
    ∃ (o : Obj) (G : Heap → Prop), Begins u o G ∧ G s.heap ∧ ∀ it h, h.get? it = some o → ItK k u it 0 h := by
  cases k with
  | l =>
    obtain ⟨a, rfl, h⟩ := h
    obtain rfl : u = Value.ref a := r
    obtain ⟨its, rv, pl, hz⟩ := I.list h
    exact ⟨_, _, begins_list a its.toArray, pl.isList, fun it h e => ⟨a, rfl, _, e, rfl, rfl⟩⟩
  | t =>
    obtain ⟨a, rfl, h⟩ := h
    obtain rfl : u = Value.ref a := r
    obtain ⟨its, rv, pl, hz⟩ := I.tuple h
    exact ⟨_, _, begins_tuple a its.toArray, pl, fun it h e => ⟨a, rfl, _, e, rfl, rfl⟩⟩
  | s =>
    obtain ⟨z, rfl, rfl⟩ := h
    obtain ⟨t, rfl⟩ := r
    exact ⟨_, _, begins_text z t, trivial, fun it h e => ⟨z, t, rfl, _, e, rfl, rfl⟩⟩
end

/-! ### zip of two -/
def ItzK (K : PySem.W.Frag) (k1 k2 : Kd) (v1 v2 : V) : It :=
  ⟨fun i H => ∃ (xs ys : List V), SrcK K H k1 v1 xs ∧ SrcK K H k2 v2 ys ∧ i < xs.length ∧ i < ys.length,
    fun i H v H' => ∃ T x y, v = .ref T ∧ H T = none ∧ H' = upd H T (.tup [x, y]) ∧ (∀ xs, SrcK K H k1 v1 xs → xs[i]? = some x) ∧ ∀ ys, SrcK K H k2 v2 ys → ys[i]? = some y,
    fun i H => ∃ xs ys : List V, SrcK K H k1 v1 xs ∧ SrcK K H k2 v2 ys ∧ (xs.length = i ∧ i ≤ ys.length ∨ ys.length = i ∧ i ≤ xs.length)⟩
theorem ne_src {u1 : Value} {i1 z : Addr} {fp : List Addr} (hs : ∀ b ∈ fp, b = i1 ∨ u1 = .ref b) (h1 : z ≠ i1) (h2 : u1 ≠ .ref z) : z ∉ fp := fun hz => (hs z hz).elim h1 h2
structure Apart (z TI TO i1 i2 : Addr) (u1 u2 : Value) : Prop where
  a1 : TI ≠ z
  a2 : TO ≠ z
  a3 : TI ≠ TO
  a4 : TI ≠ i1
  a5 : TI ≠ i2
  a6 : z ≠ i1
  a7 : z ≠ i2
  a8 : TO ≠ i1
  a9 : TO ≠ i2
  b0 : i1 ≠ i2
  b1 : ∀ b, u1 = .ref b → b ≠ z ∧ b ≠ TO ∧ b ≠ i2
  b2 : ∀ b, u2 = .ref b → b ≠ z ∧ b ≠ TO ∧ b ≠ i1
theorem Apart.sep {z TI TO i1 i2 : Addr} {u1 u2 : Value} {fp1 fp2 : List Addr} (D : Apart z TI TO i1 i2 u1 u2) (m1 : i1 ∈ fp1) (m2 : i2 ∈ fp2) (s1 : ∀ b ∈ fp1, b = i1 ∨ u1 = .ref b) (s2 : ∀ b ∈ fp2, b = i2 ∨ u2 = .ref b) : ZipSep2 z TI TO i1 i2 fp1 fp2 where
  TIz := D.a1
  TOz := D.a2
  TITO := D.a3
  TIi1 := D.a4
  mem1 := m1
  zf1 := ne_src s1 D.a6 fun e => (D.b1 _ e).1 rfl
  Tf1 := ne_src s1 D.a8 fun e => (D.b1 _ e).2.1 rfl
  TIi2 := D.a5
  mem2 := m2
  zf2 := ne_src s2 D.a7 fun e => (D.b2 _ e).1 rfl
  Tf2 := ne_src s2 D.a9 fun e => (D.b2 _ e).2.1 rfl
  sep1_2 := ne_src s2 D.b0 fun e => (D.b2 _ e).2.2 rfl
  sep2_1 := ne_src s1 (Ne.symm D.b0) fun e => (D.b1 _ e).2.2 rfl
theorem turn_zipK {P : Program} {w : World} {K : PySem.W.Frag} {elts : List Expr} {kk : Nat} {tpos : Pos} {k1 k2 : Kd} {v1 v2 : V} {u1 u2 : Value} {z TI TO i1 i2 : Addr} (r1 : RelV v1 u1) (r2 : RelV v2 u2) (D : Apart z TI TO i1 i2 u1 u2) :
    Turn P w K (.Tuple elts kk tpos) (ItzK K k1 k2 v1 v2) [z, TI, TO, i1, i2] z (fun i h => IsZip h z TI TO .none ∧ IsTupOf2 h TI (.ref i1) (.ref i2) ∧ (∃ x y, IsTupOf2 h TO x y) ∧ ItK k1 u1 i1 i h ∧ ItK k2 u2 i2 i h) where
  mem := by simp
  obj := fun i h st c hc => by
    obtain ⟨hz, hTI, ⟨x, y, hTO⟩, h1, h2⟩ := st
    have e' : c = z ∨ c = TI ∨ c = TO ∨ c = i1 ∨ c = i2 := by simpa using hc
    rcases e' with q | q | q | q | q
    · rw [q]; exact ⟨_, hz, fun v q => nomatch q⟩
    · rw [q]; exact ⟨_, hTI, fun v q => nomatch q⟩
    · rw [q]; exact ⟨_, hTO, fun v q => nomatch q⟩
    · rw [q]; exact h1.obj
    · rw [q]; exact h2.obj
  keep := fun i h h' st k => by
    obtain ⟨hz, hTI, ⟨x, y, hTO⟩, h1, h2⟩ := st
    exact ⟨k z (by simp) _ hz, k TI (by simp) _ hTI, ⟨x, y, k TO (by simp) _ hTO⟩, h1.keep fun o q => k i1 (by simp) o q, h2.keep fun o q => k i2 (by simp) o q⟩
  item := by
    intro X hP hw hK hc i pins s σ H E I hf st hg
    subst hP hw hK
    obtain ⟨hz, hTI, hTO, h1, h2⟩ := st
    obtain ⟨xs, ys, hqx, hqy, hix, hiy⟩ := hg
    obtain ⟨fp1, P1, S1, D1, m1, s1, t1, b1, g1⟩ := src_draws (A := X.A.in1) (I.ok.hd hc) I r1 hqx h1
    obtain ⟨fp2, P2, S2, D2, m2, s2, t2, b2, g2⟩ := src_draws (A := X.A.in1) (I.ok.hd hc) I r2 hqy h2
    have Z := GoesN.zip2 (elts := elts) (x1 := kk) (pos := tpos) (D.sep m1 m2 s1 s2) D1 D2
    refine Z.goes i s _ E (by omega) ⟨hz, hTI, hTO, t1, t2⟩ fun v h' tk hY st' hk htk => ?_
    obtain ⟨T, x', y', rfl, hT0, px, py, hT⟩ := hY
    obtain ⟨x, hx, rx⟩ := g1 i x' px
    obtain ⟨y, hy, ry⟩ := g2 i y' py
    obtain ⟨hz', hTI', hTO', t1', t2'⟩ := st'
    have new : ObjOk X.prog X.w (upd H T (.tup [x, y])) h' T (.tup [x, y]) := ⟨by show 2 ≤ sizeLine; decide, [x', y'], .cons rx (.cons ry .nil), hT⟩
    have I1 : Inv X pins σ (upd H T (.tup [x, y])) { s with heap := h', toks := tk } :=
      I.turnedNew (ch := [z, TO, i1, i2]) (fun c o hb q => hk c o (fun q' => hb q') q) (fun b hb => hf b (by
        have e' : b = z ∨ b = TO ∨ b = i1 ∨ b = i2 := by simpa using hb
        rcases e' with q | q | q | q <;> simp [q])) hT0 new
    refine ⟨.ref T, _, I1, rfl, ⟨T, x, y, rfl, I.hok.fresh hT0, rfl, fun l hl => by rw [src_inj I hl hqx]; exact hx, fun l hl => by rw [src_inj I hl hqy]; exact hy⟩, ⟨hz', hTI', hTO', b1 _ _ t1', b2 _ _ t2'⟩, fun c hcm => ?_⟩
    have hlt : c < s.heap.objs.size := by
      obtain ⟨_, _, hTO2⟩ := hTO
      have e' : c = z ∨ c = TI ∨ c = TO ∨ c = i1 ∨ c = i2 := by simpa using hcm
      rcases e' with q | q | q | q | q
      · rw [q]; exact Heap.lt_size hz
      · rw [q]; exact Heap.lt_size hTI
      · rw [q]; exact Heap.lt_size hTO2
      · rw [q]; obtain ⟨_, e1, _⟩ := h1.obj; exact Heap.lt_size e1
      · rw [q]; obtain ⟨_, e1, _⟩ := h2.obj; exact Heap.lt_size e1
    rw [upd_ne (Nat.ne_of_lt (Nat.lt_of_lt_of_le hlt hT0))]
    exact (hf c hcm).1
  done := by
    intro X hP hw hK hc i pins s σ H E I hf st hg
    subst hP hw hK
    obtain ⟨hz, hTI, hTO, h1, h2⟩ := st
    obtain ⟨xs, ys, hqx, hqy, hend⟩ := hg
    obtain ⟨fp1, P1, S1, D1, m1, s1, t1, b1, g1⟩ := src_draws (A := X.A.in1) (I.ok.hd hc) I r1 hqx h1
    obtain ⟨fp2, P2, S2, D2, m2, s2, t2, b2, g2⟩ := src_draws (A := X.A.in1) (I.ok.hd hc) I r2 hqy h2
    have Z := GoesN.zip2 (elts := elts) (x1 := kk) (pos := tpos) (D.sep m1 m2 s1 s2) D1 D2
    have e : min xs.length ys.length = i := by omega
    refine Z.stops s _ E (by rw [e]; exact ⟨hz, hTI, hTO, t1, t2⟩) fun h' tk hk htk => ?_
    exact I.turnedL (t' := tk) (ch := [z, TO, i1, i2]) (fun c o hb q => hk c o (fun q' => hb q') q) (fun b hb => hf b (by
      have e' : b = z ∨ b = TO ∨ b = i1 ∨ b = i2 := by simpa using hb
      rcases e' with q | q | q | q <;> simp [q]))
  self := fun A i s Q E st h => wpAny_pyIter_zip st.1 h
def iZipU (K : PySem.W.Frag) (ta : TA) : TI := fun σ H R => ta σ H fun vs H1 => ∃ v1 v2 k1 k2 xs ys, vs = [v1, v2] ∧ SrcK K H1 k1 v1 xs ∧ SrcK K H1 k2 v2 ys ∧ R (ItzK K k1 k2 v1 v2) H1
theorem ref_lt {X : Cx} {pins : List (Addr × Obj)} {σ : L2.St} {H : Hp} {s : Shared} {k : Kd} {v : V} {u : Value} {xs : List V} (I : Inv X pins σ H s) (r : RelV v u) (h : SrcK X.K H k v xs) : ∀ b, u = .ref b → b < s.heap.objs.size := fun b e => by
  subst e
  cases k with
  | l => obtain ⟨a, rfl, h⟩ := h; cases r; obtain ⟨_, _, pl, _⟩ := I.list h; exact pl.lt
  | t => obtain ⟨a, rfl, h⟩ := h; cases r; obtain ⟨_, _, pl, _⟩ := I.tuple h; exact pl.lt
  | s => obtain ⟨z, rfl, _⟩ := h; obtain ⟨t, e⟩ := r; cases e
theorem pi_zipU {X : Cx} {e e2 : Expr} {ta : TA} {p pos tpos : Pos} {elts : List Expr} {kk : Nat} (hg : Gl X "zip") (hm : X.mg "zip" = none) (ha : PA X [e, e2] ta)
    (hs : starEach [e, e2] X.env = (false, eval e X.env) :: starEach [e2] X.env := by rfl) (hpl : (backTo pos (starEach [e2] X.env)).any (·.1) = false := by rfl) :
    PI X (.Tuple elts kk tpos) (.Call (.Name "zip" p) [e, e2] [] pos) (iZipU X.K ta) := by
  refine ⟨fun pins s σ H R I h => ?_⟩
  refine Call_ (ld_blt I hg hm PyProof.Rows.boot_zip (PyProof.Rows.callWith_type1 (thn (ha.run pos pins s σ H _ I h) fun us s1 ⟨vs, H1, I1, r1, q1⟩ => ?_) hs hpl))
  obtain ⟨v1, v2, k1, k2, xs, ys, ex, hqx, hqy, q⟩ := q1
  subst ex
  obtain ⟨u1, u2, rfl, r, r'⟩ := vals2 r1
  next =>
    next =>
      obtain ⟨o1, G1, B1, g1, c1⟩ := src_begins I1 r hqx
      obtain ⟨o2, G2, B2, g2, c2⟩ := src_begins I1 r' hqy
      refine zip_begins2 B1 B2 g1 g2 fun h' hz hTI hTO h1 h2 hsz hk => wpAny_pyIter_zip hz ?_
      have I2 : Inv X pins σ H1 { s1 with heap := h' } := I1.kept (t' := s1.toks) hk
      have l1 := ref_lt I1 r hqx
      have l2 := ref_lt I1 r' hqy
      have ap : Apart (s1.heap.objs.size + 4) (s1.heap.objs.size + 2) (s1.heap.objs.size + 3) s1.heap.objs.size (s1.heap.objs.size + 1) u1 u2 := by
        generalize s1.heap.objs.size = n at l1 l2
        have ne : ∀ (a b : Nat), a ≠ b → n + a ≠ n + b := fun a b h e => h (Nat.add_left_cancel e)
        have lt : ∀ (b a : Nat), b < n → b ≠ n + a := fun b a h e => Nat.lt_irrefl n (Nat.lt_of_le_of_lt (Nat.le_add_right n a) (e ▸ h))
        exact ⟨ne 2 4 (by decide), ne 3 4 (by decide), ne 2 3 (by decide), ne 2 0 (by decide), ne 2 1 (by decide), ne 4 0 (by decide), ne 4 1 (by decide), ne 3 0 (by decide), ne 3 1 (by decide), ne 0 1 (by decide),
          fun b e => ⟨lt b 4 (l1 b e), lt b 3 (l1 b e), lt b 1 (l1 b e)⟩, fun b e => ⟨lt b 4 (l2 b e), lt b 3 (l2 b e), lt b 0 (l2 b e)⟩⟩
      refine ⟨s1.heap.objs.size + 4, [s1.heap.objs.size + 4, s1.heap.objs.size + 2, s1.heap.objs.size + 3, s1.heap.objs.size, s1.heap.objs.size + 1], _, _, H1, rfl, I2, turn_zipK r r' ap, ⟨hz, hTI, ⟨_, _, hTO⟩, c1 _ _ h1, c2 _ _ h2⟩, fun c hcm => ?_, q⟩
      have e' : c = s1.heap.objs.size + 4 ∨ c = s1.heap.objs.size + 2 ∨ c = s1.heap.objs.size + 3 ∨ c = s1.heap.objs.size ∨ c = s1.heap.objs.size + 1 := by simpa using hcm
      have hle : s1.heap.objs.size ≤ c := by
        rcases e' with z | z | z | z | z
        · rw [z]; exact Nat.le_add_right _ _
        · rw [z]; exact Nat.le_add_right _ _
        · rw [z]; exact Nat.le_add_right _ _
        · rw [z]; exact Nat.le_refl _
        · rw [z]; exact Nat.le_add_right _ _
      exact I1.fpOk hle (I1.hok.fresh hle)
theorem walk_zipK {K : PySem.W.Frag} {k1 k2 : Kd} {v1 v2 : V} {xs ys : List V} : Walk (ItzK K k1 k2 v1 v2) (min xs.length ys.length) (fun H => SrcK K H k1 v1 xs ∧ SrcK K H k2 v2 ys) (YPair (fun i => xs[i]?) (fun i => ys[i]?)) := by
  refine ⟨fun i _ hi q => ⟨xs, ys, q.1, q.2, by omega, by omega⟩, fun _ q => ⟨xs, ys, q.1, q.2, by omega⟩, fun i H v H' _ q y => ?_⟩
  obtain ⟨T, x, z, h1, h2, h3, h4, h5⟩ := y
  exact ⟨T, x, z, h1, h2, h3, h4 xs q.1, h5 ys q.2⟩

/-! ### enumerate -/
def IteK (K : PySem.W.Frag) (k : Kd) (v : V) : It :=
  ⟨fun i H => ∃ xs, SrcK K H k v xs ∧ i < xs.length,
    fun i H z H' => ∃ T x, z = .ref T ∧ H T = none ∧ H' = upd H T (.tup [.int (i : Nat), x]) ∧ ∀ xs, SrcK K H k v xs → xs[i]? = some x,
    fun i H => ∃ xs, SrcK K H k v xs ∧ xs.length = i⟩
theorem turn_enumK {P : Program} {w : World} {K : PySem.W.Frag} {elts : List Expr} {kk : Nat} {tpos : Pos} {k : Kd} {v : V} {u : Value} {e it : Addr} (r : RelV v u) (hei : e ≠ it) (hu : ∀ b, u = .ref b → b ≠ e) :
    Turn P w K (.Tuple elts kk tpos) (IteK K k v) [e, it] e (fun i h => (∃ old, IsEnum h e it (0 + (i : Int)) old) ∧ ItK k u it i h) where
  mem := by simp
  obj := fun i h st c hc => by
    obtain ⟨⟨old, he⟩, h1⟩ := st
    have e' : c = e ∨ c = it := by simpa using hc
    rcases e' with q | q
    · rw [q]; exact ⟨_, he, fun v q => nomatch q⟩
    · rw [q]; exact h1.obj
  keep := fun i h h' st k => ⟨st.1.imp fun old he => k e (by simp) _ he, st.2.keep fun o q => k it (by simp) o q⟩
  item := by
    intro X hP hw hK hc i pins s σ H E I hf st hg
    subst hP hw hK
    obtain ⟨he, h1⟩ := st
    obtain ⟨xs, hqx, hix⟩ := hg
    obtain ⟨fp, P1, S1, D1, m1, s1, t1, b1, g1⟩ := src_draws (A := X.A.in1) (I.ok.hd hc) I r hqx h1
    have hef : e ∉ fp := fun hm => (s1 e hm).elim hei fun q => hu e q rfl
    have Z := GoesN.enumFrom (elts := elts) (x1 := kk) (pos := tpos) 0 D1 e hei hef m1
    refine Z.goes i s _ E hix ⟨he, t1⟩ fun v' h' tk hY st' hk htk => ?_
    obtain ⟨T, t, x', rfl, hT0, px, hT⟩ := hY
    obtain ⟨x, hx, rx⟩ := g1 i x' px
    have new : ObjOk X.prog X.w (upd H T (.tup [.int (i : Nat), x])) h' T (.tup [.int (i : Nat), x]) := ⟨by show 2 ≤ sizeLine; decide, [_, x'], .cons ⟨t, by rw [Int.zero_add]⟩ (.cons rx .nil), hT⟩
    have I1 : Inv X pins σ (upd H T (.tup [.int (i : Nat), x])) { s with heap := h', toks := tk } :=
      I.turnedNew (ch := [e, it]) (fun c o hb q => hk c o (fun q' => hb q') q) (fun b hb => hf b hb) hT0 new
    refine ⟨.ref T, _, I1, rfl, ⟨T, x, rfl, I.hok.fresh hT0, rfl, fun l hl => by rw [src_inj I hl hqx]; exact hx⟩, ⟨st'.1, b1 _ _ st'.2⟩, fun c hcm => ?_⟩
    have hlt : c < s.heap.objs.size := by
      obtain ⟨old, he⟩ := he
      have e' : c = e ∨ c = it := by simpa using hcm
      rcases e' with q | q
      · rw [q]; exact Heap.lt_size he
      · rw [q]; obtain ⟨_, e1, _⟩ := h1.obj; exact Heap.lt_size e1
    rw [upd_ne (Nat.ne_of_lt (Nat.lt_of_lt_of_le hlt hT0))]
    exact (hf c hcm).1
  done := by
    intro X hP hw hK hc i pins s σ H E I hf st hg
    subst hP hw hK
    obtain ⟨he, h1⟩ := st
    obtain ⟨xs, hqx, hend⟩ := hg
    obtain ⟨fp, P1, S1, D1, m1, s1, t1, b1, g1⟩ := src_draws (A := X.A.in1) (I.ok.hd hc) I r hqx h1
    have hef : e ∉ fp := fun hm => (s1 e hm).elim hei fun q => hu e q rfl
    have Z := GoesN.enumFrom (elts := elts) (x1 := kk) (pos := tpos) 0 D1 e hei hef m1
    refine Z.stops s _ E (by rw [hend]; exact ⟨he, t1⟩) fun h' tk hk htk => ?_
    exact I.turnedL (t' := tk) (ch := [e, it]) (fun c o hb q => hk c o (fun q' => hb q') q) (fun b hb => hf b hb)
  self := fun A i s Q E st h => let ⟨⟨_, he⟩, _⟩ := st; wpAny_pyIter_enum he h
def iEnumU (K : PySem.W.Frag) (ta : TA) : TI := fun σ H R => ta σ H fun vs H1 => ∃ v k xs, vs = [v] ∧ SrcK K H1 k v xs ∧ R (IteK K k v) H1
theorem walk_enumK {K : PySem.W.Frag} {k : Kd} {v : V} {xs : List V} : Walk (IteK K k v) xs.length (fun H => SrcK K H k v xs) (YPair (fun i => some (.int (i : Nat))) (fun i => xs[i]?)) := by
  refine ⟨fun i _ hi q => ⟨xs, q, hi⟩, fun _ q => ⟨xs, q, rfl⟩, fun i H z H' _ q y => ?_⟩
  obtain ⟨T, x, h1, h2, h3, h4⟩ := y
  exact ⟨T, .int (i : Nat), x, h1, h2, h3, rfl, h4 xs q⟩
theorem meets_enumerate_newB1 {v : Value} {o : Obj} {H : Heap → Prop} (B : Begins v o H) :
    Meets (Builtin.«enumerate.__new__» ⟨[.type "enumerate", v], []⟩) (fun _ R s => H s.heap ∧
      R (.ok (.ret (.ref (s.heap.push o).objs.size))) { s with heap := (s.heap.push o).push { cls := .type "enumerate", data := .fields #[.none, .bool false, .ref s.heap.objs.size, rawInt 0, .none, .none] } }) :=
  .of_wp fun prog w A R s h => by
    obtain ⟨hp, g, d, tk, os⟩ := s; obtain ⟨h1, h⟩ := h
    have hsub := sub_enumerate
    have q1 : ∀ {A' : Around} {E : Value → Shared → Prop} {Q : Value → Shared → Prop}, Q (.ref hp.objs.size) ⟨hp.push o, g, d, tk, os⟩ → wpAny (model prog w) A' (pyIter v) Q E ⟨hp, g, d, tk, os⟩ :=
      fun q => B.iter prog w _ _ ⟨hp, g, d, tk, os⟩ _ h1 q
    wp_walk using q1
    refine wpAny_stack_any fun st => wpAny_pure ?_
    split
    · rename_i c _ _ _ _ _
      cases (c == Value.type "enumerate")
      · wp_walk using q1
        exact ⟨_, rfl, h⟩
      · wp_walk using q1
        exact ⟨_, rfl, h⟩
    · wp_walk using q1
      exact ⟨_, rfl, h⟩
theorem enum_begins1 {prog : Program} {w : World} {A : Around} {E : Value → Shared → Prop} {s : Shared} {v : Value} {o : Obj} {H : Heap → Prop} {Q : Value → Shared → Prop} (B : Begins v o H) (h1 : H s.heap)
    (h : ∀ h', IsEnum h' (s.heap.objs.size + 1) s.heap.objs.size 0 .none → h'.get? s.heap.objs.size = some o → h'.objs.size = s.heap.objs.size + 2 →
      (∀ b o, s.heap.get? b = some o → h'.get? b = some o) → Q (.ref (s.heap.objs.size + 1)) { s with heap := h' }) :
    wpAny (model prog w) A (call (.type "enumerate") [v]) Q E s := by
  refine callType_new F.called_enumerate (by decide) (F.typeCall_enumerate_1 _) (F.newCall_enumerate_1 _) (fun obj => F.args_object_init_2 obj _) F.entry_enumerate_new
    (meets_enumerate_newB1 B) ⟨h1, ?_⟩
  have hz : (s.heap.push o).objs.size = s.heap.objs.size + 1 := Heap.size_push ..
  show _ ∧ _
  rw [hz]
  have he : IsEnum ((s.heap.push o).push { cls := .type "enumerate", data := .fields #[.none, .bool false, .ref s.heap.objs.size, rawInt 0, .none, .none] }) (s.heap.objs.size + 1) s.heap.objs.size 0 .none := by
    have := Heap.get?_push_size (s.heap.push o) (o := { cls := .type "enumerate", data := .fields #[.none, .bool false, .ref s.heap.objs.size, rawInt 0, .none, .none] }) rfl
    rw [hz] at this; exact this
  refine ⟨⟨_, he, rfl⟩, h _ he (Heap.get?_push_of_some _ (Heap.get?_push_size _ B.free)) (by rw [Heap.size_push, hz]) fun b o x => Heap.get?_push_of_some _ (Heap.get?_push_of_some _ x)⟩
theorem pi_enumU {X : Cx} {e : Expr} {ta : TA} {p pos tpos : Pos} {elts : List Expr} {kk : Nat} (hg : Gl X "enumerate") (hm : X.mg "enumerate" = none) (ha : PA X [e] ta) (hs : starEach [e] X.env = [(false, eval e X.env)] := by rfl) :
    PI X (.Tuple elts kk tpos) (.Call (.Name "enumerate" p) [e] [] pos) (iEnumU X.K ta) := by
  refine ⟨fun pins s σ H R I h => ?_⟩
  refine Call_ (ld_blt I hg hm boot_enumerate (PyProof.Rows.callWith_type1 (thn (ha.run pos pins s σ H _ I h) fun us s1 ⟨vs, H1, I1, r1, q1⟩ => ?_) hs rfl))
  obtain ⟨v, k, xs, ex, hq, q⟩ := q1
  subst ex
  obtain ⟨u, rfl, r⟩ := vals1 r1
  obtain ⟨o1, G1, B1, g1, c1⟩ := src_begins I1 r hq
  refine enum_begins1 B1 g1 fun h' he hit hsz hk => wpAny_pyIter_enum he ?_
  have I2 : Inv X pins σ H1 { s1 with heap := h' } := I1.kept (t' := s1.toks) hk
  have l1 := ref_lt I1 r hq
  refine ⟨s1.heap.objs.size + 1, [s1.heap.objs.size + 1, s1.heap.objs.size], _, _, H1, rfl, I2, turn_enumK (e := s1.heap.objs.size + 1) (it := s1.heap.objs.size) r (Nat.succ_ne_self _) (fun b e z => ?_), ⟨⟨.none, he⟩, c1 _ _ hit⟩, fun b hb => ?_, q⟩
  · have := l1 b e
    rw [z] at this
    exact absurd this (Nat.not_lt_of_le (Nat.le_succ _))
  · have e' : b = s1.heap.objs.size + 1 ∨ b = s1.heap.objs.size := by simpa using hb
    have hle : s1.heap.objs.size ≤ b := by
      rcases e' with z | z
      · rw [z]; exact Nat.le_add_right _ _
      · rw [z]; exact Nat.le_refl _
    exact I1.fpOk hle (I1.hok.fresh hle)

/-! ### a list, a tuple, a text walked -/
def iSeqU (K : PySem.W.Frag) (tl : TE) : TI := fun σ H R => tl σ H fun x H1 => match x with
  | .ref a => ((∃ xs, SqL K H1 a xs) ∧ R (Itl K a) H1) ∨ ((∃ xs, SqT K H1 a xs) ∧ R (Itt K a) H1)
  | .str z => R (Its z) H1
  | _ => False
theorem pi_seqU {X : Cx} {tg l : Expr} {tl : TE} (hl : PE X l tl) : PI X tg l (iSeqU X.K tl) := by
  refine ⟨fun pins s σ H R I h => ?_⟩
  refine thn (hl.run pins s σ H _ I h) fun v s1 ⟨x, H1, I1, r1, q1⟩ => ?_
  dsimp only at q1
  split at q1
  · rename_i a
    obtain rfl : v = Value.ref a := r1
    rcases q1 with ⟨⟨xs, hq⟩, q⟩ | ⟨⟨xs, hq⟩, q⟩
    · obtain ⟨its, rv, p, hz⟩ := I1.list hq
      refine wpAny_pyIter_list p.isList ?_
      refine ⟨s1.heap.objs.size, [s1.heap.objs.size], _, _, H1, rfl, I1.kept (t' := s1.toks) fun b o e => Heap.get?_push_of_some _ e, turn_list a _, ⟨_, Heap.get?_push_size _ rfl, rfl, rfl⟩, fun b hb => ?_, q⟩
      have e : b = s1.heap.objs.size := by simpa using hb
      subst e
      exact I1.fpOk (Nat.le_refl _) (I1.hok.fresh (Nat.le_refl _))
    · obtain ⟨its, rv, p, hz⟩ := I1.tuple hq
      refine wpAny_pyIter_tuple (show s1.heap.IsTuple a its.toArray from p) ?_
      refine ⟨s1.heap.objs.size, [s1.heap.objs.size], _, _, H1, rfl, I1.kept (t' := s1.toks) fun b o e => Heap.get?_push_of_some _ e, turn_tuple a _, ⟨_, Heap.get?_push_size _ rfl, rfl, rfl⟩, fun b hb => ?_, q⟩
      have e : b = s1.heap.objs.size := by simpa using hb
      subst e
      exact I1.fpOk (Nat.le_refl _) (I1.hok.fresh (Nat.le_refl _))
  · rename_i x
    obtain ⟨t, rfl⟩ := r1
    cases ha : x.cps.all (· < 128)
    · exact wpAny_pyIter_wide ha (pi_one (tk := s1.toks) I1 _ (turn_str _ x t "str_iterator" (.inr rfl)) ⟨_, Heap.get?_push_size _ rfl, rfl, rfl⟩ q1)
    · exact wpAny_pyIter_ascii ha (pi_one (tk := s1.toks) I1 _ (turn_str _ x t "str_ascii_iterator" (.inl rfl)) ⟨_, Heap.get?_push_size _ rfl, rfl, rfl⟩ q1)
  · exact q1.elim

/-! ### small things -/
theorem hu1 {A : Around} {k : Nat} (hr : Room k A) : A.units + 1 < cLine := hu_of hr
theorem hu65 {A : Around} {k : Nat} (hr : Room k A) : A.units + 65 < cLine := Nat.lt_of_le_of_lt (Nat.add_le_add_left (Nat.le_trans (by decide : 65 ≤ 200) (Nat.le_add_left 200 (16 * k))) _) (by have := hr.un; rw [Nat.add_assoc] at this; exact this)
section
variable {X : Cx}
theorem pe_globI {x : Str} {i : Int} {pos : Pos} (hg : Gl X x) (hm : ∃ t, X.mg x = some (.int i t)) (hd : (x == ("__debug__" : Str)) = false := by decide) : PE X (.Name x pos) (tC (.int i)) :=
  let ⟨t, e⟩ := hm
  pe_glob hg e ⟨t, rfl⟩ hd
theorem pe_globS {x z : Str} {pos : Pos} (hg : Gl X x) (hm : ∃ t, X.mg x = some (.str z t)) (hd : (x == ("__debug__" : Str)) = false := by decide) : PE X (.Name x pos) (tC (.str z)) :=
  let ⟨t, e⟩ := hm
  pe_glob hg e ⟨t, rfl⟩ hd
end
/-- {}: of the kind that is wanted -/
def tDNewU : TE := fun σ H Q => tDNewK σ H Q ∨ tDNewT σ H Q
/-- a value's truth; a bool's is itself -/
def tTruU (K : PySem.W.Frag) (ta : TE) : TT := fun σ H Q => ta σ H fun x H' => ∃ k, TruV K x H' k ∧ Q k H'
def tAlt (t u : TE) : TE := fun σ H Q => t σ H Q ∨ u σ H Q
/-- sorted of whole numbers, of any number -/
def rSortedU (K : PySem.W.Frag) : List V → Hp → VK → Prop := fun vs H Q => rSortedI K vs H Q ∨ rSortedS K vs H Q
theorem sortedU {X : Cx} : CallR X (.builtin "sorted") (rSortedU X.K) := CallR.or cr_sortedI cr_sortedS
/-- isinstance, by one class -/
def rIsinU (K : PySem.W.Frag) : List V → Hp → VK → Prop := fun xs H Q => match xs with
  | [x, .ty n] => ∃ t b, TyX K H x t ∧ PySem.W.kitOne K t (.type n) = some b ∧ Q (.bl b) H
  | [x, .ref C] => ∃ t b, TyX K H x t ∧ PySem.W.kitOne K t (.ref C) = some b ∧ Q (.bl b) H
  | _ => False
theorem isinU {X : Cx} : CallR X (.builtin "isinstance") (rIsinU X.K) := CallR.imp call_isi fun xs H Q h => by
  unfold rIsinU at h
  split at h
  · obtain ⟨t, b, h1, h2, q⟩ := h
    exact ⟨_, _, t, _, b, rfl, .ty _, h1, h2, q⟩
  · obtain ⟨t, b, h1, h2, q⟩ := h
    exact ⟨_, _, t, _, b, rfl, .own _, h1, h2, q⟩
  · exact h.elim
end U

set_option maxHeartbeats 2000000
/-! U3: len(set(xs)); a written table's get. -/
namespace U
open PySem PySem.Spec PyProof.Rows L2
/-! ### len(set(xs)) of whole numbers -/
theorem firstMet_full {val : Nat → Int} : ∀ i, (firstMet val i).length = i → ((List.range i).map val).Nodup
  | 0, _ => List.nodup_nil
  | i + 1, h => by
    have hle := firstMet_length_le val i
    have e := firstMet_succ val i
    unfold step_dedup at e
    by_cases hb : (firstMet val i).any (· == val i) = true
    · rw [if_pos hb] at e
      rw [e] at h
      omega
    · rw [if_neg hb] at e
      rw [e, List.length_append, List.length_singleton] at h
      have ih := firstMet_full (val := val) i (by omega)
      rw [List.range_succ, List.map_append]
      refine List.nodup_append.mpr ⟨ih, by simp, fun a ha b hb2 hab => hb ?_⟩
      have e2 : b = val i := by simpa using hb2
      rw [firstMet_any]
      exact List.any_eq_true.mpr ⟨a, ha, by rw [hab, e2]; simp⟩
theorem range_getD (ns : List Int) : (List.range ns.length).map (fun i => ns.getD i 0) = ns := by
  apply List.ext_getElem?
  intro i
  rw [List.getElem?_map]
  by_cases h : i < ns.length
  · rw [List.getElem?_range h, Option.map_some, List.getD_eq_getElem?_getD, List.getElem?_eq_getElem h]
    rfl
  · rw [List.getElem?_eq_none (by simpa using h), List.getElem?_eq_none (by omega)]
    rfl
def tLenSetU (K : PySem.W.Frag) (ta : TE) : TE := fun σ H Q => ta σ H fun x H1 => ∃ (l : Addr) (ns : List Int), x = .ref l ∧ SqL K H1 l (ns.map V.int) ∧ ns.length ≤ 4000 ∧ (ns.Nodup → Q (.int (ns.length : Nat)) H1) ∧ (¬ ns.Nodup → ∀ k : Nat, k < ns.length → Q (.int k) H1)
theorem pe_lenSet {X : Cx} {a : Expr} {ta : TE} {p p2 q pos : Pos} (hg : Gl X "len") (hm : X.mg "len" = none) (hg2 : Gl X "set") (hm2 : X.mg "set" = none) (ha : PE X a ta) (hc : X.calm = true := by rfl)
    (na : starEach [a] X.env = (false, eval a X.env) :: starEach [] X.env := by rfl) : PE X (.Call (.Name "len" p) [.Call (.Name "set" p2) [a] [] q] [] pos) (tLenSetU X.K ta) := by
  refine ⟨fun pins s σ H Q I h => ?_⟩
  refine Call_ (ld_blt I hg hm boot_len ?_)
  refine PyProof.Rows.callWith_builtin1 (PyProof.Rows.args_cons ?_ rfl) rfl rfl
  refine Call_ (ld_blt I hg2 hm2 boot_set ?_)
  refine PyProof.Rows.callWith_type1 (PyProof.Rows.args_cons (thn (ha.run pins s σ H _ I h) fun v s1 ⟨x, H1, I1, r1, q1⟩ => PyProof.Rows.args_nil ?_) na) na rfl
  obtain ⟨l, ns, rfl, hq, hl, q1, q2⟩ := q1
  cases r1
  obtain ⟨its, r, pl, hz⟩ := I1.list hq
  have hlen : its.toArray.size = ns.length := by rw [List.size_toArray, ← r.length, List.length_map]
  refine call_set_list (I1.ok.hd hc) pl.isList (by simpa using RZ.intsAre_vals r) (by rw [hlen]; unfold scanBound; omega) fun h' tk hS hk => ?_
  refine PyProof.Rows.args_nil ?_
  rw [hlen] at hS
  have hle := firstMet_length_le (fun i => ns.getD i 0) ns.length
  obtain ⟨o, es, ep, t, ho, hex, hd, _, _, _, hf, hn⟩ := hS
  have I2 : Inv X pins σ H1 { s1 with heap := h', toks := tk } := I1.kept fun b o e => hk b o (Heap.lt_size e) e
  refine call_len_set ho hex hd hf (by rw [hn] <;> omega) ⟨.int (firstMet (fun i => ns.getD i 0) ns.length).length, H1, I2.tok _, ⟨_, by rw [hn]⟩, ?_⟩
  by_cases hnd : ns.Nodup
  · have e : (firstMet (fun i => ns.getD i 0) ns.length).length = ns.length := by rw [RZ.firstMet_nodup hnd _ (Nat.le_refl _), List.take_length]
    rw [e]
    exact q1 hnd
  · refine q2 hnd _ (Nat.lt_of_le_of_ne hle fun e => hnd ?_)
    have := firstMet_full ns.length e
    rw [range_getD] at this
    exact this

/-! ### a written table's get -/
structure TabOk (K : PySem.W.Frag) (w : World) (a : Addr) (kvs : List (Str × V)) : Prop where
  ex : ∃ es n, KDict K w a es n ∧ ∀ z, RelO (kvs.lookup z) (findBy Value.isStrOf es z)
theorem keysIn_mem {P : Params} {ks : List Str} {z : Str} {i : Int} (h : some (z, i) ∈ He.keysIn P ks) : z ∈ ks := by
  unfold He.keysIn at h
  obtain ⟨k, hk, e⟩ := List.mem_map.mp h
  cases e
  exact hk
theorem lookup_mem {α : Type} {z : Str} {v : α} : ∀ {l : List (Str × α)}, l.lookup z = some v → (z, v) ∈ l
  | [], h => by cases h
  | (k, u) :: r, h => by
    rw [List.lookup_cons] at h
    cases hb : z == k with
    | true =>
      rw [hb] at h
      have e : u = v := Option.some.inj h
      have e2 : z = k := eq_of_beq hb
      rw [e, e2]
      exact List.mem_cons_self
    | false =>
      rw [hb] at h
      exact List.mem_cons_of_mem _ (lookup_mem h)
theorem lookup_none {α : Type} {z : Str} : ∀ {l : List (Str × α)}, l.lookup z = none → z ∉ l.map (·.1)
  | [], _ => by simp
  | (k, u) :: r, h => by
    rw [List.lookup_cons] at h
    cases hb : z == k with
    | true => rw [hb] at h; cases h
    | false =>
      rw [hb] at h
      have := lookup_none h
      have hk : z ≠ k := by simpa using hb
      simp only [List.map_cons, List.mem_cons, not_or]
      exact ⟨hk, this⟩
theorem tab_ok {K : PySem.W.Frag} {w : World} {a : Addr} {kvs : List (Str × He.Dv)} (hk : He.dicW K a = some (He.keysIn w.params (kvs.map (·.1)))) (hv : He.valsB K a kvs = true) : TabOk K w a (kvs.map fun q => (q.1, q.2.v K)) := by
  obtain ⟨es, n, D⟩ := He.dicW_ok hk
  refine ⟨es, n, D, fun z => ?_⟩
  have lk : ∀ l : List (Str × He.Dv), (l.map fun q => (q.1, q.2.v K)).lookup z = (l.lookup z).map fun d => d.v K := by
    intro l
    induction l with
    | nil => rfl
    | cons p r ih =>
      rw [List.map_cons, List.lookup_cons, List.lookup_cons, ih]
      cases z == p.1 <;> rfl
  rw [lk]
  cases e : kvs.lookup z with
  | some d =>
    obtain ⟨u, h1, h2⟩ := He.valsB_ok hv (lookup_mem e)
    rw [PySem.W.find_K D.at_ h1]
    exact h2
  | none =>
    have hn := lookup_none e
    have : findBy Value.isStrOf es z = none := by
      cases f : findBy Value.isStrOf es z with
      | none => rfl
      | some u =>
        exfalso
        unfold findBy at f
        have hes : es.toList.map He.keyOf = He.keysIn w.params (kvs.map (·.1)) := by
          have h0 := hk
          unfold He.dicW at h0
          rw [D.at_] at h0
          dsimp only at h0
          split at h0
          · exact Option.some.inj h0
          · cases h0
        cases g : es.find? fun d => Value.isStrOf z d.key with
        | none =>
          rw [g] at f
          cases f
        | some ent =>
          have hm : ent ∈ es := Array.mem_of_find?_eq_some g
          have hp : Value.isStrOf z ent.key = true := Array.find?_some (p := fun d : DictEntry => Value.isStrOf z d.key) g
          obtain ⟨t, et⟩ := Value.isStrOf_shape hp
          have hin : He.keyOf ent ∈ He.keysIn w.params (kvs.map (·.1)) := by
            rw [← hes]
            exact List.mem_map.mpr ⟨ent, Array.mem_toList_iff.mpr hm, rfl⟩
          have ek : He.keyOf ent = some (z, ent.hash) := by unfold He.keyOf; rw [et]
          rw [ek] at hin
          exact hn (keysIn_mem hin)
    rw [this]
    exact True.intro
theorem says_tab {fa : List He.Fa} {fn : List He.DefD} {ts : List He.Tab} {w : World} {K : PySem.W.Frag} (c : He.SaysT fa fn ts w K) (i : Nat) {t : He.Tab} (h : ts[i]? = some t := by rfl) : He.dicW K (t.1 K) = some (He.keysIn w.params t.2) := by
  have e : ts.map (fun t => He.dicW K (t.1 K)) = ts.map fun t => some (He.keysIn w.params t.2) := congrArg (fun z : He.AlT => z.2) c
  have e2 : (ts.map fun t => He.dicW K (t.1 K))[i]? = (ts.map fun t => some (He.keysIn w.params t.2))[i]? := by rw [e]
  rw [List.getElem?_map, List.getElem?_map, h] at e2
  exact Option.some.inj e2
/-- FORMS.get(e) -/
def tKGet (kvs : List (Str × V)) (te : TE) : TE := fun σ H Q => te σ H fun y H1 => match y with
  | .str z => Q ((kvs.lookup z).getD .non) H1
  | _ => False
theorem pe_kget {X : Cx} {x : Str} {a : Addr} {kvs : List (Str × V)} {e : Expr} {te : TE} {p apos cpos : Pos} (T : TabOk X.K X.w a kvs) (hg : Gl X x) (hx : X.mg x = some (.ref a)) (he : PE X e te)
    (hd : (x == ("__debug__" : Str)) = false := by decide)
    (base : attributeBase (.Name x p) "get" X.env (eval (.Name x p) X.env) = eval (.Name x p) X.env := by rfl)
    (few : ((backTo cpos (starEach [e] X.env)).all (fun x => !x.1) && (backToKw cpos (keywordEach [] X.env)).all (fun x => x.1.isSome)
      && decide (([e] : List Expr).length + ([] : List Keyword).length + (if ([] : List Keyword).isEmpty then 0 else 1) < 30)) = true := by rfl)
    (line : (apos.endLine == cpos.line) = true := by rfl)
    (trees : backTo cpos (starEach [e] X.env) = [(false, eval e X.env)] := by rfl) : PE X (.Call (.Attribute (.Name x p) "get" apos) [e] [] cpos) (tKGet kvs te) := by
  refine ⟨fun pins s σ H Q I h => ?_⟩
  obtain ⟨es, n, D, rel⟩ := T.ex
  refine wpAny_Call_method base few line PySem.F.plainAttrs_dict PySem.F.slot_dict_get PySem.F.type_dict_get (ld_glob I hg hx ?_ hd)
  have ho := I.kIn _ _ D.at_
  refine ⟨⟨_, ho, rfl⟩, fun b q => (by cases q; exact ⟨_, ho, rfl⟩), ?_⟩
  rw [trees]
  refine Calls.callWith_builtin rfl (Calls.evalArgs_plain (Calls.spliced_cons (thn (he.run pins s σ H _ I h) fun iv s2 ⟨y, H2, I2, ry, q2⟩ => Calls.spliced_nil ?_)))
  dsimp only at q2
  split at q2
  · rename_i z
    obtain ⟨t, rfl⟩ := ry
    have dd := PySem.W.mapOf_K (prog := X.prog) (w := X.w) I2.kIn D.at_ D.lit
    refine call_meetsIn PySem.F.slot_dict_get dd.typeIs PySem.F.entry_dict_get (PySem.F.args_dict_get_2 _ _) (meets_dict_get (PySem.strKind X.prog X.w) a (PySem.strKind_is X.prog X.w z t) D.low) ⟨_, dd, ?_⟩
    have r := rel z
    cases e1 : kvs.lookup z with
    | none =>
      rw [e1] at r q2
      rw [RelO.none_of r]
      exact ⟨.non, H2, I2.tok _, rfl, q2⟩
    | some v =>
      rw [e1] at r q2
      obtain ⟨u, e2, ru⟩ := RelO.some_of r
      rw [e2]
      exact ⟨v, H2, I2.tok _, ru, q2⟩
  · exact q2.elim
end U

set_option maxHeartbeats 4000000
/-! U4: dict comprehensions, keys of any kind; d.update(another dict), tuple keys. -/
namespace U
open PySem PySem.Spec PyProof.Rows L2
/-- one more entry, in a comprehension -/
theorem put_in_comp {X : Cx} {pins : List (Addr × Obj)} {σ : L2.St} {H H' : Hp} {s : Shared} {E : Value → Shared → Prop} {a : Addr} {y v : V} {u r : Value} {Q : Unit → Shared → Prop} (hu : X.A.units + 1 < cLine) (I : Inv X pins σ H s)
    (g : DPut H a y v H') (ry : RelV y u) (rv : RelV v r) (q : ∀ s', Inv X pins σ H' s' → Q () s') : wpAny (model X.prog X.w) X.A (dictSet a u r) Q E s := by
  rcases g with ⟨kvs, k, e, rfl, l, rfl⟩ | ⟨kvs, k, b, e, rfl, eb, l, rfl⟩
  · exact d_dictSet I e l ry rv q
  · obtain rfl : u = Value.ref b := ry
    obtain ⟨z, hd, xs, rel, dd⟩ := dt_of I.hok e
    have lx : xs.length ≤ sizeLine := Paired.length rel ▸ z
    refine wpAny_dictSet_heap (hsz := lx) (show X.A.units < cLine by omega) (key_of I.hok eb) dd fun h' dd' hs => q _ ?_
    obtain ⟨o, es, ep, ho, p2, p3, p4, _, p5⟩ := dd'
    have lp : (putK kvs k v).length ≤ sizeLine := Nat.le_trans (length_putK kvs k v) l
    exact d_write I (by rw [e]; exact True.intro) hs ⟨o, ho⟩ ⟨lp, hd, _, (rel.put k eb rv).keeps fun c ys ec => (upd_ne (ne_of ec e fun z => nomatch z)).trans ec, o, es, ep, ho, p2, p3, p4, p5⟩
/-- {k: v for target in iter if ..}: D the new dict, of the kind that is wanted (tup: keys are tuples) -/
def tDcU (wi : TI) (g : TG) (tt : TT) (tk tv : TE) (vs : List Nat) : TE := fun σ H Q => wi σ H fun J H1 => ∃ tup : Bool, ∀ D, H1 D = none →
  ∃ W : Nat → Nat → Hp → Prop, (∃ m, W 0 m (upd H1 D (if tup then .dT [] else .dK []))) ∧ ∀ i m H, W i m H → (J.stop i H ∧ Q (.ref D) H) ∨
    (J.go i H ∧ ∃ Nx : Hp → Prop, (∀ H', Nx H' → ∃ m', m' < m ∧ W (i + 1) m' H') ∧ ∀ x H', J.yld i H x H' → g x (wipe σ vs) H' fun σ2 H2 => wipe σ2 vs = wipe σ vs ∧
      tt σ2 H2 fun b H3 => if b = true then tk σ2 H3 fun y H4 => tv σ2 H4 fun z H5 => ∃ H6, DPut H5 D y z H6 ∧ Nx H6 else Nx H3)
section
variable {X : Cx}
abbrev BlkP (X : Cx) (scope : Scope) (R : Cx → Prop) : Prop := ∀ (s : Shared) (H : Hp) (C : Addr) (cl : List (Str × Addr)) (fp : List Addr), R (X.blk s H scope (compEnvC scope cl C X.env) fp)
theorem pe_dcU {kx vx tg iter : Expr} {ifs : List Expr} {scope : Scope} {own : List (Str × Nat)} {pos : Pos} {wi : TI} {g : TG} {tt : TT} {tk tv : TE} (hu : X.A.units + 1 < cLine) (hc : X.calm = true) (hN : X.N.Nodup) (hi : PI X tg iter wi) (ok : BlkOk X.N X.env.scope scope own)
    (hg : BlkP X scope fun Y => PG Y tg g) (ht : BlkP X scope fun Y => PTs Y ifs tt) (hk : BlkP X scope fun Y => PE Y kx tk) (he : BlkP X scope fun Y => PE Y vx tv) (hs : ∀ x, foldedSetIterable iter X.env x = pure x := by intro _; rfl) :
    PE X (.DictComp kx vx [⟨tg, iter, ifs, 0⟩] scope pos) (tDcU wi g tt tk tv (own.map (·.2))) := by
  refine ⟨fun pins s σ H Q I h => ?_⟩
  rw [arm_eval_DictComp]
  have free : ∀ y ∈ scope.names, y.2 = .free → ∃ c, X.env.cells.lookup y.1 = some c := fun y m f => I.ok.has _ (ok.free y m f)
  refine wpAny_comprehension_free rfl hs (closure_ok free) ok.kind (fun y m f => (ok.uniq y m).trans (congrArg some f)) (thn (hi.run pins s σ H _ I h) fun xv sa hx => thn hx fun itv sb hb => ?_)
  obtain ⟨it, fp, tn, J, H2, rfl, I2, T, tn0, fpo, tup, q⟩ := hb
  refine wpAny_newObj_type (newEnv_comp ?_)
  generalize eD : sb.heap.objs.size = D
  have D0 : H2 D = none := I2.hok.fresh (Nat.le_of_eq eD)
  obtain ⟨W, ⟨m0, w0⟩, turn⟩ := q D D0
  generalize eo : (if tup = true then HO.dT [] else HO.dK []) = o0 at w0
  -- the new dict is laid
  generalize esc : ({ sb with heap := sb.heap.push { cls := .type "dict", data := .dict #[] } } : Shared) = sc
  have hsc : sc.heap = sb.heap.push { cls := .type "dict", data := .dict #[] } := by rw [← esc]
  have Ic : Inv X pins σ (upd H2 D o0) sc := by
    rw [← esc]
    refine I2.laid (t' := sb.toks) (fun b o e => Heap.get?_push_of_some _ e) (Nat.le_of_eq eD) ?_
    rw [← eD, ← eo]
    cases tup with
    | true => exact dt_empty sb.heap I2.big
    | false => exact dk_empty sb.heap I2.big
  have old : ∀ b ∈ fp, b < sb.heap.objs.size := fun b m => let ⟨o, e, _⟩ := T.obj _ _ tn0 b m; Heap.lt_size e
  have fpc : ∀ b ∈ fp, FpOk X pins (upd H2 D o0) b ∧ b < sc.heap.objs.size := fun b m => by
    have lt := old b m
    have nb : b ≠ D := by rw [← eD]; exact Nat.ne_of_lt lt
    exact ⟨⟨(upd_ne nb).trans (fpo b m).1, (fpo b m).2⟩, by rw [hsc, Heap.size_push]; exact Nat.lt_succ_of_lt lt⟩
  have tnc : tn 0 sc.heap := T.keep _ _ _ tn0 fun b _ o e => by rw [hsc]; exact Heap.get?_push_of_some _ e
  have Id := block_start Ic ok hN fpc
  -- the block's parts
  generalize ecl : cellsFrom (sc.heap.objs.size + 1) scope.names (cloFrom X.env.cells scope.names []) = cl at Id
  have Bg := hg sc (upd H2 D o0) sc.heap.objs.size cl fp
  have Bt := ht sc (upd H2 D o0) sc.heap.objs.size cl fp
  have Bk := hk sc (upd H2 D o0) sc.heap.objs.size cl fp
  have Bv := he sc (upd H2 D o0) sc.heap.objs.size cl fp
  have fr0 : ∀ b ∈ fp, (upd H2 D o0) b = none := fun b m => (fpc b m).1.1
  generalize ece : compEnvC scope cl sc.heap.objs.size X.env = ce at Id Bg Bt Bk Bv
  have ceL : ce.locals = sc.heap.objs.size := by rw [← ece]; rfl
  generalize eHc : upd H2 D o0 = Hc at Ic Id Bg Bt Bk Bv w0 fr0 fpc
  generalize esd : ({ sc with heap := pushCells (sc.heap.push { cls := .type "dict", data := .dict #[] }) scope.names } : Shared) = sd at Id
  have tnd : tn 0 sd.heap := T.keep _ _ _ tnc fun b _ o e => by rw [← esd]; exact pushCells_keeps _ _ _ _ (Heap.get?_push_of_some _ e)
  have own' : ∀ {τ : L2.St} {G : Hp} {t : Shared}, Inv (X.blk sc Hc scope ce fp) [] τ G t → (∀ b ∈ fp, G b = none) → ∀ b ∈ fp, FpOk (X.blk sc Hc scope ce fp) [] G b := fun {τ G t} J0 n b m =>
    ⟨n b m, (J0.ok.exf b m).1, J0.ok.exfs b m, .inl m, fun x c e => (J0.ok.exf b m).2 x c e, fun p hp => absurd hp (by show p ∉ ([] : List (Addr × Obj)) ++ []; simp)⟩
  have loop : codeAny (model X.prog X.w) X.A (.compLoop (.DictComp kx vx [⟨tg, iter, ifs, 0⟩] scope pos) 0 (.ref it) (.ref D) ce) (compPost (model X.prog X.w) X.A X.xe none (EP X pins σ Q) (.ref D) sc.heap.objs.size) sd := by
    refine compLoop_anyD (fun n t => ∃ i G, Inv (X.blk sc Hc scope ce fp) [] (wipe σ (own.map (·.2))) G t ∧ tn i t.heap ∧ (∀ b ∈ fp, G b = none) ∧ W i n G) ?_ m0 ⟨0, Hc, Id, tnd, fr0, w0⟩
    rintro n t ⟨i, G, It', tni, fri, wi'⟩
    rcases turn i n G wi' with ⟨stop, fin⟩ | ⟨go, Nx, more, step⟩
    · refine thnF (T.done (X.blk sc Hc scope ce fp) rfl rfl rfl hc i [] t _ G (fun _ _ => False) It' (own' It' fri) tni stop) fun r t2 ⟨er, I6⟩ => ?_
      subst er
      have I7 : Inv X pins σ G t2 := Ic.call' (ch := fp) I6.os I6.base I6.hok I6.bare fun b m => let z := (fpc b m).1; ⟨z.2.2.2.1, z.2.1, z.2.2.2.2.1, z.2.2.2.2.2⟩
      have fl : G sc.heap.objs.size = none := by rw [← ceL]; exact I6.free
      obtain ⟨m, hn, _⟩ := I6.loc
      have hn' : t2.heap.Ns sc.heap.objs.size m := by rw [← ceL]; exact hn
      obtain ⟨c0, c1, c2, c3, c4, c5⟩ := Ic.fpOk (Nat.le_refl _) fl
      exact ⟨m, hn', fun h'' sb2 => ⟨.ref D, G, I7.turned (t' := t2.toks) (fun b o nb e => (sb2.2 b nb).trans e) c0 c1 c3 c4 c5, rfl, fin⟩⟩
    · refine thnF (T.item (X.blk sc Hc scope ce fp) rfl rfl rfl hc i [] t _ G (fun _ _ => False) It' (own' It' fri) tni go) fun r t2 ⟨u, er, h6⟩ => ?_
      subst er
      refine thnF h6 fun _ t3 ⟨x, G3, I3, r3, y3, tn3, fr3⟩ => ?_
      refine thnF (Bg.run _ t3 _ G3 x u _ (I3.pinned (own' I3 fr3) (T.obj _ _ tn3)) r3 (step x G3 y3)) fun _ t4 ⟨τ, G4, I4, wτ, q4⟩ => ?_
      refine thnF (Bt.run _ t4 τ G4 _ I4 q4) fun b t5 ⟨G5, I5, q5⟩ => ?_
      have back : ∀ {t' : Shared} {G' : Hp}, Inv (X.blk sc Hc scope ce fp) ([] ++ pinsAt fp t3.heap) τ G' t' → Nx G' → ∃ m, m < n ∧ ∃ i G, Inv (X.blk sc Hc scope ce fp) [] (wipe σ (own.map (·.2))) G t' ∧ tn i t'.heap ∧ (∀ b ∈ fp, G b = none) ∧ W i m G := fun {t' G'} I' nx => by
        obtain ⟨m', lt, w'⟩ := more G' nx
        have pinned : ∀ b ∈ fp, ∀ o, t3.heap.get? b = some o → t'.heap.get? b = some o ∧ G' b = none := fun b m o e => let z := I'.pin (b, o) (List.mem_append_right _ (List.mem_append_right _ (mem_pinsAt m e))); ⟨z.1, z.2.1⟩
        refine ⟨m', lt, i + 1, G', (I'.unpinned (pins := [])).weak (by rw [← wτ, wipe_length]) (fun j v e => (wipe_some (by rw [wτ]; exact e)).1), T.keep _ _ _ tn3 fun b m o e => (pinned b m o e).1, fun b m => ?_, w'⟩
        obtain ⟨o, e, _⟩ := T.obj _ _ tn3 b m
        exact (pinned b m o e).2
      cases b with
      | false =>
        rw [if_neg Bool.false_ne_true] at q5 ⊢
        exact back I5 q5
      | true =>
        rw [if_pos rfl] at q5 ⊢
        refine thnF (Bk.run _ t5 τ G5 _ I5 q5) fun z1 t6 ⟨yk, G6, I6, r6, q6⟩ => ?_
        refine thnF (Bv.run _ t6 τ G6 _ I6 q6) fun z2 t7 ⟨yv, G7, I7, r7, G8, g8, nx⟩ => ?_
        exact put_in_comp (X := X.blk sc Hc scope ce fp) hu I7 g8 r6 r7 fun t8 I8 => back I8 nx
  have go := codeAny_compStart_dict loop (T.self X.A 0 _ _ _ tnd loop)
  rw [← ece] at go
  exact go
end

/-! ### d.update(d2), keys that are tuples -/
def mergeT (kvs more : List (List Key × V)) : List (List Key × V) := more.foldl (fun acc kv => putK acc kv.1 kv.2) kvs
/-- the new pairs: fields 0 .. n - 1 of one kind -/
def FieldsOf (one : Nat) (n : Nat) (more : List (List Key × V)) : Prop := more.map (·.1) = (List.range n).map fun (f : Nat) => ([Sum.inl (one : Int), Sum.inl (f : Int)] : List Key)
def rUpdT : V → List V → Hp → VK → Prop := fun x vs H Q => ∃ d o kvs more, x = .ref d ∧ vs = [.ref o] ∧ d ≠ o ∧ H d = some (.dT kvs) ∧ H o = some (.dT more) ∧ kvs.length + more.length ≤ sizeLine ∧
  (kvs ≠ [] ∨ ∃ one n, one < 400 ∧ n ≤ 6 ∧ FieldsOf one n more) ∧ Q .non (upd H d (.dT (mergeT kvs more)))
theorem mergeT_len : ∀ (more kvs : List (List Key × V)), (mergeT kvs more).length ≤ kvs.length + more.length
  | [], kvs => Nat.le_refl _
  | p :: r, kvs => by
    have h1 := mergeT_len r (putK kvs p.1 p.2)
    have h2 := length_putK kvs p.1 p.2
    show (mergeT (putK kvs p.1 p.2) r).length ≤ kvs.length + (r.length + 1)
    omega
/-- the model's pairs and ours, behind an update -/
theorem stored_rel {R : List Key × V → List Key × Addr × Value → Prop} (hput : ∀ kvs xs p q, Paired R kvs xs → R p q → Paired R (putK kvs p.1 p.2) (storedH xs q.1 q.2.1 q.2.2)) :
    ∀ {more ys}, Paired R more ys → ∀ {kvs xs}, Paired R kvs xs → Paired R (mergeT kvs more) (storedAllH xs ys) := by
  intro more ys r
  induction r with
  | nil => intro kvs xs q; exact q
  | cons h t ih => intro kvs xs q; exact ih (hput _ _ _ _ q h)
theorem small_hash (P : Program) (w : World) (one n : Nat) (h : one < 400) (hn : n ≤ 6) :
    (((List.range n).map fun (f : Nat) => ([Sum.inl (one : Int), Sum.inl (f : Int)] : List Key)).map (tupleKind (mixKind P w)).hash).Nodup := by
  have e : ((List.range n).map fun (f : Nat) => ([Sum.inl (one : Int), Sum.inl (f : Int)] : List Key)).map (tupleKind (mixKind P w)).hash =
      (List.range n).map fun (f : Nat) => reduceHash (Builtin.Tuple.tupleHashOf [hashInt (one : Int), hashInt (f : Int)]) := by
    rw [List.map_map]; rfl
  rw [e]
  have all : ∀ one : Nat, one < 400 → ((List.range 6).map fun (f : Nat) => reduceHash (Builtin.Tuple.tupleHashOf [hashInt (one : Int), hashInt (f : Int)])).Nodup := by decide +kernel
  have t : List.range n = (List.range 6).take n := by rw [List.take_range]; congr 1; omega
  rw [t, List.map_take]
  exact (all one h).sublist (List.take_sublist _ _)
theorem mt_updT {X : Cx} (hu : X.A.units + 1 < cLine) : MtR X "dict.update" rUpdT := by
  intro pins s σ H x xs v us Q I rx rxs h
  obtain ⟨d, o, kvs, more, rfl, rfl, hdo, hd, ho, hz, hap, q⟩ := h
  obtain rfl : v = Value.ref d := rx
  obtain ⟨u, rfl, ru⟩ := vals1 rxs
  obtain rfl : u = Value.ref o := ru
  obtain ⟨z1, s1, xs1, rel1, dd1⟩ := dt_of I.hok hd
  obtain ⟨z2, s2, xs2, rel2, dd2⟩ := dt_of I.hok ho
  have l1 := Paired.length rel1
  have l2 := Paired.length rel2
  have typ : ∀ x ∈ xs2, s.TypeIs (.ref x.2.1) "tuple" := fun x hx => by
    obtain ⟨_, _, _, _, _, _, _, his, _⟩ := dd2
    exact tupleKind_stays.tuple (his x hx)
  have keys : more.map (·.1) = xs2.map (·.1) := by
    clear q hz hap ho dd2 typ l2 z2
    induction rel2 with
    | nil => rfl
    | cons h t ih => rw [List.map_cons, List.map_cons, ih, h.1]
  have ap : xs1 ≠ [] ∨ ((∀ x ∈ xs2, s.TypeIs (.ref x.2.1) "tuple") ∧ (xs2.map fun x => (tupleKind (mixKind X.prog X.w)).hash x.1).Nodup) := by
    rcases hap with n | ⟨one, n, h1, h2, h3⟩
    · refine .inl fun e => n ?_
      subst e
      exact List.eq_nil_of_length_eq_zero l1
    · refine .inr ⟨typ, ?_⟩
      have := small_hash X.prog X.w one n h1 h2
      rw [← h3, keys, List.map_map] at this
      exact this
  refine call_update_dictH (tupleKind_room_in1 hu) hdo s2 dd1 dd2 ap (by omega) fun h' dd' _ hs => ?_
  obtain ⟨ob, es, ep, hq, p2, p3, p4, _, p5⟩ := dd'
  have lm : (mergeT kvs more).length ≤ sizeLine := Nat.le_trans (mergeT_len more kvs) hz
  have rel := stored_rel (fun kvs xs p q r h => by rw [← h.1]; exact KT.put r p.1 (h.1 ▸ h.2.1) h.2.2) rel2 rel1
  have I2 : Inv X pins σ (upd H d (.dT (mergeT kvs more))) { s with heap := h', toks := s.toks } :=
    d_write I (by rw [hd]; exact True.intro) hs ⟨ob, hq⟩ ⟨lm, s1, _, (show KT H _ _ from rel).keeps fun c ys ec => (upd_ne (ne_of ec hd fun z => nomatch z)).trans ec, ob, es, ep, hq, p2, p3, p4, p5⟩
  exact ⟨.non, _, I2, rfl, q⟩
end U

set_option maxHeartbeats 2000000
/-! U5: the level of data. What is known of a value is a tree of data, or the value itself; what is known of the heap is the cells that are owned: everything else only grows.
A reading t is answered by a plain predicate d over data and cells (SE, ST, SA, SS, SF: d holds, so t holds). -/
namespace U
open PySem PySem.Spec PyProof.Rows L2 Evl
/-! ### data in a heap -/
mutual
inductive Dd (H : Hp) : PyData → V → Prop
  | non : Dd H .none .non
  | bl (b : Bool) : Dd H (.bool b) (.bl b)
  | int (i : Int) : Dd H (.int i) (.int i)
  | str (x : Str) : Dd H (.str x) (.str x)
  | lst {a : Addr} {us : List V} {ds : List PyData} : H a = some (.lst us) → DdA H ds us → Dd H (.list ds) (.ref a)
  | tup {a : Addr} {us : List V} {ds : List PyData} : H a = some (.tup us) → DdA H ds us → Dd H (.tuple ds) (.ref a)
inductive DdA (H : Hp) : List PyData → List V → Prop
  | nil : DdA H [] []
  | cons {d : PyData} {ds : List PyData} {v : V} {vs : List V} : Dd H d v → DdA H ds vs → DdA H (d :: ds) (v :: vs)
end
mutual
theorem Dd.mono {H H' : Hp} (e : Ex H H') : ∀ {d : PyData} {v : V}, Dd H d v → Dd H' d v
  | _, _, .non => .non
  | _, _, .bl b => .bl b
  | _, _, .int i => .int i
  | _, _, .str x => .str x
  | _, _, .lst h r => .lst (e _ _ h) (DdA.mono e r)
  | _, _, .tup h r => .tup (e _ _ h) (DdA.mono e r)
theorem DdA.mono {H H' : Hp} (e : Ex H H') : ∀ {d : List PyData} {v : List V}, DdA H d v → DdA H' d v
  | _, _, .nil => .nil
  | _, _, .cons h r => .cons (Dd.mono e h) (DdA.mono e r)
end
theorem DdA.append {H : Hp} : ∀ {a b : List PyData} {u v : List V}, DdA H a u → DdA H b v → DdA H (a ++ b) (u ++ v)
  | _, _, _, _, .nil, r => r
  | _, _, _, _, .cons h t, r => .cons h (t.append r)
theorem DdA.length {H : Hp} : ∀ {a : List PyData} {u : List V}, DdA H a u → a.length = u.length
  | _, _, .nil => rfl
  | _, _, .cons _ t => congrArg (· + 1) t.length
theorem DdA.get {H : Hp} : ∀ {a : List PyData} {u : List V}, DdA H a u → ∀ {i : Nat} {x : PyData}, a[i]? = some x → ∃ v, u[i]? = some v ∧ Dd H x v
  | _, _, .nil, _, _, e => nomatch e
  | _, _, .cons h t, 0, _, e => by cases e; exact ⟨_, rfl, h⟩
  | _, _, .cons h t, i + 1, _, e => t.get (i := i) e
theorem DdA.drop {H : Hp} : ∀ {a : List PyData} {u : List V} (n : Nat), DdA H a u → DdA H (a.drop n) (u.drop n)
  | _, _, 0, h => h
  | _, _, n + 1, .nil => .nil
  | _, _, n + 1, .cons _ t => DdA.drop n t
theorem DdA.take {H : Hp} : ∀ {a : List PyData} {u : List V} (n : Nat), DdA H a u → DdA H (a.take n) (u.take n)
  | _, _, 0, h => .nil
  | _, _, n + 1, .nil => .nil
  | _, _, n + 1, .cons h t => .cons h (DdA.take n t)
mutual
theorem Dd.dp {K : PySem.W.Frag} {H : Hp} : ∀ {d : PyData} {v : V}, Dd H d v → Dp K H v d
  | _, _, .non => .non
  | _, _, .bl b => .bl b
  | _, _, .int i => .int i
  | _, _, .str x => .str x
  | _, _, .lst h r => .lst (.inl (.inl h)) (DdA.dp r)
  | _, _, .tup h r => .tup (.inl (.inl h)) (DdA.dp r)
theorem DdA.dp {K : PySem.W.Frag} {H : Hp} : ∀ {d : List PyData} {v : List V}, DdA H d v → DpAll K H v d
  | _, _, .nil => .nil
  | _, _, .cons h r => .cons (Dd.dp h) (DdA.dp r)
end

/-! ### what is known of a value; owned cells -/
inductive W where
  | d (x : PyData)
  | v (x : V)
  /-- the script: a list of these ints, read alone -/
  | s (K : PySem.W.Frag) (a : Addr) (ns : List Int)
inductive Cell where
  | lst (ws : List W)
  | tup (ws : List W)
  | ins (C : Addr) (fs : List (Str × W))
  | dK (kvs : List (Key × W))
  | dT (kvs : List (List Key × W))
  /-- a thing as it is, locked while a loop walks it -/
  | lock (o : HO)
def Is (G : Hp) : W → V → Prop
  | .d x, u => Dd G x u
  | .v y, u => u = y
  | .s K a ns, u => u = .ref a ∧ ∀ H, Ex G H → SqL K H a (ns.map V.int)
abbrev IsA (G : Hp) : List W → List V → Prop := Paired (Is G)
abbrev IsK {κ : Type} (G : Hp) : List (κ × W) → List (κ × V) → Prop := Paired fun p q => p.1 = q.1 ∧ Is G p.2 q.2
def CellIs (G : Hp) : Cell → HO → Prop
  | .lst ws, o => ∃ us, o = .lst us ∧ IsA G ws us
  | .tup ws, o => ∃ us, o = .tup us ∧ IsA G ws us
  | .ins C fs, o => ∃ dx us, o = .ins C dx us ∧ IsK G fs us
  | .dK kvs, o => ∃ us, o = .dK us ∧ IsK G kvs us
  | .dT kvs, o => ∃ us, o = .dT us ∧ IsK G kvs us
  | .lock o', o => o = o'
abbrev Hs := Addr → Option Cell
abbrev DEnv := List (Option W)
structure Ok (s : Hs) (G H : Hp) : Prop where
  ex : Ex G H
  cell : ∀ (a : Addr) (c : Cell), s a = some c → G a = none ∧ ∃ o, H a = some o ∧ CellIs G c o
structure EnvOk (G : Hp) (δ : DEnv) (σ : L2.St) : Prop where
  len : δ.length = σ.length
  get : ∀ (i : Nat) (w : W), δ[i]? = some (some w) → ∃ u, σ[i]? = some (some u) ∧ Is G w u
section
variable {G G' H H' : Hp} {s : Hs} {δ : DEnv} {σ : L2.St}
theorem Is.mono (e : Ex G G') : ∀ {w : W} {u : V}, Is G w u → Is G' w u
  | .d _, _, h => Dd.mono e h
  | .v _, _, h => h
  | .s _ _ _, _, h => ⟨h.1, fun H e2 => h.2 H (e.trans e2)⟩
theorem IsA.mono (e : Ex G G') {ws : List W} {us : List V} (h : IsA G ws us) : IsA G' ws us := Paired.mapP h fun _ _ z => Is.mono e z
theorem IsK.mono {κ : Type} (e : Ex G G') {ws : List (κ × W)} {us : List (κ × V)} (h : IsK G ws us) : IsK G' ws us := Paired.mapP h fun _ _ z => ⟨z.1, Is.mono e z.2⟩
theorem CellIs.mono (e : Ex G G') : ∀ {c : Cell} {o : HO}, CellIs G c o → CellIs G' c o
  | .lst _, _, ⟨us, h, r⟩ => ⟨us, h, IsA.mono e r⟩
  | .tup _, _, ⟨us, h, r⟩ => ⟨us, h, IsA.mono e r⟩
  | .ins _ _, _, ⟨dx, us, h, r⟩ => ⟨dx, us, h, IsK.mono e r⟩
  | .dK _, _, ⟨us, h, r⟩ => ⟨us, h, IsK.mono e r⟩
  | .dT _, _, ⟨us, h, r⟩ => ⟨us, h, IsK.mono e r⟩
  | .lock _, _, h => h
theorem EnvOk.mono (e : Ex G G') (h : EnvOk G δ σ) : EnvOk G' δ σ := ⟨h.len, fun i w q => let ⟨u, h1, h2⟩ := h.get i w q; ⟨u, h1, h2.mono e⟩⟩
theorem EnvOk.set (h : EnvOk G δ σ) (i : Nat) {w : W} {u : V} (q : Is G w u) : EnvOk G (δ.set i (some w)) (σ.set i (some u)) := by
  refine ⟨by simp [h.len], fun j x e => ?_⟩
  by_cases hij : i = j
  · subst hij
    have hl : i < δ.length := by
      have := List.getElem?_eq_some_iff.mp e
      simpa using this.1
    rw [List.getElem?_set_self hl] at e
    cases e
    exact ⟨u, List.getElem?_set_self (h.len ▸ hl), q⟩
  · rw [List.getElem?_set_ne hij] at e
    obtain ⟨u', h1, h2⟩ := h.get j x e
    exact ⟨u', by rw [List.getElem?_set_ne hij]; exact h1, h2⟩
def wipeD (δ : DEnv) : List Nat → DEnv
  | [] => δ
  | v :: vs => (wipeD δ vs).set v none
theorem EnvOk.unset (h : EnvOk G δ σ) (i : Nat) : EnvOk G (δ.set i none) (σ.set i none) := by
  refine ⟨by simp [h.len], fun j x e => ?_⟩
  by_cases hij : i = j
  · subst hij
    have hl : i < δ.length := by
      have := List.getElem?_eq_some_iff.mp e
      simpa using this.1
    rw [List.getElem?_set_self hl] at e
    cases e
  · rw [List.getElem?_set_ne hij] at e
    obtain ⟨u', h1, h2⟩ := h.get j x e
    exact ⟨u', by rw [List.getElem?_set_ne hij]; exact h1, h2⟩
theorem EnvOk.wipe (h : EnvOk G δ σ) : ∀ vs : List Nat, EnvOk G (wipeD δ vs) (wipe σ vs)
  | [] => h
  | v :: vs => (EnvOk.wipe h vs).unset v
def startD (N : List Str) (ws : List W) : DEnv := ws.map some ++ List.replicate (N.length - ws.length) none
theorem paired_get {ws : List W} {us : List V} (h : IsA G ws us) : ∀ {i : Nat} {w : W}, ws[i]? = some w → ∃ u, us[i]? = some u ∧ Is G w u := by
  induction h with
  | nil => intro i w e; exact nomatch e
  | cons h t ih =>
    intro i w e
    cases i with
    | zero => cases e; exact ⟨_, rfl, h⟩
    | succ i => exact ih (i := i) e
theorem paired_len {α β : Type} {R : α → β → Prop} {ws : List α} {us : List β} (h : Paired R ws us) : ws.length = us.length := Paired.length h
theorem startD_ok {N : List Str} {ws : List W} {us : List V} (h : IsA G ws us) : EnvOk G (startD N ws) (L2.start N us) := by
  have hl := paired_len h
  refine ⟨by unfold startD L2.start; simp [hl], fun i w e => ?_⟩
  unfold startD at e
  unfold L2.start
  by_cases hi : i < ws.length
  · rw [List.getElem?_append_left (by simpa using hi), List.getElem?_map] at e
    rw [List.getElem?_append_left (by simpa using (hl ▸ hi)), List.getElem?_map]
    cases hw : ws[i]? with
    | none => rw [hw] at e; cases e
    | some w' =>
      rw [hw] at e
      cases e
      obtain ⟨u, h1, h2⟩ := paired_get h hw
      exact ⟨u, by rw [h1]; rfl, h2⟩
  · rw [List.getElem?_append_right (by simpa using hi), List.getElem?_replicate] at e
    split at e <;> cases e
/-- a new thing, not owned -/
theorem Ok.new (k : Ok s G H) {p : Addr} {o : HO} (h : H p = none) : Ok s (upd G p o) (upd H p o) ∧ Ex G (upd G p o) := by
  have gp := fresh_back k.ex h
  refine ⟨⟨fun a u e => ?_, fun a c e => ?_⟩, Ex.new gp⟩
  · by_cases ha : a = p
    · subst ha
      rw [upd_same] at e ⊢
      exact e
    · rw [upd_ne ha] at e ⊢
      exact k.ex a u e
  · obtain ⟨h1, o', h2, h3⟩ := k.cell a c e
    have ha : a ≠ p := fun z => by rw [z, h] at h2; cases h2
    exact ⟨by rw [upd_ne ha]; exact h1, o', by rw [upd_ne ha]; exact h2, h3.mono (Ex.new gp)⟩
/-- a new thing that is owned -/
theorem Ok.own (k : Ok s G H) {p : Addr} {o : HO} {c : Cell} (h : H p = none) (hc : CellIs G c o) : Ok (fun a => if a = p then some c else s a) G (upd H p o) := by
  have gp := fresh_back k.ex h
  refine ⟨fun a u e => ?_, fun a c' e => ?_⟩
  · rw [upd_ne (ne_of_none e gp)]; exact k.ex a u e
  · by_cases ha : a = p
    · subst ha
      rw [if_pos rfl] at e
      cases e
      exact ⟨gp, o, upd_same, hc⟩
    · rw [if_neg ha] at e
      obtain ⟨h1, o', h2, h3⟩ := k.cell a c' e
      exact ⟨h1, o', by rw [upd_ne ha]; exact h2, h3⟩
theorem Ok.fresh (k : Ok s G H) {p : Addr} (h : H p = none) : s p = none := by
  cases e : s p with
  | none => rfl
  | some c => obtain ⟨_, o, h2, _⟩ := k.cell p c e; rw [h] at h2; cases h2
def put (s : Hs) (p : Addr) (c : Cell) : Hs := fun a => if a = p then some c else s a
def del (s : Hs) (p : Addr) : Hs := fun a => if a = p then none else s a
theorem put_eq {s : Hs} {p : Addr} {c : Cell} : put s p c p = some c := if_pos rfl
theorem put_ne {s : Hs} {p a : Addr} {c : Cell} (h : a ≠ p) : put s p c a = s a := if_neg h
/-- an owned cell is written -/
theorem Ok.put (k : Ok s G H) {p : Addr} {o : HO} {c c' : Cell} (h : s p = some c') (hc : CellIs G c o) : Ok (put s p c) G (upd H p o) := by
  obtain ⟨gp, o', hp, _⟩ := k.cell p c' h
  refine ⟨fun a u e => ?_, fun a c' e => ?_⟩
  · rw [upd_ne (ne_of_none e gp)]; exact k.ex a u e
  · by_cases ha : a = p
    · subst ha
      rw [put_eq] at e
      cases e
      exact ⟨gp, o, upd_same, hc⟩
    · rw [put_ne ha] at e
      obtain ⟨h1, o', h2, h3⟩ := k.cell a c' e
      exact ⟨h1, o', by rw [upd_ne ha]; exact h2, h3⟩
end
end U

set_option maxHeartbeats 2000000
/-! U6: the combinators at the level of data. -/
namespace U
open PySem PySem.Spec PyProof.Rows L2 Evl
abbrev DK := W → Hs → Prop
abbrev DE := DEnv → Hs → DK → Prop
abbrev DA := DEnv → Hs → (List W → Hs → Prop) → Prop
abbrev DT := DEnv → Hs → (Bool → Hs → Prop) → Prop
abbrev DF := List W → Hs → DK → Prop
abbrev DG := W → DEnv → Hs → (DEnv → Hs → Prop) → Prop
abbrev DGs := List W → DEnv → Hs → (DEnv → Hs → Prop) → Prop
abbrev D2 := W → W → Hs → DK → Prop
abbrev DO := DEnv → Hs → (Option Int → Hs → Prop) → Prop
structure DEnds where
  nx : DEnv → Hs → Prop
  rt : DK
  bk : DEnv → Hs → Prop := fun _ _ => False
  ct : DEnv → Hs → Prop := fun _ _ => False
abbrev DS := DEnds → DEnv → Hs → Prop
/-- what comes behind: of values, of lists of values, of truths, of states -/
abbrev PostV (G : Hp) (k : DK) (Q : VK) : Prop := ∀ (w : W) (s : Hs) (u : V) (G' H' : Hp), Ok s G' H' → Ex G G' → Is G' w u → k w s → Q u H'
abbrev PostA (G : Hp) (k : List W → Hs → Prop) (Q : List V → Hp → Prop) : Prop := ∀ (w : List W) (s : Hs) (u : List V) (G' H' : Hp), Ok s G' H' → Ex G G' → IsA G' w u → k w s → Q u H'
abbrev PostT (G : Hp) (k : Bool → Hs → Prop) (Q : Bool → Hp → Prop) : Prop := ∀ (b : Bool) (s : Hs) (G' H' : Hp), Ok s G' H' → Ex G G' → k b s → Q b H'
abbrev PostO (G : Hp) (k : Option Int → Hs → Prop) (Q : Option Int → Hp → Prop) : Prop := ∀ (b : Option Int) (s : Hs) (G' H' : Hp), Ok s G' H' → Ex G G' → k b s → Q b H'
abbrev PostN (G : Hp) (k : DEnv → Hs → Prop) (Q : L2.St → Hp → Prop) : Prop := ∀ (δ : DEnv) (s : Hs) (σ : L2.St) (G' H' : Hp), Ok s G' H' → Ex G G' → EnvOk G' δ σ → k δ s → Q σ H'
theorem isd {G : Hp} {x : PyData} {v : V} (h : Dd G x v) : Is G (.d x) v := h
theorem isv {G : Hp} {v : V} : Is G (.v v) v := rfl
theorem cLst {G : Hp} {ws : List W} {us : List V} (h : IsA G ws us) : CellIs G (.lst ws) (.lst us) := ⟨us, rfl, h⟩
theorem cTup {G : Hp} {ws : List W} {us : List V} (h : IsA G ws us) : CellIs G (.tup ws) (.tup us) := ⟨us, rfl, h⟩
theorem cIns {G : Hp} {C dx : Addr} {ws : List (Str × W)} {us : List (Str × V)} (h : IsK G ws us) : CellIs G (.ins C ws) (.ins C dx us) := ⟨dx, us, rfl, h⟩
theorem cDK {G : Hp} {ws : List (Key × W)} {us : List (Key × V)} (h : IsK G ws us) : CellIs G (.dK ws) (.dK us) := ⟨us, rfl, h⟩
theorem cDT {G : Hp} {ws : List (List Key × W)} {us : List (List Key × V)} (h : IsK G ws us) : CellIs G (.dT ws) (.dT us) := ⟨us, rfl, h⟩
def SE (t : TE) (d : DE) : Prop := ∀ (δ : DEnv) (s : Hs) (k : DK) (σ : L2.St) (G H : Hp) (Q : VK), d δ s k → Ok s G H → EnvOk G δ σ → PostV G k Q → t σ H Q
def SA (t : TA) (d : DA) : Prop := ∀ (δ : DEnv) (s : Hs) (k : List W → Hs → Prop) (σ : L2.St) (G H : Hp) (Q : List V → Hp → Prop), d δ s k → Ok s G H → EnvOk G δ σ → PostA G k Q → t σ H Q
def SB (t : TT) (d : DT) : Prop := ∀ (δ : DEnv) (s : Hs) (k : Bool → Hs → Prop) (σ : L2.St) (G H : Hp) (Q : Bool → Hp → Prop), d δ s k → Ok s G H → EnvOk G δ σ → PostT G k Q → t σ H Q
def SO (t : TO) (d : DO) : Prop := ∀ (δ : DEnv) (s : Hs) (k : Option Int → Hs → Prop) (σ : L2.St) (G H : Hp) (Q : Option Int → Hp → Prop), d δ s k → Ok s G H → EnvOk G δ σ → PostO G k Q → t σ H Q
def SF (sp : Sp) (d : DF) : Prop := ∀ (ws : List W) (s : Hs) (k : DK) (us : List V) (G H : Hp) (Q : VK) (E : XK), d ws s k → Ok s G H → IsA G ws us → PostV G k Q → sp us H Q E
def SG (t : TG) (d : DG) : Prop := ∀ (w : W) (δ : DEnv) (s : Hs) (k : DEnv → Hs → Prop) (u : V) (σ : L2.St) (G H : Hp) (Q : L2.St → Hp → Prop), d w δ s k → Ok s G H → EnvOk G δ σ → Is G w u → PostN G k Q → t u σ H Q
def SGs (t : TGs) (d : DGs) : Prop := ∀ (w : List W) (δ : DEnv) (s : Hs) (k : DEnv → Hs → Prop) (u : List V) (σ : L2.St) (G H : Hp) (Q : L2.St → Hp → Prop), d w δ s k → Ok s G H → EnvOk G δ σ → IsA G w u → PostN G k Q → t u σ H Q
def S2 (r : R2) (d : D2) : Prop := ∀ (w1 w2 : W) (s : Hs) (k : DK) (u1 u2 : V) (G H : Hp) (Q : VK), d w1 w2 s k → Ok s G H → Is G w1 u1 → Is G w2 u2 → PostV G k Q → r u1 u2 H Q
def SCB (r : List V → Hp → VK → Prop) (d : List W → Hs → DK → Prop) : Prop := ∀ (ws : List W) (s : Hs) (k : DK) (us : List V) (G H : Hp) (Q : VK), d ws s k → Ok s G H → IsA G ws us → PostV G k Q → r us H Q
structure PostE (G : Hp) (DD : DEnds) (D : Ends) : Prop where
  nx : PostN G DD.nx D.nx
  rt : PostV G DD.rt D.rt
  bk : PostN G DD.bk D.bk
  ct : PostN G DD.ct D.ct
def SS (t : TS) (d : DS) : Prop := ∀ (DD : DEnds) (δ : DEnv) (s : Hs) (D : Ends) (σ : L2.St) (G H : Hp), d DD δ s → Ok s G H → EnvOk G δ σ → PostE G DD D → t D σ H
section
variable {G G' H H' : Hp} {s : Hs} {δ : DEnv} {σ : L2.St}
theorem PostV.up {k : DK} {Q : VK} (e : Ex G G') (p : PostV G k Q) : PostV G' k Q := fun w s u G1 H1 o x i q => p w s u G1 H1 o (e.trans x) i q
theorem PostA.up {k : List W → Hs → Prop} {Q : List V → Hp → Prop} (e : Ex G G') (p : PostA G k Q) : PostA G' k Q := fun w s u G1 H1 o x i q => p w s u G1 H1 o (e.trans x) i q
theorem PostT.up {k : Bool → Hs → Prop} {Q : Bool → Hp → Prop} (e : Ex G G') (p : PostT G k Q) : PostT G' k Q := fun w s G1 H1 o x q => p w s G1 H1 o (e.trans x) q
theorem PostO.up {k : Option Int → Hs → Prop} {Q : Option Int → Hp → Prop} (e : Ex G G') (p : PostO G k Q) : PostO G' k Q := fun w s G1 H1 o x q => p w s G1 H1 o (e.trans x) q
theorem PostN.up {k : DEnv → Hs → Prop} {Q : L2.St → Hp → Prop} (e : Ex G G') (p : PostN G k Q) : PostN G' k Q := fun w s u G1 H1 o x i q => p w s u G1 H1 o (e.trans x) i q
theorem PostE.up {DD : DEnds} {D : Ends} (e : Ex G G') (p : PostE G DD D) : PostE G' DD D := ⟨p.nx.up e, p.rt.up e, p.bk.up e, p.ct.up e⟩
end

/-! ### expressions -/
def dVar (i : Nat) (δ : DEnv) (s : Hs) (k : DK) : Prop := match δ[i]? with
  | some (some w) => k w s
  | _ => False
theorem sVar (i : Nat) : SE (tVar i) (dVar i) := by
  intro δ s k σ G H Q h ok env post
  unfold dVar at h
  split at h
  · rename_i w e
    obtain ⟨u, h1, h2⟩ := env.get i w e
    exact ⟨u, h1, post w s u G H ok (Ex.refl G) h2 h⟩
  · exact h.elim
/-- a variable's own list is given away: it is data from now on -/
def datas : List W → Option (List PyData)
  | [] => some []
  | .d x :: r => (datas r).map (x :: ·)
  | .v _ :: _ => none
  | .s _ _ _ :: _ => none
theorem datas_ok {G : Hp} : ∀ {ws : List W} {us : List V} {xs : List PyData}, datas ws = some xs → IsA G ws us → DdA G xs us
  | [], _, _, h, .nil => by cases h; exact .nil
  | .d x :: r, _, xs, h, .cons a b => by
    unfold datas at h
    cases e : datas r with
    | none => rw [e] at h; cases h
    | some ys => rw [e] at h; cases h; exact .cons a (datas_ok e b)
  | .v _ :: _, _, _, h, _ => by cases h
  | .s _ _ _ :: _, _, _, h, _ => by cases h
theorem datas_map (xs : List PyData) : datas (xs.map .d) = some xs := by
  induction xs with
  | nil => rfl
  | cons x r ih => show (datas (r.map .d)).map (x :: ·) = _; rw [ih]; rfl
theorem isA_map {G : Hp} : ∀ {xs : List PyData} {us : List V}, DdA G xs us → IsA G (xs.map .d) us
  | _, _, .nil => .nil
  | _, _, .cons a b => .cons a (isA_map b)
theorem isA_unmap {G : Hp} {xs : List PyData} {us : List V} (h : IsA G (xs.map .d) us) : DdA G xs us := datas_ok (datas_map xs) h
def dFrz (i : Nat) (δ : DEnv) (s : Hs) (k : DK) : Prop := match δ[i]? with
  | some (some (.v (.ref p))) => match s p with
    | some (.lst ws) => match datas ws with
      | some xs => k (.d (.list xs)) (del s p)
      | none => False
    | _ => False
  | _ => False
/-- an owned list is data from now on -/
theorem Ok.freeze {s : Hs} {G H : Hp} (ok : Ok s G H) {p : Addr} {ws : List W} {xs : List PyData} (h : s p = some (.lst ws)) (hd : datas ws = some xs) : ∃ G', Ok (del s p) G' H ∧ Ex G G' ∧ Is G' (.d (.list xs)) (.ref p) := by
  obtain ⟨gp, o, hp, us, rfl, r⟩ := ok.cell p _ h
  have e := Ex.new (o := .lst us) gp
  refine ⟨upd G p (.lst us), ⟨fun a u q => ?_, fun a c q => ?_⟩, e, .lst upd_same (DdA.mono e (datas_ok hd r))⟩
  · by_cases ha : a = p
    · subst ha
      rw [upd_same] at q
      cases q
      exact hp
    · rw [upd_ne ha] at q
      exact ok.ex a u q
  · unfold del at q
    by_cases ha : a = p
    · rw [if_pos ha] at q; cases q
    · rw [if_neg ha] at q
      obtain ⟨h1, o', h2, h3⟩ := ok.cell a c q
      exact ⟨by rw [upd_ne ha]; exact h1, o', h2, h3.mono e⟩
theorem sFrz (i : Nat) : SE (tVar i) (dFrz i) := by
  intro δ s k σ G H Q h ok env post
  unfold dFrz at h
  split at h
  · rename_i p e
    split at h
    · rename_i ws hw
      split at h
      · rename_i xs hx
        obtain ⟨u, h1, h2⟩ := env.get i _ e
        obtain rfl : u = V.ref p := h2
        obtain ⟨G', ok', ex, is⟩ := ok.freeze hw hx
        exact ⟨_, h1, post _ _ _ G' H ok' ex is h⟩
      · exact h.elim
    · exact h.elim
  · exact h.elim
def dC (x : PyData) (_x0 : DEnv) (s : Hs) (k : DK) : Prop := k (.d x) s
def dV (v : V) (_x0 : DEnv) (s : Hs) (k : DK) : Prop := k (.v v) s
theorem sC {x : PyData} {v : V} (h : ∀ G, Dd G x v) : SE (tC v) (dC x) := fun δ s k σ G H Q q ok env post => post _ _ _ G H ok (Ex.refl G) (isd (h G)) q
theorem sCi (i : Int) : SE (tC (.int i)) (dC (.int i)) := sC fun _ => .int i
theorem sCs (x : Str) : SE (tC (.str x)) (dC (.str x)) := sC fun _ => .str x
theorem sCb (b : Bool) : SE (tC (.bl b)) (dC (.bool b)) := sC fun _ => .bl b
theorem sCn : SE (tC .non) (dC .none) := sC fun _ => .non
theorem sV (v : V) : SE (tC v) (dV v) := fun δ s k σ G H Q q ok env post => post _ _ _ G H ok (Ex.refl G) isv q
def dOp (r : D2) (a b : DE) (δ : DEnv) (s : Hs) (k : DK) : Prop := a δ s fun w1 s1 => b δ s1 fun w2 s2 => r w1 w2 s2 k
theorem sOp {r : R2} {dr : D2} {ta tb : TE} {a b : DE} (hr : S2 r dr) (ha : SE ta a) (hb : SE tb b) : SE (tOp r ta tb) (dOp dr a b) := by
  intro δ s k σ G H Q h ok env post
  refine ha _ _ _ _ _ _ _ h ok env fun w1 s1 u1 G1 H1 ok1 e1 i1 q1 => ?_
  refine hb _ _ _ _ _ _ _ q1 ok1 (env.mono e1) fun w2 s2 u2 G2 H2 ok2 e2 i2 q2 => ?_
  exact hr _ _ _ _ _ _ _ _ _ q2 ok2 (i1.mono e2) i2 (post.up (e1.trans e2))
def dNeg (a : DE) (δ : DEnv) (s : Hs) (k : DK) : Prop := a δ s fun w s1 => match w with
  | .d (.int i) => k (.d (.int (-i))) s1
  | _ => False
theorem sNeg {ta : TE} {a : DE} (ha : SE ta a) : SE (tUn (rU fun i => .int (-i)) ta) (dNeg a) := by
  intro δ s k σ G H Q h ok env post
  refine ha _ _ _ _ _ _ _ h ok env fun w1 s1 u1 G1 H1 ok1 e1 i1 q1 => ?_
  split at q1
  · rename_i i
    cases i1
    exact ⟨i, rfl, post _ _ _ G1 H1 ok1 e1 (isd (.int (-i))) q1⟩
  · exact q1.elim
def dNil (_x0 : DEnv) (s : Hs) (k : List W → Hs → Prop) : Prop := k [] s
def dCons (a : DE) (r : DA) (δ : DEnv) (s : Hs) (k : List W → Hs → Prop) : Prop := a δ s fun w s1 => r δ s1 fun ws s2 => k (w :: ws) s2
theorem sNil : SA tNil dNil := fun δ s k σ G H Q h ok env post => post _ _ _ G H ok (Ex.refl G) .nil h
theorem sCons {ta : TE} {a : DE} {tr : TA} {r : DA} (ha : SE ta a) (hr : SA tr r) : SA (tCons ta tr) (dCons a r) := by
  intro δ s k σ G H Q h ok env post
  refine ha _ _ _ _ _ _ _ h ok env fun w1 s1 u1 G1 H1 ok1 e1 i1 q1 => ?_
  refine hr _ _ _ _ _ _ _ q1 ok1 (env.mono e1) fun w2 s2 u2 G2 H2 ok2 e2 i2 q2 => ?_
  exact post _ _ _ G2 H2 ok2 (e1.trans e2) (.cons (i1.mono e2) i2) q2
def dTest (a : DE) (δ : DEnv) (s : Hs) (k : Bool → Hs → Prop) : Prop := a δ s fun w s1 => match w with
  | .d (.bool b) => k b s1
  | _ => False
theorem sTest {ta : TE} {a : DE} (ha : SE ta a) : SB (tTest ta) (dTest a) := by
  intro δ s k σ G H Q h ok env post
  refine ha _ _ _ _ _ _ _ h ok env fun w1 s1 u1 G1 H1 ok1 e1 i1 q1 => ?_
  split at q1
  · rename_i b
    cases i1
    exact ⟨b, rfl, post _ _ G1 H1 ok1 e1 q1⟩
  · exact q1.elim
/-- a sequence: data, or an owned one -/
def seqOf (s : Hs) : W → Option (List W)
  | .d (.list xs) => some (xs.map .d)
  | .d (.tuple xs) => some (xs.map .d)
  | .v (.ref p) => match s p with
    | some (.lst ws) => some ws
    | some (.tup ws) => some ws
    | _ => none
  | _ => none
theorem sq_rd {K : PySem.W.Frag} {H : Hp} {a : Addr} {xs : List V} (h : Rd H a (.lst xs)) : SqL K H a xs := Or.inl h
theorem st_rd {K : PySem.W.Frag} {H : Hp} {a : Addr} {xs : List V} (h : Rd H a (.tup xs)) : SqT K H a xs := Or.inl h
theorem seqOf_ok {s : Hs} {G H : Hp} {w : W} {u : V} {ws : List W} (h : seqOf s w = some ws) (ok : Ok s G H) (i : Is G w u) : ∃ a us, u = .ref a ∧ (Rd H a (.lst us) ∨ Rd H a (.tup us)) ∧ IsA G ws us := by
  unfold seqOf at h
  split at h
  · cases h
    cases i with
    | lst h r => exact ⟨_, _, rfl, .inl (.inl (ok.ex _ _ h)), isA_map r⟩
  · cases h
    cases i with
    | tup h r => exact ⟨_, _, rfl, .inr (.inl (ok.ex _ _ h)), isA_map r⟩
  · rename_i p
    obtain rfl : u = V.ref p := i
    split at h
    · rename_i ws' hw
      cases h
      obtain ⟨_, o, hp, us, rfl, r⟩ := ok.cell p _ hw
      exact ⟨p, us, rfl, .inl (.inl hp), r⟩
    · rename_i ws' hw
      cases h
      obtain ⟨_, o, hp, us, rfl, r⟩ := ok.cell p _ hw
      exact ⟨p, us, rfl, .inr (.inl hp), r⟩
    · cases h
  · cases h
/-- as data: what is owned may stand one within another twice -/
def asD0 (s : Hs) : W → Option PyData
  | .d x => some x
  | .v (.ref p) => match s p with
    | some (.lst ws) => (datas ws).map .list
    | some (.tup ws) => (datas ws).map .tuple
    | _ => none
  | _ => none
theorem asD0_ok {s : Hs} {G H : Hp} {w : W} {u : V} {x : PyData} (h : asD0 s w = some x) (ok : Ok s G H) (i : Is G w u) : Dd H x u := by
  unfold asD0 at h
  split at h
  · cases h
    exact Dd.mono ok.ex i
  · rename_i p
    obtain rfl : u = V.ref p := i
    split at h
    · rename_i ws hw
      obtain ⟨_, o, hp, us, rfl, r⟩ := ok.cell p _ hw
      cases e : datas ws with
      | none => rw [e] at h; cases h
      | some xs => rw [e] at h; cases h; exact .lst hp (DdA.mono ok.ex (datas_ok e r))
    · rename_i ws hw
      obtain ⟨_, o, hp, us, rfl, r⟩ := ok.cell p _ hw
      cases e : datas ws with
      | none => rw [e] at h; cases h
      | some xs => rw [e] at h; cases h; exact .tup hp (DdA.mono ok.ex (datas_ok e r))
    · cases h
  · cases h
def asDs (s : Hs) : List W → Option (List PyData)
  | [] => some []
  | w :: r => match asD0 s w with
    | some x => (asDs s r).map (x :: ·)
    | none => none
theorem asDs_ok {s : Hs} {G H : Hp} (ok : Ok s G H) : ∀ {ws : List W} {us : List V} {xs : List PyData}, asDs s ws = some xs → IsA G ws us → DdA H xs us
  | [], _, _, h, .nil => by cases h; exact .nil
  | w :: r, _, xs, h, .cons a b => by
    unfold asDs at h
    split at h
    · rename_i x hx
      cases e : asDs s r with
      | none => rw [e] at h; cases h
      | some ys => rw [e] at h; cases h; exact .cons (asD0_ok hx ok a) (asDs_ok ok e b)
    · cases h
theorem asDs_data (s : Hs) (xs : List PyData) : asDs s (xs.map .d) = some xs := by
  induction xs with
  | nil => rfl
  | cons x r ih => show (asDs s (r.map .d)).map (x :: ·) = _; rw [ih]; rfl
def asD (s : Hs) : W → Option PyData
  | .d x => some x
  | .v (.ref p) => match s p with
    | some (.lst ws) => (asDs s ws).map .list
    | some (.tup ws) => (asDs s ws).map .tuple
    | _ => none
  | _ => none
theorem asD_ok {s : Hs} {G H : Hp} {w : W} {u : V} {x : PyData} (h : asD s w = some x) (ok : Ok s G H) (i : Is G w u) : Dd H x u := by
  unfold asD at h
  split at h
  · cases h
    exact Dd.mono ok.ex i
  · rename_i p
    obtain rfl : u = V.ref p := i
    split at h
    · rename_i ws hw
      obtain ⟨_, o, hp, us, rfl, r⟩ := ok.cell p _ hw
      cases e : asDs s ws with
      | none => rw [e] at h; cases h
      | some xs => rw [e] at h; cases h; exact .lst hp (asDs_ok ok e r)
    · rename_i ws hw
      obtain ⟨_, o, hp, us, rfl, r⟩ := ok.cell p _ hw
      cases e : asDs s ws with
      | none => rw [e] at h; cases h
      | some xs => rw [e] at h; cases h; exact .tup hp (asDs_ok ok e r)
    · cases h
  · cases h
/-- a value's truth -/
def truD (s : Hs) : W → Option Bool
  | .d .none => some false
  | .d (.bool b) => some b
  | .d (.int i) => some (i != 0)
  | .d (.str z) => if z.length ≤ 100000 then some ((z.length : Int) != 0) else none
  | w => (seqOf s w).map fun ws => !ws.isEmpty
def dTru (a : DE) (δ : DEnv) (s : Hs) (k : Bool → Hs → Prop) : Prop := a δ s fun w s1 => match truD s1 w with
  | some b => k b s1
  | none => False
theorem sTru {K : PySem.W.Frag} {ta : TE} {a : DE} (ha : SE ta a) : SB (tTruU K ta) (dTru a) := by
  intro δ s k σ G H Q h ok env post
  refine ha _ _ _ _ _ _ _ h ok env fun w1 s1 u1 G1 H1 ok1 e1 i1 q1 => ?_
  split at q1
  · rename_i b hb
    refine ⟨b, ?_, post _ _ G1 H1 ok1 e1 q1⟩
    unfold truD at hb
    split at hb
    · cases hb; cases i1; exact rfl
    · cases hb; cases i1; exact rfl
    · cases hb; cases i1; exact rfl
    · split at hb
      · rename_i hz
        cases hb; cases i1; exact ⟨sz_of hz, rfl⟩
      · cases hb
    · cases e : seqOf s1 w1 with
      | none => rw [e] at hb; cases hb
      | some ws =>
        rw [e] at hb
        cases hb
        obtain ⟨p, us, rfl, hp, r⟩ := seqOf_ok e ok1 i1
        have he : ws.isEmpty = us.isEmpty := by cases r <;> rfl
        show TruV K (V.ref p) H1 (!ws.isEmpty)
        rw [he]
        rcases hp with hp | hp
        · exact .inl ⟨us, .inl hp, rfl⟩
        · exact .inr (.inl ⟨us, .inl hp, rfl⟩)
  · exact q1.elim
def dAnd (a b : DT) (δ : DEnv) (s : Hs) (k : Bool → Hs → Prop) : Prop := a δ s fun x s1 => if x = true then b δ s1 k else k false s1
def dOr (a b : DT) (δ : DEnv) (s : Hs) (k : Bool → Hs → Prop) : Prop := a δ s fun x s1 => if x = true then k true s1 else b δ s1 k
def dNot (a : DT) (δ : DEnv) (s : Hs) (k : Bool → Hs → Prop) : Prop := a δ s fun x s1 => k (!x) s1
theorem sAnd {t u : TT} {a b : DT} (ha : SB t a) (hb : SB u b) : SB (tAnd t u) (dAnd a b) := by
  intro δ s k σ G H Q h ok env post
  refine ha _ _ _ _ _ _ _ h ok env fun x s1 G1 H1 ok1 e1 q1 => ?_
  by_cases hx : x = true
  · rw [if_pos hx] at q1 ⊢
    exact hb _ _ _ _ _ _ _ q1 ok1 (env.mono e1) (post.up e1)
  · rw [if_neg hx] at q1 ⊢
    exact post _ _ _ _ ok1 e1 q1
theorem sOr {t u : TT} {a b : DT} (ha : SB t a) (hb : SB u b) : SB (tOr t u) (dOr a b) := by
  intro δ s k σ G H Q h ok env post
  refine ha _ _ _ _ _ _ _ h ok env fun x s1 G1 H1 ok1 e1 q1 => ?_
  by_cases hx : x = true
  · rw [if_pos hx] at q1 ⊢
    exact post _ _ _ _ ok1 e1 q1
  · rw [if_neg hx] at q1 ⊢
    exact hb _ _ _ _ _ _ _ q1 ok1 (env.mono e1) (post.up e1)
theorem sNot {t : TT} {a : DT} (ha : SB t a) : SB (tNot t) (dNot a) := by
  intro δ s k σ G H Q h ok env post
  exact ha _ _ _ _ _ _ _ h ok env fun x s1 G1 H1 ok1 e1 q1 => post _ _ _ _ ok1 e1 q1
def dYes (_x0 : DEnv) (s : Hs) (k : Bool → Hs → Prop) : Prop := k true s
theorem sYes : SB tYes dYes := fun δ s k σ G H Q h ok env post => post _ _ _ _ ok (Ex.refl G) h
def dAndV (a b : DE) (δ : DEnv) (s : Hs) (k : DK) : Prop := a δ s fun x s1 => match x with
  | .d (.bool c) => if c = true then b δ s1 k else k (.d (.bool false)) s1
  | _ => False
def dOrV (a b : DE) (δ : DEnv) (s : Hs) (k : DK) : Prop := a δ s fun x s1 => match x with
  | .d (.bool c) => if c = true then k (.d (.bool true)) s1 else b δ s1 k
  | _ => False
def dNotV (a : DE) (δ : DEnv) (s : Hs) (k : DK) : Prop := a δ s fun x s1 => match x with
  | .d (.bool c) => k (.d (.bool (!c))) s1
  | _ => False
theorem sAndV {t u : TE} {a b : DE} (ha : SE t a) (hb : SE u b) : SE (tAndV t u) (dAndV a b) := by
  intro δ s k σ G H Q h ok env post
  refine ha _ _ _ _ _ _ _ h ok env fun x s1 u1 G1 H1 ok1 e1 i1 q1 => ?_
  split at q1
  · rename_i c
    cases i1
    refine ⟨c, rfl, ?_⟩
    by_cases hx : c = true
    · rw [if_pos hx] at q1 ⊢
      exact hb _ _ _ _ _ _ _ q1 ok1 (env.mono e1) (post.up e1)
    · rw [if_neg hx] at q1 ⊢
      exact post _ _ _ _ _ ok1 e1 (isd (.bl false)) q1
  · exact q1.elim
theorem sOrV {t u : TE} {a b : DE} (ha : SE t a) (hb : SE u b) : SE (tOrV t u) (dOrV a b) := by
  intro δ s k σ G H Q h ok env post
  refine ha _ _ _ _ _ _ _ h ok env fun x s1 u1 G1 H1 ok1 e1 i1 q1 => ?_
  split at q1
  · rename_i c
    cases i1
    refine ⟨c, rfl, ?_⟩
    by_cases hx : c = true
    · rw [if_pos hx] at q1 ⊢
      exact post _ _ _ _ _ ok1 e1 (isd (.bl true)) q1
    · rw [if_neg hx] at q1 ⊢
      exact hb _ _ _ _ _ _ _ q1 ok1 (env.mono e1) (post.up e1)
  · exact q1.elim
theorem sNotV {t : TE} {a : DE} (ha : SE t a) : SE (tNotV t) (dNotV a) := by
  intro δ s k σ G H Q h ok env post
  refine ha _ _ _ _ _ _ _ h ok env fun x s1 u1 G1 H1 ok1 e1 i1 q1 => ?_
  split at q1
  · rename_i c
    cases i1
    exact ⟨c, rfl, post _ _ _ _ _ ok1 e1 (isd (.bl (!c))) q1⟩
  · exact q1.elim
def dIf (c : DT) (a b : DE) (δ : DEnv) (s : Hs) (k : DK) : Prop := c δ s fun x s1 => if x = true then a δ s1 k else b δ s1 k
theorem sIf {t : TT} {ta tb : TE} {c : DT} {a b : DE} (hc : SB t c) (ha : SE ta a) (hb : SE tb b) : SE (tIf t ta tb) (dIf c a b) := by
  intro δ s k σ G H Q h ok env post
  refine hc _ _ _ _ _ _ _ h ok env fun x s1 G1 H1 ok1 e1 q1 => ?_
  by_cases hx : x = true
  · rw [if_pos hx] at q1 ⊢
    exact ha _ _ _ _ _ _ _ q1 ok1 (env.mono e1) (post.up e1)
  · rw [if_neg hx] at q1 ⊢
    exact hb _ _ _ _ _ _ _ q1 ok1 (env.mono e1) (post.up e1)
def dChain (r r' : D2) (a b c : DE) (δ : DEnv) (s : Hs) (k : DK) : Prop := a δ s fun x s1 => b δ s1 fun y s2 => r x y s2 fun z s3 => match z with
  | .d (.bool q) => if q = true then c δ s3 fun w s4 => r' y w s4 k else k (.d (.bool false)) s3
  | _ => False
theorem sChain {r r' : R2} {dr dr' : D2} {ta tb tc : TE} {a b c : DE} (hr : S2 r dr) (hr' : S2 r' dr') (ha : SE ta a) (hb : SE tb b) (hc : SE tc c) : SE (tChain r r' ta tb tc) (dChain dr dr' a b c) := by
  intro δ s k σ G H Q h ok env post
  refine ha _ _ _ _ _ _ _ h ok env fun w1 s1 u1 G1 H1 ok1 e1 i1 q1 => ?_
  refine hb _ _ _ _ _ _ _ q1 ok1 (env.mono e1) fun w2 s2 u2 G2 H2 ok2 e2 i2 q2 => ?_
  refine hr _ _ _ _ _ _ _ _ _ q2 ok2 (i1.mono e2) i2 fun w3 s3 u3 G3 H3 ok3 e3 i3 q3 => ?_
  split at q3
  · rename_i q
    cases i3
    refine ⟨q, rfl, ?_⟩
    by_cases hx : q = true
    · rw [if_pos hx] at q3 ⊢
      refine hc _ _ _ _ _ _ _ q3 ok3 (env.mono ((e1.trans e2).trans e3)) fun w4 s4 u4 G4 H4 ok4 e4 i4 q4 => ?_
      exact hr' _ _ _ _ _ _ _ _ _ q4 ok4 (i2.mono (e3.trans e4)) i4 (post.up (((e1.trans e2).trans e3).trans e4))
    · rw [if_neg hx] at q3 ⊢
      exact post _ _ _ _ _ ok3 ((e1.trans e2).trans e3) (isd (.bl false)) q3
  · exact q3.elim
def dCB (r : List W → Hs → DK → Prop) (a : DA) (δ : DEnv) (s : Hs) (k : DK) : Prop := a δ s fun ws s1 => r ws s1 k
theorem sCB {r : List V → Hp → VK → Prop} {d : List W → Hs → DK → Prop} {t : TA} {a : DA} (hr : SCB r d) (ha : SA t a) : SE (tCB r t) (dCB d a) := by
  intro δ s k σ G H Q h ok env post
  refine ha _ _ _ _ _ _ _ h ok env fun w1 s1 u1 G1 H1 ok1 e1 i1 q1 => ?_
  exact hr _ _ _ _ _ _ _ q1 ok1 i1 (post.up e1)
def dCall (f : DF) (a : DA) (δ : DEnv) (s : Hs) (k : DK) : Prop := a δ s fun ws s1 => f ws s1 k
theorem sCall {sp : Sp} {f : DF} {E : XK} {t : TA} {a : DA} (hf : SF sp f) (ha : SA t a) : SE (tCall sp [] E t) (dCall f a) := by
  intro δ s k σ G H Q h ok env post
  refine ha _ _ _ _ _ _ _ h ok env fun w1 s1 u1 G1 H1 ok1 e1 i1 q1 => ?_
  show sp (u1 ++ []) H1 Q E
  rw [List.append_nil]
  exact hf _ _ _ _ _ _ _ _ q1 ok1 i1 (post.up e1)
/-- a method of an owned instance -/
def dMeth (C : Addr) (m : Str) (f : DF) (o : DE) (a : DA) (δ : DEnv) (s : Hs) (k : DK) : Prop := o δ s fun w s1 => ∃ p fs, w = .v (.ref p) ∧ s1 p = some (.ins C fs) ∧ fs.lookup m = none ∧ a δ s1 fun ws s2 => f (w :: ws) s2 k
theorem lookup_isK {G : Hp} {m : Str} {fs : List (Str × W)} {us : List (Str × V)} (r : IsK G fs us) : (fs.lookup m = none → us.lookup m = none) ∧ ∀ w, fs.lookup m = some w → ∃ u, us.lookup m = some u ∧ Is G w u := by
  induction r with
  | nil => exact ⟨fun _ => rfl, fun w e => nomatch e⟩
  | @cons p q ps qs h t ih =>
    obtain ⟨n, x⟩ := p
    obtain ⟨n', y⟩ := q
    obtain ⟨e, i⟩ := h
    dsimp only at e i
    subst e
    rw [List.lookup_cons, List.lookup_cons]
    cases m == n with
    | true => exact ⟨fun z => (nomatch z), fun w z => by cases z; exact ⟨y, rfl, i⟩⟩
    | false => exact ih
theorem sMeth {C : Addr} {m : Str} {sp : Sp} {f : DF} {E : XK} {to : TE} {o : DE} {t : TA} {a : DA} (hf : SF sp f) (ho : SE to o) (ha : SA t a) : SE (tMeth C m sp [] E to t) (dMeth C m f o a) := by
  intro δ s k σ G H Q h ok env post
  refine ho _ _ _ _ _ _ _ h ok env fun w1 s1 u1 G1 H1 ok1 e1 i1 q1 => ?_
  obtain ⟨p, fs, rfl, hs, hl, q⟩ := q1
  obtain rfl : u1 = V.ref p := i1
  obtain ⟨_, ob, hp, dx, us, rfl, r⟩ := ok1.cell p _ hs
  refine ⟨p, dx, us, rfl, hp, (lookup_isK r).1 hl, ?_⟩
  refine ha _ _ _ _ _ _ _ q ok1 (env.mono e1) fun w2 s2 u2 G2 H2 ok2 e2 i2 q2 => ?_
  show sp (_ :: (u2 ++ [])) H2 Q E
  rw [List.append_nil]
  exact hf _ _ _ _ _ _ _ _ q2 ok2 (.cons rfl i2) (post.up (e1.trans e2))
/-- a new instance, then its __init__ -/
def dMake (C : Addr) (f : DF) (a : DA) (δ : DEnv) (s : Hs) (k : DK) : Prop := a δ s fun ws s1 => ∀ p, s1 p = none → f (.v (.ref p) :: ws) (put s1 p (.ins C [])) fun w s2 => w = .d .none ∧ k (.v (.ref p)) s2
theorem sMake {C : Addr} {sp : Sp} {f : DF} {E : XK} {t : TA} {a : DA} (hf : SF sp f) (ha : SA t a) : SE (tMake C sp [] E t) (dMake C f a) := by
  intro δ s k σ G H Q h ok env post
  refine ha _ _ _ _ _ _ _ h ok env fun w1 s1 u1 G1 H1 ok1 e1 i1 q1 => ?_
  intro x dx hx hdx hne
  have n1 := (ok1.new (o := .own x) hdx)
  have hx2 : upd H1 dx (.own x) x = none := by rw [upd_ne (Ne.symm hne)]; exact hx
  have n2 := n1.1.own (c := .ins C []) (o := .ins C dx []) hx2 ⟨dx, [], rfl, .nil⟩
  show sp (_ :: (u1 ++ [])) _ _ E
  rw [List.append_nil]
  refine hf _ _ _ _ _ _ _ _ (q1 x (ok1.fresh hx)) n2 (.cons rfl (i1.mono n1.2)) fun w2 s2 u2 G2 H2 ok2 e2 i2 q2 => ?_
  obtain ⟨rfl, q3⟩ := q2
  cases i2
  exact ⟨rfl, post _ _ _ _ _ ok2 ((e1.trans n1.2).trans e2) isv q3⟩
/-- a field of an owned instance -/
def dFld (C : Addr) (f : Str) (o : DE) (δ : DEnv) (s : Hs) (k : DK) : Prop := o δ s fun w s1 => ∃ p fs x, w = .v (.ref p) ∧ s1 p = some (.ins C fs) ∧ fs.lookup f = some x ∧ k x s1
theorem sFldE {K : PySem.W.Frag} {C : Addr} {f : Str} {to : TE} {o : DE} (hc : Cls K C) (hn : NoAttr K C f) (ho : SE to o) : SE (tFld K to f) (dFld C f o) := by
  intro δ s k σ G H Q h ok env post
  refine ho _ _ _ _ _ _ _ h ok env fun w1 s1 u1 G1 H1 ok1 e1 i1 q1 => ?_
  obtain ⟨p, fs, x, rfl, hs, hl, q⟩ := q1
  obtain rfl : u1 = V.ref p := i1
  obtain ⟨_, ob, hp, dx, us, rfl, r⟩ := ok1.cell p _ hs
  obtain ⟨y, hy, iy⟩ := (lookup_isK r).2 x hl
  exact ⟨p, C, dx, us, y, rfl, hp, hc, hn, hy, post _ _ _ _ _ ok1 e1 iy q⟩
/-- displays -/
def newT (ws : List W) (s : Hs) (k : DK) : Prop := match datas ws with
  | some xs => k (.d (.tuple xs)) s
  | none => ∀ p, s p = none → k (.v (.ref p)) (put s p (.tup ws))
def newL (ws : List W) (s : Hs) (k : DK) : Prop := match datas ws with
  | some xs => k (.d (.list xs)) s
  | none => False
def newO (ws : List W) (s : Hs) (k : DK) : Prop := ∀ p, s p = none → k (.v (.ref p)) (put s p (.lst ws))
theorem newT_ok {ws : List W} {s : Hs} {k : DK} {us : List V} {G H : Hp} {Q : VK} (h : newT ws s k) (ok : Ok s G H) (i : IsA G ws us) (post : PostV G k Q) {p : Addr} (hp : H p = none) : Q (.ref p) (upd H p (.tup us)) := by
  unfold newT at h
  split at h
  · rename_i xs e
    have n := ok.new (o := .tup us) hp
    exact post _ _ _ _ _ n.1 n.2 (isd (.tup upd_same (DdA.mono n.2 (datas_ok e i)))) h
  · exact post _ _ _ _ _ (ok.own hp (cTup i)) (Ex.refl G) isv (h p (ok.fresh hp))
theorem newL_ok {ws : List W} {s : Hs} {k : DK} {us : List V} {G H : Hp} {Q : VK} (h : newL ws s k) (ok : Ok s G H) (i : IsA G ws us) (post : PostV G k Q) {p : Addr} (hp : H p = none) : Q (.ref p) (upd H p (.lst us)) := by
  unfold newL at h
  split at h
  · rename_i xs e
    have n := ok.new (o := .lst us) hp
    exact post _ _ _ _ _ n.1 n.2 (isd (.lst upd_same (DdA.mono n.2 (datas_ok e i)))) h
  · exact h.elim
theorem newO_ok {ws : List W} {s : Hs} {k : DK} {us : List V} {G H : Hp} {Q : VK} (h : newO ws s k) (ok : Ok s G H) (i : IsA G ws us) (post : PostV G k Q) {p : Addr} (hp : H p = none) : Q (.ref p) (upd H p (.lst us)) :=
  post _ _ _ _ _ (ok.own hp (cLst i)) (Ex.refl G) isv (h p (ok.fresh hp))
def dTup (a : DA) (δ : DEnv) (s : Hs) (k : DK) : Prop := a δ s fun ws s1 => ws.length ≤ 1000 ∧ newT ws s1 k
def dLst (a : DA) (δ : DEnv) (s : Hs) (k : DK) : Prop := a δ s fun ws s1 => ws.length ≤ 1000 ∧ newL ws s1 k
def dLstO (a : DA) (δ : DEnv) (s : Hs) (k : DK) : Prop := a δ s fun ws s1 => ws.length ≤ 1000 ∧ newO ws s1 k
theorem sz1000 {n : Nat} (h : n ≤ 1000) : n ≤ sizeLine := sz_of (Nat.le_trans h (by decide))
theorem sTup {t : TA} {a : DA} (ha : SA t a) : SE (tTup t) (dTup a) := by
  intro δ s k σ G H Q h ok env post
  refine ha _ _ _ _ _ _ _ h ok env fun w1 s1 u1 G1 H1 ok1 e1 i1 q1 => ?_
  exact ⟨by rw [← paired_len i1]; exact sz1000 q1.1, fun p hp => newT_ok q1.2 ok1 i1 (post.up e1) hp⟩
theorem sLst {t : TA} {a : DA} (ha : SA t a) : SE (tLst t) (dLst a) := by
  intro δ s k σ G H Q h ok env post
  refine ha _ _ _ _ _ _ _ h ok env fun w1 s1 u1 G1 H1 ok1 e1 i1 q1 => ?_
  exact ⟨by rw [← paired_len i1]; exact sz1000 q1.1, fun p hp => newL_ok q1.2 ok1 i1 (post.up e1) hp⟩
theorem sLstO {t : TA} {a : DA} (ha : SA t a) : SE (tLst t) (dLstO a) := by
  intro δ s k σ G H Q h ok env post
  refine ha _ _ _ _ _ _ _ h ok env fun w1 s1 u1 G1 H1 ok1 e1 i1 q1 => ?_
  exact ⟨by rw [← paired_len i1]; exact sz1000 q1.1, fun p hp => newO_ok q1.2 ok1 i1 (post.up e1) hp⟩
/-- [..] * n of data, owned -/
def dNoPart (_x0 : DEnv) (s : Hs) (k : Option Int → Hs → Prop) : Prop := k none s
def dPart (a : DE) (δ : DEnv) (s : Hs) (k : Option Int → Hs → Prop) : Prop := a δ s fun w s1 => match w with
  | .d (.int i) => k (some i) s1
  | _ => False
theorem sNoPart : SO tNoPart dNoPart := fun δ s k σ G H Q h ok env post => post _ _ _ _ ok (Ex.refl G) h
theorem sPart {ta : TE} {a : DE} (ha : SE ta a) : SO (tPart ta) (dPart a) := by
  intro δ s k σ G H Q h ok env post
  refine ha _ _ _ _ _ _ _ h ok env fun w1 s1 u1 G1 H1 ok1 e1 i1 q1 => ?_
  split at q1
  · rename_i i
    cases i1
    exact ⟨i, rfl, post _ _ _ _ ok1 e1 q1⟩
  · exact q1.elim
end U

set_option maxHeartbeats 2000000
/-! U7: operators, subscripts, slices, calls at the level of data. -/
namespace U
open PySem PySem.Spec PyProof.Rows L2 Evl
/-! ### arithmetic -/
def dAdd (w1 : W) (w2 : W) (s : Hs) (k : DK) : Prop := match w1, w2 with
  | .d (.int i), .d (.int j) => k (.d (.int (i + j))) s
  | .d (.str a), .d (.str b) => a.length + b.length ≤ 100000 ∧ k (.d (.str (a ++ b))) s
  | .d (.tuple a), .d (.tuple b) => a.length + b.length ≤ 100000 ∧ k (.d (.tuple (a ++ b))) s
  | .d (.list a), .d (.list b) => a.length + b.length ≤ 100000 ∧ k (.d (.list (a ++ b))) s
  | _, _ => False
theorem addD {K : PySem.W.Frag} : S2 (rAddU K) dAdd := by
  intro w1 w2 s k u1 u2 G H Q h ok i1 i2 post
  unfold dAdd at h
  split at h
  · cases i1; cases i2
    exact post _ _ _ _ _ ok (Ex.refl G) (isd (.int _)) h
  · cases i1; cases i2
    exact ⟨sz_of h.1, post _ _ _ _ _ ok (Ex.refl G) (isd (.str _)) h.2⟩
  · rename_i a b
    cases i1 with
    | @tup p1 us1 _ h1 r1 => cases i2 with
      | @tup p2 us2 _ h2 r2 =>
        have l1 := r1.length
        have l2 := r2.length
        refine .inr ⟨p1, p2, us1, us2, rfl, rfl, st_of (ok.ex _ _ h1), st_of (ok.ex _ _ h2), sz_of (by omega), fun e => ?_, fun _ e => ?_, fun _ _ p hp => ?_⟩
        · subst e
          obtain rfl : a = [] := List.eq_nil_of_length_eq_zero l1
          exact post _ _ _ _ _ ok (Ex.refl G) (isd (.tup h2 r2)) h.2
        · subst e
          obtain rfl : b = [] := List.eq_nil_of_length_eq_zero l2
          exact post _ _ _ _ _ ok (Ex.refl G) (isd (.tup h1 (by rw [List.append_nil]; exact r1))) h.2
        · have n := ok.new (o := .tup (us1 ++ us2)) hp
          exact post _ _ _ _ _ n.1 n.2 (isd (.tup upd_same (DdA.mono n.2 (r1.append r2)))) h.2
  · rename_i a b
    cases i1 with
    | @lst p1 us1 _ h1 r1 => cases i2 with
      | @lst p2 us2 _ h2 r2 =>
        have l1 := r1.length
        have l2 := r2.length
        refine .inl ⟨p1, p2, us1, us2, rfl, rfl, ok.ex _ _ h1, ok.ex _ _ h2, sz_of (by omega), fun p hp => ?_⟩
        have n := ok.new (o := .lst (us1 ++ us2)) hp
        exact post _ _ _ _ _ n.1 n.2 (isd (.lst upd_same (DdA.mono n.2 (r1.append r2)))) h.2
  · exact h.elim
def dI2 (C : Int → Int → Prop) (f : Int → Int → PyData) (w1 : W) (w2 : W) (s : Hs) (k : DK) : Prop := match w1, w2 with
  | .d (.int i), .d (.int j) => C i j ∧ k (.d (f i j)) s
  | _, _ => False
theorem i2D {r : R2} {C : Int → Int → Prop} {f : Int → Int → PyData} {g : Int → Int → V} (hg : ∀ G i j, Dd G (f i j) (g i j)) (hr : ∀ i j H Q, C i j → Q (g i j) H → r (.int i) (.int j) H Q) : S2 r (dI2 C f) := by
  intro w1 w2 s k u1 u2 G H Q h ok i1 i2 post
  unfold dI2 at h
  split at h
  · cases i1; cases i2
    exact hr _ _ _ _ h.1 (post _ _ _ _ _ ok (Ex.refl G) (isd (hg _ _ _)) h.2)
  · exact h.elim
def dSub (w1 : W) (w2 : W) (s : Hs) (k : DK) : Prop := match w1, w2 with
  | .d (.int i), .d (.int j) => k (.d (.int (i - j))) s
  | _, _ => False
theorem subD : S2 rSubU dSub := by
  intro w1 w2 s k u1 u2 G H Q h ok i1 i2 post
  unfold dSub at h
  split at h
  · cases i1; cases i2
    exact post _ _ _ _ _ ok (Ex.refl G) (isd (.int _)) h
  · exact h.elim
abbrev dMod : D2 := dI2 (fun _ j => 0 < j) fun i j => .int (i % j)
abbrev dDiv : D2 := dI2 (fun i j => CDiv i j ∨ CDivW i j) fun i j => .int (i / j)
abbrev dPow : D2 := dI2 CPow fun i j => .int (i ^ j.toNat)
abbrev dShl : D2 := dI2 CPow fun i j => .int (i * 2 ^ j.toNat)
abbrev dShr : D2 := dI2 (fun _ j => 0 ≤ j) fun i j => .int (i / 2 ^ j.toNat)
abbrev dBAnd : D2 := dI2 (fun _ _ => True) fun i j => .int (Builtin.bitAnd i j)
abbrev dBOr : D2 := dI2 (fun _ _ => True) fun i j => .int (Builtin.bitOr i j)
theorem modD : S2 rModU dMod := i2D (fun _ _ _ => .int _) fun _ _ _ _ c q => ⟨c, q⟩
theorem divD : S2 rDivU dDiv := i2D (fun _ _ _ => .int _) fun _ _ _ _ c q => ⟨c, q⟩
theorem powD : S2 rPowU dPow := i2D (fun _ _ _ => .int _) fun _ _ _ _ c q => ⟨c, q⟩
theorem shlD : S2 rShlU dShl := i2D (fun _ _ _ => .int _) fun _ _ _ _ c q => ⟨c, q⟩
theorem shrD : S2 rShrU dShr := i2D (fun _ _ _ => .int _) fun _ _ _ _ c q => ⟨c, q⟩
theorem andD : S2 rAndU dBAnd := i2D (fun _ _ _ => .int _) fun _ _ _ _ _ q => q
theorem orD : S2 rOrU dBOr := i2D (fun _ _ _ => .int _) fun _ _ _ _ _ q => q
def repD {α : Type} (n : Nat) (xs : List α) : List α := (List.replicate n xs).flatten
/-- i * j; [..] * n of data; (an owned one: dMulO) -/
def dMul (w1 : W) (w2 : W) (s : Hs) (k : DK) : Prop := match w1, w2 with
  | .d (.int i), .d (.int j) => CMulW i j ∧ k (.d (.int (i * j))) s
  | .d (.list a), .d (.int j) => (-(2 ^ 63) ≤ j ∧ j < 2 ^ 63 ∧ a.length * j.toNat ≤ 100000) ∧ k (.d (.list (repD j.toNat a))) s
  | .d (.tuple a), .d (.int j) => (a ≠ [] ∧ 2 ≤ j ∧ j ≤ 1000 ∧ a.length ≤ 1000) ∧ k (.d (.tuple (repD j.toNat a))) s
  | _, _ => False
theorem DdA.rep {H : Hp} {a : List PyData} {u : List V} (h : DdA H a u) : ∀ n : Nat, DdA H (repD n a) (repD n u)
  | 0 => .nil
  | n + 1 => by
    have ih := DdA.rep h n
    unfold repD at ih ⊢
    rw [List.replicate_succ, List.replicate_succ, List.flatten_cons, List.flatten_cons]
    exact h.append ih
theorem mulD {K : PySem.W.Frag} : S2 (rMulU K) dMul := by
  intro w1 w2 s k u1 u2 G H Q h ok i1 i2 post
  unfold dMul at h
  split at h
  · cases i1; cases i2
    exact ⟨.inr h.1, post _ _ _ _ _ ok (Ex.refl G) (isd (.int _)) h.2⟩
  · cases i2
    cases i1 with
    | @lst p1 us1 _ h1 r1 =>
      have l1 := r1.length
      obtain ⟨⟨c1, c2, c3⟩, q⟩ := h
      refine .inl ⟨p1, _, us1, rfl, rfl, ok.ex _ _ h1, c1, c2, sz_of (by rw [← l1]; exact c3), fun p hp => ?_⟩
      have r2 := r1.rep
      have n := fun m => ok.new (o := .lst (repD m us1)) hp
      exact post _ _ _ _ _ (n _).1 (n _).2 (isd (.lst upd_same (DdA.mono (n _).2 (r2 _)))) q
  · cases i2
    cases i1 with
    | @tup p1 us1 _ h1 r1 =>
      have l1 := r1.length
      obtain ⟨⟨c1, c2, c3, c4⟩, q⟩ := h
      refine .inr ⟨p1, _, us1, rfl, rfl, st_of (ok.ex _ _ h1), fun e => c1 (by subst e; exact List.eq_nil_of_length_eq_zero l1), c2, c3, by omega, fun p hp => ?_⟩
      have r2 := r1.rep
      have n := fun m => ok.new (o := .tup (repD m us1)) hp
      exact post _ _ _ _ _ (n _).1 (n _).2 (isd (.tup upd_same (DdA.mono (n _).2 (r2 _)))) q
  · exact h.elim
def dMulO (w1 : W) (w2 : W) (s : Hs) (k : DK) : Prop := match w1, w2 with
  | .d (.list a), .d (.int j) => (-(2 ^ 63) ≤ j ∧ j < 2 ^ 63 ∧ a.length * j.toNat ≤ 100000) ∧ ∀ p, s p = none → k (.v (.ref p)) (put s p (.lst ((repD j.toNat a).map .d)))
  | _, _ => False
theorem mulO {K : PySem.W.Frag} : S2 (rMulU K) dMulO := by
  intro w1 w2 s k u1 u2 G H Q h ok i1 i2 post
  unfold dMulO at h
  split at h
  · cases i2
    cases i1 with
    | @lst p1 us1 _ h1 r1 =>
      have l1 := r1.length
      obtain ⟨⟨c1, c2, c3⟩, q⟩ := h
      refine .inl ⟨p1, _, us1, rfl, rfl, ok.ex _ _ h1, c1, c2, sz_of (by rw [← l1]; exact c3), fun p hp => ?_⟩
      exact post _ _ _ _ _ (ok.own hp (cLst (isA_map (r1.rep _)))) (Ex.refl G) isv (q p (ok.fresh hp))
  · exact h.elim

/-! ### comparisons -/
def scalD : PyData → PyData → Bool
  | .none, .none | .none, .int _ | .int _, .none | .none, .bool _ | .bool _, .none | .none, .str _ | .str _, .none => true
  | .int _, .int _ | .bool _, .bool _ | .str _, .str _ | .int _, .str _ | .str _, .int _ | .bool _, .str _ | .str _, .bool _ => true
  | _, _ => false
def eqOk (x y : PyData) : Bool := scalD x y || (SeqAt.shaped x && SeqAt.shaped y)
def dEq (w1 : W) (w2 : W) (s : Hs) (k : DK) : Prop := match asD s w1, asD s w2 with
  | some x, some y => eqOk x y = true ∧ k (.d (.bool (PyData.eqv x y))) s
  | _, _ => False
def dNe (w1 : W) (w2 : W) (s : Hs) (k : DK) : Prop := match asD s w1, asD s w2 with
  | some x, some y => eqOk x y = true ∧ k (.d (.bool (!PyData.eqv x y))) s
  | _, _ => False
theorem scal_of {H : Hp} {x y : PyData} {u v : V} (hx : Dd H x u) (hy : Dd H y v) (h : scalD x y = true) : scal u v = true ∧ decide (u = v) = PyData.eqv x y := by
  cases hx <;> cases hy <;> first | exact absurd h Bool.false_ne_true | (refine ⟨rfl, ?_⟩; simp [PyData.eqv]; try (rw [Bool.eq_iff_iff]; simp))
theorem eqD {K : PySem.W.Frag} : S2 (rEqU K) dEq := by
  intro w1 w2 s k u1 u2 G H Q h ok i1 i2 post
  unfold dEq at h
  split at h
  · rename_i x y hx hy
    have d1 := asD_ok hx ok i1
    have d2 := asD_ok hy ok i2
    have fin : Q (.bl (PyData.eqv x y)) H := post _ _ _ _ _ ok (Ex.refl G) (isd (.bl _)) h.2
    have e := h.1
    unfold eqOk at e
    by_cases hs : scalD x y = true
    · obtain ⟨a, b⟩ := scal_of d1 d2 hs
      unfold rEqU
      split
      · exact absurd a Bool.false_ne_true
      · exact .inl ⟨a, by rw [b]; exact fin⟩
    · rw [Bool.not_eq_true] at hs
      rw [hs, Bool.false_or, Bool.and_eq_true] at e
      have all : rEqD K u1 u2 H Q := ⟨x, y, d1.dp, d2.dp, e.1, e.2, fin⟩
      unfold rEqU
      split
      · exact all
      · exact .inr all
  · exact h.elim
theorem neD {K : PySem.W.Frag} : S2 (rNeU K) dNe := by
  intro w1 w2 s k u1 u2 G H Q h ok i1 i2 post
  unfold dNe at h
  split at h
  · rename_i x y hx hy
    have d1 := asD_ok hx ok i1
    have d2 := asD_ok hy ok i2
    have fin : Q (.bl (!PyData.eqv x y)) H := post _ _ _ _ _ ok (Ex.refl G) (isd (.bl _)) h.2
    have e := h.1
    unfold eqOk at e
    by_cases hs : scalD x y = true
    · obtain ⟨a, b⟩ := scal_of d1 d2 hs
      unfold rNeU
      split
      · exact absurd a Bool.false_ne_true
      · exact .inl ⟨a, by rw [b]; exact fin⟩
    · rw [Bool.not_eq_true] at hs
      rw [hs, Bool.false_or, Bool.and_eq_true] at e
      have all : rNeD K u1 u2 H Q := ⟨x, y, d1.dp, d2.dp, e.1, e.2, fin⟩
      unfold rNeU
      split
      · exact all
      · exact .inr all
  · exact h.elim
def dCmp (f : Int → Int → Bool) (w1 : W) (w2 : W) (s : Hs) (k : DK) : Prop := match w1, w2 with
  | .d (.int i), .d (.int j) => k (.d (.bool (f i j))) s
  | _, _ => False
theorem cmpD {r : R2} {f : Int → Int → Bool} (hr : ∀ i j H Q, Q (.bl (f i j)) H → r (.int i) (.int j) H Q) : S2 r (dCmp f) := by
  intro w1 w2 s k u1 u2 G H Q h ok i1 i2 post
  unfold dCmp at h
  split at h
  · cases i1; cases i2
    exact hr _ _ _ _ (post _ _ _ _ _ ok (Ex.refl G) (isd (.bl _)) h)
  · exact h.elim
abbrev dLt : D2 := dCmp fun i j => decide (i < j)
abbrev dLe : D2 := dCmp fun i j => decide (i ≤ j)
abbrev dGt : D2 := dCmp fun i j => decide (j < i)
abbrev dGe : D2 := dCmp fun i j => decide (j ≤ i)
theorem ltD {K : PySem.W.Frag} : S2 (rLtU K) dLt := cmpD fun _ _ _ _ q => q
theorem leD : S2 rLeU dLe := cmpD fun _ _ _ _ q => q
theorem gtD : S2 rGtU dGt := cmpD fun _ _ _ _ q => q
theorem geD : S2 rGeU dGe := cmpD fun _ _ _ _ q => q
/-- is None -/
def isNone : W → Bool
  | .d .none => true
  | .v .non => true
  | _ => false
def dIs (w1 : W) (w2 : W) (s : Hs) (k : DK) : Prop := match w2 with
  | .d .none => k (.d (.bool (isNone w1))) s
  | .d (.bool b) => ∃ a, w1 = .d (.bool a) ∧ k (.d (.bool (decide (a = b)))) s
  | _ => False
def dIsNot (w1 : W) (w2 : W) (s : Hs) (k : DK) : Prop := match w2 with
  | .d .none => k (.d (.bool (!isNone w1))) s
  | .d (.bool b) => ∃ a, w1 = .d (.bool a) ∧ k (.d (.bool (!decide (a = b)))) s
  | _ => False
theorem isNone_ok {G : Hp} {w : W} {u : V} (i : Is G w u) : decide (u = .non) = isNone w := by
  cases w with
  | d x => cases i <;> rfl
  | v x =>
    obtain rfl : u = x := i
    cases u <;> rfl
  | s K a ns =>
    obtain ⟨rfl, _⟩ := i
    rfl
theorem isD : S2 rIsU dIs := by
  intro w1 w2 s k u1 u2 G H Q h ok i1 i2 post
  unfold dIs at h
  split at h
  · cases i2
    show Q (.bl (decide (u1 = .non))) H
    rw [isNone_ok i1]
    exact post _ _ _ _ _ ok (Ex.refl G) (isd (.bl _)) h
  · cases i2
    obtain ⟨a, rfl, h⟩ := h
    cases i1
    exact ⟨a, rfl, post _ _ _ _ _ ok (Ex.refl G) (isd (.bl _)) h⟩
  · exact h.elim
theorem isNotD : S2 rIsNotU dIsNot := by
  intro w1 w2 s k u1 u2 G H Q h ok i1 i2 post
  unfold dIsNot at h
  split at h
  · cases i2
    show Q (.bl (!decide (u1 = .non))) H
    rw [isNone_ok i1]
    exact post _ _ _ _ _ ok (Ex.refl G) (isd (.bl _)) h
  · cases i2
    obtain ⟨a, rfl, h⟩ := h
    cases i1
    exact ⟨a, rfl, post _ _ _ _ _ ok (Ex.refl G) (isd (.bl _)) h⟩
  · exact h.elim

/-! ### dicts: keys, what is there, what is put -/
def keyOf : PyData → Option Key
  | .int i => some (.inl i)
  | .str z => some (.inr z)
  | _ => none
def keysOf : List PyData → Option (List Key)
  | [] => some []
  | x :: r => match keyOf x, keysOf r with
    | some a, some b => some (a :: b)
    | _, _ => none
theorem keyOf_ok {G : Hp} {x : PyData} {u : V} {k : Key} (h : keyOf x = some k) (d : Dd G x u) : u = kV k := by
  cases d <;> first | (cases h; rfl) | cases h
theorem keysOf_ok {G : Hp} : ∀ {xs : List PyData} {us : List V} {ks : List Key}, keysOf xs = some ks → DdA G xs us → us = ks.map kV
  | [], _, _, h, .nil => by cases h; rfl
  | x :: r, _, ks, h, .cons a b => by
    unfold keysOf at h
    split at h
    · rename_i k1 k2 e1 e2
      cases h
      rw [keyOf_ok e1 a, keysOf_ok e2 b]
      rfl
    · cases h
section
variable {κ : Type} [DecidableEq κ]
def valW (kvs : List (κ × W)) (k : κ) : Option W := (kvs.find? fun kv => decide (kv.1 = k)).map (·.2)
def putW (kvs : List (κ × W)) (k : κ) (v : W) : List (κ × W) :=
  if (kvs.any fun kv => decide (kv.1 = k)) = true then kvs.map (fun kv => if kv.1 = k then (kv.1, v) else kv) else kvs ++ [(k, v)]
theorem valW_ok {G : Hp} {kvs : List (κ × W)} {us : List (κ × V)} (r : IsK G kvs us) (k : κ) : (valW kvs k = none → valV us k = none) ∧ ∀ w, valW kvs k = some w → ∃ u, valV us k = some u ∧ Is G w u := by
  induction r with
  | nil => exact ⟨fun _ => rfl, fun w e => nomatch e⟩
  | @cons p q ps qs h t ih =>
    obtain ⟨h1, h2⟩ := h
    by_cases e : p.1 = k
    · have e' : q.1 = k := h1.symm.trans e
      rw [valV_pos e']
      have b : valW (p :: ps) k = some p.2 := by simp [valW, List.find?_cons, e]
      rw [b]
      exact ⟨fun z => (nomatch z), fun w z => by cases z; exact ⟨_, rfl, h2⟩⟩
    · have e' : ¬ q.1 = k := fun z => e (h1.trans z)
      rw [valV_neg e']
      have b : valW (p :: ps) k = valW ps k := by simp [valW, List.find?_cons, e]
      rw [b]
      exact ih
theorem anyK_ok {G : Hp} {kvs : List (κ × W)} {us : List (κ × V)} (r : IsK G kvs us) (k : κ) : (kvs.any fun kv => decide (kv.1 = k)) = us.any fun kv => decide (kv.1 = k) := by
  induction r with
  | nil => rfl
  | cons h t ih => rw [List.any_cons, List.any_cons, ih, h.1]
theorem replK_ok {G : Hp} {kvs : List (κ × W)} {us : List (κ × V)} (r : IsK G kvs us) (k : κ) {w : W} {u : V} (i : Is G w u) : IsK G (kvs.map fun kv => if kv.1 = k then (kv.1, w) else kv) (us.map fun kv => if kv.1 = k then (kv.1, u) else kv) := by
  induction r with
  | nil => exact .nil
  | @cons p q ps qs h t ih =>
    rw [List.map_cons, List.map_cons]
    refine .cons ?_ ih
    obtain ⟨h1, h2⟩ := h
    by_cases e : p.1 = k
    · rw [if_pos e, if_pos (h1.symm.trans e)]; exact ⟨h1, i⟩
    · rw [if_neg e, if_neg (fun z => e (h1.trans z))]; exact ⟨h1, h2⟩
theorem putW_ok {G : Hp} {kvs : List (κ × W)} {us : List (κ × V)} (r : IsK G kvs us) (k : κ) {w : W} {u : V} (i : Is G w u) : IsK G (putW kvs k w) (putK us k u) := by
  unfold putW putK
  rw [anyK_ok r]
  by_cases h : (us.any fun kv => decide (kv.1 = k)) = true
  · rw [if_pos h, if_pos h]; exact replK_ok r k i
  · rw [if_neg h, if_neg h]; exact Paired.snoc r ⟨rfl, i⟩
end
/-- what an owned dict holds at a key: none, no dict or no key of its kind -/
def getD (s : Hs) : W → W → Option (Option W)
  | .v (.ref p), .d x => match s p with
    | some (.dK kvs) => (keyOf x).map fun k => valW kvs k
    | some (.dT kvs) => match x with
      | .tuple xs => (keysOf xs).map fun k => valW kvs k
      | _ => none
    | _ => none
  | _, _ => none
theorem getD_ok {s : Hs} {G H : Hp} {w1 w2 : W} {u1 u2 : V} {o : Option W} (h : getD s w1 w2 = some o) (ok : Ok s G H) (i1 : Is G w1 u1) (i2 : Is G w2 u2) :
    ∃ a r, u1 = .ref a ∧ DGet H a u2 r ∧ (o = none → r = none) ∧ ∀ w, o = some w → ∃ u, r = some u ∧ Is G w u := by
  unfold getD at h
  split at h
  · rename_i p x
    obtain rfl : u1 = V.ref p := i1
    split at h
    · rename_i kvs hs
      obtain ⟨_, ob, hp, us, rfl, r⟩ := ok.cell p _ hs
      cases e : keyOf x with
      | none => rw [e] at h; cases h
      | some k =>
        rw [e] at h
        cases h
        obtain rfl := keyOf_ok e i2
        exact ⟨p, valV us k, rfl, DGet.k hp, (valW_ok r k).1, (valW_ok r k).2⟩
    · rename_i kvs hs
      obtain ⟨_, ob, hp, us, rfl, r⟩ := ok.cell p _ hs
      split at h
      · rename_i xs
        cases e : keysOf xs with
        | none => rw [e] at h; cases h
        | some k =>
          rw [e] at h
          cases h
          cases i2 with
          | @tup b vs _ hb rb =>
            have := keysOf_ok e rb
            subst this
            exact ⟨p, valV us k, rfl, DGet.t hp (ok.ex _ _ hb), (valW_ok r k).1, (valW_ok r k).2⟩
      · cases h
    · cases h
  · cases h
/-! ### in -/
def flatD : PyData → Bool
  | .none | .bool _ | .int _ | .str _ => true
  | _ => false
theorem flat_ok {G : Hp} {x : PyData} {u : V} (d : Dd G x u) (h : flatD x = true) : flatV u = true := by
  cases d <;> first | rfl | exact absurd h Bool.false_ne_true
theorem flats_ok {G : Hp} : ∀ {xs : List PyData} {us : List V}, DdA G xs us → xs.all flatD = true → us.all flatV = true
  | _, _, .nil, _ => rfl
  | _, _, .cons a b, h => by
    rw [List.all_cons, Bool.and_eq_true] at h
    rw [List.all_cons, flat_ok a h.1, flats_ok b h.2]
    rfl
theorem eqV_ok {G : Hp} {x y : PyData} {u v : V} (d : Dd G x u) (e : Dd G y v) (h : flatD x = true) (h' : flatD y = true) : eqV u v = PyData.eqv x y := by
  cases d <;> cases e <;> first | rfl | exact absurd h Bool.false_ne_true | exact absurd h' Bool.false_ne_true | (simp [eqV, PyData.eqv])
def memD (x : PyData) (xs : List PyData) : Bool := xs.any fun y => PyData.eqv y x
theorem inV_ok {G : Hp} {x : PyData} {u : V} (d : Dd G x u) (h : flatD x = true) : ∀ {xs : List PyData} {us : List V}, DdA G xs us → xs.all flatD = true → inV u us = memD x xs
  | _, _, .nil, _ => rfl
  | y :: xs, v :: us, .cons a b, h' => by
    rw [List.all_cons, Bool.and_eq_true] at h'
    have ih := inV_ok d h b h'.2
    unfold inV memD at ih ⊢
    rw [List.any_cons, List.any_cons, ih, eqV_ok a d h'.1 h]
/-- x in y, as data: y's items -/
def itemsD (s : Hs) (w : W) : Option (Bool × List PyData) := match asD s w with
  | some (.list xs) => some (true, xs)
  | some (.tuple xs) => some (false, xs)
  | _ => none
def dInB (neg : Bool) (w1 : W) (w2 : W) (s : Hs) (k : DK) : Prop := match getD s w2 w1 with
  | some o => k (.d (.bool (if neg then !o.isSome else o.isSome))) s
  | none => match itemsD s w2, asD s w1 with
    | some (l, xs), some x => ((flatD x = true ∧ xs.all flatD = true) ∨ (l = true ∧ SeqAt.shaped x = true ∧ SeqAt.shaped (.list xs) = true)) ∧ k (.d (.bool (if neg then !memD x xs else memD x xs))) s
    | _, _ => False
abbrev dIn : D2 := dInB false
abbrev dNotIn : D2 := dInB true
theorem isSome_of {G : Hp} {o : Option W} {r : Option V} (h1 : o = none → r = none) (h2 : ∀ w, o = some w → ∃ u, r = some u ∧ Is G w u) : r.isSome = o.isSome := by
  cases o with
  | none => rw [h1 rfl]; rfl
  | some w => obtain ⟨u, e, _⟩ := h2 w rfl; rw [e]; rfl
theorem inB {K : PySem.W.Frag} (neg : Bool) {w1 w2 : W} {s : Hs} {k : DK} {u1 u2 : V} {G H : Hp} {Q : VK} (h : dInB neg w1 w2 s k) (ok : Ok s G H) (i1 : Is G w1 u1) (i2 : Is G w2 u2) (post : PostV G k Q) :
    ∃ a, u2 = .ref a ∧ ((∃ o, DGet H a u1 o ∧ Q (.bl (if neg then !o.isSome else o.isSome)) H) ∨ rIn K neg u1 (.ref a) H Q ∨ (∃ d ds, Dp K H u1 d ∧ Dp K H (.ref a) (.list ds) ∧ SeqAt.shaped d = true ∧ SeqAt.shaped (.list ds) = true ∧ Q (.bl (if neg then !ds.any fun z => PyData.eqv z d else ds.any fun z => PyData.eqv z d)) H)) := by
  unfold dInB at h
  split at h
  · rename_i o hg
    obtain ⟨a, r, rfl, g, e1, e2⟩ := getD_ok hg ok i2 i1
    refine ⟨a, rfl, .inl ⟨r, g, ?_⟩⟩
    rw [isSome_of e1 e2]
    exact post _ _ _ _ _ ok (Ex.refl G) (isd (.bl _)) h
  · split at h
    · rename_i l xs x hi hx
      have fin : Q (.bl (if neg then !memD x xs else memD x xs)) H := post _ _ _ _ _ ok (Ex.refl G) (isd (.bl _)) h.2
      have dx := asD_ok hx ok i1
      unfold itemsD at hi
      split at hi
      · rename_i ys hy
        cases hi
        have dy := asD_ok hy ok i2
        cases dy with
        | @lst a us _ ha r =>
          refine ⟨a, rfl, .inr ?_⟩
          rcases h.1 with ⟨f1, f2⟩ | ⟨_, f1, f2⟩
          · refine .inl ⟨a, us, rfl, .inl (sq_of ha), flat_ok dx f1, flats_ok r f2, ?_⟩
            rw [inV_ok dx f1 r f2]
            exact fin
          · exact .inr ⟨x, _, dx.dp, (Dd.lst ha r).dp, f1, f2, fin⟩
      · rename_i ys hy
        cases hi
        have dy := asD_ok hy ok i2
        cases dy with
        | @tup a us _ ha r =>
          refine ⟨a, rfl, .inr ?_⟩
          rcases h.1 with ⟨f1, f2⟩ | ⟨z, _⟩
          · refine .inl ⟨a, us, rfl, .inr (st_of ha), flat_ok dx f1, flats_ok r f2, ?_⟩
            rw [inV_ok dx f1 r f2]
            exact fin
          · exact absurd z Bool.false_ne_true
      · cases hi
    · exact h.elim
theorem inD {K : PySem.W.Frag} : S2 (rInU K) dIn := by
  intro w1 w2 s k u1 u2 G H Q h ok i1 i2 post
  obtain ⟨a, rfl, q⟩ := inB (K := K) false h ok i1 i2 post
  exact q
theorem notInD {K : PySem.W.Frag} : S2 (rNotInU K) dNotIn := by
  intro w1 w2 s k u1 u2 G H Q h ok i1 i2 post
  obtain ⟨a, rfl, q⟩ := inB (K := K) true h ok i1 i2 post
  exact q

/-! ### subscripts -/
theorem atI_ok {G : Hp} {ws : List W} {us : List V} (r : IsA G ws us) {i : Int} {w : W} (h : atI ws i = some w) : ∃ u, atI us i = some u ∧ Is G w u := by
  unfold atI at h ⊢
  rw [← paired_len r]
  cases e : ixN ws.length i with
  | none => rw [e] at h; cases h
  | some j => rw [e] at h; exact paired_get r h
def dIx (w1 : W) (w2 : W) (s : Hs) (k : DK) : Prop := match seqOf s w1 with
  | some ws => match w2 with
    | .d (.int i) => match atI ws i with
      | some w => k w s
      | none => False
    | _ => False
  | none => match getD s w1 w2 with
    | some (some w) => k w s
    | _ => match w1, w2 with
      | .d (.str z), .d (.int i) => z.length ≤ 100000 ∧ ∃ c, atI z.cps.toList i = some c ∧ k (.d (.str ⟨#[c]⟩)) s
      | _, _ => False
theorem ixD {K : PySem.W.Frag} : S2 (rIxU K) dIx := by
  intro w1 w2 s k u1 u2 G H Q h ok i1 i2 post
  unfold dIx at h
  split at h
  · rename_i ws hs
    obtain ⟨a, us, rfl, ha, r⟩ := seqOf_ok hs ok i1
    split at h
    · rename_i i
      cases i2
      split at h
      · rename_i w hw
        obtain ⟨u, e, iu⟩ := atI_ok r hw
        exact .inl ⟨us, i, u, rfl, ha.imp sq_rd st_rd, e, post _ _ _ _ _ ok (Ex.refl G) iu h⟩
      · exact h.elim
    · exact h.elim
  · split at h
    · rename_i w hg
      obtain ⟨a, r, rfl, g, _, e2⟩ := getD_ok hg ok i1 i2
      obtain ⟨u, rfl, iu⟩ := e2 w rfl
      exact .inr ⟨u, g, post _ _ _ _ _ ok (Ex.refl G) iu h⟩
    · split at h
      · cases i1; cases i2
        obtain ⟨hz, c, hc, q⟩ := h
        exact ⟨c, sz_of hz, hc, post _ _ _ _ _ ok (Ex.refl G) (isd (.str _)) q⟩
      · exact h.elim

/-! ### slices -/
def cutD {α : Type} (xs : List α) (lo hi : Option Int) : List α := (xs.drop (HT.sIx xs.length 0 lo)).take (HT.sIx xs.length xs.length hi - HT.sIx xs.length 0 lo)
theorem DdA.cut {H : Hp} {a : List PyData} {u : List V} (h : DdA H a u) (lo hi : Option Int) : DdA H (cutD a lo hi) (cutV u lo hi) := by
  unfold cutD cutV
  rw [← h.length]
  exact (h.drop _).take _
theorem cut_all {α : Type} {xs : List α} {lo hi : Option Int} (h1 : HT.sIx xs.length 0 lo = 0) (h2 : HT.sIx xs.length xs.length hi = xs.length) : cutD xs lo hi = xs := by
  unfold cutD
  rw [h1, h2]
  simp
/-- a list, data or an owned one of data -/
def lstOf (s : Hs) : W → Option (List PyData)
  | .d (.list xs) => some xs
  | .v (.ref p) => match s p with
    | some (.lst ws) => datas ws
    | _ => none
  | _ => none
theorem lstOf_ok {s : Hs} {G H : Hp} {w : W} {u : V} {xs : List PyData} (h : lstOf s w = some xs) (ok : Ok s G H) (i : Is G w u) : ∃ a us, u = .ref a ∧ Rd H a (.lst us) ∧ DdA G xs us := by
  unfold lstOf at h
  split at h
  · cases h
    cases i with
    | lst h r => exact ⟨_, _, rfl, .inl (ok.ex _ _ h), r⟩
  · rename_i p
    obtain rfl : u = V.ref p := i
    split at h
    · rename_i ws hw
      obtain ⟨_, o, hp, us, rfl, r⟩ := ok.cell p _ hw
      exact ⟨p, us, rfl, .inl hp, datas_ok h r⟩
    · cases h
  · cases h
def dSl (a : DE) (lo hi : DO) (δ : DEnv) (s : Hs) (k : DK) : Prop := a δ s fun w s1 => lo δ s1 fun l s2 => hi δ s2 fun h s3 => match lstOf s3 w with
  | some xs => k (.d (.list (cutD xs l h))) s3
  | none => match w with
    | .d (.tuple xs) => k (.d (.tuple (cutD xs l h))) s3
    | .d (.str z) => z.length ≤ 100000 ∧ k (.d (.str (cutS z l h))) s3
    | _ => False
/-- the new list is owned -/
def dSlO (a : DE) (lo hi : DO) (δ : DEnv) (s : Hs) (k : DK) : Prop := a δ s fun w s1 => lo δ s1 fun l s2 => hi δ s2 fun h s3 => match lstOf s3 w with
  | some xs => ∀ p, s3 p = none → k (.v (.ref p)) (put s3 p (.lst ((cutD xs l h).map .d)))
  | none => False
theorem sSl {K : PySem.W.Frag} {ta : TE} {a : DE} {tl th : TO} {lo hi : DO} (ha : SE ta a) (hl : SO tl lo) (hh : SO th hi) : SE (tSl (rSlU K) ta tl th) (dSl a lo hi) := by
  intro δ s k σ G H Q h ok env post
  refine ha _ _ _ _ _ _ _ h ok env fun w1 s1 u1 G1 H1 ok1 e1 i1 q1 => ?_
  refine hl _ _ _ _ _ _ _ q1 ok1 (env.mono e1) fun l s2 G2 H2 ok2 e2 q2 => ?_
  refine hh _ _ _ _ _ _ _ q2 ok2 (env.mono (e1.trans e2)) fun r s3 G3 H3 ok3 e3 q3 => ?_
  have ex := (e1.trans e2).trans e3
  have i3 := i1.mono (e2.trans e3)
  split at q3
  · rename_i xs hx
    obtain ⟨p, us, rfl, hp, rr⟩ := lstOf_ok hx ok3 i3
    refine .inl ⟨p, us, rfl, sq_rd hp, fun q hq => ?_⟩
    have n := ok3.new (o := .lst (cutV us l r)) hq
    exact post _ _ _ _ _ n.1 (ex.trans n.2) (isd (.lst upd_same (DdA.mono n.2 (rr.cut l r)))) q3
  · split at q3
    · rename_i xs _
      cases i3 with
      | @tup p us _ hp rr =>
        have hl := rr.length
        refine .inr ⟨p, us, rfl, st_of (ok3.ex _ _ hp), fun z => ?_, fun z q hq => ?_⟩
        · rw [← hl] at z
          rw [cut_all z.1 z.2] at q3
          exact post _ _ _ _ _ ok3 ex (isd (.tup hp rr)) q3
        · have n := ok3.new (o := .tup (cutV us l r)) hq
          exact post _ _ _ _ _ n.1 (ex.trans n.2) (isd (.tup upd_same (DdA.mono n.2 (rr.cut l r)))) q3
    · cases i3
      exact ⟨sz_of q3.1, post _ _ _ _ _ ok3 ex (isd (.str _)) q3.2⟩
    · exact q3.elim
theorem sSlO {K : PySem.W.Frag} {ta : TE} {a : DE} {tl th : TO} {lo hi : DO} (ha : SE ta a) (hl : SO tl lo) (hh : SO th hi) : SE (tSl (rSlU K) ta tl th) (dSlO a lo hi) := by
  intro δ s k σ G H Q h ok env post
  refine ha _ _ _ _ _ _ _ h ok env fun w1 s1 u1 G1 H1 ok1 e1 i1 q1 => ?_
  refine hl _ _ _ _ _ _ _ q1 ok1 (env.mono e1) fun l s2 G2 H2 ok2 e2 q2 => ?_
  refine hh _ _ _ _ _ _ _ q2 ok2 (env.mono (e1.trans e2)) fun r s3 G3 H3 ok3 e3 q3 => ?_
  have ex := (e1.trans e2).trans e3
  have i3 := i1.mono (e2.trans e3)
  split at q3
  · rename_i xs hx
    obtain ⟨p, us, rfl, hp, rr⟩ := lstOf_ok hx ok3 i3
    refine .inl ⟨p, us, rfl, sq_rd hp, fun q hq => ?_⟩
    exact post _ _ _ _ _ (ok3.own hq (cLst (isA_map (rr.cut l r)))) ex isv (q3 q (ok3.fresh hq))
  · exact q3.elim

/-! ### built-in calls -/
def lenD (s : Hs) (w : W) : Option Nat := match seqOf s w with
  | some ws => some ws.length
  | none => match w with
    | .d (.str z) => if z.length ≤ 100000 then some z.length else none
    | .v (.ref p) => match s p with
      | some (.dK kvs) => some kvs.length
      | _ => none
    | _ => none
def dLen (ws : List W) (s : Hs) (k : DK) : Prop := match ws with
  | [w] => match lenD s w with
    | some n => k (.d (.int n)) s
    | none => False
  | _ => False
theorem lenDD {K : PySem.W.Frag} : SCB (rLenU K) dLen := by
  intro ws s k us G H Q h ok i post
  unfold dLen at h
  split at h
  · rename_i w
    cases i with
    | cons i t =>
      rename_i u _
      cases t
      split at h
      · rename_i n hn
        unfold lenD at hn
        split at hn
        · rename_i xs hs
          cases hn
          obtain ⟨a, vs, rfl, ha, r⟩ := seqOf_ok hs ok i
          refine .inl ⟨vs, ha.imp sq_rd st_rd, ?_⟩
          rw [← paired_len r]
          exact post _ _ _ _ _ ok (Ex.refl G) (isd (.int _)) h
        · split at hn
          · split at hn
            · rename_i z hz
              cases hn
              cases i
              exact ⟨sz_of hz, post _ _ _ _ _ ok (Ex.refl G) (isd (.int _)) h⟩
            · cases hn
          · rename_i p _
            obtain rfl : u = V.ref p := i
            split at hn
            · rename_i kvs hs
              cases hn
              obtain ⟨_, o, hp, vs, rfl, r⟩ := ok.cell p _ hs
              refine .inr ⟨vs, hp, ?_⟩
              rw [← paired_len r]
              exact post _ _ _ _ _ ok (Ex.refl G) (isd (.int _)) h
            · cases hn
          · cases hn
      · exact h.elim
  · exact h.elim
def d1 (f : PyData → Option PyData) (ws : List W) (s : Hs) (k : DK) : Prop := match ws with
  | [.d x] => match f x with
    | some y => k (.d y) s
    | none => False
  | _ => False
theorem d1D {r : List V → Hp → VK → Prop} {f : PyData → Option PyData} (hr : ∀ x y u H Q, f x = some y → Dd H x u → (∀ v, (∀ H, Dd H y v) → Q v H) → r [u] H Q) : SCB r (d1 f) := by
  intro ws s k us G H Q h ok i post
  unfold d1 at h
  split at h
  · rename_i x
    cases i with
    | cons i t =>
      cases t
      split at h
      · rename_i y hy
        exact hr x y _ H Q hy (Dd.mono ok.ex i) fun v hv => post _ _ _ _ _ ok (Ex.refl G) (isd (hv G)) h
      · exact h.elim
  · exact h.elim
def intD : PyData → Option PyData
  | .int i => some (.int i)
  | .bool b => some (.int (if b then 1 else 0))
  | .str z => match PySem.intText? z with
    | some n => if z.length ≤ 640 then some (.int n) else none
    | none => none
  | _ => none
def absD : PyData → Option PyData
  | .int i => some (.int (if i < 0 then -i else i))
  | _ => none
def strD : PyData → Option PyData
  | .int i => if i.natAbs.log2 < 1920 then some (.str (toString i)) else none
  | _ => none
theorem intDD : SCB rIntU (d1 intD) := d1D fun x y u H Q e d q => by
  unfold intD at e
  split at e
  · cases e; cases d; exact q _ fun _ => .int _
  · cases e; cases d; exact q _ fun _ => .int _
  · split at e
    · rename_i n hn
      split at e
      · rename_i hz
        cases e; cases d
        exact ⟨n, hn, hz, q _ fun _ => .int _⟩
      · cases e
    · cases e
  · cases e
theorem absDD : SCB rAbsU (d1 absD) := d1D fun x y u H Q e d q => by
  unfold absD at e
  split at e
  · cases e; cases d; exact q _ fun _ => .int _
  · cases e
theorem strDD : SCB rStrU (d1 strD) := d1D fun x y u H Q e d q => by
  unfold strD at e
  split at e
  · split at e
    · rename_i hz
      cases e; cases d
      exact ⟨hz, q _ fun _ => .str _⟩
    · cases e
  · cases e
/-- whole numbers, truths -/
def intsOf : List PyData → Option (List Int)
  | [] => some []
  | .int i :: r => (intsOf r).map (i :: ·)
  | _ => none
def boolsOf : List PyData → Option (List Bool)
  | [] => some []
  | .bool i :: r => (boolsOf r).map (i :: ·)
  | _ => none
theorem ints_ok {G : Hp} : ∀ {xs : List PyData} {us : List V} {ns : List Int}, intsOf xs = some ns → DdA G xs us → us = ns.map V.int
  | [], _, _, h, .nil => by cases h; rfl
  | x :: r, _, ns, h, .cons a b => by
    cases a with
    | int i =>
      unfold intsOf at h
      cases e : intsOf r with
      | none => rw [e] at h; cases h
      | some ms => rw [e] at h; cases h; rw [ints_ok e b]; rfl
    | _ => cases h
theorem bools_ok {G : Hp} : ∀ {xs : List PyData} {us : List V} {ns : List Bool}, boolsOf xs = some ns → DdA G xs us → us = ns.map V.bl
  | [], _, _, h, .nil => by cases h; rfl
  | x :: r, _, ns, h, .cons a b => by
    cases a with
    | bl i =>
      unfold boolsOf at h
      cases e : boolsOf r with
      | none => rw [e] at h; cases h
      | some ms => rw [e] at h; cases h; rw [bools_ok e b]; rfl
    | _ => cases h
def dL1 {α : Type} (g : List PyData → Option α) (f : α → PyData) (ws : List W) (s : Hs) (k : DK) : Prop := match ws with
  | [w] => match lstOf s w with
    | some xs => match g xs with
      | some ns => k (.d (f ns)) s
      | none => False
    | none => False
  | _ => False
theorem dL1D {α : Type} {r : List V → Hp → VK → Prop} {g : List PyData → Option α} {f : α → PyData} (hr : ∀ a us xs ns G H Q, g xs = some ns → Rd H a (.lst us) → DdA G xs us → (∀ v, (∀ H, Dd H (f ns) v) → Q v H) → r [.ref a] H Q) : SCB r (dL1 g f) := by
  intro ws s k us G H Q h ok i post
  unfold dL1 at h
  split at h
  · rename_i w
    cases i with
    | cons i t =>
      cases t
      split at h
      · rename_i xs hx
        split at h
        · rename_i ns hn
          obtain ⟨a, us, rfl, ha, rr⟩ := lstOf_ok hx ok i
          exact hr a us xs ns G H Q hn ha rr fun v hv => post _ _ _ _ _ ok (Ex.refl G) (isd (hv G)) h
        · exact h.elim
      · exact h.elim
  · exact h.elim
abbrev dSum : List W → Hs → DK → Prop := dL1 intsOf fun ns => .int ns.sum
abbrev dAll : List W → Hs → DK → Prop := dL1 boolsOf fun bs => .bool (bs.all id)
abbrev dAny : List W → Hs → DK → Prop := dL1 boolsOf fun bs => .bool (bs.any id)
theorem sumD {K : PySem.W.Frag} : SCB (rSum K) dSum := dL1D fun a us xs ns G H Q hn ha rr q => ⟨a, ns, rfl, by rw [← ints_ok hn rr]; exact sq_rd ha, q _ fun _ => .int _⟩
theorem allD {K : PySem.W.Frag} : SCB (rAll K) dAll := dL1D fun a us xs ns G H Q hn ha rr q => ⟨a, ns, rfl, by rw [← bools_ok hn rr]; exact sq_rd ha, q _ fun _ => .bl _⟩
theorem anyD {K : PySem.W.Frag} : SCB (rAny K) dAny := dL1D fun a us xs ns G H Q hn ha rr q => ⟨a, ns, rfl, by rw [← bools_ok hn rr]; exact sq_rd ha, q _ fun _ => .bl _⟩
/-- a dict's key, as a value -/
def keyW : L2.Key → W
  | .inl i => .d (.int i)
  | .inr z => .d (.str z)
/-- list(..), tuple(..) of data -/
def dListC (ws : List W) (s : Hs) (k : DK) : Prop := match ws with
  | [w] => match seqOf s w with
    | some xs => newL xs s k
    | none => match w with
      | .v (.ref p) => match s p with
        | some (.dK kvs) => newL (kvs.map fun kv => keyW kv.1) s k
        | _ => False
      | _ => False
  | _ => False
def dListO (ws : List W) (s : Hs) (k : DK) : Prop := match ws with
  | [w] => match seqOf s w with
    | some xs => newO xs s k
    | none => False
  | _ => False
def dTupC (ws : List W) (s : Hs) (k : DK) : Prop := match ws with
  | [w] => match w with
    | .d (.tuple xs) => k (.d (.tuple xs)) s
    | _ => match lstOf s w with
      | some xs => k (.d (.tuple xs)) s
      | none => False
  | _ => False
theorem keysW {G : Hp} : ∀ {kvs : List (Key × W)} {us : List (Key × V)}, IsK G kvs us → IsA G (kvs.map fun kv => keyW kv.1) (us.map fun kv => kV kv.1)
  | _, _, .nil => .nil
  | (k, w) :: r, (k', u) :: r', .cons h t => by
    obtain ⟨h1, _⟩ := h
    dsimp only at h1
    subst h1
    refine .cons ?_ (keysW t)
    cases k with
    | inl i => exact isd (.int i)
    | inr z => exact isd (.str z)
theorem listD {K : PySem.W.Frag} : SCB (rListU K) dListC := by
  intro ws s k us G H Q h ok i post
  unfold dListC at h
  split at h
  · rename_i w
    cases i with
    | cons i t =>
      cases t
      split at h
      · rename_i xs hx
        obtain ⟨a, us, rfl, ha, rr⟩ := seqOf_ok hx ok i
        exact .inl ⟨us, ha.imp sq_rd st_rd, fun l hl => newL_ok h ok rr post hl⟩
      · split at h
        · rename_i p _
          split at h
          · rename_i kvs hs
            obtain ⟨_, o, hp, us, rfl, r⟩ := ok.cell p _ hs
            cases i
            exact .inr ⟨us, .inl hp, fun l hl => newL_ok h ok (keysW r) post hl⟩
          · exact h.elim
        · exact h.elim
  · exact h.elim
theorem listO {K : PySem.W.Frag} : SCB (rListU K) dListO := by
  intro ws s k us G H Q h ok i post
  unfold dListO at h
  split at h
  · rename_i w
    cases i with
    | cons i t =>
      cases t
      split at h
      · rename_i xs hx
        obtain ⟨a, us, rfl, ha, rr⟩ := seqOf_ok hx ok i
        exact .inl ⟨us, ha.imp sq_rd st_rd, fun l hl => newO_ok h ok rr post hl⟩
      · exact h.elim
  · exact h.elim
theorem tupD {K : PySem.W.Frag} : SCB (rTupU K) dTupC := by
  intro ws s k us G H Q h ok i post
  unfold dTupC at h
  split at h
  · rename_i w
    cases i with
    | cons i t =>
      cases t
      split at h
      · cases i with
        | @tup a us _ ha r => exact .inr ⟨us, st_of (ok.ex _ _ ha), post _ _ _ _ _ ok (Ex.refl G) (isd (.tup ha r)) h⟩
      · split at h
        · rename_i xs hx
          obtain ⟨a, us, rfl, ha, rr⟩ := lstOf_ok hx ok i
          refine .inl ⟨us, sq_rd ha, fun l hl => ?_⟩
          have n := ok.new (o := .tup us) hl
          exact post _ _ _ _ _ n.1 n.2 (isd (.tup upd_same (DdA.mono n.2 rr))) h
        · exact h.elim
  · exact h.elim
/-- isinstance, by one built-in class -/
inductive Tk where
  | non | bool | int | str | list | tuple | dict
def Tk.name : Tk → String
  | .non => "NoneType" | .bool => "bool" | .int => "int" | .str => "str" | .list => "list" | .tuple => "tuple" | .dict => "dict"
def isTk : Tk → Tk → Bool
  | .non, .non | .bool, .bool | .int, .int | .str, .str | .list, .list | .tuple, .tuple | .dict, .dict | .bool, .int => true
  | _, _ => false
def tkP : PyData → Tk
  | .none => .non | .bool _ => .bool | .int _ => .int | .str _ => .str | .list _ => .list | .tuple _ => .tuple | .dict _ => .dict
def tkD (s : Hs) : W → Option Tk
  | .d x => some (tkP x)
  | .v (.ref p) => match s p with
    | some (.lst _) => some .list
    | some (.tup _) => some .tuple
    | some (.dK _) => some .dict
    | _ => none
  | _ => none
def dIsin (T : Tk) (a : DE) (δ : DEnv) (s : Hs) (k : DK) : Prop := a δ s fun w s1 => match tkD s1 w with
  | some t => k (.d (.bool (isTk t T))) s1
  | none => False
theorem kit_tk {K : PySem.W.Frag} (t T : Tk) : PySem.W.kitOne K (.type t.name) (.type T.name) = some (isTk t T) :=
  kit_ty (by cases t <;> cases T <;> decide +kernel)
theorem tkD_ok {K : PySem.W.Frag} {s : Hs} {G H : Hp} {w : W} {u : V} {t : Tk} (h : tkD s w = some t) (ok : Ok s G H) (i : Is G w u) : TyX K H u (.type t.name) := by
  unfold tkD at h
  split at h
  · cases h
    have d := Dd.mono ok.ex i
    cases d with
    | non => exact .base .non
    | bl b => exact .base (.bl b)
    | int b => exact .base (.int b)
    | str b => exact .base (.str b)
    | lst h r => exact .base (.lst h)
    | tup h r => exact .base (.tup h)
  · rename_i p
    obtain rfl : u = V.ref p := i
    split at h
    · rename_i ws hw
      cases h
      obtain ⟨_, o, hp, us, rfl, r⟩ := ok.cell p _ hw
      exact .base (.lst hp)
    · rename_i ws hw
      cases h
      obtain ⟨_, o, hp, us, rfl, r⟩ := ok.cell p _ hw
      exact .base (.tup hp)
    · rename_i ws hw
      cases h
      obtain ⟨_, o, hp, us, rfl, r⟩ := ok.cell p _ hw
      exact .base (.dK hp)
    · cases h
  · cases h
theorem sIsin {K : PySem.W.Frag} {ta : TE} {a : DE} (T : Tk) {n : String} (hn : n = T.name) (ha : SE ta a) : SE (tCB (rIsinU K) (tCons ta (tCons (tC (.ty n)) tNil))) (dIsin T a) := by
  subst hn
  intro δ s k σ G H Q h ok env post
  refine ha _ _ _ _ _ _ _ h ok env fun w1 s1 u1 G1 H1 ok1 e1 i1 q1 => ?_
  split at q1
  · rename_i t ht
    exact ⟨_, _, tkD_ok ht ok1 i1, kit_tk t T, post _ _ _ _ _ ok1 e1 (isd (.bl _)) q1⟩
  · exact q1.elim
end U

set_option maxHeartbeats 2000000
/-! U8: statements, loops, comprehensions, lists and dicts that are owned, at the level of data. -/
namespace U
open PySem PySem.Spec PyProof.Rows L2 Evl
/-! ### methods of an owned list -/
def ownL (s : Hs) : W → Option (Addr × List W)
  | .v (.ref p) => match s p with
    | some (.lst ws) => some (p, ws)
    | _ => none
  | _ => none
theorem ownL_ok {s : Hs} {G H : Hp} {w : W} {u : V} {p : Addr} {ws : List W} (h : ownL s w = some (p, ws)) (ok : Ok s G H) (i : Is G w u) : u = .ref p ∧ s p = some (.lst ws) ∧ ∃ us, H p = some (.lst us) ∧ IsA G ws us := by
  unfold ownL at h
  split at h
  · rename_i q
    obtain rfl : u = V.ref q := i
    split at h
    · rename_i ws' hw
      cases h
      obtain ⟨_, o, hp, us, rfl, r⟩ := ok.cell p _ hw
      exact ⟨rfl, hw, us, hp, r⟩
    · cases h
  · cases h
theorem IsA.snoc {G : Hp} {ws : List W} {us : List V} (r : IsA G ws us) {w : W} {u : V} (i : Is G w u) : IsA G (ws ++ [w]) (us ++ [u]) := Paired.snoc r i
def dAppend (o a : DE) (δ : DEnv) (s : Hs) (k : DK) : Prop := o δ s fun w s1 => a δ s1 fun x s2 => match ownL s2 w with
  | some (p, ws) => ws.length < 100000 ∧ k (.d .none) (put s2 p (.lst (ws ++ [x])))
  | none => False
theorem listT {K : PySem.W.Frag} {s : Hs} {G H : Hp} {w : W} {u : V} {p : Addr} {ws : List W} (h : ownL s w = some (p, ws)) (ok : Ok s G H) (i : Is G w u) : tyV K "list" u H := by
  obtain ⟨rfl, _, us, hp, _⟩ := ownL_ok h ok i
  exact .inl ⟨rfl, us, sq_of hp⟩
/-- an owned list or list of data at the time of the look -/
def isL (s : Hs) : W → Bool
  | .v (.ref p) => match s p with
    | some (.lst _) => true
    | _ => false
  | _ => false
theorem isL_ok {K : PySem.W.Frag} {s : Hs} {G H : Hp} {w : W} {u : V} (h : isL s w = true) (ok : Ok s G H) (i : Is G w u) : tyV K "list" u H := by
  unfold isL at h
  split at h
  · rename_i q
    obtain rfl : u = V.ref q := i
    split at h
    · rename_i ws' hw
      obtain ⟨_, o, hp, us, rfl, r⟩ := ok.cell q _ hw
      exact .inl ⟨rfl, us, sq_of hp⟩
    · exact absurd h Bool.false_ne_true
  · exact absurd h Bool.false_ne_true
def dAppendT (o : DE) (a : DE) (δ : DEnv) (s : Hs) (k : DK) : Prop := o δ s fun w s1 => isL s1 w = true ∧ a δ s1 fun x s2 => match ownL s2 w with
  | some (p, ws) => ws.length < 100000 ∧ k (.d .none) (put s2 p (.lst (ws ++ [x])))
  | none => False
theorem sAppend {K : PySem.W.Frag} {to ta : TE} {o a : DE} (ho : SE to o) (ha : SE ta a) : SE (tBM K "list" rAppend to (tCons ta tNil)) (dAppendT o a) := by
  intro δ s k σ G H Q h ok env post
  refine ho _ _ _ _ _ _ _ h ok env fun w1 s1 u1 G1 H1 ok1 e1 i1 q1 => ⟨isL_ok q1.1 ok1 i1, ?_⟩
  refine ha _ _ _ _ _ _ _ q1.2 ok1 (env.mono e1) fun w2 s2 u2 G2 H2 ok2 e2 i2 q2 => ?_
  split at q2
  · rename_i p ws hw
    obtain ⟨rfl, hs, us, hp, r⟩ := ownL_ok hw ok2 (i1.mono e2)
    refine ⟨p, us, u2, rfl, rfl, hp, sz_lt (by rw [← paired_len r]; exact q2.1), ?_⟩
    exact post _ _ _ _ _ (ok2.put hs (cLst (r.snoc i2))) (e1.trans e2) (isd .non) q2.2
  · exact q2.elim
theorem IsA.dropLast {G : Hp} : ∀ {ws : List W} {us : List V}, IsA G ws us → IsA G ws.dropLast us.dropLast
  | _, _, .nil => .nil
  | _, _, .cons h .nil => .nil
  | _, _, .cons h (.cons h' t) => .cons h (IsA.dropLast (.cons h' t))
theorem IsA.eraseIdx {G : Hp} : ∀ {ws : List W} {us : List V}, IsA G ws us → ∀ i : Nat, IsA G (ws.eraseIdx i) (us.eraseIdx i)
  | _, _, .nil, _ => .nil
  | _, _, .cons h t, 0 => t
  | _, _, .cons h t, i + 1 => .cons h (IsA.eraseIdx t i)
theorem IsA.setI {G : Hp} {w : W} {u : V} (i : Is G w u) : ∀ {ws : List W} {us : List V}, IsA G ws us → ∀ j : Nat, IsA G (ws.set j w) (us.set j u)
  | _, _, .nil, _ => .nil
  | _, _, .cons h t, 0 => .cons i t
  | _, _, .cons h t, j + 1 => .cons h (IsA.setI i t j)
def dPop (o : DE) (δ : DEnv) (s : Hs) (k : DK) : Prop := o δ s fun w s1 => match ownL s1 w with
  | some (p, ws) => match ws[ws.length - 1]? with
    | some x => k x (put s1 p (.lst ws.dropLast))
    | none => False
  | none => False
theorem sPop {K : PySem.W.Frag} {to : TE} {o : DE} (ho : SE to o) : SE (tBM0 K "list" rPop to) (dPop o) := by
  intro δ s k σ G H Q h ok env post
  refine ho _ _ _ _ _ _ _ h ok env fun w1 s1 u1 G1 H1 ok1 e1 i1 q1 => ?_
  split at q1
  · rename_i p ws hw
    refine ⟨listT hw ok1 i1, ?_⟩
    obtain ⟨rfl, hs, us, hp, r⟩ := ownL_ok hw ok1 i1
    split at q1
    · rename_i x hx
      obtain ⟨u, hu, iu⟩ := paired_get r hx
      refine ⟨p, us, u, rfl, rfl, hp, by rw [← paired_len r]; exact hu, ?_⟩
      exact post _ _ _ _ _ (ok1.put hs (cLst r.dropLast)) e1 iu q1
    · exact q1.elim
  · exact q1.elim
def dPopAt (o a : DE) (δ : DEnv) (s : Hs) (k : DK) : Prop := o δ s fun w s1 => isL s1 w = true ∧ a δ s1 fun x s2 => match ownL s2 w, x with
  | some (p, ws), .d (.int i) => (0 ≤ i ∧ i < 100000) ∧ match ws[i.toNat]? with
    | some x => k x (put s2 p (.lst (ws.eraseIdx i.toNat)))
    | none => False
  | _, _ => False
theorem sPopAt {K : PySem.W.Frag} {to ta : TE} {o a : DE} (ho : SE to o) (ha : SE ta a) : SE (tBM K "list" rPopAt to (tCons ta tNil)) (dPopAt o a) := by
  intro δ s k σ G H Q h ok env post
  refine ho _ _ _ _ _ _ _ h ok env fun w1 s1 u1 G1 H1 ok1 e1 i1 q1 => ⟨isL_ok q1.1 ok1 i1, ?_⟩
  refine ha _ _ _ _ _ _ _ q1.2 ok1 (env.mono e1) fun w2 s2 u2 G2 H2 ok2 e2 i2 q2 => ?_
  split at q2
  · rename_i p ws i hw
    obtain ⟨rfl, hs, us, hp, r⟩ := ownL_ok hw ok2 (i1.mono e2)
    cases i2
    obtain ⟨⟨c1, c2⟩, q⟩ := q2
    split at q
    · rename_i x hx
      obtain ⟨u, hu, iu⟩ := paired_get r hx
      have hl : i.toNat < us.length := (List.getElem?_eq_some_iff.mp hu).1
      refine ⟨p, us, i, i.toNat, u, rfl, rfl, hp, by omega, by omega, ?_, hu, ?_⟩
      · exact (ixN_seq (by unfold ixN; rw [if_pos c1, if_pos (by omega)])).1
      · exact post _ _ _ _ _ (ok2.put hs (cLst (r.eraseIdx _))) (e1.trans e2) iu q
    · exact q.elim
  · exact q2.elim

/-! ### targets -/
def hName (i : Nat) (w : W) (δ : DEnv) (s : Hs) (k : DEnv → Hs → Prop) : Prop := k (δ.set i (some w)) s
theorem sgName (i : Nat) : SG (gName i) (hName i) := fun w δ s k u σ G H Q h ok env iw post => post _ _ _ _ _ ok (Ex.refl G) (env.set i iw) h
def hNil (ws : List W) (δ : DEnv) (s : Hs) (k : DEnv → Hs → Prop) : Prop := ws = [] ∧ k δ s
def hCons (t : DG) (r : DGs) (ws : List W) (δ : DEnv) (s : Hs) (k : DEnv → Hs → Prop) : Prop := match ws with
  | w :: rest => t w δ s fun δ' s' => r rest δ' s' k
  | [] => False
theorem sgNil : SGs gNil hNil := fun w δ s k u σ G H Q h ok env iw post => by
  obtain ⟨rfl, h⟩ := h
  cases iw
  exact ⟨rfl, post _ _ _ _ _ ok (Ex.refl G) env h⟩
theorem sgCons {t : TG} {d : DG} {r : TGs} {e : DGs} (ht : SG t d) (hr : SGs r e) : SGs (gCons t r) (hCons d e) := fun w δ s k u σ G H Q h ok env iw post => by
  cases iw with
  | nil => exact h.elim
  | cons i rest =>
    refine ⟨_, _, rfl, ?_⟩
    refine ht _ _ _ _ _ _ _ _ _ h ok env i fun δ1 s1 σ1 G1 H1 ok1 e1 env1 q1 => ?_
    exact hr _ _ _ _ _ _ _ _ _ q1 ok1 env1 (IsA.mono e1 rest) (post.up e1)
def hTup (n : Nat) (t : DGs) (w : W) (δ : DEnv) (s : Hs) (k : DEnv → Hs → Prop) : Prop := match w with
  | .d (.tuple xs) => xs.length = n ∧ t (xs.map .d) δ s k
  | .v (.ref p) => match s p with
    | some (.tup ws) => ws.length = n ∧ t ws δ s k
    | _ => False
  | _ => False
theorem sgTup {K : PySem.W.Frag} {n : Nat} {t : TGs} {d : DGs} (ht : SGs t d) : SG (gTup K n t) (hTup n d) := fun w δ s k u σ G H Q h ok env iw post => by
  unfold hTup at h
  split at h
  · cases iw with
    | @tup a us _ ha r =>
      exact ⟨a, us, rfl, st_of (ok.ex _ _ ha), by rw [← r.length]; exact h.1, ht _ _ _ _ _ _ _ _ _ h.2 ok env (isA_map r) post⟩
  · rename_i p
    obtain rfl : u = V.ref p := iw
    split at h
    · rename_i ws hw
      obtain ⟨_, o, hp, us, rfl, r⟩ := ok.cell p _ hw
      exact ⟨p, us, rfl, st_of hp, by rw [← paired_len r]; exact h.1, ht _ _ _ _ _ _ _ _ _ h.2 ok env r post⟩
    · exact h.elim
  · exact h.elim
/-- o[i] = w, o an owned list or dict -/
def setD (s : Hs) (o i w : W) : Option Hs := match o with
  | .v (.ref p) => match s p with
    | some (.lst ws) => match i with
      | .d (.int j) => (ixN ws.length j).map fun m => put s p (.lst (ws.set m w))
      | _ => none
    | some (.dK kvs) => match i with
      | .d x => match keyOf x with
        | some k => if kvs.length < 100000 then some (put s p (.dK (putW kvs k w))) else none
        | none => none
      | _ => none
    | some (.dT kvs) => match i with
      | .d (.tuple xs) => match keysOf xs with
        | some k => if kvs.length < 100000 then some (put s p (.dT (putW kvs k w))) else none
        | none => none
      | _ => none
    | _ => none
  | _ => none
theorem setD_ok {s s' : Hs} {G H : Hp} {o i w : W} {uo ui uw : V} (h : setD s o i w = some s') (ok : Ok s G H) (io : Is G o uo) (ii : Is G i ui) (iw : Is G w uw) {Q : Hp → Prop} (q : ∀ H', Ok s' G H' → Q H') : rSetU uo ui uw H Q := by
  unfold setD at h
  split at h
  · rename_i p
    obtain rfl : uo = V.ref p := io
    split at h
    · rename_i ws hw
      obtain ⟨_, ob, hp, us, rfl, r⟩ := ok.cell p _ hw
      split at h
      · rename_i j
        cases ii
        cases e : ixN ws.length j with
        | none => rw [e] at h; cases h
        | some m =>
          rw [e] at h
          cases h
          exact .inl ⟨us, j, m, rfl, hp, by rw [← paired_len r]; exact e, q _ (ok.put hw (cLst (IsA.setI iw r m)))⟩
      · cases h
    · rename_i kvs hw
      obtain ⟨_, ob, hp, us, rfl, r⟩ := ok.cell p _ hw
      split at h
      · split at h
        · rename_i k ek
          split at h
          · rename_i hl
            cases h
            obtain rfl := keyOf_ok ek ii
            exact .inr ⟨_, DPut.k hp (sz_lt (by rw [← paired_len r]; exact hl)), q _ (ok.put hw (cDK (putW_ok r k iw)))⟩
          · cases h
        · cases h
      · cases h
    · rename_i kvs hw
      obtain ⟨_, ob, hp, us, rfl, r⟩ := ok.cell p _ hw
      split at h
      · split at h
        · rename_i k ek
          split at h
          · rename_i hl
            cases h
            cases ii with
            | @tup b vs _ hb rb =>
              have := keysOf_ok ek rb
              subst this
              exact .inr ⟨_, DPut.t hp (ok.ex _ _ hb) (sz_lt (by rw [← paired_len r]; exact hl)), q _ (ok.put hw (cDT (putW_ok r k iw)))⟩
          · cases h
        · cases h
      · cases h
    · cases h
  · cases h
def hSub (o i : DE) (w : W) (δ : DEnv) (s : Hs) (k : DEnv → Hs → Prop) : Prop := o δ s fun wo s1 => i δ s1 fun wi s2 => match setD s2 wo wi w with
  | some s3 => k δ s3
  | none => False
theorem sgSub {to ti : TE} {o i : DE} (ho : SE to o) (hi : SE ti i) : SG (gSub to ti rSetU) (hSub o i) := fun w δ s k u σ G H Q h ok env iw post => by
  refine ho _ _ _ _ _ _ _ h ok env fun w1 s1 u1 G1 H1 ok1 e1 i1 q1 => ?_
  refine hi _ _ _ _ _ _ _ q1 ok1 (env.mono e1) fun w2 s2 u2 G2 H2 ok2 e2 i2 q2 => ?_
  split at q2
  · rename_i s3 h3
    exact setD_ok h3 ok2 (i1.mono e2) i2 (iw.mono (e1.trans e2)) fun H' ok' => post _ _ _ _ _ ok' (e1.trans e2) (env.mono (e1.trans e2)) q2
  · exact q2.elim

/-! ### statements -/
def zNext (D : DEnds) (δ : DEnv) (s : Hs) : Prop := D.nx δ s
def zSeq (t u : DS) (D : DEnds) (δ : DEnv) (s : Hs) : Prop := t { D with nx := u D } δ s
def zRet (a : DE) (D : DEnds) (δ : DEnv) (s : Hs) : Prop := a δ s D.rt
def zDrop (a : DE) (D : DEnds) (δ : DEnv) (s : Hs) : Prop := a δ s fun _ s1 => D.nx δ s1
def zIf (c : DT) (t u : DS) (D : DEnds) (δ : DEnv) (s : Hs) : Prop := c δ s fun b s1 => if b = true then t D δ s1 else u D δ s1
def zAsg (a : DE) (g : DG) (D : DEnds) (δ : DEnv) (s : Hs) : Prop := a δ s fun w s1 => g w δ s1 D.nx
def zPar (i j : Nat) (a : DA) (D : DEnds) (δ : DEnv) (s : Hs) : Prop := a δ s fun ws s1 => match ws with
  | [x, y] => D.nx ((δ.set i (some x)).set j (some y)) s1
  | _ => False
def zAug (i : Nat) (r : D2) (a : DE) (D : DEnds) (δ : DEnv) (s : Hs) : Prop := match δ[i]? with
  | some (some x) => a δ s fun y s1 => r x y s1 fun z s2 => D.nx (δ.set i (some z)) s2
  | _ => False
def zNever (_x0 : DEnds) (_x1 : DEnv) (_x2 : Hs) : Prop := False
def zBreak (D : DEnds) (δ : DEnv) (s : Hs) : Prop := D.bk δ s
def zCont (D : DEnds) (δ : DEnv) (s : Hs) : Prop := D.ct δ s
theorem ssNever {t : TS} : SS t zNever := fun DD δ s D σ G H h ok env post => h.elim
theorem ssNext : SS tNext zNext := fun DD δ s D σ G H h ok env post => post.nx _ _ _ _ _ ok (Ex.refl G) env h
theorem ssSeq {t u : TS} {a b : DS} (ha : SS t a) (hb : SS u b) : SS (tSeq t u) (zSeq a b) := fun DD δ s D σ G H h ok env post =>
  ha _ _ _ _ _ _ _ h ok env ⟨fun δ1 s1 σ1 G1 H1 ok1 e1 env1 q1 => hb _ _ _ _ _ _ _ q1 ok1 env1 (post.up e1), post.rt, post.bk, post.ct⟩
theorem ssRet {t : TE} {a : DE} (ha : SE t a) : SS (tRet t) (zRet a) := fun DD δ s D σ G H h ok env post => ha _ _ _ _ _ _ _ h ok env post.rt
theorem ssDrop {t : TE} {a : DE} (ha : SE t a) : SS (tDrop t) (zDrop a) := fun DD δ s D σ G H h ok env post =>
  ha _ _ _ _ _ _ _ h ok env fun w1 s1 u1 G1 H1 ok1 e1 i1 q1 => post.nx _ _ _ _ _ ok1 e1 (env.mono e1) q1
theorem ssIf {c : TT} {d : DT} {t u : TS} {a b : DS} (hc : SB c d) (ha : SS t a) (hb : SS u b) : SS (tIfS c t u) (zIf d a b) := fun DD δ s D σ G H h ok env post => by
  refine hc _ _ _ _ _ _ _ h ok env fun x s1 G1 H1 ok1 e1 q1 => ?_
  by_cases hx : x = true
  · rw [if_pos hx] at q1 ⊢
    exact ha _ _ _ _ _ _ _ q1 ok1 (env.mono e1) (post.up e1)
  · rw [if_neg hx] at q1 ⊢
    exact hb _ _ _ _ _ _ _ q1 ok1 (env.mono e1) (post.up e1)
theorem ssAsg {t : TE} {a : DE} {g : TG} {d : DG} (ha : SE t a) (hg : SG g d) : SS (tAsg t g) (zAsg a d) := fun DD δ s D σ G H h ok env post => by
  refine ha _ _ _ _ _ _ _ h ok env fun w1 s1 u1 G1 H1 ok1 e1 i1 q1 => ?_
  exact hg _ _ _ _ _ _ _ _ _ q1 ok1 (env.mono e1) i1 (post.nx.up e1)
theorem ssPar {i j : Nat} {t : TA} {a : DA} (ha : SA t a) : SS (tPar i j t) (zPar i j a) := fun DD δ s D σ G H h ok env post => by
  refine ha _ _ _ _ _ _ _ h ok env fun w1 s1 u1 G1 H1 ok1 e1 i1 q1 => ?_
  split at q1
  · cases i1 with
    | cons i1 t => cases t with
      | cons i2 t =>
        cases t
        exact ⟨_, _, rfl, post.nx _ _ _ _ _ ok1 e1 (((env.mono e1).set _ i1).set _ i2) q1⟩
  · exact q1.elim
def dIAdd (w1 : W) (w2 : W) (s : Hs) (k : DK) : Prop := match w1, w2 with
  | .d (.int i), .d (.int j) => k (.d (.int (i + j))) s
  | .d (.str a), .d (.str b) => a.length + b.length ≤ 100000 ∧ k (.d (.str (a ++ b))) s
  | _, _ => False
theorem iaddD : S2 rIAddU dIAdd := by
  intro w1 w2 s k u1 u2 G H Q h ok i1 i2 post
  unfold dIAdd at h
  split at h
  · cases i1; cases i2
    exact post _ _ _ _ _ ok (Ex.refl G) (isd (.int _)) h
  · cases i1; cases i2
    exact ⟨sz_of h.1, post _ _ _ _ _ ok (Ex.refl G) (isd (.str _)) h.2⟩
  · exact h.elim
theorem ssAug {i : Nat} {r : R2} {d : D2} {t : TE} {a : DE} (hr : S2 r d) (ha : SE t a) : SS (tAug i t r) (zAug i d a) := fun DD δ s D σ G H h ok env post => by
  unfold zAug at h
  split at h
  · rename_i x hx
    obtain ⟨u, hu, iu⟩ := env.get _ _ hx
    refine ⟨u, hu, ?_⟩
    refine ha _ _ _ _ _ _ _ h ok env fun w1 s1 u1 G1 H1 ok1 e1 i1 q1 => ?_
    refine hr _ _ _ _ _ _ _ _ _ q1 ok1 (iu.mono e1) i1 fun w2 s2 u2 G2 H2 ok2 e2 i2 q2 => ?_
    exact post.nx _ _ _ _ _ ok2 (e1.trans e2) ((env.mono (e1.trans e2)).set _ i2) q2
  · exact h.elim
/-- o.f = a -/
def putFW (f : Str) (w : W) : List (Str × W) → List (Str × W)
  | [] => [(f, w)]
  | (g, x) :: r => if g = f then (g, w) :: r else (g, x) :: putFW f w r
def zFld (C : Addr) (o a : DE) (f : Str) (D : DEnds) (δ : DEnv) (s : Hs) : Prop := a δ s fun y s1 => o δ s1 fun w s2 => ∃ p fs, w = .v (.ref p) ∧ s2 p = some (.ins C fs) ∧ fs.length < 1000 ∧ D.nx δ (put s2 p (.ins C (putFW f y fs)))

theorem putF_ok {G : Hp} {f : Str} {w : W} {u : V} (i : Is G w u) : ∀ {fs : List (Str × W)} {us : List (Str × V)}, IsK G fs us → IsK G (putFW f w fs) (putF f u us)
  | _, _, .nil => .cons ⟨rfl, i⟩ .nil
  | (g, x) :: r, (g', y) :: r', .cons h t => by
    obtain ⟨h1, h2⟩ := h
    dsimp only at h1 h2
    subst h1
    unfold putFW putF
    by_cases e : g = f
    · rw [if_pos e, if_pos e]; exact .cons ⟨rfl, i⟩ t
    · rw [if_neg e, if_neg e]; exact .cons ⟨rfl, h2⟩ (putF_ok i t)
theorem ssFld {K : PySem.W.Frag} {C : Addr} {f : Str} {to ta : TE} {o a : DE} (hc : Cls K C) (hn : NoAttr K C f) (ho : SE to o) (ha : SE ta a) : SS (sFld K to ta f) (zFld C o a f) := fun DD δ s D σ G H h ok env post => by
  refine ha _ _ _ _ _ _ _ h ok env fun w1 s1 u1 G1 H1 ok1 e1 i1 q1 => ?_
  refine ho _ _ _ _ _ _ _ q1 ok1 (env.mono e1) fun w2 s2 u2 G2 H2 ok2 e2 i2 q2 => ?_
  obtain ⟨p, fs, rfl, hs, hl, q⟩ := q2
  obtain rfl : u2 = V.ref p := i2
  obtain ⟨_, ob, hp, dx, us, rfl, r⟩ := ok2.cell p _ hs
  exact ⟨p, C, dx, us, rfl, hp, hc, hn, by rw [← paired_len r]; exact hl, post.nx _ _ _ _ _ (ok2.put hs (cIns (putF_ok (i1.mono e2) r))) (e1.trans e2) (env.mono (e1.trans e2)) q⟩

/-! ### while -/
def whileN (c : DT) (b : DS) : Nat → DEnds → DEnv → Hs → Prop
  | 0, _, _, _ => False
  | n + 1, D, δ, s => c δ s fun x s1 => if x = true then b { D with nx := fun δ2 s2 => whileN c b n D δ2 s2, ct := fun δ2 s2 => whileN c b n D δ2 s2, bk := D.nx } δ s1 else D.nx δ s1
def zWhile (c : DT) (b : DS) (D : DEnds) (δ : DEnv) (s : Hs) : Prop := ∃ n, whileN c b n D δ s
theorem ssWhile {c : TT} {d : DT} {t : TS} {b : DS} (hc : SB c d) (hb : SS t b) : SS (tWhile c t) (zWhile d b) := fun DD δ s D σ G H h ok env post => by
  obtain ⟨n, h⟩ := h
  refine ⟨fun m σ' H' => ∃ δ' s' G', whileN d b m DD δ' s' ∧ Ok s' G' H' ∧ Ex G G' ∧ EnvOk G' δ' σ', ⟨n, δ, s, G, h, ok, Ex.refl G, env⟩, ?_⟩
  rintro m σ1 H1 ⟨δ1, s1, G1, h1, ok1, e1, env1⟩
  cases m with
  | zero => exact h1.elim
  | succ m =>
    refine hc _ _ _ _ _ _ _ h1 ok1 env1 fun x s2 G2 H2 ok2 e2 q2 => ?_
    by_cases hx : x = true
    · rw [if_pos hx] at q2 ⊢
      refine ⟨fun σ' H' => ∃ δ' s' G', whileN d b m DD δ' s' ∧ Ok s' G' H' ∧ Ex G G' ∧ EnvOk G' δ' σ', fun σ' H' z => ⟨m, Nat.lt_succ_self m, z⟩, ?_⟩
      refine hb _ _ _ _ _ _ _ q2 ok2 (env1.mono e2) ⟨fun δ3 s3 σ3 G3 H3 ok3 e3 env3 q3 => ⟨δ3, s3, G3, q3, ok3, (e1.trans e2).trans e3, env3⟩, post.rt.up (e1.trans e2), post.nx.up (e1.trans e2), fun δ3 s3 σ3 G3 H3 ok3 e3 env3 q3 => ⟨δ3, s3, G3, q3, ok3, (e1.trans e2).trans e3, env3⟩⟩
    · rw [if_neg hx] at q2 ⊢
      exact post.nx _ _ _ _ _ ok2 (e1.trans e2) (env1.mono e2) q2

/-! ### what is walked -/
/-- the things it gives, and what of the cells must stay -/
structure Src where
  items : List W
  stay : Hs → Prop := fun _ => True
abbrev DI := DEnv → Hs → (Src → Hs → Prop) → Prop
/-- the walk J gives the things of x, from the heap G on -/
structure Gives (J : It) (x : Src) (G : Hp) : Prop where
  go : ∀ (i : Nat) (s : Hs) (G' H : Hp), i < x.items.length → Ok s G' H → Ex G G' → x.stay s → J.go i H
  stop : ∀ (s : Hs) (G' H : Hp), Ok s G' H → Ex G G' → x.stay s → J.stop x.items.length H
  yld : ∀ (i : Nat) (s : Hs) (G' H : Hp) (u : V) (H' : Hp) (w : W), x.items[i]? = some w → Ok s G' H → Ex G G' → x.stay s → J.yld i H u H' → ∃ G'', Ok s G'' H' ∧ Ex G' G'' ∧ Is G'' w u
abbrev PostI (G : Hp) (k : Src → Hs → Prop) (R : It → Hp → Prop) : Prop := ∀ (x : Src) (s : Hs) (G' H' : Hp) (J : It), Ok s G' H' → Ex G G' → Gives J x G' → k x s → R J H'
def SI (t : TI) (d : DI) : Prop := ∀ (δ : DEnv) (s : Hs) (k : Src → Hs → Prop) (σ : L2.St) (G H : Hp) (R : It → Hp → Prop), d δ s k → Ok s G H → EnvOk G δ σ → PostI G k R → t σ H R
def forN (g : DG) (b : DS) (stay : Hs → Prop) : List W → DEnds → DEnv → Hs → Prop
  | [], D, δ, s => stay s ∧ D.nx δ s
  | x :: xs, D, δ, s => stay s ∧ g x δ s fun δ1 s1 => b { D with nx := fun δ2 s2 => forN g b stay xs D δ2 s2, ct := fun δ2 s2 => forN g b stay xs D δ2 s2, bk := D.nx } δ1 s1
def zFor (i : DI) (g : DG) (b : DS) (D : DEnds) (δ : DEnv) (s : Hs) : Prop := i δ s fun x s1 => forN g b x.stay x.items D δ s1
theorem drop_cons {α : Type} {xs : List α} {i : Nat} {a : α} {r : List α} (h : xs.drop i = a :: r) : xs[i]? = some a ∧ xs.drop (i + 1) = r ∧ i < xs.length := by
  have e : xs[i]? = some a := by
    have : (xs.drop i)[0]? = some a := by rw [h]; rfl
    rw [List.getElem?_drop] at this
    exact this
  refine ⟨e, ?_, (List.getElem?_eq_some_iff.mp e).1⟩
  rw [← List.drop_drop, h]
  rfl
theorem ssFor {t : TI} {d : DI} {g : TG} {dg : DG} {tb : TS} {b : DS} (hi : SI t d) (hg : SG g dg) (hb : SS tb b) : SS (tFor t g tb) (zFor d dg b) := fun DD δ s D σ G H h ok env post => by
  refine hi _ _ _ _ _ _ _ h ok env fun x s1 G1 H1 J ok1 e1 gv q1 => ?_
  refine ⟨fun i m σ' H' => i ≤ x.items.length ∧ m = x.items.length - i ∧ ∃ δ' s' G', forN dg b x.stay (x.items.drop i) DD δ' s' ∧ Ok s' G' H' ∧ Ex G1 G' ∧ EnvOk G' δ' σ',
    ⟨_, Nat.zero_le _, rfl, δ, s1, G1, q1, ok1, Ex.refl G1, env.mono e1⟩, ?_⟩
  rintro i m σ2 H2 ⟨hil, rfl, δ2, s2, G2, q2, ok2, e2, env2⟩
  cases hd : x.items.drop i with
  | nil =>
    rw [hd] at q2
    have hi : i = x.items.length := by
      have := List.drop_eq_nil_iff.mp hd
      omega
    subst hi
    exact .inl ⟨gv.stop s2 G2 H2 ok2 e2 q2.1, post.nx _ _ _ _ _ ok2 (e1.trans e2) env2 q2.2⟩
  | cons a r =>
    obtain ⟨ha, hr, hl⟩ := drop_cons hd
    rw [hd] at q2
    refine .inr ⟨gv.go i s2 G2 H2 hl ok2 e2 q2.1, fun σ' H' => ∃ δ' s' G', forN dg b x.stay (x.items.drop (i + 1)) DD δ' s' ∧ Ok s' G' H' ∧ Ex G1 G' ∧ EnvOk G' δ' σ',
      fun σ' H' z => ⟨x.items.length - (i + 1), by omega, hl, rfl, z⟩, fun u H3 y => ?_⟩
    obtain ⟨G3, ok3, e3, iu⟩ := gv.yld i s2 G2 H2 u H3 a ha ok2 e2 q2.1 y
    refine hg _ _ _ _ _ _ _ _ _ q2.2 ok3 (env2.mono e3) iu fun δ4 s4 σ4 G4 H4 ok4 e4 env4 q4 => ?_
    have e14 := (e2.trans e3).trans e4
    refine hb _ _ _ _ _ _ _ q4 ok4 env4 ⟨fun δ5 s5 σ5 G5 H5 ok5 e5 env5 q5 => ⟨δ5, s5, G5, by rw [hr]; exact q5, ok5, e14.trans e5, env5⟩, post.rt.up (e1.trans e14), post.nx.up (e1.trans e14), fun δ5 s5 σ5 G5 H5 ok5 e5 env5 q5 => ⟨δ5, s5, G5, by rw [hr]; exact q5, ok5, e14.trans e5, env5⟩⟩
/-- a list, a tuple, a text -/
def signsW (z : Str) : List W := z.cps.toList.map fun c => .d (.str ⟨#[c]⟩)
/-- what is walked of a value: its things, and the cell that must stay -/
def srcOf (s : Hs) : W → Option Src
  | .d (.str z) => some { items := signsW z }
  | .d (.list xs) => some { items := xs.map .d }
  | .d (.tuple xs) => some { items := xs.map .d }
  | .v (.ref p) => match s p with
    | some (.lst ws) => some { items := ws, stay := fun s' => s' p = some (.lst ws) }
    | some (.tup ws) => some { items := ws, stay := fun s' => s' p = some (.tup ws) }
    | _ => none
  | _ => none
def jSeq (a : DE) (δ : DEnv) (s : Hs) (k : Src → Hs → Prop) : Prop := a δ s fun w s1 => match srcOf s1 w with
  | some x => k x s1
  | none => False
theorem signsW_len (z : Str) : (signsW z).length = z.cps.size := by unfold signsW; rw [List.length_map, Array.length_toList]
theorem isA_of_get {G : Hp} {ws : List W} {us : List V} (r : IsA G ws us) {i : Nat} {w : W} (h : ws[i]? = some w) : ∃ u, us[i]? = some u ∧ Is G w u := paired_get r h
/-- by the seq at p as it stands in each heap -/
theorem gives_l {K : PySem.W.Frag} {p : Addr} {x : Src} {G : Hp} (h : ∀ (s : Hs) (G' H : Hp), Ok s G' H → Ex G G' → x.stay s → ∃ us, H p = some (.lst us) ∧ IsA G' x.items us) : Gives (Itl K p) x G where
  go := fun i s G' H hi ok e st => by
    obtain ⟨us, hp, r⟩ := h s G' H ok e st
    have hl := paired_len r
    exact ⟨us, us[i]'(by omega), sq_of hp, by simp⟩
  stop := fun s G' H ok e st => by
    obtain ⟨us, hp, r⟩ := h s G' H ok e st
    exact ⟨us, sq_of hp, by rw [← paired_len r]; exact Nat.le_refl _⟩
  yld := fun i s G' H u H' w hw ok e st y => by
    obtain ⟨us, hp, r⟩ := h s G' H ok e st
    obtain ⟨rfl, y⟩ := y
    obtain ⟨v, hv, iv⟩ := paired_get r hw
    have := y us (sq_of hp)
    rw [hv] at this
    cases this
    exact ⟨G', ok, Ex.refl _, iv⟩
theorem gives_t {K : PySem.W.Frag} {p : Addr} {x : Src} {G : Hp} (h : ∀ (s : Hs) (G' H : Hp), Ok s G' H → Ex G G' → x.stay s → ∃ us, H p = some (.tup us) ∧ IsA G' x.items us) : Gives (Itt K p) x G where
  go := fun i s G' H hi ok e st => by
    obtain ⟨us, hp, r⟩ := h s G' H ok e st
    have hl := paired_len r
    exact ⟨us, us[i]'(by omega), st_of hp, by simp⟩
  stop := fun s G' H ok e st => by
    obtain ⟨us, hp, r⟩ := h s G' H ok e st
    exact ⟨us, st_of hp, by rw [← paired_len r]; exact Nat.le_refl _⟩
  yld := fun i s G' H u H' w hw ok e st y => by
    obtain ⟨us, hp, r⟩ := h s G' H ok e st
    obtain ⟨rfl, y⟩ := y
    obtain ⟨v, hv, iv⟩ := paired_get r hw
    have := y us (st_of hp)
    rw [hv] at this
    cases this
    exact ⟨G', ok, Ex.refl _, iv⟩
theorem gives_s {z : Str} {G : Hp} : Gives (Its z) { items := signsW z } G where
  go := fun i s G' H hi ok e st => by rw [signsW_len] at hi; exact hi
  stop := fun s G' H ok e st => by rw [signsW_len]; exact Nat.le_refl _
  yld := fun i s G' H u H' w hw ok e st y => by
    obtain ⟨rfl, c, hc, rfl⟩ := y
    unfold signsW at hw
    rw [List.getElem?_map, Array.getElem?_toList, hc] at hw
    cases hw
    exact ⟨G', ok, Ex.refl _, isd (.str _)⟩
theorem src_data {s : Hs} {G H : Hp} {p : Addr} {us : List V} {xs : List PyData} (ok : Ok s G H) (h : G p = some (.lst us)) (r : DdA G xs us) : ∀ (s' : Hs) (G' H' : Hp), Ok s' G' H' → Ex G G' → ∃ us, H' p = some (.lst us) ∧ IsA G' (xs.map .d) us :=
  fun s' G' H' ok' e => ⟨us, ok'.ex _ _ (e _ _ h), isA_map (DdA.mono e r)⟩
theorem siSeq {K : PySem.W.Frag} {ta : TE} {a : DE} (ha : SE ta a) : SI (iSeqU K ta) (jSeq a) := by
  intro δ s k σ G H R h ok env post
  refine ha _ _ _ _ _ _ _ h ok env fun w1 s1 u1 G1 H1 ok1 e1 i1 q1 => ?_
  split at q1
  · rename_i x hx
    unfold srcOf at hx
    split at hx
    · cases hx
      cases i1
      exact post _ _ _ _ _ ok1 e1 gives_s q1
    · cases hx
      cases i1 with
      | @lst p us _ hp r => exact .inl ⟨⟨us, sq_of (ok1.ex _ _ hp)⟩, post _ _ _ _ _ ok1 e1 (gives_l fun s' G' H' ok' e' _ => ⟨us, ok'.ex _ _ (e' _ _ hp), isA_map (DdA.mono e' r)⟩) q1⟩
    · cases hx
      cases i1 with
      | @tup p us _ hp r => exact .inr ⟨⟨us, st_of (ok1.ex _ _ hp)⟩, post _ _ _ _ _ ok1 e1 (gives_t fun s' G' H' ok' e' _ => ⟨us, ok'.ex _ _ (e' _ _ hp), isA_map (DdA.mono e' r)⟩) q1⟩
    · rename_i p
      obtain rfl : u1 = V.ref p := i1
      split at hx
      · rename_i ws hw
        cases hx
        obtain ⟨_, o, hp, us, rfl, r⟩ := ok1.cell p _ hw
        refine .inl ⟨⟨us, sq_of hp⟩, post _ _ _ _ _ ok1 e1 (gives_l fun s' G' H' ok' e' st => ?_) q1⟩
        obtain ⟨_, o, hp, us, rfl, r⟩ := ok'.cell p _ st
        exact ⟨us, hp, r⟩
      · rename_i ws hw
        cases hx
        obtain ⟨_, o, hp, us, rfl, r⟩ := ok1.cell p _ hw
        refine .inr ⟨⟨us, st_of hp⟩, post _ _ _ _ _ ok1 e1 (gives_t fun s' G' H' ok' e' st => ?_) q1⟩
        obtain ⟨_, o, hp, us, rfl, r⟩ := ok'.cell p _ st
        exact ⟨us, hp, r⟩
      · cases hx
    · cases hx
  · exact q1.elim
def rngW (lo : Int) (n : Nat) : List W := (List.range n).map fun i => .d (.int (lo + (i : Nat)))
theorem gives_r {lo : Int} {n : Nat} {G : Hp} : Gives (Itr lo n) { items := rngW lo n } G where
  go := fun i s G' H hi ok e st => by
    have : (rngW lo n).length = n := by unfold rngW; simp
    rw [this] at hi
    exact hi
  stop := fun s G' H ok e st => by
    have : (rngW lo n).length = n := by unfold rngW; simp
    rw [this]
    exact Nat.le_refl n
  yld := fun i s G' H u H' w hw ok e st y => by
    obtain ⟨rfl, rfl⟩ := y
    unfold rngW at hw
    rw [List.getElem?_map] at hw
    cases hr : (List.range n)[i]? with
    | none => rw [hr] at hw; cases hw
    | some j =>
      rw [hr] at hw
      cases hw
      have : j = i := by
        have hl := (List.getElem?_eq_some_iff.mp hr).1
        rw [List.getElem?_range (by simpa using hl)] at hr
        cases hr; rfl
      subst this
      exact ⟨G', ok, Ex.refl _, isd (.int _)⟩
def jRng1 (a : DE) (δ : DEnv) (s : Hs) (k : Src → Hs → Prop) : Prop := a δ s fun w s1 => match w with
  | .d (.int j) => (-(2 ^ 62) ≤ j ∧ j < 2 ^ 62) ∧ k { items := rngW 0 j.toNat } s1
  | _ => False
def jRng2 (a b : DE) (δ : DEnv) (s : Hs) (k : Src → Hs → Prop) : Prop := a δ s fun w s1 => b δ s1 fun x s2 => match w, x with
  | .d (.int i), .d (.int j) => (-(2 ^ 62) ≤ i ∧ i < 2 ^ 62 ∧ -(2 ^ 62) ≤ j ∧ j < 2 ^ 62) ∧ k { items := rngW i (j - i).toNat } s2
  | _, _ => False
theorem siRng1 {ta : TE} {a : DE} (ha : SE ta a) : SI (iRng1 (tCons ta tNil)) (jRng1 a) := by
  intro δ s k σ G H R h ok env post
  refine ha _ _ _ _ _ _ _ h ok env fun w1 s1 u1 G1 H1 ok1 e1 i1 q1 => ?_
  split at q1
  · rename_i j
    cases i1
    exact ⟨j, rfl, q1.1.1, q1.1.2, post _ _ _ _ _ ok1 e1 gives_r q1.2⟩
  · exact q1.elim
theorem siRng2 {ta tb : TE} {a b : DE} (ha : SE ta a) (hb : SE tb b) : SI (iRng2 (tCons ta (tCons tb tNil))) (jRng2 a b) := by
  intro δ s k σ G H R h ok env post
  refine ha _ _ _ _ _ _ _ h ok env fun w1 s1 u1 G1 H1 ok1 e1 i1 q1 => ?_
  refine hb _ _ _ _ _ _ _ q1 ok1 (env.mono e1) fun w2 s2 u2 G2 H2 ok2 e2 i2 q2 => ?_
  split at q2
  · rename_i i j
    cases i1; cases i2
    exact ⟨i, j, rfl, q2.1, post _ _ _ _ _ ok2 (e1.trans e2) gives_r q2.2⟩
  · exact q2.elim
/-- enumerate, zip: of data -/
def dataSrc (s : Hs) : W → Option (Kd × List PyData)
  | .d (.str z) => some (.s, z.cps.toList.map fun c => .str ⟨#[c]⟩)
  | .d (.list xs) => some (.l, xs)
  | .d (.tuple xs) => some (.t, xs)
  | _ => none
theorem dataSrc_ok {K : PySem.W.Frag} {s : Hs} {G : Hp} {w : W} {u : V} {kd : Kd} {xs : List PyData} (h : dataSrc s w = some (kd, xs)) (i : Is G w u) : ∃ us, DdA G xs us ∧ ∀ (s' : Hs) (G' H' : Hp), Ok s' G' H' → Ex G G' → SrcK K H' kd u us := by
  unfold dataSrc at h
  split at h
  · rename_i z
    cases h
    cases i
    refine ⟨signsV z, ?_, fun s' G' H' ok' e => ⟨z, rfl, rfl⟩⟩
    unfold signsV
    generalize z.cps.toList = cs
    induction cs with
    | nil => exact .nil
    | cons c r ih => exact .cons (.str _) ih
  · cases h
    cases i with
    | @lst p us _ hp r => exact ⟨us, r, fun s' G' H' ok' e => ⟨p, rfl, sq_of (ok'.ex _ _ (e _ _ hp))⟩⟩
  · cases h
    cases i with
    | @tup p us _ hp r => exact ⟨us, r, fun s' G' H' ok' e => ⟨p, rfl, st_of (ok'.ex _ _ (e _ _ hp))⟩⟩
  · cases h
def enumW (xs : List PyData) : List W := xs.zipIdx.map fun p => .d (.tuple [.int (p.2 : Nat), p.1])
def zipW (xs ys : List PyData) : List W := (xs.zip ys).map fun p => .d (.tuple [p.1, p.2])
def jEnum (a : DE) (δ : DEnv) (s : Hs) (k : Src → Hs → Prop) : Prop := a δ s fun w s1 => match dataSrc s1 w with
  | some (_, xs) => k { items := enumW xs } s1
  | none => False
def jZip (a b : DE) (δ : DEnv) (s : Hs) (k : Src → Hs → Prop) : Prop := a δ s fun w s1 => b δ s1 fun x s2 => match dataSrc s2 w, dataSrc s2 x with
  | some (_, xs), some (_, ys) => k { items := zipW xs ys } s2
  | _, _ => False
theorem siEnum {K : PySem.W.Frag} {ta : TE} {a : DE} (ha : SE ta a) : SI (iEnumU K (tCons ta tNil)) (jEnum a) := by
  intro δ s k σ G H R h ok env post
  refine ha _ _ _ _ _ _ _ h ok env fun w1 s1 u1 G1 H1 ok1 e1 i1 q1 => ?_
  split at q1
  · rename_i kd xs hx
    obtain ⟨us, r, src⟩ := dataSrc_ok (K := K) hx i1
    have hl : (enumW xs).length = us.length := by unfold enumW; simp [r.length]
    refine ⟨u1, kd, us, rfl, src _ _ _ ok1 (Ex.refl _), post _ _ _ _ _ ok1 e1 ⟨fun i s' G' H' hi ok' e' _ => ?_, fun s' G' H' ok' e' _ => ?_, fun i s' G' H' u H2 w hw ok' e' _ y => ?_⟩ q1⟩
    · exact ⟨us, src _ _ _ ok' e', by rw [← hl]; exact hi⟩
    · exact ⟨us, src _ _ _ ok' e', hl.symm⟩
    · obtain ⟨T, x, rfl, hT, rfl, hy⟩ := y
      have hx2 := hy us (src _ _ _ ok' e')
      unfold enumW at hw
      rw [List.getElem?_map, List.getElem?_zipIdx] at hw
      cases hxi : xs[i]? with
      | none => rw [hxi] at hw; cases hw
      | some y =>
        rw [hxi] at hw
        cases hw
        obtain ⟨v, hv, dv⟩ := r.get hxi
        rw [hv] at hx2
        cases hx2
        have n := ok'.new (o := .tup [.int (i : Nat), x]) hT
        refine ⟨_, n.1, n.2, isd (.tup upd_same ?_)⟩
        rw [Nat.zero_add]
        exact .cons (.int _) (.cons (Dd.mono (e'.trans n.2) dv) .nil)
  · exact q1.elim
theorem siZip {K : PySem.W.Frag} {ta tb : TE} {a b : DE} (ha : SE ta a) (hb : SE tb b) : SI (iZipU K (tCons ta (tCons tb tNil))) (jZip a b) := by
  intro δ s k σ G H R h ok env post
  refine ha _ _ _ _ _ _ _ h ok env fun w1 s1 u1 G1 H1 ok1 e1 i1 q1 => ?_
  refine hb _ _ _ _ _ _ _ q1 ok1 (env.mono e1) fun w2 s2 u2 G2 H2 ok2 e2 i2 q2 => ?_
  split at q2
  · rename_i kd xs kd2 ys hx hy
    obtain ⟨us, r, src⟩ := dataSrc_ok (K := K) hx (i1.mono e2)
    obtain ⟨vs, r2, src2⟩ := dataSrc_ok (K := K) hy i2
    have hl : (zipW xs ys).length = min us.length vs.length := by unfold zipW; simp [r.length, r2.length]
    refine ⟨u1, u2, kd, kd2, us, vs, rfl, src _ _ _ ok2 (Ex.refl _), src2 _ _ _ ok2 (Ex.refl _), post _ _ _ _ _ ok2 (e1.trans e2) ⟨fun i s' G' H' hi ok' e' _ => ?_, fun s' G' H' ok' e' _ => ?_, fun i s' G' H' u H2 w hw ok' e' _ y => ?_⟩ q2⟩
    · dsimp only at hi
      exact ⟨us, vs, src _ _ _ ok' e', src2 _ _ _ ok' e', by omega, by omega⟩
    · refine ⟨us, vs, src _ _ _ ok' e', src2 _ _ _ ok' e', ?_⟩
      dsimp only
      omega
    · obtain ⟨T, x, y, rfl, hT, rfl, hy1, hy2⟩ := y
      have hx2 := hy1 us (src _ _ _ ok' e')
      have hx3 := hy2 vs (src2 _ _ _ ok' e')
      unfold zipW at hw
      rw [List.getElem?_map] at hw
      cases hxi : (xs.zip ys)[i]? with
      | none => rw [hxi] at hw; cases hw
      | some p =>
        rw [hxi] at hw
        cases hw
        obtain ⟨p1, p2⟩ := List.getElem?_zip_eq_some.mp hxi
        obtain ⟨v, hv, dv⟩ := r.get p1
        obtain ⟨v', hv', dv'⟩ := r2.get p2
        rw [hv] at hx2
        rw [hv'] at hx3
        cases hx2; cases hx3
        have n := ok'.new (o := .tup [x, y]) hT
        exact ⟨_, n.1, n.2, isd (.tup upd_same (.cons (Dd.mono (e'.trans n.2) dv) (.cons (Dd.mono (e'.trans n.2) dv') .nil)))⟩
  · exact q2.elim

/-! ### comprehensions -/
/-- a target that sets these slots alone -/
def Wps (g : TG) (vs : List Nat) : Prop := ∀ (x : V) (σ : L2.St) (H : Hp) (Q : L2.St → Hp → Prop), g x σ H Q → g x σ H fun σ2 H2 => wipe σ2 vs = wipe σ vs ∧ Q σ2 H2
def WpsT (g : TGs) (vs : List Nat) : Prop := ∀ (x : List V) (σ : L2.St) (H : Hp) (Q : L2.St → Hp → Prop), g x σ H Q → g x σ H fun σ2 H2 => wipe σ2 vs = wipe σ vs ∧ Q σ2 H2
theorem wipe_get (σ : L2.St) : ∀ (vs : List Nat) (j : Nat), (wipe σ vs)[j]? = if j ∈ vs then (σ[j]?).map (fun _ => none) else σ[j]?
  | [], j => by simp [wipe]
  | v :: vs, j => by
    have ih := wipe_get σ vs j
    unfold wipe
    by_cases e : v = j
    · subst e
      by_cases hl : v < σ.length
      · rw [List.getElem?_set_self (by rw [wipe_length]; exact hl)]
        simp [hl]
      · rw [List.getElem?_eq_none (by rw [List.length_set, wipe_length]; omega)]
        simp [hl]
    · rw [List.getElem?_set_ne e, ih]
      by_cases hj : j ∈ vs
      · rw [if_pos hj, if_pos (List.mem_cons_of_mem _ hj)]
      · rw [if_neg hj, if_neg (fun z => (List.mem_cons.mp z).elim (fun q => e q.symm) hj)]
theorem wipe_set {σ : L2.St} {i : Nat} {o : Option V} {vs : List Nat} (h : i ∈ vs) : wipe (σ.set i o) vs = wipe σ vs := by
  apply List.ext_getElem?
  intro j
  rw [wipe_get, wipe_get]
  by_cases hj : j ∈ vs
  · rw [if_pos hj, if_pos hj, List.getElem?_set]
    by_cases e : i = j
    · subst e
      rw [if_pos rfl]
      by_cases hl : i < σ.length
      · rw [if_pos hl, List.getElem?_eq_getElem hl]; rfl
      · rw [if_neg hl, List.getElem?_eq_none (by omega)]
    · rw [if_neg e]
  · rw [if_neg hj, if_neg hj, List.getElem?_set_ne (fun e => hj (by rw [← e]; exact h))]
theorem wipe_wipe (σ : L2.St) (vs : List Nat) : wipe (wipe σ vs) vs = wipe σ vs := by
  apply List.ext_getElem?
  intro j
  rw [wipe_get, wipe_get]
  by_cases hj : j ∈ vs
  · rw [if_pos hj, if_pos hj]
    cases σ[j]? <;> rfl
  · rw [if_neg hj, if_neg hj]
theorem Wps.use {g : TG} {vs : List Nat} (h : Wps g vs) {x : V} {σ : L2.St} {H : Hp} {Q : L2.St → Hp → Prop} (q : g x (wipe σ vs) H Q) : g x (wipe σ vs) H fun σ2 H2 => wipe σ2 vs = wipe σ vs ∧ Q σ2 H2 := by
  have := h _ _ _ _ q
  rw [wipe_wipe] at this
  exact this
theorem wpName {i : Nat} {vs : List Nat} (h : i ∈ vs) : Wps (gName i) vs := fun x σ H Q q => ⟨wipe_set h, q⟩
theorem wpNil {vs : List Nat} : WpsT gNil vs := fun x σ H Q q => ⟨q.1, rfl, q.2⟩
/-- a target that only hands on -/
def MonG (g : TG) : Prop := ∀ (x : V) (σ : L2.St) (H : Hp) (Q Q' : L2.St → Hp → Prop), (∀ σ H, Q σ H → Q' σ H) → g x σ H Q → g x σ H Q'
def MonGs (g : TGs) : Prop := ∀ (x : List V) (σ : L2.St) (H : Hp) (Q Q' : L2.St → Hp → Prop), (∀ σ H, Q σ H → Q' σ H) → g x σ H Q → g x σ H Q'
theorem mnName {i : Nat} : MonG (gName i) := fun x σ H Q Q' m q => m _ _ q
theorem mnNil : MonGs gNil := fun x σ H Q Q' m q => ⟨q.1, m _ _ q.2⟩
theorem mnCons {g : TG} {r : TGs} (h : MonG g) (hr : MonGs r) : MonGs (gCons g r) := fun x σ H Q Q' m q => by
  obtain ⟨v, rr, e, q⟩ := q
  exact ⟨v, rr, e, h _ _ _ _ _ (fun σ H z => hr _ _ _ _ _ m z) q⟩
theorem mnTup {K : PySem.W.Frag} {n : Nat} {r : TGs} (hr : MonGs r) : MonG (gTup K n r) := fun x σ H Q Q' m q => by
  obtain ⟨a, xs, e1, e2, e3, q⟩ := q
  exact ⟨a, xs, e1, e2, e3, hr _ _ _ _ _ m q⟩
theorem wpCons {g : TG} {r : TGs} {vs : List Nat} (h : Wps g vs) (hm : MonG g) (hr : WpsT r vs) (hrm : MonGs r) : WpsT (gCons g r) vs := fun x σ H Q q => by
  obtain ⟨v, rr, e, q⟩ := q
  refine ⟨v, rr, e, hm _ _ _ _ _ (fun σ2 H2 z => ?_) (h _ _ _ _ q)⟩
  exact hrm _ _ _ _ _ (fun σ3 H3 y => ⟨y.1.trans z.1, y.2⟩) (hr _ _ _ _ z.2)
theorem wpTup {K : PySem.W.Frag} {n : Nat} {r : TGs} {vs : List Nat} (hr : WpsT r vs) : Wps (gTup K n r) vs := fun x σ H Q q => by
  obtain ⟨a, xs, e1, e2, e3, q⟩ := q
  exact ⟨a, xs, e1, e2, e3, hr _ _ _ _ q⟩
def lcN (g : DG) (t : DT) (e : DE) (stay : Hs → Prop) (δ : DEnv) (D : Addr) (fin : List W → Hs → Prop) : List W → List W → Hs → Prop
  | [], acc, s => stay s ∧ s D = some (.lst acc) ∧ fin acc s
  | x :: xs, acc, s => stay s ∧ g x δ s fun δ1 s1 => t δ1 s1 fun b s2 =>
    if b = true then e δ1 s2 fun w s3 => acc.length < 100000 ∧ s3 D = some (.lst acc) ∧ lcN g t e stay δ D fin xs (acc ++ [w]) (put s3 D (.lst (acc ++ [w]))) else lcN g t e stay δ D fin xs acc s2
def lcFin (D : Addr) (k : DK) (acc : List W) (s : Hs) : Prop := match datas acc with
  | some xs => k (.d (.list xs)) (del s D)
  | none => False
def dLc (i : DI) (g : DG) (t : DT) (e : DE) (vs : List Nat) (δ : DEnv) (s : Hs) (k : DK) : Prop := i δ s fun x s1 => ∀ D, s1 D = none → lcN g t e x.stay (wipeD δ vs) D (lcFin D k) x.items [] (put s1 D (.lst []))
def dLcO (i : DI) (g : DG) (t : DT) (e : DE) (vs : List Nat) (δ : DEnv) (s : Hs) (k : DK) : Prop := i δ s fun x s1 => ∀ D, s1 D = none → lcN g t e x.stay (wipeD δ vs) D (fun _ s2 => k (.v (.ref D)) s2) x.items [] (put s1 D (.lst []))
theorem sLcW {ti : TI} {i : DI} {g : TG} {dg : DG} {tt : TT} {t : DT} {te : TE} {e : DE} {vs : List Nat} (hi : SI ti i) (hg : SG g dg) (hw : Wps g vs) (ht : SB tt t) (he : SE te e) (fin : Addr → DK → List W → Hs → Prop)
    (hf : ∀ (D : Addr) (k : DK) (acc : List W) (s : Hs) (G H : Hp) (Q : VK), s D = some (.lst acc) → fin D k acc s → Ok s G H → PostV G k Q → Q (.ref D) H) :
    SE (tLc ti g tt te vs) (fun δ s k => i δ s fun x s1 => ∀ D, s1 D = none → lcN dg t e x.stay (wipeD δ vs) D (fin D k) x.items [] (put s1 D (.lst []))) := by
  intro δ s k σ G H Q h ok env post
  refine hi _ _ _ _ _ _ _ h ok env fun x s1 G1 H1 J ok1 e1 gv q1 D hD => ?_
  have okD := ok1.own (c := .lst []) (o := .lst []) hD (cLst .nil)
  refine ⟨fun i m H' => i ≤ x.items.length ∧ m = x.items.length - i ∧ ∃ acc s' G', lcN dg t e x.stay (wipeD δ vs) D (fin D k) (x.items.drop i) acc s' ∧ Ok s' G' H' ∧ Ex G1 G',
    ⟨_, Nat.zero_le _, rfl, [], _, G1, q1 D (ok1.fresh hD), okD, Ex.refl G1⟩, ?_⟩
  rintro i m H2 ⟨hil, rfl, acc, s2, G2, q2, ok2, e2⟩
  cases hd : x.items.drop i with
  | nil =>
    rw [hd] at q2
    have hi : i = x.items.length := by
      have := List.drop_eq_nil_iff.mp hd
      omega
    subst hi
    exact .inl ⟨gv.stop s2 G2 H2 ok2 e2 q2.1, hf D k acc s2 G2 H2 Q q2.2.1 q2.2.2 ok2 (post.up (e1.trans e2))⟩
  | cons a r =>
    obtain ⟨ha, hr, hl⟩ := drop_cons hd
    rw [hd] at q2
    refine .inr ⟨gv.go i s2 G2 H2 hl ok2 e2 q2.1, fun H' => ∃ acc s' G', lcN dg t e x.stay (wipeD δ vs) D (fin D k) (x.items.drop (i + 1)) acc s' ∧ Ok s' G' H' ∧ Ex G1 G',
      fun H' z => ⟨x.items.length - (i + 1), by omega, hl, rfl, z⟩, fun u H3 y => ?_⟩
    obtain ⟨G3, ok3, e3, iu⟩ := gv.yld i s2 G2 H2 u H3 a ha ok2 e2 q2.1 y
    refine hw.use (hg _ _ _ _ _ _ _ _ _ q2.2 ok3 ((env.mono (e1.trans (e2.trans e3))).wipe vs) iu fun δ4 s4 σ4 G4 H4 ok4 e4 env4 q4 => ?_)
    refine ht _ _ _ _ _ _ _ q4 ok4 env4 fun b s5 G5 H5 ok5 e5 q5 => ?_
    have e15 := ((e2.trans e3).trans e4).trans e5
    by_cases hb : b = true
    · rw [if_pos hb] at q5 ⊢
      refine he _ _ _ _ _ _ _ q5 ok5 (env4.mono e5) fun w s6 u6 G6 H6 ok6 e6 i6 q6 => ?_
      obtain ⟨hl6, hD6, q7⟩ := q6
      obtain ⟨_, o, hp, us, rfl, rr⟩ := ok6.cell D _ hD6
      refine ⟨us, hp, sz_lt (by rw [← paired_len rr]; exact hl6), ?_⟩
      exact ⟨_, _, G6, by rw [hr]; exact q7, ok6.put hD6 (cLst (rr.snoc i6)), e15.trans e6⟩
    · rw [if_neg hb] at q5 ⊢
      exact ⟨acc, s5, G5, by rw [hr]; exact q5, ok5, e15⟩
theorem sLc {ti : TI} {i : DI} {g : TG} {dg : DG} {tt : TT} {t : DT} {te : TE} {e : DE} {vs : List Nat} (hi : SI ti i) (hg : SG g dg) (hw : Wps g vs) (ht : SB tt t) (he : SE te e) : SE (tLc ti g tt te vs) (dLc i dg t e vs) :=
  sLcW hi hg hw ht he lcFin fun D k acc s G H Q hD h ok post => by
    unfold lcFin at h
    split at h
    · rename_i xs hx
      obtain ⟨G', ok', ex, is⟩ := ok.freeze hD hx
      exact post _ _ _ _ _ ok' ex is h
    · exact h.elim
theorem sLcO {ti : TI} {i : DI} {g : TG} {dg : DG} {tt : TT} {t : DT} {te : TE} {e : DE} {vs : List Nat} (hi : SI ti i) (hg : SG g dg) (hw : Wps g vs) (ht : SB tt t) (he : SE te e) : SE (tLc ti g tt te vs) (dLcO i dg t e vs) :=
  sLcW hi hg hw ht he (fun D k _ s => k (.v (.ref D)) s) fun D k acc s G H Q hD h ok post => post _ _ _ _ _ ok (Ex.refl G) isv h
/-- a dict comprehension, keys that are tuples; owned -/
def dcN (g : DG) (e f : DE) (stay : Hs → Prop) (δ : DEnv) (D : Addr) (k : DK) : List W → List (List Key × W) → Hs → Prop
  | [], acc, s => stay s ∧ s D = some (.dT acc) ∧ k (.v (.ref D)) s
  | x :: xs, acc, s => stay s ∧ g x δ s fun δ1 s1 => e δ1 s1 fun w s2 => f δ1 s2 fun y s3 => acc.length < 100000 ∧ s3 D = some (.dT acc) ∧ match w with
    | .d (.tuple ks) => match keysOf ks with
      | some q => dcN g e f stay δ D k xs (putW acc q y) (put s3 D (.dT (putW acc q y)))
      | none => False
    | _ => False
def dDc (i : DI) (g : DG) (e f : DE) (vs : List Nat) (δ : DEnv) (s : Hs) (k : DK) : Prop := i δ s fun x s1 => ∀ D, s1 D = none → dcN g e f x.stay (wipeD δ vs) D k x.items [] (put s1 D (.dT []))
theorem sDc {ti : TI} {i : DI} {g : TG} {dg : DG} {te tf : TE} {e f : DE} {vs : List Nat} (hi : SI ti i) (hg : SG g dg) (hw : Wps g vs) (he : SE te e) (hf : SE tf f) : SE (tDcU ti g tYes te tf vs) (dDc i dg e f vs) := by
  intro δ s k σ G H Q h ok env post
  refine hi _ _ _ _ _ _ _ h ok env fun x s1 G1 H1 J ok1 e1 gv q1 => ⟨true, fun D hD => ?_⟩
  have okD := ok1.own (c := .dT []) (o := .dT []) hD (cDT .nil)
  refine ⟨fun i m H' => i ≤ x.items.length ∧ m = x.items.length - i ∧ ∃ acc s' G', dcN dg e f x.stay (wipeD δ vs) D k (x.items.drop i) acc s' ∧ Ok s' G' H' ∧ Ex G1 G',
    ⟨_, Nat.zero_le _, rfl, [], _, G1, q1 D (ok1.fresh hD), okD, Ex.refl G1⟩, ?_⟩
  rintro i m H2 ⟨hil, rfl, acc, s2, G2, q2, ok2, e2⟩
  cases hd : x.items.drop i with
  | nil =>
    rw [hd] at q2
    have hi : i = x.items.length := by
      have := List.drop_eq_nil_iff.mp hd
      omega
    subst hi
    exact .inl ⟨gv.stop s2 G2 H2 ok2 e2 q2.1, post _ _ _ _ _ ok2 (e1.trans e2) isv q2.2.2⟩
  | cons a r =>
    obtain ⟨ha, hr, hl⟩ := drop_cons hd
    rw [hd] at q2
    refine .inr ⟨gv.go i s2 G2 H2 hl ok2 e2 q2.1, fun H' => ∃ acc s' G', dcN dg e f x.stay (wipeD δ vs) D k (x.items.drop (i + 1)) acc s' ∧ Ok s' G' H' ∧ Ex G1 G',
      fun H' z => ⟨x.items.length - (i + 1), by omega, hl, rfl, z⟩, fun u H3 y => ?_⟩
    obtain ⟨G3, ok3, e3, iu⟩ := gv.yld i s2 G2 H2 u H3 a ha ok2 e2 q2.1 y
    refine hw.use (hg _ _ _ _ _ _ _ _ _ q2.2 ok3 ((env.mono (e1.trans (e2.trans e3))).wipe vs) iu fun δ4 s4 σ4 G4 H4 ok4 e4 env4 q4 => ?_)
    unfold tYes
    dsimp only
    rw [if_pos rfl]
    refine he _ _ _ _ _ _ _ q4 ok4 env4 fun w s5 u5 G5 H5 ok5 e5 i5 q5 => ?_
    refine hf _ _ _ _ _ _ _ q5 ok5 (env4.mono e5) fun y s6 u6 G6 H6 ok6 e6 i6 q6 => ?_
    obtain ⟨hl6, hD6, q7⟩ := q6
    obtain ⟨_, o, hp, us, rfl, rr⟩ := ok6.cell D _ hD6
    split at q7
    · split at q7
      · rename_i ks q hq
        have i5' := i5.mono e6
        cases i5' with
        | @tup b vs' _ hb rb =>
          have := keysOf_ok hq rb
          subst this
          refine ⟨_, DPut.t hp (ok6.ex _ _ hb) (sz_lt (by rw [← paired_len rr]; exact hl6)), ?_⟩
          exact ⟨_, _, G6, by rw [hr]; exact q7, ok6.put hD6 (cDT (putW_ok rr q i6)), (((e2.trans e3).trans e4).trans e5).trans e6⟩
      · exact q7.elim
    · exact q7.elim
/-- d.update(another owned dict), keys that are tuples -/
def mergeW (kvs more : List (List Key × W)) : List (List Key × W) := more.foldl (fun acc kv => putW acc kv.1 kv.2) kvs
theorem mergeW_ok {G : Hp} : ∀ {more : List (List Key × W)} {vs : List (List Key × V)}, IsK G more vs → ∀ {kvs : List (List Key × W)} {us : List (List Key × V)}, IsK G kvs us → IsK G (mergeW kvs more) (mergeT us vs) := by
  intro more vs r
  induction r with
  | nil => intro kvs us q; exact q
  | @cons p q' ps qs h t ih =>
    intro kvs us q
    obtain ⟨h1, h2⟩ := h
    refine ih ?_
    show IsK G (putW kvs p.1 p.2) (putK us q'.1 q'.2)
    rw [h1]
    exact putW_ok q _ h2
def dUpd (o a : DE) (δ : DEnv) (s : Hs) (k : DK) : Prop := o δ s fun w s1 => (∃ p kvs, w = .v (.ref p) ∧ s1 p = some (.dT kvs)) ∧ a δ s1 fun x s2 => ∃ p q kvs more, w = .v (.ref p) ∧ x = .v (.ref q) ∧ p ≠ q ∧ s2 p = some (.dT kvs) ∧ s2 q = some (.dT more) ∧ kvs.length + more.length ≤ 100000 ∧
  (kvs ≠ [] ∨ ∃ one n : Nat, one < 400 ∧ n ≤ 6 ∧ more.map (·.1) = (List.range n).map fun (f : Nat) => ([Sum.inl (one : Int), Sum.inl (f : Int)] : List Key)) ∧ k (.d .none) (del (put s2 p (.dT (mergeW kvs more))) q)
theorem Ok.del {s : Hs} {G H : Hp} (ok : Ok s G H) (p : Addr) : Ok (del s p) G H := ⟨ok.ex, fun a c e => by
  unfold U.del at e
  by_cases h : a = p
  · rw [if_pos h] at e; cases e
  · rw [if_neg h] at e; exact ok.cell a c e⟩
theorem keys_same {G : Hp} {κ : Type} {kvs : List (κ × W)} {us : List (κ × V)} (r : IsK G kvs us) : kvs.map (·.1) = us.map (·.1) := by
  induction r with
  | nil => rfl
  | cons h t ih => rw [List.map_cons, List.map_cons, ih, h.1]
theorem sUpd {K : PySem.W.Frag} {to ta : TE} {o a : DE} (ho : SE to o) (ha : SE ta a) : SE (tBM K "dict" rUpdT to (tCons ta tNil)) (dUpd o a) := by
  intro δ s k σ G H Q h ok env post
  refine ho _ _ _ _ _ _ _ h ok env fun w1 s1 u1 G1 H1 ok1 e1 i1 q1 => ?_
  obtain ⟨⟨p, kvs, rfl, hp⟩, q1⟩ := q1
  obtain rfl : u1 = V.ref p := i1
  obtain ⟨_, ob, hp', us, rfl, r⟩ := ok1.cell p _ hp
  refine ⟨.inr (.inr (.inl ⟨rfl, .inr ⟨us, hp'⟩⟩)), ?_⟩
  refine ha _ _ _ _ _ _ _ q1 ok1 (env.mono e1) fun w2 s2 u2 G2 H2 ok2 e2 i2 q2 => ?_
  obtain ⟨p2, q, kvs2, more, e, rfl, hne, hp2, hq, hl, hap, q3⟩ := q2
  cases e
  obtain rfl : u2 = V.ref q := i2
  obtain ⟨_, ob, hp3, us2, rfl, r2⟩ := ok2.cell p _ hp2
  obtain ⟨_, ob, hq3, vs2, rfl, r3⟩ := ok2.cell q _ hq
  refine ⟨p, q, us2, vs2, rfl, rfl, hne, hp3, hq3, sz_of (by rw [← paired_len r2, ← paired_len r3]; exact hl), ?_, ?_⟩
  · rcases hap with n | ⟨one, n, h1, h2, h3⟩
    · exact .inl fun z => n (by subst z; exact List.eq_nil_of_length_eq_zero (paired_len r2))
    · exact .inr ⟨one, n, h1, h2, by unfold FieldsOf; rw [← keys_same r3]; exact h3⟩
  · exact post _ _ _ _ _ ((ok2.put hp2 (cDT (mergeW_ok r3 r2))).del q) (e1.trans e2) (isd .non) q3
/-- {}: keys of one kind -/
def dNewK (_x0 : DEnv) (s : Hs) (k : DK) : Prop := ∀ p, s p = none → k (.v (.ref p)) (put s p (.dK []))
def dNewT (_x0 : DEnv) (s : Hs) (k : DK) : Prop := ∀ p, s p = none → k (.v (.ref p)) (put s p (.dT []))
theorem sNewK : SE tDNewU dNewK := fun δ s k σ G H Q h ok env post => .inl fun p hp => post _ _ _ _ _ (ok.own hp (cDK .nil)) (Ex.refl G) isv (h p (ok.fresh hp))
theorem sNewT : SE tDNewU dNewT := fun δ s k σ G H Q h ok env post => .inr fun p hp => post _ _ _ _ _ (ok.own hp (cDT .nil)) (Ex.refl G) isv (h p (ok.fresh hp))
/-- {k: v}, one key -/
def dDisp1 (a b : DE) (δ : DEnv) (s : Hs) (k : DK) : Prop := ∀ p, s p = none → a δ (put s p (.dK [])) fun x s1 => b δ s1 fun y s2 => s2 p = some (.dK []) ∧ match x with
  | .d x => match keyOf x with
    | some q => k (.v (.ref p)) (put s2 p (.dK [(q, y)]))
    | none => False
  | _ => False
theorem sDisp1 {ta tb : TE} {a b : DE} (ha : SE ta a) (hb : SE tb b) : SE (tDisp [(ta, tb)]) (dDisp1 a b) := by
  intro δ s k σ G H Q h ok env post p hp
  have okp := ok.own (c := .dK []) (o := .dK []) hp (cDK .nil)
  refine ha _ _ _ _ _ _ _ (h p (ok.fresh hp)) okp env fun w1 s1 u1 G1 H1 ok1 e1 i1 q1 => ?_
  refine hb _ _ _ _ _ _ _ q1 ok1 (env.mono e1) fun w2 s2 u2 G2 H2 ok2 e2 i2 q2 => ?_
  obtain ⟨hs, q3⟩ := q2
  obtain ⟨_, o, hp2, us, rfl, rr⟩ := ok2.cell p _ hs
  cases rr
  split at q3
  · split at q3
    · rename_i q hq
      obtain rfl := keyOf_ok hq i1
      exact ⟨hp2, [(q, u2)], rfl, by simp, post _ _ _ _ _ (ok2.put hs (c := .dK [(q, w2)]) (cDK (.cons ⟨rfl, i2⟩ .nil))) (e1.trans e2) isv q3⟩
    · exact q3.elim
  · exact q3.elim
/-- len(set(whole numbers)), FORMS.get(text), list(range(n)) -/
def dLenSet (a : DE) (δ : DEnv) (s : Hs) (k : DK) : Prop := a δ s fun w s1 => match lstOf s1 w with
  | some xs => match intsOf xs with
    | some ns => ns.length ≤ 4000 ∧ (ns.Nodup → k (.d (.int (ns.length : Nat))) s1) ∧ (¬ ns.Nodup → ∀ m : Nat, m < ns.length → k (.d (.int m)) s1)
    | none => False
  | none => False
theorem sLenSet {K : PySem.W.Frag} {ta : TE} {a : DE} (ha : SE ta a) : SE (tLenSetU K ta) (dLenSet a) := by
  intro δ s k σ G H Q h ok env post
  refine ha _ _ _ _ _ _ _ h ok env fun w1 s1 u1 G1 H1 ok1 e1 i1 q1 => ?_
  split at q1
  · rename_i xs hx
    split at q1
    · rename_i ns hn
      obtain ⟨p, us, rfl, hp, r⟩ := lstOf_ok hx ok1 i1
      refine ⟨p, ns, rfl, by rw [← ints_ok hn r]; exact sq_rd hp, q1.1, fun nd => ?_, fun nd m hm => ?_⟩
      · exact post _ _ _ _ _ ok1 e1 (isd (.int _)) (q1.2.1 nd)
      · exact post _ _ _ _ _ ok1 e1 (isd (.int _)) (q1.2.2 nd m hm)
    · exact q1.elim
  · exact q1.elim
/-- a written table's value, as data -/
def vD : V → Option PyData
  | .non => some .none
  | .bl b => some (.bool b)
  | .int i => some (.int i)
  | .str z => some (.str z)
  | _ => none
theorem vD_ok {G : Hp} {v : V} {x : PyData} (h : vD v = some x) : Dd G x v := by
  cases v <;> first | (cases h; constructor) | cases h
def dKGet (kvs : List (Str × V)) (a : DE) (δ : DEnv) (s : Hs) (k : DK) : Prop := a δ s fun w s1 => match w with
  | .d (.str z) => match vD ((kvs.lookup z).getD .non) with
    | some x => k (.d x) s1
    | none => False
  | _ => False
theorem sKGet {kvs : List (Str × V)} {ta : TE} {a : DE} (ha : SE ta a) : SE (tKGet kvs ta) (dKGet kvs a) := by
  intro δ s k σ G H Q h ok env post
  refine ha _ _ _ _ _ _ _ h ok env fun w1 s1 u1 G1 H1 ok1 e1 i1 q1 => ?_
  split at q1
  · rename_i z
    cases i1
    split at q1
    · rename_i x hx
      exact post _ _ _ _ _ ok1 e1 (isd (vD_ok hx)) q1
    · exact q1.elim
  · exact q1.elim
def rngD (a b : Int) : List PyData := (List.range (b - a).toNat).map fun i => .int (a + (i : Nat))
def dLstRg1 (a : DE) (δ : DEnv) (s : Hs) (k : DK) : Prop := a δ s fun w s1 => match w with
  | .d (.int n) => (0 ≤ n ∧ n ≤ 100000) ∧ k (.d (.list (rngD 0 n))) s1
  | _ => False
theorem sLstRg1 {ta : TE} {a : DE} (ha : SE ta a) : SE (tLstRg (tRg1 ta)) (dLstRg1 a) := by
  intro δ s k σ G H Q h ok env post
  refine ha _ _ _ _ _ _ _ h ok env fun w1 s1 u1 G1 H1 ok1 e1 i1 q1 => ?_
  split at q1
  · rename_i n
    cases i1
    refine ⟨n, rfl, RgOk.of_le (by omega) (by omega) (by omega) (by omega), fun p hp => ?_⟩
    have nw := ok1.new (o := .lst (rgV 0 n)) hp
    refine post _ _ _ _ _ nw.1 (e1.trans nw.2) (isd (.lst upd_same ?_)) q1.2
    unfold rgV rngD
    generalize upd G1 p _ = GG
    generalize List.range (n - 0).toNat = l
    induction l with
    | nil => exact .nil
    | cons i r ih => exact .cons (.int _) ih
  · exact q1.elim
/-- sorted whole numbers -/
def dSorted (ws : List W) (s : Hs) (k : DK) : Prop := match ws with
  | [w] => match lstOf s w with
    | some xs => match intsOf xs with
      | some ns => ∀ ns' : List Int, ns'.Perm ns → ns'.Pairwise (· ≤ ·) → k (.d (.list (ns'.map .int))) s
      | none => False
    | none => False
  | _ => False
theorem sortedD {K : PySem.W.Frag} : SCB (rSortedU K) dSorted := by
  intro ws s k us G H Q h ok i post
  unfold dSorted at h
  split at h
  · cases i with
    | cons i t =>
      cases t
      split at h
      · rename_i xs hx
        split at h
        · rename_i ns hn
          obtain ⟨a, us, rfl, ha, rr⟩ := lstOf_ok hx ok i
          refine .inl ⟨a, ns, rfl, by rw [← ints_ok hn rr]; exact sq_rd ha, fun ns' p h1 h2 hp => ?_⟩
          have nw := ok.new (o := .lst (ns'.map V.int)) hp
          refine post _ _ _ _ _ nw.1 nw.2 (isd (.lst upd_same ?_)) (h ns' h1 h2)
          clear h1 h2 nw
          generalize upd G p _ = GG
          induction ns' with
          | nil => exact .nil
          | cons i r ih => exact .cons (.int _) ih
        · exact h.elim
      · exact h.elim
  · exact h.elim

/-! ### defs -/
def dfOf (N : List Str) (n : Nat) (d : DS) (ws : List W) (s : Hs) (k : DK) : Prop := ws.length = n ∧ d { nx := fun _ s' => k (.d .none) s', rt := k } (startD N ws) s
theorem sfOf {N : List Str} {n : Nat} {t : XK → TS} {d : DS} (h : ∀ E, SS (t E) d) : SF (spOf N n t) (dfOf N n d) := by
  intro ws s k us G H Q E hd ok i post
  refine ⟨by rw [← paired_len i]; exact hd.1, ?_⟩
  exact h E _ _ _ _ _ _ _ hd.2 ok (startD_ok i) ⟨fun δ1 s1 σ1 G1 H1 ok1 e1 env1 q1 => post _ _ _ _ _ ok1 e1 (isd .non) q1, post, fun _ _ _ _ _ _ _ _ z => z.elim, fun _ _ _ _ _ _ _ _ z => z.elim⟩
/-- .. own things may be dropped at the end -/
def Sub (s s' : Hs) : Prop := ∀ (a : Addr) (c : Cell), s a = some c → s' a = some c
theorem Sub.refl (s : Hs) : Sub s s := fun _ _ h => h
theorem Ok.sub {s s' : Hs} {G H : Hp} (ok : Ok s' G H) (h : Sub s s') : Ok s G H := ⟨ok.ex, fun a c e => ok.cell a c (h a c e)⟩
def dfOfX (N : List Str) (n : Nat) (d : DS) (ws : List W) (s : Hs) (k : DK) : Prop := ws.length = n ∧ d { nx := fun _ s' => ∃ s'', Sub s'' s' ∧ k (.d .none) s'', rt := fun w s' => ∃ s'', Sub s'' s' ∧ k w s'' } (startD N ws) s
theorem sfOfX {N : List Str} {n : Nat} {t : XK → TS} {d : DS} (h : ∀ E, SS (t E) d) : SF (spOf N n t) (dfOfX N n d) := by
  intro ws s k us G H Q E hd ok i post
  refine ⟨by rw [← paired_len i]; exact hd.1, ?_⟩
  exact h E _ _ _ _ _ _ _ hd.2 ok (startD_ok i) ⟨fun δ1 s1 σ1 G1 H1 ok1 e1 env1 ⟨s2, h2, q1⟩ => post _ _ _ _ _ (ok1.sub h2) e1 (isd .non) q1, fun w s1 u G1 H1 ok1 e1 i1 ⟨s2, h2, q1⟩ => post _ _ _ _ _ (ok1.sub h2) e1 i1 q1, fun _ _ _ _ _ _ _ _ z => z.elim, fun _ _ _ _ _ _ _ _ z => z.elim⟩
/-- a promise that is not looked into -/
theorem sealD (d : DF) : ∃ e : DF, e = d := ⟨d, rfl⟩
noncomputable def sealF (d : DF) : DF := Classical.choose (sealD d)
theorem sealF_eq (d : DF) : sealF d = d := Classical.choose_spec (sealD d)
theorem sfSeal {sp : Sp} {d : DF} (h : SF sp d) : SF sp (sealF d) := by rw [sealF_eq]; exact h
end U

set_option maxHeartbeats 2000000
/-! U9: lemmas at the level of data. -/
namespace U
open PySem PySem.Spec PyProof.Rows L2 Evl
theorem put_put {s : Hs} {p : Addr} {c c' : Cell} : put (put s p c) p c' = put s p c' := by
  funext a; unfold put; by_cases h : a = p <;> simp [h]
theorem del_put {s : Hs} {p : Addr} {c : Cell} (h : s p = none) : del (put s p c) p = s := by
  funext a; unfold del put; by_cases e : a = p
  · subst e; simp [h]
  · simp [e]
theorem put_same {s : Hs} {p : Addr} {c : Cell} (h : s p = some c) : put s p c = s := by
  funext a; unfold put; by_cases e : a = p
  · subst e; simp [h]
  · simp [e]
theorem put_comm {s : Hs} {p q : Addr} {c c' : Cell} (h : p ≠ q) : put (put s p c) q c' = put (put s q c') p c := by
  funext a; unfold put; by_cases e : a = p
  · subst e; simp [h]
  · simp [e]
theorem ne_put {s : Hs} {p q : Addr} {c : Cell} (h : s p = none) (h' : s q = some c) : p ≠ q := fun e => by subst e; rw [h] at h'; cases h'
/-- a comprehension over data, its parts plain -/
theorem lcN_yes {g : DG} {e : DE} {δ : DEnv} {D : Addr} {fin : List W → Hs → Prop} {f : W → W} : ∀ {xs acc : List W} {s : Hs}, (∀ x ∈ xs, ∀ (s : Hs) (k : DK), k (f x) s → g x δ s fun δ1 s1 => e δ1 s1 k) →
    acc.length + xs.length ≤ 100000 → s D = some (.lst acc) → fin (acc ++ xs.map f) (put s D (.lst (acc ++ xs.map f))) → lcN g dYes e (fun _ => True) δ D fin xs acc s
  | [], acc, s, _, _, hD, h => ⟨True.intro, hD, by rw [List.map_nil, List.append_nil, put_same hD] at h; exact h⟩
  | x :: xs, acc, s, he, hl, hD, h => by
    refine ⟨True.intro, ?_⟩
    refine he x List.mem_cons_self s _ ⟨by simp at hl; omega, hD, ?_⟩
    refine lcN_yes (f := f) (fun y hy => he y (List.mem_cons_of_mem _ hy)) (by simp at hl ⊢; omega) put_eq ?_
    rw [put_put, List.append_assoc]
    exact h
theorem dLc_yes {i : DI} {g : DG} {e : DE} {vs : List Nat} {δ : DEnv} {s : Hs} {k : DK} {xs : List W} (f : W → PyData) (hi : ∀ k', k' { items := xs } s → i δ s k') (he : ∀ x ∈ xs, ∀ (s : Hs) (k : DK), k (.d (f x)) s → g x (wipeD δ vs) s fun δ1 s1 => e δ1 s1 k)
    (hl : xs.length ≤ 100000) (h : k (.d (.list (xs.map f))) s) : dLc i g dYes e vs δ s k := by
  refine hi _ fun D hD => lcN_yes (f := fun x => .d (f x)) he (by simpa using hl) put_eq ?_
  unfold lcFin
  have e1 : ([] : List W) ++ xs.map (fun x => .d (f x)) = (xs.map f).map .d := by rw [List.nil_append, List.map_map]; rfl
  rw [e1, datas_map, put_put, del_put hD]
  exact h
/-- .. with a test -/
theorem lcN_if {g : DG} {t : DT} {e : DE} {δ : DEnv} {D : Addr} {fin : List W → Hs → Prop} {p : W → Bool} {f : W → W} : ∀ {xs acc : List W} {s : Hs}, (∀ x ∈ xs, ∀ (s : Hs) (k : DK) (P : Hs → Prop), (if p x = true then k (f x) s else P s) → g x δ s fun δ1 s1 => t δ1 s1 fun b s2 => if b = true then e δ1 s2 k else P s2) →
    acc.length + xs.length ≤ 100000 → s D = some (.lst acc) → fin (acc ++ (xs.filter p).map f) (put s D (.lst (acc ++ (xs.filter p).map f))) → lcN g t e (fun _ => True) δ D fin xs acc s
  | [], acc, s, _, _, hD, h => ⟨True.intro, hD, by rw [List.filter_nil, List.map_nil, List.append_nil, put_same hD] at h; exact h⟩
  | x :: xs, acc, s, he, hl, hD, h => by
    refine ⟨True.intro, ?_⟩
    refine he x List.mem_cons_self s _ _ ?_
    by_cases hp : p x = true
    · rw [if_pos hp]
      refine ⟨by simp at hl; omega, hD, ?_⟩
      refine lcN_if (p := p) (f := f) (fun y hy => he y (List.mem_cons_of_mem _ hy)) (by simp at hl ⊢; omega) put_eq ?_
      rw [put_put, List.append_assoc]
      rw [List.filter_cons_of_pos hp] at h
      exact h
    · rw [if_neg hp]
      rw [List.filter_cons_of_neg hp] at h
      exact lcN_if (p := p) (f := f) (fun y hy => he y (List.mem_cons_of_mem _ hy)) (by simp at hl ⊢; omega) hD h
theorem dLc_if {i : DI} {g : DG} {t : DT} {e : DE} {vs : List Nat} {δ : DEnv} {s : Hs} {k : DK} {xs : List W} (p : W → Bool) (f : W → PyData) (hi : ∀ k', k' { items := xs } s → i δ s k') (he : ∀ x ∈ xs, ∀ (s : Hs) (k : DK) (P : Hs → Prop), (if p x = true then k (.d (f x)) s else P s) → g x (wipeD δ vs) s fun δ1 s1 => t δ1 s1 fun b s2 => if b = true then e δ1 s2 k else P s2)
    (hl : xs.length ≤ 100000) (h : k (.d (.list ((xs.filter p).map f))) s) : dLc i g t e vs δ s k := by
  refine hi _ fun D hD => lcN_if (p := p) (f := fun x => .d (f x)) he (by simpa using hl) put_eq ?_
  unfold lcFin
  have e1 : ([] : List W) ++ (xs.filter p).map (fun x => .d (f x)) = ((xs.filter p).map f).map .d := by rw [List.nil_append, List.map_map]; rfl
  rw [e1, datas_map, put_put, del_put hD]
  exact h
theorem boolsOf_map {α : Type} (f : α → Bool) (xs : List α) : boolsOf (xs.map fun x => .bool (f x)) = some (xs.map f) := by
  induction xs with
  | nil => rfl
  | cons x r ih => show (boolsOf (r.map fun x => .bool (f x))).map (f x :: ·) = _; rw [ih]; rfl
theorem intsOf_map {α : Type} (f : α → Int) (xs : List α) : intsOf (xs.map fun x => .int (f x)) = some (xs.map f) := by
  induction xs with
  | nil => rfl
  | cons x r ih => show (intsOf (r.map fun x => .int (f x))).map (f x :: ·) = _; rw [ih]; rfl
theorem intsOf_ints (ns : List Int) : intsOf (ns.map .int) = some ns := by
  have := intsOf_map id ns
  simpa using this
theorem atI_map {α β : Type} (f : α → β) (xs : List α) (i : Int) : atI (xs.map f) i = (atI xs i).map f := by
  unfold atI
  rw [List.length_map]
  cases ixN xs.length i with
  | none => rfl
  | some j => show (xs.map f)[j]? = (xs[j]?).map f; rw [List.getElem?_map]
theorem atI_nat {α : Type} (xs : List α) (i : Nat) : atI xs (i : Int) = xs[i]? := by
  unfold atI ixN
  by_cases h : i < xs.length
  · rw [if_pos (by omega), if_pos (by omega)]
    show xs[(i : Int).toNat]? = _
    rw [Int.toNat_natCast]
  · rw [if_pos (by omega), if_neg (by omega), List.getElem?_eq_none (by omega)]
    rfl
theorem dIx_tup {xs : List PyData} {i : Int} {s : Hs} {k : DK} : dIx (.d (.tuple xs)) (.d (.int i)) s k = match atI xs i with
    | some x => k (.d x) s
    | none => False := by
  unfold dIx seqOf
  simp only [atI_map]
  cases atI xs i <;> rfl
theorem dIx_list {xs : List PyData} {i : Int} {s : Hs} {k : DK} : dIx (.d (.list xs)) (.d (.int i)) s k = match atI xs i with
    | some x => k (.d x) s
    | none => False := by
  unfold dIx seqOf
  simp only [atI_map]
  cases atI xs i <;> rfl
theorem dIx_own {p : Addr} {ws : List W} {i : Int} {s : Hs} {k : DK} (h : s p = some (.lst ws)) : dIx (.v (.ref p)) (.d (.int i)) s k = match atI ws i with
    | some x => k x s
    | none => False := by
  unfold dIx seqOf
  simp only [h] <;> cases atI ws i <;> rfl
theorem atI_zero {α : Type} (x : α) (r : List α) : atI (x :: r) 0 = some x := by simp [atI, ixN]
theorem atI_one {α : Type} (x y : α) (r : List α) : atI (x :: y :: r) 1 = some y := by have := atI_nat (x :: y :: r) 1; simpa using this
theorem cut_one {α : Type} (x : α) (r : List α) : U.cutD (x :: r) (some 1) none = r := by
  unfold U.cutD
  simp [HT.sIx]
/-- .. whose parts look at owned things, and leave them -/
theorem lcN_at {g : DG} {e : DE} {δ : DEnv} {D : Addr} {s : Hs} {fin : List W → Hs → Prop} {f : W → W} : ∀ {xs acc : List W}, (∀ x ∈ xs, ∀ (c : Cell) (k : DK), k (f x) (put s D c) → g x δ (put s D c) fun δ1 s1 => e δ1 s1 k) →
    acc.length + xs.length ≤ 100000 → fin (acc ++ xs.map f) (put s D (.lst (acc ++ xs.map f))) → lcN g dYes e (fun _ => True) δ D fin xs acc (put s D (.lst acc))
  | [], acc, _, _, h => ⟨True.intro, put_eq, by rw [List.map_nil, List.append_nil] at h; exact h⟩
  | x :: xs, acc, he, hl, h => by
    refine ⟨True.intro, ?_⟩
    refine he x List.mem_cons_self _ _ ⟨by simp at hl; omega, put_eq, ?_⟩
    rw [put_put]
    refine lcN_at (f := f) (fun y hy => he y (List.mem_cons_of_mem _ hy)) (by simp at hl ⊢; omega) ?_
    rw [List.append_assoc]
    exact h
theorem dLc_at {i : DI} {g : DG} {e : DE} {vs : List Nat} {δ : DEnv} {s : Hs} {k : DK} {xs : List W} (f : W → PyData) (hi : ∀ k', k' { items := xs } s → i δ s k') (he : ∀ x ∈ xs, ∀ (D : Addr) (c : Cell) (k : DK), s D = none → k (.d (f x)) (put s D c) → g x (wipeD δ vs) (put s D c) fun δ1 s1 => e δ1 s1 k)
    (hl : xs.length ≤ 100000) (h : k (.d (.list (xs.map f))) s) : dLc i g dYes e vs δ s k := by
  refine hi _ fun D hD => lcN_at (f := fun x => .d (f x)) (fun x hx c k => he x hx D c k hD) (by simpa using hl) ?_
  unfold lcFin
  have e1 : ([] : List W) ++ xs.map (fun x => .d (f x)) = (xs.map f).map .d := by rw [List.nil_append, List.map_map]; rfl
  rw [e1, datas_map, del_put hD]
  exact h
/-! ### the script -/
def dLenK (K : PySem.W.Frag) (a : DE) (δ : DEnv) (s : Hs) (k : DK) : Prop := a δ s fun w s1 => ∃ p ns, w = .s K p ns ∧ k (.d (.int (ns.length : Nat))) s1
theorem sLenK {K : PySem.W.Frag} {ta : TE} {a : DE} (ha : SE ta a) : SE (tCB (rLenU K) (tCons ta tNil)) (dLenK K a) := by
  intro δ s k σ G H Q h ok env post
  refine ha _ _ _ _ _ _ _ h ok env fun w1 s1 u1 G1 H1 ok1 e1 i1 q1 => ?_
  obtain ⟨p, ns, rfl, q⟩ := q1
  obtain ⟨rfl, hs⟩ := i1
  refine .inl ⟨ns.map V.int, .inl (hs _ ok1.ex), ?_⟩
  rw [List.length_map]
  exact post _ _ _ _ _ ok1 e1 (isd (.int _)) q
theorem DdA.ints {H : Hp} : ∀ ns : List Int, DdA H (ns.map .int) (ns.map V.int)
  | [] => .nil
  | _ :: r => .cons (.int _) (DdA.ints r)
def dSlK (K : PySem.W.Frag) (a : DE) (lo hi : DO) (δ : DEnv) (s : Hs) (k : DK) : Prop := a δ s fun w s1 => lo δ s1 fun l s2 => hi δ s2 fun h s3 => ∃ p ns, w = .s K p ns ∧ k (.d (.list ((cutD ns l h).map .int))) s3
theorem sSlK {K : PySem.W.Frag} {ta : TE} {a : DE} {tl th : TO} {lo hi : DO} (ha : SE ta a) (hl : SO tl lo) (hh : SO th hi) : SE (tSl (rSlU K) ta tl th) (dSlK K a lo hi) := by
  intro δ s k σ G H Q h ok env post
  refine ha _ _ _ _ _ _ _ h ok env fun w1 s1 u1 G1 H1 ok1 e1 i1 q1 => ?_
  refine hl _ _ _ _ _ _ _ q1 ok1 (env.mono e1) fun l s2 G2 H2 ok2 e2 q2 => ?_
  refine hh _ _ _ _ _ _ _ q2 ok2 (env.mono (e1.trans e2)) fun r s3 G3 H3 ok3 e3 q3 => ?_
  obtain ⟨p, ns, rfl, q⟩ := q3
  obtain ⟨rfl, hs⟩ := i1.mono (e2.trans e3)
  refine .inl ⟨p, ns.map V.int, rfl, hs _ ok3.ex, fun q2 hq => ?_⟩
  have n := ok3.new (o := .lst (cutV (ns.map V.int) l r)) hq
  refine post _ _ _ _ _ n.1 (((e1.trans e2).trans e3).trans n.2) (isd (.lst upd_same ?_)) q
  have := DdA.cut (DdA.ints (H := upd G3 q2 (.lst (cutV (ns.map V.int) l r))) ns) l r
  have e : cutD (ns.map PyData.int) l r = (cutD ns l r).map .int := by unfold cutD; rw [List.length_map, List.map_take, List.map_drop]
  rw [e] at this
  exact this
/-- list(script), owned -/
def dListK (K : PySem.W.Frag) (a : DE) (δ : DEnv) (s : Hs) (k : DK) : Prop := a δ s fun w s1 => ∃ p ns, w = .s K p ns ∧ ∀ l, s1 l = none → k (.v (.ref l)) (put s1 l (.lst (ns.map fun i => .d (.int i))))
theorem sListK {K : PySem.W.Frag} {ta : TE} {a : DE} (ha : SE ta a) : SE (tCB (rListU K) (tCons ta tNil)) (dListK K a) := by
  intro δ s k σ G H Q h ok env post
  refine ha _ _ _ _ _ _ _ h ok env fun w1 s1 u1 G1 H1 ok1 e1 i1 q1 => ?_
  obtain ⟨p, ns, rfl, q⟩ := q1
  obtain ⟨rfl, hs⟩ := i1
  refine .inl ⟨ns.map V.int, .inl (hs _ ok1.ex), fun l hl => ?_⟩
  refine post _ _ _ _ _ (ok1.own hl (cLst ?_)) e1 isv (q l (ok1.fresh hl))
  have := isA_map (DdA.ints (H := G1) ns)
  rw [List.map_map] at this
  exact this
end U

set_option maxHeartbeats 2000000
/-! U10: d.update(d2) (keys by value), {k: v, ..} of some keys, isinstance by two classes. -/
namespace U
open PySem PySem.Spec PyProof.Rows L2 Evl
def rUpdK : V → List V → Hp → VK → Prop := fun x vs H Q => ∃ d o kvs more, x = .ref d ∧ vs = [.ref o] ∧ d ≠ o ∧ H d = some (.dK kvs) ∧ H o = some (.dK more) ∧ kvs.length + more.length ≤ sizeLine ∧ Q .non (upd H d (.dK (mergeK kvs more)))
theorem mt_updK {X : Cx} : MtR X "dict.update" rUpdK := by
  intro pins s σ H x xs v us Q I rx rxs h
  obtain ⟨d, o, kvs, more, rfl, rfl, hdo, hd, ho, hz, q⟩ := h
  obtain rfl : v = Value.ref d := rx
  obtain ⟨u, rfl, ru⟩ := vals1 rxs
  obtain rfl : u = Value.ref o := ru
  obtain ⟨z1, s1, vs1, rel1, dd1⟩ := dk_of I.hok hd
  obtain ⟨z2, s2, vs2, rel2, dd2⟩ := dk_of I.hok ho
  have l1 := Paired.length rel1
  have l2 := Paired.length rel2
  refine call_meetsIn PySem.F.slot_dict_update dd1.typeIs PySem.F.entry_dict_update (PySem.F.args_dict_update_2 _ _) (meets_dict_update (mixKind X.prog X.w) d o hdo s2) ⟨vs1, vs2, dd1, dd2, by omega, fun h' dd' _ hs => ?_⟩
  have he : ∃ q, h'.get? d = some q := let ⟨q, _, _, hq, _⟩ := dd'; ⟨q, hq⟩
  have hl : (mergeK kvs more).length ≤ sizeLine := Nat.le_trans (length_mergeK more kvs) hz
  exact ⟨.non, _, d_write (t' := s.toks) I (by rw [hd]; exact True.intro) hs he (dk_new hl s1 (rel2.merge rel1) dd'), rfl, q⟩
def mergeKW (kvs more : List (Key × W)) : List (Key × W) := more.foldl (fun acc kv => putW acc kv.1 kv.2) kvs
theorem mergeKW_ok {G : Hp} : ∀ {more : List (Key × W)} {vs : List (Key × V)}, IsK G more vs → ∀ {kvs : List (Key × W)} {us : List (Key × V)}, IsK G kvs us → IsK G (mergeKW kvs more) (mergeK us vs) := by
  intro more vs r
  induction r with
  | nil => intro kvs us q; exact q
  | @cons p q' ps qs h t ih =>
    intro kvs us q
    obtain ⟨h1, h2⟩ := h
    refine ih ?_
    show IsK G (putW kvs p.1 p.2) (putK us q'.1 q'.2)
    rw [h1]
    exact putW_ok q _ h2
/-- d.update(d2): keys by value; d2 stays -/
def dUpdK (o a : DE) (δ : DEnv) (s : Hs) (k : DK) : Prop := o δ s fun w s1 => (∃ p kvs, w = .v (.ref p) ∧ s1 p = some (.dK kvs)) ∧ a δ s1 fun x s2 => ∃ p q kvs more, w = .v (.ref p) ∧ x = .v (.ref q) ∧ p ≠ q ∧ s2 p = some (.dK kvs) ∧ s2 q = some (.dK more) ∧ kvs.length + more.length ≤ 100000 ∧
  k (.d .none) (put s2 p (.dK (mergeKW kvs more)))
theorem sUpdK {K : PySem.W.Frag} {to ta : TE} {o a : DE} (ho : SE to o) (ha : SE ta a) : SE (tBM K "dict" rUpdK to (tCons ta tNil)) (dUpdK o a) := by
  intro δ s k σ G H Q h ok env post
  refine ho _ _ _ _ _ _ _ h ok env fun w1 s1 u1 G1 H1 ok1 e1 i1 q1 => ?_
  obtain ⟨⟨p, kvs, rfl, hp⟩, q1⟩ := q1
  obtain rfl : u1 = V.ref p := i1
  obtain ⟨_, ob, hp', us, rfl, r⟩ := ok1.cell p _ hp
  refine ⟨.inr (.inr (.inl ⟨rfl, .inl ⟨us, hp'⟩⟩)), ?_⟩
  refine ha _ _ _ _ _ _ _ q1 ok1 (env.mono e1) fun w2 s2 u2 G2 H2 ok2 e2 i2 q2 => ?_
  obtain ⟨p2, q, kvs2, more, e, rfl, hne, hp2, hq, hl, q3⟩ := q2
  cases e
  obtain rfl : u2 = V.ref q := i2
  obtain ⟨_, ob, hp3, us2, rfl, r2⟩ := ok2.cell p _ hp2
  obtain ⟨_, ob, hq3, vs2, rfl, r3⟩ := ok2.cell q _ hq
  refine ⟨p, q, us2, vs2, rfl, rfl, hne, hp3, hq3, sz_of (by rw [← paired_len r2, ← paired_len r3]; exact hl), ?_⟩
  exact post _ _ _ _ _ (ok2.put hp2 (cDK (mergeKW_ok r3 r2))) (e1.trans e2) (isd .non) q3
/-! ### {k: v, ..} -/
def dPairs : List (DE × DE) → DEnv → Hs → (List (Key × W) → Hs → Prop) → Prop
  | [], _, s, k => k [] s
  | p :: r, δ, s, k => p.1 δ s fun x s1 => p.2 δ s1 fun y s2 => match x with
    | .d x => match keyOf x with
      | some q => dPairs r δ s2 fun ps s3 => k ((q, y) :: ps) s3
      | none => False
    | _ => False
def dDisp (l : List (DE × DE)) (δ : DEnv) (s : Hs) (k : DK) : Prop := ∀ p, s p = none → dPairs l δ (put s p (.dK [])) fun ps s2 => s2 p = some (.dK []) ∧ ps.length ≤ 15 ∧ k (.v (.ref p)) (put s2 p (.dK (mergeKW [] ps)))
inductive SPs : List (TE × TE) → List (DE × DE) → Prop
  | nil : SPs [] []
  | cons {ta tb : TE} {a b : DE} {ts : List (TE × TE)} {ds : List (DE × DE)} : SE ta a → SE tb b → SPs ts ds → SPs ((ta, tb) :: ts) ((a, b) :: ds)
theorem sPairs {ts : List (TE × TE)} {ds : List (DE × DE)} (h : SPs ts ds) : ∀ (δ : DEnv) (s : Hs) (k : List (Key × W) → Hs → Prop) (σ : L2.St) (G H : Hp) (Q : List (V × V) → Hp → Prop), dPairs ds δ s k → Ok s G H → EnvOk G δ σ →
    (∀ (ps : List (Key × W)) (s' : Hs) (us : List (Key × V)) (G' H' : Hp), Ok s' G' H' → Ex G G' → IsK G' ps us → k ps s' → Q (us.map fun kv => (kV kv.1, kv.2)) H') → tPairs ts σ H Q := by
  induction h with
  | nil => intro δ s k σ G H Q h ok env post; exact post [] s [] G H ok (Ex.refl G) .nil h
  | @cons ta tb a b ts ds ha hb _ ih =>
    intro δ s k σ G H Q h ok env post
    refine ha _ _ _ _ _ _ _ h ok env fun w1 s1 u1 G1 H1 ok1 e1 i1 q1 => ?_
    refine hb _ _ _ _ _ _ _ q1 ok1 (env.mono e1) fun w2 s2 u2 G2 H2 ok2 e2 i2 q2 => ?_
    split at q2
    · split at q2
      · rename_i q hq
        obtain rfl := keyOf_ok hq i1
        refine ih _ _ _ _ _ _ _ q2 ok2 (env.mono (e1.trans e2)) fun ps s3 us G3 H3 ok3 e3 i3 q3 => ?_
        exact post ((q, w2) :: ps) s3 ((q, u2) :: us) G3 H3 ok3 ((e1.trans e2).trans e3) (.cons ⟨rfl, i2.mono e3⟩ i3) q3
      · exact q2.elim
    · exact q2.elim
theorem sDisp {ts : List (TE × TE)} {ds : List (DE × DE)} (hs : SPs ts ds) : SE (tDisp ts) (dDisp ds) := by
  intro δ s k σ G H Q h ok env post p hp
  have okp := ok.own (c := .dK []) (o := .dK []) hp (cDK .nil)
  refine sPairs hs _ _ _ _ _ _ _ (h p (ok.fresh hp)) okp env fun ps s2 us G2 H2 ok2 e2 i2 q2 => ?_
  obtain ⟨hd, hl, q3⟩ := q2
  obtain ⟨_, o, hp2, vs, rfl, rr⟩ := ok2.cell p _ hd
  cases rr
  exact ⟨hp2, us, rfl, by rw [← paired_len i2]; exact hl, post _ _ _ _ _ (ok2.put hd (cDK (mergeKW_ok i2 .nil))) e2 isv q3⟩
/-! ### isinstance(x, (T, U)) -/
def dIsin2 (T U : Tk) (a : DE) (δ : DEnv) (s : Hs) (k : DK) : Prop := a δ s fun w s1 => match tkD s1 w with
  | some t => k (.d (.bool (isTk t T || isTk t U))) s1
  | none => False
theorem kit_tk2 {K : PySem.W.Frag} (t T U : Tk) : PySem.W.kitAny K (.type t.name) [.type T.name, .type U.name] = some (isTk t T || isTk t U) := by
  unfold PySem.W.kitAny
  rw [kit_tk]
  cases isTk t T with
  | true => rfl
  | false =>
    dsimp only
    unfold PySem.W.kitAny
    rw [kit_tk]
    cases isTk t U <;> rfl
theorem sIsin2 {K : PySem.W.Frag} {ta : TE} {a : DE} (T U : Tk) {n m : String} (hn : n = T.name) (hm : m = U.name) (ha : SE ta a) : SE (tCB (rIsiT K) (tCons ta (tCons (tTup (tCons (tC (.ty n)) (tCons (tC (.ty m)) tNil))) tNil))) (dIsin2 T U a) := by
  subst hn hm
  intro δ s k σ G H Q h ok env post
  refine ha _ _ _ _ _ _ _ h ok env fun w1 s1 u1 G1 H1 ok1 e1 i1 q1 => ?_
  split at q1
  · rename_i t ht
    refine ⟨by show 2 ≤ sizeLine; exact sz1000 (by decide), fun p hp => ?_⟩
    have n := ok1.new (o := .tup [.ty T.name, .ty U.name]) hp
    exact ⟨u1, p, _, _, _, _, rfl, upd_same, .cons (.ty _) (.cons (.ty _) .nil), tkD_ok ht n.1 (i1.mono n.2), kit_tk2 t T U, post _ _ _ _ _ n.1 (e1.trans n.2) (isd (.bl _)) q1⟩
  · exact q1.elim
/-! ### for k in d: the dict is locked meanwhile -/
theorem PSor {X : Cx} {st : Stmt} {t t' : TS} (h : PS X st t) (h' : PS X st t') : PS X st (fun D σ H => t D σ H ∨ t' D σ H) :=
  ⟨fun pins s σ H D I q => q.elim (h.run pins s σ H D I) (h'.run pins s σ H D I)⟩
theorem for_ok {g : TG} {dg : DG} {tb : TS} {b : DS} (hg : SG g dg) (hb : SS tb b) {J : It} {x : Src} {G1 : Hp} {DD : DEnds} {D : Ends} {δ : DEnv} {s1 : Hs} {σ : L2.St} {H1 : Hp} (gv : Gives J x G1) (q1 : forN dg b x.stay x.items DD δ s1) (ok1 : Ok s1 G1 H1) (env : EnvOk G1 δ σ) (post : PostE G1 DD D) :
    ∃ W : Nat → Nat → L2.St → Hp → Prop, (∃ m, W 0 m σ H1) ∧ ∀ i m σ H, W i m σ H →
      (J.stop i H ∧ D.nx σ H) ∨ (J.go i H ∧ ∃ N : L2.St → Hp → Prop, (∀ σ' H', N σ' H' → ∃ m', m' < m ∧ W (i + 1) m' σ' H') ∧ ∀ x H', J.yld i H x H' → g x σ H' fun σ2 H2 => tb { D with nx := N, ct := N, bk := D.nx } σ2 H2) := by
  refine ⟨fun i m σ' H' => i ≤ x.items.length ∧ m = x.items.length - i ∧ ∃ δ' s' G', forN dg b x.stay (x.items.drop i) DD δ' s' ∧ Ok s' G' H' ∧ Ex G1 G' ∧ EnvOk G' δ' σ',
    ⟨_, Nat.zero_le _, rfl, δ, s1, G1, q1, ok1, Ex.refl G1, env⟩, ?_⟩
  rintro i m σ2 H2 ⟨hil, rfl, δ2, s2, G2, q2, ok2, e2, env2⟩
  cases hd : x.items.drop i with
  | nil =>
    rw [hd] at q2
    have hi : i = x.items.length := by
      have := List.drop_eq_nil_iff.mp hd
      omega
    subst hi
    exact .inl ⟨gv.stop s2 G2 H2 ok2 e2 q2.1, post.nx _ _ _ _ _ ok2 e2 env2 q2.2⟩
  | cons a r =>
    obtain ⟨ha, hr, hl⟩ := drop_cons hd
    rw [hd] at q2
    refine .inr ⟨gv.go i s2 G2 H2 hl ok2 e2 q2.1, fun σ' H' => ∃ δ' s' G', forN dg b x.stay (x.items.drop (i + 1)) DD δ' s' ∧ Ok s' G' H' ∧ Ex G1 G' ∧ EnvOk G' δ' σ',
      fun σ' H' z => ⟨x.items.length - (i + 1), by omega, hl, rfl, z⟩, fun u H3 y => ?_⟩
    obtain ⟨G3, ok3, e3, iu⟩ := gv.yld i s2 G2 H2 u H3 a ha ok2 e2 q2.1 y
    refine hg _ _ _ _ _ _ _ _ _ q2.2 ok3 (env2.mono e3) iu fun δ4 s4 σ4 G4 H4 ok4 e4 env4 q4 => ?_
    have e14 := (e2.trans e3).trans e4
    refine hb _ _ _ _ _ _ _ q4 ok4 env4 ⟨fun δ5 s5 σ5 G5 H5 ok5 e5 env5 q5 => ⟨δ5, s5, G5, by rw [hr]; exact q5, ok5, e14.trans e5, env5⟩, post.rt.up e14, post.nx.up e14, fun δ5 s5 σ5 G5 H5 ok5 e5 env5 q5 => ⟨δ5, s5, G5, by rw [hr]; exact q5, ok5, e14.trans e5, env5⟩⟩
def unlockE (q : Addr) (o : HO) (kvs : List (Key × W)) (D : DEnds) : DEnds :=
  { nx := fun δ s => s q = some (.lock o) ∧ D.nx δ (put s q (.dK kvs)), rt := fun w s => s q = some (.lock o) ∧ D.rt w (put s q (.dK kvs)), bk := fun δ s => s q = some (.lock o) ∧ D.bk δ (put s q (.dK kvs)), ct := fun δ s => s q = some (.lock o) ∧ D.ct δ (put s q (.dK kvs)) }
def zForK (a : DE) (g : DG) (b : DS) (D : DEnds) (δ : DEnv) (s : Hs) : Prop := ∃ q kvs, s q = some (.dK kvs) ∧ ∀ o : HO, a δ (put s q (.lock o)) fun w s1 => w = .v (.ref q) ∧ s1 q = some (.lock o) ∧
  forN g b (fun s' => s' q = some (.lock o)) (kvs.map fun kv => keyW kv.1) (unlockE q o kvs D) δ s1
theorem ok_lock {s : Hs} {G H : Hp} (ok : Ok s G H) {q : Addr} {c : Cell} (h : s q = some c) (o : HO) : Ok (put s q (.lock o)) G (upd H q o) := ok.put h (show CellIs G (.lock o) o from rfl)
theorem ssForK {ta : TE} {a : DE} {g : TG} {dg : DG} {tb : TS} {b : DS} (ha : SE ta a) (hg : SG g dg) (hb : SS tb b) : SS (tLock (tFor (iKeys ta) g tb)) (zForK a dg b) := fun DD δ s D σ G H h ok env post => by
  obtain ⟨q, kvs, hq, h⟩ := h
  obtain ⟨_, o, hp, us, rfl, r⟩ := ok.cell q _ hq
  refine ⟨q, _, hp, True.intro, fun od => ?_⟩
  refine ha _ _ _ _ _ _ _ (h (.frz od (.dK us))) (ok_lock ok hq _) env fun w1 s1 u1 G1 H1 ok1 e1 i1 q1 => ?_
  obtain ⟨rfl, hl, q1⟩ := q1
  obtain rfl : u1 = V.ref q := i1
  obtain ⟨_, o, hl1, rfl⟩ := ok1.cell q _ hl
  have r1 := r.mono e1
  have hlen : (kvs.map fun kv => keyW kv.1).length = us.length := by rw [List.length_map]; exact paired_len r
  refine ⟨q, od, rfl, .inl ⟨us, hl1, ?_⟩⟩
  refine for_ok hg hb (x := ⟨kvs.map fun kv => keyW kv.1, fun s' => s' q = some (.lock (.frz od (.dK us)))⟩) ⟨fun i s' G' H' hi ok' e' st => ?_, fun s' G' H' ok' e' st => ?_, fun i s' G' H' u H2 w hw ok' e' st y => ?_⟩ q1 ok1 (env.mono e1) ?_
  · obtain ⟨_, o, h2, rfl⟩ := ok'.cell q _ st
    exact ⟨h2, by dsimp only at hi; omega⟩
  · obtain ⟨_, o, h2, rfl⟩ := ok'.cell q _ st
    exact ⟨h2, by dsimp only; omega⟩
  · obtain ⟨rfl, k, v, hk, rfl⟩ := y
    refine ⟨G', ok', Ex.refl _, ?_⟩
    dsimp only at hw
    have kw := keysW (r1.mono e')
    obtain ⟨u2, hu2, iu⟩ := paired_get kw hw
    rw [List.getElem?_map, hk] at hu2
    cases hu2
    exact iu
  · have back : ∀ {s' : Hs} {G' H' : Hp}, Ok s' G' H' → Ex G1 G' → s' q = some (.lock (.frz od (.dK us))) → H' q = some (.frz od (.dK us)) ∧ Ok (put s' q (.dK kvs)) G' (upd H' q (.dK us)) := fun ok' e' hs => by
      obtain ⟨_, o, h2, rfl⟩ := ok'.cell q _ hs
      exact ⟨h2, ok'.put hs (cDK (r1.mono e'))⟩
    refine ⟨fun δ3 s3 σ3 G3 H3 ok3 e3 env3 z => ?_, fun w3 s3 u3 G3 H3 ok3 e3 i3 z => ?_, fun δ3 s3 σ3 G3 H3 ok3 e3 env3 z => ?_, fun δ3 s3 σ3 G3 H3 ok3 e3 env3 z => ?_⟩
    · obtain ⟨b1, b2⟩ := back ok3 e3 z.1
      exact ⟨b1, post.nx _ _ _ _ _ b2 (e1.trans e3) env3 z.2⟩
    · obtain ⟨b1, b2⟩ := back ok3 e3 z.1
      exact ⟨b1, post.rt _ _ _ _ _ b2 (e1.trans e3) i3 z.2⟩
    · obtain ⟨b1, b2⟩ := back ok3 e3 z.1
      exact ⟨b1, post.bk _ _ _ _ _ b2 (e1.trans e3) env3 z.2⟩
    · obtain ⟨b1, b2⟩ := back ok3 e3 z.1
      exact ⟨b1, post.ct _ _ _ _ _ b2 (e1.trans e3) env3 z.2⟩
def zPar3 (i j l : Nat) (a : DA) (D : DEnds) (δ : DEnv) (s : Hs) : Prop := a δ s fun ws s1 => match ws with
  | [x, y, z] => D.nx (((δ.set i (some x)).set j (some y)).set l (some z)) s1
  | _ => False
theorem ssPar3 {i j l : Nat} {t : TA} {a : DA} (ha : SA t a) : SS (tPar3 i j l t) (zPar3 i j l a) := fun DD δ s D σ G H h ok env post => by
  refine ha _ _ _ _ _ _ _ h ok env fun w1 s1 u1 G1 H1 ok1 e1 i1 q1 => ?_
  split at q1
  · cases i1 with
    | cons i1 t => cases t with
      | cons i2 t => cases t with
        | cons i3 t =>
          cases t
          exact ⟨_, _, _, rfl, post.nx _ _ _ _ _ ok1 e1 ((((env.mono e1).set _ i1).set _ i2).set _ i3) q1⟩
  · exact q1.elim
/-- a call of a def without parameters -/
theorem pe_callE0 {X : Cx} {CX : CXT} {k : Nat} {f : Addr} {sp : Sp} {E : XK} {x : Str} {p pos : Pos} (F : FnEx X.prog X.w X.K X.mg X.base CX k f [] sp) (hr : Room k X.A) (hm : X.mg x = some (.ref f)) (hx : Passes CX X E) (hg : Gl X x := by rfl)
    (hdb : (x == ("__debug__" : Str)) = false := by decide) : PE X (.Call (.Name x p) [] [] pos) (tCall sp [] E tNil) :=
  let ⟨_, b, kp, F⟩ := F
  pe_call0 F hr hg hm kp b .nil hx hdb
end U

set_option maxHeartbeats 4000000
namespace G
open PySem PySem.Spec PyProof.Rows L2 U
def topS (i : Nat) : Stmt := PySem.Challenge.pw_latekinds_k81_whole_programs_run.main.body.getD i (.Pass ⟨0, 0, 0, 0⟩)
abbrev s_is_integer : Stmt := topS 5
abbrev s_is_within : Stmt := topS 6
abbrev s_is_pair : Stmt := topS 7
abbrev s_check_number : Stmt := topS 8
abbrev s_is_register : Stmt := topS 20
abbrev s_are_registers : Stmt := topS 21
abbrev s_is_part : Stmt := topS 22
abbrev s_is_row : Stmt := topS 23
abbrev s_check_rows : Stmt := topS 24
abbrev s_is_program : Stmt := topS 25
abbrev s_check_program : Stmt := topS 26
abbrev s_number_in : Stmt := topS 27
abbrev s_PlainWorld___init__ : Stmt := inClass (topS 28) 0
abbrev s_PlainWorld_ones : Stmt := inClass (topS 28) 1
abbrev s_PlainWorld_new_kind : Stmt := inClass (topS 28) 2
abbrev s_PlainWorld_new_object : Stmt := inClass (topS 28) 3
abbrev s_PlainWorld_kind_of : Stmt := inClass (topS 28) 4
abbrev s_PlainWorld_is_kind : Stmt := inClass (topS 28) 5
abbrev s_PlainWorld_has_cell : Stmt := inClass (topS 28) 6
abbrev s_PlainWorld_cell : Stmt := inClass (topS 28) 7
abbrev s_PlainWorld_keep_cell : Stmt := inClass (topS 28) 8
abbrev s_cell_of : Stmt := topS 29
abbrev s_sum_of : Stmt := topS 30
abbrev s_loaded_kind : Stmt := topS 31
abbrev s_made_object : Stmt := topS 32
abbrev s_kind_in : Stmt := topS 33
abbrev s_value_of : Stmt := topS 34
abbrev s_written : Stmt := topS 35
abbrev s_is_gone : Stmt := topS 36
abbrev s_next_row : Stmt := topS 37
abbrev s_run : Stmt := topS 38
abbrev s__law_pool : Stmt := topS 40
abbrev s__law_draw : Stmt := topS 41
abbrev s__law_mixed : Stmt := topS 42
abbrev s__law_some : Stmt := topS 43
abbrev s__law_begun : Stmt := topS 44
abbrev s__law_sort : Stmt := topS 45
abbrev s__law_new_kind : Stmt := topS 46
abbrev s__law_loaded : Stmt := topS 47
abbrev s__law_made : Stmt := topS 48
abbrev s__law_spot : Stmt := topS 49
abbrev s__law_value : Stmt := topS 50
abbrev s__law_goes : Stmt := topS 51
abbrev s__law_step : Stmt := topS 52
abbrev s__law_run : Stmt := topS 53
abbrev s__law_end : Stmt := topS 54
abbrev s__law_from : Stmt := topS 55
abbrev s__law_row : Stmt := topS 56
abbrev s__law_tried : Stmt := topS 57
abbrev s__law_program : Stmt := topS 58
abbrev s_law : Stmt := topS 59
def d_is_integer : He.DefD := ⟨("is_integer", none), "is_integer", "is_integer", defArgs s_is_integer, defBody s_is_integer, defScope s_is_integer, [], []⟩
def d_is_within : He.DefD := ⟨("is_within", none), "is_within", "is_within", defArgs s_is_within, defBody s_is_within, defScope s_is_within, [], []⟩
def d_is_pair : He.DefD := ⟨("is_pair", none), "is_pair", "is_pair", defArgs s_is_pair, defBody s_is_pair, defScope s_is_pair, [], []⟩
def d_check_number : He.DefD := ⟨("check_number", none), "check_number", "check_number", defArgs s_check_number, defBody s_check_number, defScope s_check_number, [], []⟩
def d_is_register : He.DefD := ⟨("is_register", none), "is_register", "is_register", defArgs s_is_register, defBody s_is_register, defScope s_is_register, [], []⟩
def d_are_registers : He.DefD := ⟨("are_registers", none), "are_registers", "are_registers", defArgs s_are_registers, defBody s_are_registers, defScope s_are_registers, [], []⟩
def d_is_part : He.DefD := ⟨("is_part", none), "is_part", "is_part", defArgs s_is_part, defBody s_is_part, defScope s_is_part, [], []⟩
def d_is_row : He.DefD := ⟨("is_row", none), "is_row", "is_row", defArgs s_is_row, defBody s_is_row, defScope s_is_row, [], []⟩
def d_check_rows : He.DefD := ⟨("check_rows", none), "check_rows", "check_rows", defArgs s_check_rows, defBody s_check_rows, defScope s_check_rows, [], []⟩
def d_is_program : He.DefD := ⟨("is_program", none), "is_program", "is_program", defArgs s_is_program, defBody s_is_program, defScope s_is_program, [], []⟩
def d_check_program : He.DefD := ⟨("check_program", none), "check_program", "check_program", defArgs s_check_program, defBody s_check_program, defScope s_check_program, [], []⟩
def d_number_in : He.DefD := ⟨("number_in", none), "number_in", "number_in", defArgs s_number_in, defBody s_number_in, defScope s_number_in, [], []⟩
def d_PlainWorld___init__ : He.DefD := ⟨("PlainWorld", some "__init__"), "__init__", "PlainWorld.__init__", defArgs s_PlainWorld___init__, defBody s_PlainWorld___init__, defScope s_PlainWorld___init__, [], []⟩
def d_PlainWorld_ones : He.DefD := ⟨("PlainWorld", some "ones"), "ones", "PlainWorld.ones", defArgs s_PlainWorld_ones, defBody s_PlainWorld_ones, defScope s_PlainWorld_ones, [], []⟩
def d_PlainWorld_new_kind : He.DefD := ⟨("PlainWorld", some "new_kind"), "new_kind", "PlainWorld.new_kind", defArgs s_PlainWorld_new_kind, defBody s_PlainWorld_new_kind, defScope s_PlainWorld_new_kind, [], []⟩
def d_PlainWorld_new_object : He.DefD := ⟨("PlainWorld", some "new_object"), "new_object", "PlainWorld.new_object", defArgs s_PlainWorld_new_object, defBody s_PlainWorld_new_object, defScope s_PlainWorld_new_object, [], []⟩
def d_PlainWorld_kind_of : He.DefD := ⟨("PlainWorld", some "kind_of"), "kind_of", "PlainWorld.kind_of", defArgs s_PlainWorld_kind_of, defBody s_PlainWorld_kind_of, defScope s_PlainWorld_kind_of, [], []⟩
def d_PlainWorld_is_kind : He.DefD := ⟨("PlainWorld", some "is_kind"), "is_kind", "PlainWorld.is_kind", defArgs s_PlainWorld_is_kind, defBody s_PlainWorld_is_kind, defScope s_PlainWorld_is_kind, [], []⟩
def d_PlainWorld_has_cell : He.DefD := ⟨("PlainWorld", some "has_cell"), "has_cell", "PlainWorld.has_cell", defArgs s_PlainWorld_has_cell, defBody s_PlainWorld_has_cell, defScope s_PlainWorld_has_cell, [], []⟩
def d_PlainWorld_cell : He.DefD := ⟨("PlainWorld", some "cell"), "cell", "PlainWorld.cell", defArgs s_PlainWorld_cell, defBody s_PlainWorld_cell, defScope s_PlainWorld_cell, [], []⟩
def d_PlainWorld_keep_cell : He.DefD := ⟨("PlainWorld", some "keep_cell"), "keep_cell", "PlainWorld.keep_cell", defArgs s_PlainWorld_keep_cell, defBody s_PlainWorld_keep_cell, defScope s_PlainWorld_keep_cell, [], []⟩
def d_cell_of : He.DefD := ⟨("cell_of", none), "cell_of", "cell_of", defArgs s_cell_of, defBody s_cell_of, defScope s_cell_of, [], []⟩
def d_sum_of : He.DefD := ⟨("sum_of", none), "sum_of", "sum_of", defArgs s_sum_of, defBody s_sum_of, defScope s_sum_of, [], []⟩
def d_loaded_kind : He.DefD := ⟨("loaded_kind", none), "loaded_kind", "loaded_kind", defArgs s_loaded_kind, defBody s_loaded_kind, defScope s_loaded_kind, [], []⟩
def d_made_object : He.DefD := ⟨("made_object", none), "made_object", "made_object", defArgs s_made_object, defBody s_made_object, defScope s_made_object, [], []⟩
def d_kind_in : He.DefD := ⟨("kind_in", none), "kind_in", "kind_in", defArgs s_kind_in, defBody s_kind_in, defScope s_kind_in, [], []⟩
def d_value_of : He.DefD := ⟨("value_of", none), "value_of", "value_of", defArgs s_value_of, defBody s_value_of, defScope s_value_of, [], []⟩
def d_written : He.DefD := ⟨("written", none), "written", "written", defArgs s_written, defBody s_written, defScope s_written, [], []⟩
def d_is_gone : He.DefD := ⟨("is_gone", none), "is_gone", "is_gone", defArgs s_is_gone, defBody s_is_gone, defScope s_is_gone, [], []⟩
def d_next_row : He.DefD := ⟨("next_row", none), "next_row", "next_row", defArgs s_next_row, defBody s_next_row, defScope s_next_row, [], []⟩
def d_run : He.DefD := ⟨("run", none), "run", "run", defArgs s_run, defBody s_run, defScope s_run, [], []⟩
def d__law_pool : He.DefD := ⟨("_law_pool", none), "_law_pool", "_law_pool", defArgs s__law_pool, defBody s__law_pool, defScope s__law_pool, [], []⟩
def d__law_draw : He.DefD := ⟨("_law_draw", none), "_law_draw", "_law_draw", defArgs s__law_draw, defBody s__law_draw, defScope s__law_draw, [], []⟩
def d__law_mixed : He.DefD := ⟨("_law_mixed", none), "_law_mixed", "_law_mixed", defArgs s__law_mixed, defBody s__law_mixed, defScope s__law_mixed, [], []⟩
def d__law_some : He.DefD := ⟨("_law_some", none), "_law_some", "_law_some", defArgs s__law_some, defBody s__law_some, defScope s__law_some, [], []⟩
def d__law_begun : He.DefD := ⟨("_law_begun", none), "_law_begun", "_law_begun", defArgs s__law_begun, defBody s__law_begun, defScope s__law_begun, [], []⟩
def d__law_sort : He.DefD := ⟨("_law_sort", none), "_law_sort", "_law_sort", defArgs s__law_sort, defBody s__law_sort, defScope s__law_sort, [], []⟩
def d__law_new_kind : He.DefD := ⟨("_law_new_kind", none), "_law_new_kind", "_law_new_kind", defArgs s__law_new_kind, defBody s__law_new_kind, defScope s__law_new_kind, [], []⟩
def d__law_loaded : He.DefD := ⟨("_law_loaded", none), "_law_loaded", "_law_loaded", defArgs s__law_loaded, defBody s__law_loaded, defScope s__law_loaded, [], []⟩
def d__law_made : He.DefD := ⟨("_law_made", none), "_law_made", "_law_made", defArgs s__law_made, defBody s__law_made, defScope s__law_made, [], []⟩
def d__law_spot : He.DefD := ⟨("_law_spot", none), "_law_spot", "_law_spot", defArgs s__law_spot, defBody s__law_spot, defScope s__law_spot, [], []⟩
def d__law_value : He.DefD := ⟨("_law_value", none), "_law_value", "_law_value", defArgs s__law_value, defBody s__law_value, defScope s__law_value, [], []⟩
def d__law_goes : He.DefD := ⟨("_law_goes", none), "_law_goes", "_law_goes", defArgs s__law_goes, defBody s__law_goes, defScope s__law_goes, [], []⟩
def d__law_step : He.DefD := ⟨("_law_step", none), "_law_step", "_law_step", defArgs s__law_step, defBody s__law_step, defScope s__law_step, [], []⟩
def d__law_run : He.DefD := ⟨("_law_run", none), "_law_run", "_law_run", defArgs s__law_run, defBody s__law_run, defScope s__law_run, [], []⟩
def d__law_end : He.DefD := ⟨("_law_end", none), "_law_end", "_law_end", defArgs s__law_end, defBody s__law_end, defScope s__law_end, [], []⟩
def d__law_from : He.DefD := ⟨("_law_from", none), "_law_from", "_law_from", defArgs s__law_from, defBody s__law_from, defScope s__law_from, [], []⟩
def d__law_row : He.DefD := ⟨("_law_row", none), "_law_row", "_law_row", defArgs s__law_row, defBody s__law_row, defScope s__law_row, [], []⟩
def d__law_tried : He.DefD := ⟨("_law_tried", none), "_law_tried", "_law_tried", defArgs s__law_tried, defBody s__law_tried, defScope s__law_tried, [], []⟩
def d__law_program : He.DefD := ⟨("_law_program", none), "_law_program", "_law_program", defArgs s__law_program, defBody s__law_program, defScope s__law_program, [], []⟩
def d_law : He.DefD := ⟨("law", none), "law", "law", defArgs s_law, defBody s_law, defScope s_law, [], []⟩
def fn : List He.DefD := ([d_is_integer, d_is_within, d_is_pair, d_check_number, d_is_register, d_are_registers, d_is_part, d_is_row, d_check_rows, d_is_program, d_check_program, d_number_in, d_PlainWorld___init__, d_PlainWorld_ones, d_PlainWorld_new_kind, d_PlainWorld_new_object, d_PlainWorld_kind_of, d_PlainWorld_is_kind, d_PlainWorld_has_cell, d_PlainWorld_cell, d_PlainWorld_keep_cell, d_cell_of, d_sum_of, d_loaded_kind, d_made_object, d_kind_in, d_value_of, d_written, d_is_gone, d_next_row] : List He.DefD) ++ ([d_run, d__law_pool, d__law_draw, d__law_mixed, d__law_some, d__law_begun, d__law_sort, d__law_new_kind, d__law_loaded, d__law_made, d__law_spot, d__law_value, d__law_goes, d__law_step, d__law_run, d__law_end, d__law_from, d__law_row, d__law_tried, d__law_program, d_law] : List He.DefD)
def fa : List He.Fa := ([.glo "is_integer", .glo "is_within", .glo "is_pair", .glo "check_number", .glo "is_register", .glo "are_registers", .glo "is_part", .glo "is_row", .glo "check_rows", .glo "is_program", .glo "check_program", .glo "number_in", .glo "cell_of", .glo "sum_of", .glo "loaded_kind", .glo "made_object", .glo "kind_in", .glo "value_of", .glo "written", .glo "is_gone", .glo "next_row", .glo "run", .glo "_law_pool", .glo "_law_draw", .glo "_law_mixed", .glo "_law_some", .glo "_law_begun", .glo "_law_sort", .glo "_law_new_kind", .glo "_law_loaded"] : List He.Fa) ++ ([.glo "_law_made", .glo "_law_spot", .glo "_law_value", .glo "_law_goes", .glo "_law_step", .glo "_law_run", .glo "_law_end", .glo "_law_from", .glo "_law_row", .glo "_law_tried", .glo "_law_program", .glo "law", .free "ValueError", .free "abs", .free "all", .free "any", .free "bool", .free "enumerate", .free "int", .free "isinstance", .free "len", .free "list", .free "range", .free "set", .free "sorted", .free "str", .free "sum", .free "super", .free "tuple", .free "zip"] : List He.Fa) ++ ([.int "MOST_ROWS" (60), .int "REGISTERS" (10), .int "MOST_SET" (1000000000), .int "MOST_SUM" (1000000000000000000), .int "MOST_PARENTS" (6), .int "MOST_FIELDS" (6), .int "MOST_KINDS" (400), .int "MOST_OBJECTS" (2000), .int "MOST_DONE" (20000), .glo "FORMS", .glo "KindError", .glo "NoNumber", .glo "NoProgram", .glo "PlainWorld", .cls "PlainWorld", .noat "PlainWorld" "parents_of", .noat "PlainWorld" "brought", .noat "PlainWorld" "object_kinds", .noat "PlainWorld" "contents", .meth "PlainWorld" "ones", .meth "PlainWorld" "new_kind", .meth "PlainWorld" "new_object", .meth "PlainWorld" "kind_of", .meth "PlainWorld" "is_kind", .meth "PlainWorld" "has_cell", .meth "PlainWorld" "cell", .meth "PlainWorld" "keep_cell", .mkr "PlainWorld"] : List He.Fa)
def ts : List He.Tab := [(fun K => He.ga K "FORMS", ["set", "copy", "add", "load", "make", "kind", "write", "read", "is", "less", "go", "show"])]
def kd_FORMS : List (Str × He.Dv) := [("set", .str "xn"), ("copy", .str "xx"), ("add", .str "xxx"), ("load", .str "xpb"), ("make", .str "xx"), ("kind", .str "xx"), ("write", .str "xxfx"), ("read", .str "xxxf"), ("is", .str "xxt"), ("less", .str "xxt"), ("go", .str "t"), ("show", .str "x")]
def kv_FORMS : List (Str × V) := [("set", .str "xn"), ("copy", .str "xx"), ("add", .str "xxx"), ("load", .str "xpb"), ("make", .str "xx"), ("kind", .str "xx"), ("write", .str "xxfx"), ("read", .str "xxxf"), ("is", .str "xxt"), ("less", .str "xxt"), ("go", .str "t"), ("show", .str "x")]
def exB (K : PySem.W.Frag) : Bool := He.valsB K (He.ga K "FORMS") kd_FORMS
def names : List PySem.Str := (["KindError", "NoNumber", "NoProgram", "is_integer", "is_within", "is_pair", "check_number", "MOST_ROWS", "REGISTERS", "MOST_SET", "MOST_SUM", "MOST_PARENTS", "MOST_FIELDS", "MOST_KINDS", "MOST_OBJECTS", "MOST_DONE", "FORMS", "is_register", "are_registers", "is_part", "is_row", "check_rows", "is_program", "check_program", "number_in", "PlainWorld", "cell_of", "sum_of", "loaded_kind", "made_object"] : List PySem.Str) ++ (["kind_in", "value_of", "written", "is_gone", "next_row", "run", "_law_pool", "_law_draw", "_law_mixed", "_law_some", "_law_begun", "_law_sort", "_law_new_kind", "_law_loaded", "_law_made", "_law_spot", "_law_value", "_law_goes", "_law_step", "_law_run", "_law_end", "_law_from", "_law_row", "_law_tried", "_law_program"] : List PySem.Str)
/-- what the top has left -/
structure Cxt (P : Program) (w : World) (K : PySem.W.Frag) (mg : Str → Option Value) (base : Heap) : Prop where
  X : K.In base
  G : base.Ns mainGlobals mg
  c : He.SaysT fa fn ts w K
  ex : exB K = true
section
variable {P : Program} {w : World} {K : PySem.W.Frag} {mg : Str → Option Value} {base : Heap}
theorem g_is_integer (C : Cxt P w K mg base) : mg "is_integer" = some (.ref (He.fAd K ("is_integer", none))) := He.glo_ok C.X C.G (C.c.d.fact 0 (f := .glo "is_integer") rfl)
theorem g_is_within (C : Cxt P w K mg base) : mg "is_within" = some (.ref (He.fAd K ("is_within", none))) := He.glo_ok C.X C.G (C.c.d.fact 1 (f := .glo "is_within") rfl)
theorem g_is_pair (C : Cxt P w K mg base) : mg "is_pair" = some (.ref (He.fAd K ("is_pair", none))) := He.glo_ok C.X C.G (C.c.d.fact 2 (f := .glo "is_pair") rfl)
theorem g_check_number (C : Cxt P w K mg base) : mg "check_number" = some (.ref (He.fAd K ("check_number", none))) := He.glo_ok C.X C.G (C.c.d.fact 3 (f := .glo "check_number") rfl)
theorem g_is_register (C : Cxt P w K mg base) : mg "is_register" = some (.ref (He.fAd K ("is_register", none))) := He.glo_ok C.X C.G (C.c.d.fact 4 (f := .glo "is_register") rfl)
theorem g_are_registers (C : Cxt P w K mg base) : mg "are_registers" = some (.ref (He.fAd K ("are_registers", none))) := He.glo_ok C.X C.G (C.c.d.fact 5 (f := .glo "are_registers") rfl)
theorem g_is_part (C : Cxt P w K mg base) : mg "is_part" = some (.ref (He.fAd K ("is_part", none))) := He.glo_ok C.X C.G (C.c.d.fact 6 (f := .glo "is_part") rfl)
theorem g_is_row (C : Cxt P w K mg base) : mg "is_row" = some (.ref (He.fAd K ("is_row", none))) := He.glo_ok C.X C.G (C.c.d.fact 7 (f := .glo "is_row") rfl)
theorem g_check_rows (C : Cxt P w K mg base) : mg "check_rows" = some (.ref (He.fAd K ("check_rows", none))) := He.glo_ok C.X C.G (C.c.d.fact 8 (f := .glo "check_rows") rfl)
theorem g_is_program (C : Cxt P w K mg base) : mg "is_program" = some (.ref (He.fAd K ("is_program", none))) := He.glo_ok C.X C.G (C.c.d.fact 9 (f := .glo "is_program") rfl)
theorem g_check_program (C : Cxt P w K mg base) : mg "check_program" = some (.ref (He.fAd K ("check_program", none))) := He.glo_ok C.X C.G (C.c.d.fact 10 (f := .glo "check_program") rfl)
theorem g_number_in (C : Cxt P w K mg base) : mg "number_in" = some (.ref (He.fAd K ("number_in", none))) := He.glo_ok C.X C.G (C.c.d.fact 11 (f := .glo "number_in") rfl)
theorem g_cell_of (C : Cxt P w K mg base) : mg "cell_of" = some (.ref (He.fAd K ("cell_of", none))) := He.glo_ok C.X C.G (C.c.d.fact 12 (f := .glo "cell_of") rfl)
theorem g_sum_of (C : Cxt P w K mg base) : mg "sum_of" = some (.ref (He.fAd K ("sum_of", none))) := He.glo_ok C.X C.G (C.c.d.fact 13 (f := .glo "sum_of") rfl)
theorem g_loaded_kind (C : Cxt P w K mg base) : mg "loaded_kind" = some (.ref (He.fAd K ("loaded_kind", none))) := He.glo_ok C.X C.G (C.c.d.fact 14 (f := .glo "loaded_kind") rfl)
theorem g_made_object (C : Cxt P w K mg base) : mg "made_object" = some (.ref (He.fAd K ("made_object", none))) := He.glo_ok C.X C.G (C.c.d.fact 15 (f := .glo "made_object") rfl)
theorem g_kind_in (C : Cxt P w K mg base) : mg "kind_in" = some (.ref (He.fAd K ("kind_in", none))) := He.glo_ok C.X C.G (C.c.d.fact 16 (f := .glo "kind_in") rfl)
theorem g_value_of (C : Cxt P w K mg base) : mg "value_of" = some (.ref (He.fAd K ("value_of", none))) := He.glo_ok C.X C.G (C.c.d.fact 17 (f := .glo "value_of") rfl)
theorem g_written (C : Cxt P w K mg base) : mg "written" = some (.ref (He.fAd K ("written", none))) := He.glo_ok C.X C.G (C.c.d.fact 18 (f := .glo "written") rfl)
theorem g_is_gone (C : Cxt P w K mg base) : mg "is_gone" = some (.ref (He.fAd K ("is_gone", none))) := He.glo_ok C.X C.G (C.c.d.fact 19 (f := .glo "is_gone") rfl)
theorem g_next_row (C : Cxt P w K mg base) : mg "next_row" = some (.ref (He.fAd K ("next_row", none))) := He.glo_ok C.X C.G (C.c.d.fact 20 (f := .glo "next_row") rfl)
theorem g_run (C : Cxt P w K mg base) : mg "run" = some (.ref (He.fAd K ("run", none))) := He.glo_ok C.X C.G (C.c.d.fact 21 (f := .glo "run") rfl)
theorem g__law_pool (C : Cxt P w K mg base) : mg "_law_pool" = some (.ref (He.fAd K ("_law_pool", none))) := He.glo_ok C.X C.G (C.c.d.fact 22 (f := .glo "_law_pool") rfl)
theorem g__law_draw (C : Cxt P w K mg base) : mg "_law_draw" = some (.ref (He.fAd K ("_law_draw", none))) := He.glo_ok C.X C.G (C.c.d.fact 23 (f := .glo "_law_draw") rfl)
theorem g__law_mixed (C : Cxt P w K mg base) : mg "_law_mixed" = some (.ref (He.fAd K ("_law_mixed", none))) := He.glo_ok C.X C.G (C.c.d.fact 24 (f := .glo "_law_mixed") rfl)
theorem g__law_some (C : Cxt P w K mg base) : mg "_law_some" = some (.ref (He.fAd K ("_law_some", none))) := He.glo_ok C.X C.G (C.c.d.fact 25 (f := .glo "_law_some") rfl)
theorem g__law_begun (C : Cxt P w K mg base) : mg "_law_begun" = some (.ref (He.fAd K ("_law_begun", none))) := He.glo_ok C.X C.G (C.c.d.fact 26 (f := .glo "_law_begun") rfl)
theorem g__law_sort (C : Cxt P w K mg base) : mg "_law_sort" = some (.ref (He.fAd K ("_law_sort", none))) := He.glo_ok C.X C.G (C.c.d.fact 27 (f := .glo "_law_sort") rfl)
theorem g__law_new_kind (C : Cxt P w K mg base) : mg "_law_new_kind" = some (.ref (He.fAd K ("_law_new_kind", none))) := He.glo_ok C.X C.G (C.c.d.fact 28 (f := .glo "_law_new_kind") rfl)
theorem g__law_loaded (C : Cxt P w K mg base) : mg "_law_loaded" = some (.ref (He.fAd K ("_law_loaded", none))) := He.glo_ok C.X C.G (C.c.d.fact 29 (f := .glo "_law_loaded") rfl)
theorem g__law_made (C : Cxt P w K mg base) : mg "_law_made" = some (.ref (He.fAd K ("_law_made", none))) := He.glo_ok C.X C.G (C.c.d.fact 30 (f := .glo "_law_made") rfl)
theorem g__law_spot (C : Cxt P w K mg base) : mg "_law_spot" = some (.ref (He.fAd K ("_law_spot", none))) := He.glo_ok C.X C.G (C.c.d.fact 31 (f := .glo "_law_spot") rfl)
theorem g__law_value (C : Cxt P w K mg base) : mg "_law_value" = some (.ref (He.fAd K ("_law_value", none))) := He.glo_ok C.X C.G (C.c.d.fact 32 (f := .glo "_law_value") rfl)
theorem g__law_goes (C : Cxt P w K mg base) : mg "_law_goes" = some (.ref (He.fAd K ("_law_goes", none))) := He.glo_ok C.X C.G (C.c.d.fact 33 (f := .glo "_law_goes") rfl)
theorem g__law_step (C : Cxt P w K mg base) : mg "_law_step" = some (.ref (He.fAd K ("_law_step", none))) := He.glo_ok C.X C.G (C.c.d.fact 34 (f := .glo "_law_step") rfl)
theorem g__law_run (C : Cxt P w K mg base) : mg "_law_run" = some (.ref (He.fAd K ("_law_run", none))) := He.glo_ok C.X C.G (C.c.d.fact 35 (f := .glo "_law_run") rfl)
theorem g__law_end (C : Cxt P w K mg base) : mg "_law_end" = some (.ref (He.fAd K ("_law_end", none))) := He.glo_ok C.X C.G (C.c.d.fact 36 (f := .glo "_law_end") rfl)
theorem g__law_from (C : Cxt P w K mg base) : mg "_law_from" = some (.ref (He.fAd K ("_law_from", none))) := He.glo_ok C.X C.G (C.c.d.fact 37 (f := .glo "_law_from") rfl)
theorem g__law_row (C : Cxt P w K mg base) : mg "_law_row" = some (.ref (He.fAd K ("_law_row", none))) := He.glo_ok C.X C.G (C.c.d.fact 38 (f := .glo "_law_row") rfl)
theorem g__law_tried (C : Cxt P w K mg base) : mg "_law_tried" = some (.ref (He.fAd K ("_law_tried", none))) := He.glo_ok C.X C.G (C.c.d.fact 39 (f := .glo "_law_tried") rfl)
theorem g__law_program (C : Cxt P w K mg base) : mg "_law_program" = some (.ref (He.fAd K ("_law_program", none))) := He.glo_ok C.X C.G (C.c.d.fact 40 (f := .glo "_law_program") rfl)
theorem g_law (C : Cxt P w K mg base) : mg "law" = some (.ref (He.fAd K ("law", none))) := He.glo_ok C.X C.G (C.c.d.fact 41 (f := .glo "law") rfl)
theorem n_ValueError (C : Cxt P w K mg base) : mg "ValueError" = none := He.free_ok C.X C.G (C.c.d.fact 42 (f := .free "ValueError") rfl)
theorem n_abs (C : Cxt P w K mg base) : mg "abs" = none := He.free_ok C.X C.G (C.c.d.fact 43 (f := .free "abs") rfl)
theorem n_all (C : Cxt P w K mg base) : mg "all" = none := He.free_ok C.X C.G (C.c.d.fact 44 (f := .free "all") rfl)
theorem n_any (C : Cxt P w K mg base) : mg "any" = none := He.free_ok C.X C.G (C.c.d.fact 45 (f := .free "any") rfl)
theorem n_bool (C : Cxt P w K mg base) : mg "bool" = none := He.free_ok C.X C.G (C.c.d.fact 46 (f := .free "bool") rfl)
theorem n_enumerate (C : Cxt P w K mg base) : mg "enumerate" = none := He.free_ok C.X C.G (C.c.d.fact 47 (f := .free "enumerate") rfl)
theorem n_int (C : Cxt P w K mg base) : mg "int" = none := He.free_ok C.X C.G (C.c.d.fact 48 (f := .free "int") rfl)
theorem n_isinstance (C : Cxt P w K mg base) : mg "isinstance" = none := He.free_ok C.X C.G (C.c.d.fact 49 (f := .free "isinstance") rfl)
theorem n_len (C : Cxt P w K mg base) : mg "len" = none := He.free_ok C.X C.G (C.c.d.fact 50 (f := .free "len") rfl)
theorem n_list (C : Cxt P w K mg base) : mg "list" = none := He.free_ok C.X C.G (C.c.d.fact 51 (f := .free "list") rfl)
theorem n_range (C : Cxt P w K mg base) : mg "range" = none := He.free_ok C.X C.G (C.c.d.fact 52 (f := .free "range") rfl)
theorem n_set (C : Cxt P w K mg base) : mg "set" = none := He.free_ok C.X C.G (C.c.d.fact 53 (f := .free "set") rfl)
theorem n_sorted (C : Cxt P w K mg base) : mg "sorted" = none := He.free_ok C.X C.G (C.c.d.fact 54 (f := .free "sorted") rfl)
theorem n_str (C : Cxt P w K mg base) : mg "str" = none := He.free_ok C.X C.G (C.c.d.fact 55 (f := .free "str") rfl)
theorem n_sum (C : Cxt P w K mg base) : mg "sum" = none := He.free_ok C.X C.G (C.c.d.fact 56 (f := .free "sum") rfl)
theorem n_super (C : Cxt P w K mg base) : mg "super" = none := He.free_ok C.X C.G (C.c.d.fact 57 (f := .free "super") rfl)
theorem n_tuple (C : Cxt P w K mg base) : mg "tuple" = none := He.free_ok C.X C.G (C.c.d.fact 58 (f := .free "tuple") rfl)
theorem n_zip (C : Cxt P w K mg base) : mg "zip" = none := He.free_ok C.X C.G (C.c.d.fact 59 (f := .free "zip") rfl)
theorem c_MOST_ROWS (C : Cxt P w K mg base) : ∃ t, mg "MOST_ROWS" = some (.int (60) t) := He.int_ok C.X C.G (C.c.d.fact 60 (f := .int "MOST_ROWS" (60)) rfl)
theorem c_REGISTERS (C : Cxt P w K mg base) : ∃ t, mg "REGISTERS" = some (.int (10) t) := He.int_ok C.X C.G (C.c.d.fact 61 (f := .int "REGISTERS" (10)) rfl)
theorem c_MOST_SET (C : Cxt P w K mg base) : ∃ t, mg "MOST_SET" = some (.int (1000000000) t) := He.int_ok C.X C.G (C.c.d.fact 62 (f := .int "MOST_SET" (1000000000)) rfl)
theorem c_MOST_SUM (C : Cxt P w K mg base) : ∃ t, mg "MOST_SUM" = some (.int (1000000000000000000) t) := He.int_ok C.X C.G (C.c.d.fact 63 (f := .int "MOST_SUM" (1000000000000000000)) rfl)
theorem c_MOST_PARENTS (C : Cxt P w K mg base) : ∃ t, mg "MOST_PARENTS" = some (.int (6) t) := He.int_ok C.X C.G (C.c.d.fact 64 (f := .int "MOST_PARENTS" (6)) rfl)
theorem c_MOST_FIELDS (C : Cxt P w K mg base) : ∃ t, mg "MOST_FIELDS" = some (.int (6) t) := He.int_ok C.X C.G (C.c.d.fact 65 (f := .int "MOST_FIELDS" (6)) rfl)
theorem c_MOST_KINDS (C : Cxt P w K mg base) : ∃ t, mg "MOST_KINDS" = some (.int (400) t) := He.int_ok C.X C.G (C.c.d.fact 66 (f := .int "MOST_KINDS" (400)) rfl)
theorem c_MOST_OBJECTS (C : Cxt P w K mg base) : ∃ t, mg "MOST_OBJECTS" = some (.int (2000) t) := He.int_ok C.X C.G (C.c.d.fact 67 (f := .int "MOST_OBJECTS" (2000)) rfl)
theorem c_MOST_DONE (C : Cxt P w K mg base) : ∃ t, mg "MOST_DONE" = some (.int (20000) t) := He.int_ok C.X C.G (C.c.d.fact 68 (f := .int "MOST_DONE" (20000)) rfl)
theorem g_FORMS (C : Cxt P w K mg base) : mg "FORMS" = some (.ref (He.ga K "FORMS")) := He.glo_ok C.X C.G (C.c.d.fact 69 (f := .glo "FORMS") rfl)
theorem g_KindError (C : Cxt P w K mg base) : mg "KindError" = some (.ref (He.ga K "KindError")) := He.glo_ok C.X C.G (C.c.d.fact 70 (f := .glo "KindError") rfl)
theorem g_NoNumber (C : Cxt P w K mg base) : mg "NoNumber" = some (.ref (He.ga K "NoNumber")) := He.glo_ok C.X C.G (C.c.d.fact 71 (f := .glo "NoNumber") rfl)
theorem g_NoProgram (C : Cxt P w K mg base) : mg "NoProgram" = some (.ref (He.ga K "NoProgram")) := He.glo_ok C.X C.G (C.c.d.fact 72 (f := .glo "NoProgram") rfl)
theorem g_PlainWorld (C : Cxt P w K mg base) : mg "PlainWorld" = some (.ref (He.ga K "PlainWorld")) := He.glo_ok C.X C.G (C.c.d.fact 73 (f := .glo "PlainWorld") rfl)
theorem cl_PlainWorld (C : Cxt P w K mg base) : Cls K (He.ga K "PlainWorld") := He.cls_ok (C.c.d.fact 74 (f := .cls "PlainWorld") rfl)
theorem na_PlainWorld_parents_of (C : Cxt P w K mg base) : NoAttr K (He.ga K "PlainWorld") "parents_of" := He.noat_ok (C.c.d.fact 75 (f := .noat "PlainWorld" "parents_of") rfl)
theorem na_PlainWorld_brought (C : Cxt P w K mg base) : NoAttr K (He.ga K "PlainWorld") "brought" := He.noat_ok (C.c.d.fact 76 (f := .noat "PlainWorld" "brought") rfl)
theorem na_PlainWorld_object_kinds (C : Cxt P w K mg base) : NoAttr K (He.ga K "PlainWorld") "object_kinds" := He.noat_ok (C.c.d.fact 77 (f := .noat "PlainWorld" "object_kinds") rfl)
theorem na_PlainWorld_contents (C : Cxt P w K mg base) : NoAttr K (He.ga K "PlainWorld") "contents" := He.noat_ok (C.c.d.fact 78 (f := .noat "PlainWorld" "contents") rfl)
theorem me_PlainWorld_ones (C : Cxt P w K mg base) : Meth K (He.ga K "PlainWorld") "ones" (He.fAd K ("PlainWorld", some "ones")) := He.meth_ok (C.c.d.fact 79 (f := .meth "PlainWorld" "ones") rfl)
theorem me_PlainWorld_new_kind (C : Cxt P w K mg base) : Meth K (He.ga K "PlainWorld") "new_kind" (He.fAd K ("PlainWorld", some "new_kind")) := He.meth_ok (C.c.d.fact 80 (f := .meth "PlainWorld" "new_kind") rfl)
theorem me_PlainWorld_new_object (C : Cxt P w K mg base) : Meth K (He.ga K "PlainWorld") "new_object" (He.fAd K ("PlainWorld", some "new_object")) := He.meth_ok (C.c.d.fact 81 (f := .meth "PlainWorld" "new_object") rfl)
theorem me_PlainWorld_kind_of (C : Cxt P w K mg base) : Meth K (He.ga K "PlainWorld") "kind_of" (He.fAd K ("PlainWorld", some "kind_of")) := He.meth_ok (C.c.d.fact 82 (f := .meth "PlainWorld" "kind_of") rfl)
theorem me_PlainWorld_is_kind (C : Cxt P w K mg base) : Meth K (He.ga K "PlainWorld") "is_kind" (He.fAd K ("PlainWorld", some "is_kind")) := He.meth_ok (C.c.d.fact 83 (f := .meth "PlainWorld" "is_kind") rfl)
theorem me_PlainWorld_has_cell (C : Cxt P w K mg base) : Meth K (He.ga K "PlainWorld") "has_cell" (He.fAd K ("PlainWorld", some "has_cell")) := He.meth_ok (C.c.d.fact 84 (f := .meth "PlainWorld" "has_cell") rfl)
theorem me_PlainWorld_cell (C : Cxt P w K mg base) : Meth K (He.ga K "PlainWorld") "cell" (He.fAd K ("PlainWorld", some "cell")) := He.meth_ok (C.c.d.fact 85 (f := .meth "PlainWorld" "cell") rfl)
theorem me_PlainWorld_keep_cell (C : Cxt P w K mg base) : Meth K (He.ga K "PlainWorld") "keep_cell" (He.fAd K ("PlainWorld", some "keep_cell")) := He.meth_ok (C.c.d.fact 86 (f := .meth "PlainWorld" "keep_cell") rfl)
theorem mk_PlainWorld (C : Cxt P w K mg base) : Mk K (He.ga K "PlainWorld") (He.fAd K ("PlainWorld", some "__init__")) := He.mkr_ok (C.c.d.fact 87 (f := .mkr "PlainWorld") rfl)
theorem tab_FORMS (C : Cxt P w K mg base) : TabOk K w (He.ga K "FORMS") kv_FORMS := tab_ok (a := He.ga K "FORMS") (kvs := kd_FORMS) (says_tab C.c 0 (t := (fun K => He.ga K "FORMS", ["set", "copy", "add", "load", "make", "kind", "write", "read", "is", "less", "go", "show"])) rfl) C.ex
end
def t_is_integer (K : PySem.W.Frag) (w : World) (E : XK) : TS :=
    (tRet (tAndV (tCB (rIsinU K) (tCons (tVar 0) (tCons (tC (.ty "int")) tNil))) (tNotV (tCB (rIsinU K) (tCons (tVar 0) (tCons (tC (.ty "bool")) tNil))))))
def sp_is_integer (K : PySem.W.Frag) (w : World) : Sp := spOf ["thing"] 1 (t_is_integer K w)
def t_is_within (K : PySem.W.Frag) (w : World) (E : XK) : TS :=
    (tRet (tAndV (tCall (sp_is_integer K w) [] E0 (tCons (tVar 0) tNil)) (tChain (rLeU) (rLeU) (tVar 1) (tVar 0) (tVar 2))))
def sp_is_within (K : PySem.W.Frag) (w : World) : Sp := spOf ["thing", "least", "most"] 3 (t_is_within K w)
def t_is_pair (K : PySem.W.Frag) (w : World) (E : XK) : TS :=
    (tRet (tAndV (tCB (rIsinU K) (tCons (tVar 0) (tCons (tC (.ty "tuple")) tNil))) (tOp (rEqU K) (tCB (rLenU K) (tCons (tVar 0) tNil)) (tC (.int 2)))))
def sp_is_pair (K : PySem.W.Frag) (w : World) : Sp := spOf ["thing"] 1 (t_is_pair K w)
def t_check_number (K : PySem.W.Frag) (w : World) (E : XK) : TS :=
    (tIfS (tNot (tTruU K (tCall (sp_is_within K w) [] E0 (tCons (tVar 0) (tCons (tVar 1) (tCons (tVar 2) tNil)))))) tNever tNext)
def sp_check_number (K : PySem.W.Frag) (w : World) : Sp := spOf ["thing", "least", "most"] 3 (t_check_number K w)
def t_is_register (K : PySem.W.Frag) (w : World) (E : XK) : TS :=
    (tRet (tCall (sp_is_within K w) [] E0 (tCons (tVar 0) (tCons (tC (.int 0)) (tCons (tOp (rSubU) (tC (.int (10))) (tC (.int 1))) tNil)))))
def sp_is_register (K : PySem.W.Frag) (w : World) : Sp := spOf ["thing"] 1 (t_is_register K w)
def t_are_registers (K : PySem.W.Frag) (w : World) (E : XK) : TS :=
    (tRet (tAndV (tCB (rIsinU K) (tCons (tVar 0) (tCons (tC (.ty "tuple")) tNil))) (tAndV (tOp (rLeU) (tCB (rLenU K) (tCons (tVar 0) tNil)) (tC (.int (6)))) (tCB (rAll K) (tCons (tLc (iSeqU K (tVar 0)) (gName 1) tYes (tCall (sp_is_register K w) [] E0 (tCons (tVar 1) tNil)) [1]) tNil)))))
def sp_are_registers (K : PySem.W.Frag) (w : World) : Sp := spOf ["thing", "item"] 1 (t_are_registers K w)
def t_is_part (K : PySem.W.Frag) (w : World) (E : XK) : TS :=
    (tSeq (tIfS (tTest (tOp (rEqU K) (tVar 0) (tC (.str "x")))) (tRet (tCall (sp_is_register K w) [] E0 (tCons (tVar 1) tNil))) tNext)
    (tSeq (tIfS (tTest (tOp (rEqU K) (tVar 0) (tC (.str "n")))) (tRet (tCall (sp_is_within K w) [] E0 (tCons (tVar 1) (tCons (tUn (rU fun i => .int (-i)) (tC (.int (1000000000)))) (tCons (tC (.int (1000000000))) tNil))))) tNext)
    (tSeq (tIfS (tTest (tOp (rEqU K) (tVar 0) (tC (.str "p")))) (tRet (tCall (sp_are_registers K w) [] E0 (tCons (tVar 1) tNil))) tNext)
    (tSeq (tIfS (tTest (tOp (rEqU K) (tVar 0) (tC (.str "t")))) (tRet (tCall (sp_is_within K w) [] E0 (tCons (tVar 1) (tCons (tC (.int 0)) (tCons (tVar 2) tNil))))) tNext)
    (tRet (tCall (sp_is_within K w) [] E0 (tCons (tVar 1) (tCons (tC (.int 0)) (tCons (tIf (tTest (tOp (rEqU K) (tVar 0) (tC (.str "b")))) (tC (.int (6))) (tOp (rSubU) (tC (.int (6))) (tC (.int 1)))) tNil)))))))))
def sp_is_part (K : PySem.W.Frag) (w : World) : Sp := spOf ["sort", "thing", "many"] 3 (t_is_part K w)
def t_is_row (K : PySem.W.Frag) (w : World) (E : XK) : TS :=
    (tSeq (tIfS (tOr (tNot (tTruU K (tCB (rIsinU K) (tCons (tVar 0) (tCons (tC (.ty "tuple")) tNil))))) (tOr (tTest (tOp (rEqU K) (tCB (rLenU K) (tCons (tVar 0) tNil)) (tC (.int 0)))) (tNot (tTruU K (tCB (rIsinU K) (tCons (tOp (rIxU K) (tVar 0) (tC (.int 0))) (tCons (tC (.ty "str")) tNil))))))) (tRet (tC (.bl false))) tNext)
    (tSeq (tAsg (tKGet kv_FORMS (tOp (rIxU K) (tVar 0) (tC (.int 0)))) (gName 2))
    (tSeq (tIfS (tOr (tTest (tOp (rIsU) (tVar 2) (tC .non))) (tTest (tOp (rNeU K) (tCB (rLenU K) (tCons (tVar 0) tNil)) (tOp (rAddU K) (tCB (rLenU K) (tCons (tVar 2) tNil)) (tC (.int 1)))))) (tRet (tC (.bl false))) tNext)
    (tRet (tCB (rAll K) (tCons (tLc (iZipU K (tCons (tVar 2) (tCons (tSl (rSlU K) (tVar 0) (tPart (tC (.int 1))) tNoPart) tNil))) (gTup K 2 (gCons (gName 3) (gCons (gName 4) gNil))) tYes (tCall (sp_is_part K w) [] E0 (tCons (tVar 3) (tCons (tVar 4) (tCons (tVar 1) tNil)))) [3, 4]) tNil))))))
def sp_is_row (K : PySem.W.Frag) (w : World) : Sp := spOf ["thing", "many", "form", "sort", "item"] 2 (t_is_row K w)
def t_check_rows (K : PySem.W.Frag) (w : World) (E : XK) : TS :=
    (tSeq (tIfS (tOr (tNot (tTruU K (tCB (rIsinU K) (tCons (tVar 0) (tCons (tC (.ty "tuple")) tNil))))) (tTest (tOp (rGtU) (tCB (rLenU K) (tCons (tVar 0) tNil)) (tC (.int (60)))))) (tRet (tUn (rU fun i => .int (-i)) (tC (.int 1)))) tNext)
    (tSeq (tFor (iEnumU K (tCons (tVar 0) tNil)) (gTup K 2 (gCons (gName 1) (gCons (gName 2) gNil))) (tIfS (tNot (tTruU K (tCall (sp_is_row K w) [] E0 (tCons (tVar 2) (tCons (tCB (rLenU K) (tCons (tVar 0) tNil)) tNil))))) (tRet (tVar 1)) tNext))
    (tRet (tC .non))))
def sp_check_rows (K : PySem.W.Frag) (w : World) : Sp := spOf ["thing", "number", "item"] 1 (t_check_rows K w)
def t_is_program (K : PySem.W.Frag) (w : World) (E : XK) : TS :=
    (tRet (tOp (rIsU) (tCall (sp_check_rows K w) [] E0 (tCons (tVar 0) tNil)) (tC .non)))
def sp_is_program (K : PySem.W.Frag) (w : World) : Sp := spOf ["thing"] 1 (t_is_program K w)
def t_check_program (K : PySem.W.Frag) (w : World) (E : XK) : TS :=
    (tIfS (tNot (tTruU K (tCall (sp_is_program K w) [] E0 (tCons (tVar 0) tNil)))) tNever tNext)
def sp_check_program (K : PySem.W.Frag) (w : World) : Sp := spOf ["thing"] 1 (t_check_program K w)
def t_number_in (K : PySem.W.Frag) (w : World) (E : XK) : TS :=
    (tRet (tIf (tAnd (tTruU K (tCall (sp_is_pair K w) [] E0 (tCons (tVar 0) tNil))) (tTest (tOp (rEqU K) (tOp (rIxU K) (tVar 0) (tC (.int 0))) (tVar 1)))) (tOp (rIxU K) (tVar 0) (tC (.int 1))) (tC .non)))
def sp_number_in (K : PySem.W.Frag) (w : World) : Sp := spOf ["value", "word"] 2 (t_number_in K w)
def t_PlainWorld___init__ (K : PySem.W.Frag) (w : World) (E : XK) : TS :=
    (tSeq (sFld K (tVar 0) (tLst tNil) "parents_of")
    (tSeq (sFld K (tVar 0) (tLst tNil) "brought")
    (tSeq (sFld K (tVar 0) (tLst tNil) "object_kinds")
    (sFld K (tVar 0) (tLst tNil) "contents"))))
def sp_PlainWorld___init__ (K : PySem.W.Frag) (w : World) : Sp := spOf ["self"] 1 (t_PlainWorld___init__ K w)
def t_PlainWorld_ones (K : PySem.W.Frag) (w : World) (E : XK) : TS :=
    (tSeq (tAsg (tDisp [((tVar 1), (tC (.bl true)))]) (gName 2))
    (tSeq (tAsg (tLst (tCons (tVar 1) tNil)) (gName 3))
    (tSeq (tWhile (tTest (tOp (rGtU) (tCB (rLenU K) (tCons (tVar 3) tNil)) (tC (.int 0)))) (tFor (iSeqU K (tOp (rIxU K) (tFld K (tVar 0) "parents_of") (tBM0 K "list" (rPop) (tVar 3)))) (gName 4) (tIfS (tTest (tOp (rNotInU K) (tVar 4) (tVar 2))) (tSeq (tAsg (tC (.bl true)) (gSub (tVar 2) (tVar 4) rSetU))
    (tDrop (tBM K "list" (rAppend) (tVar 3) (tCons (tVar 4) tNil)))) tNext)))
    (tRet (tCB (rListU K) (tCons (tVar 2) tNil))))))
def sp_PlainWorld_ones (K : PySem.W.Frag) (w : World) : Sp := spOf ["self", "kind", "found", "waiting", "parent"] 2 (t_PlainWorld_ones K w)
def t_PlainWorld_new_kind (K : PySem.W.Frag) (w : World) (E : XK) : TS :=
    (tSeq (tIfS (tTest (tOp (rEqU K) (tCB (rLenU K) (tCons (tFld K (tVar 0) "parents_of") tNil)) (tC (.int (400))))) (tRet (tC .non)) tNext)
    (tSeq (tDrop (tBM K "list" (rAppend) (tFld K (tVar 0) "parents_of") (tCons (tVar 1) tNil)))
    (tSeq (tDrop (tBM K "list" (rAppend) (tFld K (tVar 0) "brought") (tCons (tVar 2) tNil)))
    (tRet (tOp (rSubU) (tCB (rLenU K) (tCons (tFld K (tVar 0) "brought") tNil)) (tC (.int 1)))))))
def sp_PlainWorld_new_kind (K : PySem.W.Frag) (w : World) : Sp := spOf ["self", "parents", "many"] 3 (t_PlainWorld_new_kind K w)
def t_PlainWorld_new_object (K : PySem.W.Frag) (w : World) (E : XK) : TS :=
    (tSeq (tIfS (tTest (tOp (rEqU K) (tCB (rLenU K) (tCons (tFld K (tVar 0) "object_kinds") tNil)) (tC (.int (2000))))) (tRet (tC .non)) tNext)
    (tSeq (tDrop (tBM K "list" (rAppend) (tFld K (tVar 0) "object_kinds") (tCons (tVar 1) tNil)))
    (tSeq (tDrop (tBM K "list" (rAppend) (tFld K (tVar 0) "contents") (tCons (tDNewU) tNil)))
    (tSeq (tFor (iSeqU K (tMeth (He.ga K "PlainWorld") "ones" (sp_PlainWorld_ones K w) [] E0 (tVar 0) (tCons (tVar 1) tNil))) (gName 2) (tDrop (tBM K "dict" rUpdT (tOp (rIxU K) (tFld K (tVar 0) "contents") (tUn (rU fun i => .int (-i)) (tC (.int 1)))) (tCons (tDcU (iRng1 (tCons (tOp (rIxU K) (tFld K (tVar 0) "brought") (tVar 2)) tNil)) (gName 3) tYes (tTup (tCons (tVar 2) (tCons (tVar 3) tNil))) (tC (.int 0)) [3]) tNil))))
    (tRet (tOp (rSubU) (tCB (rLenU K) (tCons (tFld K (tVar 0) "object_kinds") tNil)) (tC (.int 1))))))))
def sp_PlainWorld_new_object (K : PySem.W.Frag) (w : World) : Sp := spOf ["self", "kind", "one", "field"] 2 (t_PlainWorld_new_object K w)
def t_PlainWorld_kind_of (K : PySem.W.Frag) (w : World) (E : XK) : TS :=
    (tRet (tOp (rIxU K) (tFld K (tVar 0) "object_kinds") (tVar 1)))
def sp_PlainWorld_kind_of (K : PySem.W.Frag) (w : World) : Sp := spOf ["self", "number"] 2 (t_PlainWorld_kind_of K w)
def t_PlainWorld_is_kind (K : PySem.W.Frag) (w : World) (E : XK) : TS :=
    (tRet (tOp (rInU K) (tVar 2) (tMeth (He.ga K "PlainWorld") "ones" (sp_PlainWorld_ones K w) [] E0 (tVar 0) (tCons (tOp (rIxU K) (tFld K (tVar 0) "object_kinds") (tVar 1)) tNil))))
def sp_PlainWorld_is_kind (K : PySem.W.Frag) (w : World) : Sp := spOf ["self", "number", "kind"] 3 (t_PlainWorld_is_kind K w)
def t_PlainWorld_has_cell (K : PySem.W.Frag) (w : World) (E : XK) : TS :=
    (tRet (tOp (rInU K) (tTup (tCons (tVar 2) (tCons (tVar 3) tNil))) (tOp (rIxU K) (tFld K (tVar 0) "contents") (tVar 1))))
def sp_PlainWorld_has_cell (K : PySem.W.Frag) (w : World) : Sp := spOf ["self", "number", "kind", "field"] 4 (t_PlainWorld_has_cell K w)
def t_PlainWorld_cell (K : PySem.W.Frag) (w : World) (E : XK) : TS :=
    (tRet (tOp (rIxU K) (tOp (rIxU K) (tFld K (tVar 0) "contents") (tVar 1)) (tTup (tCons (tVar 2) (tCons (tVar 3) tNil)))))
def sp_PlainWorld_cell (K : PySem.W.Frag) (w : World) : Sp := spOf ["self", "number", "kind", "field"] 4 (t_PlainWorld_cell K w)
def t_PlainWorld_keep_cell (K : PySem.W.Frag) (w : World) (E : XK) : TS :=
    (tAsg (tVar 4) (gSub (tOp (rIxU K) (tFld K (tVar 0) "contents") (tVar 1)) (tTup (tCons (tVar 2) (tCons (tVar 3) tNil))) rSetU))
def sp_PlainWorld_keep_cell (K : PySem.W.Frag) (w : World) : Sp := spOf ["self", "number", "kind", "field", "value"] 5 (t_PlainWorld_keep_cell K w)
def t_cell_of (K : PySem.W.Frag) (w : World) (E : XK) : TS :=
    (tSeq (tPar 5 6 (tCons (tCall (sp_number_in K w) [] E0 (tCons (tOp (rIxU K) (tVar 0) (tVar 2)) (tCons (tC (.str "object")) tNil))) (tCons (tCall (sp_number_in K w) [] E0 (tCons (tOp (rIxU K) (tVar 0) (tVar 3)) (tCons (tC (.str "kind")) tNil))) tNil)))
    (tSeq (tIfS (tOr (tTest (tOp (rIsU) (tVar 5) (tC .non))) (tOr (tTest (tOp (rIsU) (tVar 6) (tC .non))) (tNot (tTruU K (tMeth (He.ga K "PlainWorld") "has_cell" (sp_PlainWorld_has_cell K w) [] E0 (tVar 1) (tCons (tVar 5) (tCons (tVar 6) (tCons (tVar 4) tNil)))))))) (tRet (tC .non)) tNext)
    (tRet (tTup (tCons (tVar 5) (tCons (tVar 6) tNil))))))
def sp_cell_of (K : PySem.W.Frag) (w : World) : Sp := spOf ["registers", "world", "y", "z", "field", "number", "kind"] 5 (t_cell_of K w)
def t_sum_of (K : PySem.W.Frag) (w : World) (E : XK) : TS :=
    (tSeq (tIfS (tOr (tTruU K (tCall (sp_is_pair K w) [] E0 (tCons (tVar 0) tNil))) (tOr (tTruU K (tCall (sp_is_pair K w) [] E0 (tCons (tVar 1) tNil))) (tTest (tOp (rGtU) (tCB (rAbsU) (tCons (tOp (rAddU K) (tVar 0) (tVar 1)) tNil)) (tC (.int (1000000000000000000))))))) (tRet (tC .non)) tNext)
    (tRet (tOp (rAddU K) (tVar 0) (tVar 1))))
def sp_sum_of (K : PySem.W.Frag) (w : World) : Sp := spOf ["one", "other"] 2 (t_sum_of K w)
def t_loaded_kind (K : PySem.W.Frag) (w : World) (E : XK) : TS :=
    (tSeq (tAsg (tLc (iSeqU K (tVar 2)) (gName 6) tYes (tCall (sp_number_in K w) [] E0 (tCons (tOp (rIxU K) (tVar 0) (tVar 6)) (tCons (tC (.str "kind")) tNil))) [6]) (gName 4))
    (tSeq (tIfS (tOr (tTest (tOp (rInU K) (tC .non) (tVar 4))) (tTest (tOp (rLtU K) (tLenSetU K (tVar 4)) (tCB (rLenU K) (tCons (tVar 4) tNil))))) (tRet (tC .non)) tNext)
    (tSeq (tAsg (tMeth (He.ga K "PlainWorld") "new_kind" (sp_PlainWorld_new_kind K w) [] E0 (tVar 1) (tCons (tCB (rTupU K) (tCons (tCB (rSortedU K) (tCons (tVar 4) tNil)) tNil)) (tCons (tVar 3) tNil))) (gName 5))
    (tRet (tIf (tTest (tOp (rIsU) (tVar 5) (tC .non))) (tC .non) (tTup (tCons (tC (.str "kind")) (tCons (tVar 5) tNil))))))))
def sp_loaded_kind (K : PySem.W.Frag) (w : World) : Sp := spOf ["registers", "world", "some", "many", "parents", "number", "place"] 4 (t_loaded_kind K w)
def t_made_object (K : PySem.W.Frag) (w : World) (E : XK) : TS :=
    (tSeq (tAsg (tCall (sp_number_in K w) [] E0 (tCons (tOp (rIxU K) (tVar 0) (tVar 2)) (tCons (tC (.str "kind")) tNil))) (gName 3))
    (tSeq (tAsg (tIf (tTest (tOp (rIsU) (tVar 3) (tC .non))) (tC .non) (tMeth (He.ga K "PlainWorld") "new_object" (sp_PlainWorld_new_object K w) [] E0 (tVar 1) (tCons (tVar 3) tNil))) (gName 4))
    (tRet (tIf (tTest (tOp (rIsU) (tVar 4) (tC .non))) (tC .non) (tTup (tCons (tC (.str "object")) (tCons (tVar 4) tNil)))))))
def sp_made_object (K : PySem.W.Frag) (w : World) : Sp := spOf ["registers", "world", "y", "kind", "number"] 3 (t_made_object K w)
def t_kind_in (K : PySem.W.Frag) (w : World) (E : XK) : TS :=
    (tSeq (tAsg (tCall (sp_number_in K w) [] E0 (tCons (tOp (rIxU K) (tVar 0) (tVar 2)) (tCons (tC (.str "object")) tNil))) (gName 3))
    (tRet (tIf (tTest (tOp (rIsU) (tVar 3) (tC .non))) (tC .non) (tTup (tCons (tC (.str "kind")) (tCons (tMeth (He.ga K "PlainWorld") "kind_of" (sp_PlainWorld_kind_of K w) [] E0 (tVar 1) (tCons (tVar 3) tNil)) tNil))))))
def sp_kind_in (K : PySem.W.Frag) (w : World) : Sp := spOf ["registers", "world", "y", "number"] 3 (t_kind_in K w)
def t_value_of (K : PySem.W.Frag) (w : World) (E : XK) : TS :=
    (tSeq (tIfS (tTest (tOp (rEqU K) (tOp (rIxU K) (tVar 0) (tC (.int 0))) (tC (.str "set")))) (tRet (tOp (rIxU K) (tVar 0) (tC (.int 2)))) tNext)
    (tSeq (tIfS (tTest (tOp (rEqU K) (tOp (rIxU K) (tVar 0) (tC (.int 0))) (tC (.str "copy")))) (tRet (tOp (rIxU K) (tVar 1) (tOp (rIxU K) (tVar 0) (tC (.int 2))))) tNext)
    (tSeq (tIfS (tTest (tOp (rEqU K) (tOp (rIxU K) (tVar 0) (tC (.int 0))) (tC (.str "add")))) (tRet (tCall (sp_sum_of K w) [] E0 (tCons (tOp (rIxU K) (tVar 1) (tOp (rIxU K) (tVar 0) (tC (.int 2)))) (tCons (tOp (rIxU K) (tVar 1) (tOp (rIxU K) (tVar 0) (tC (.int 3)))) tNil)))) tNext)
    (tSeq (tIfS (tTest (tOp (rEqU K) (tOp (rIxU K) (tVar 0) (tC (.int 0))) (tC (.str "load")))) (tRet (tCall (sp_loaded_kind K w) [] E0 (tCons (tVar 1) (tCons (tVar 2) (tCons (tOp (rIxU K) (tVar 0) (tC (.int 2))) (tCons (tOp (rIxU K) (tVar 0) (tC (.int 3))) tNil)))))) tNext)
    (tSeq (tIfS (tTest (tOp (rEqU K) (tOp (rIxU K) (tVar 0) (tC (.int 0))) (tC (.str "make")))) (tRet (tCall (sp_made_object K w) [] E0 (tCons (tVar 1) (tCons (tVar 2) (tCons (tOp (rIxU K) (tVar 0) (tC (.int 2))) tNil))))) tNext)
    (tSeq (tIfS (tTest (tOp (rEqU K) (tOp (rIxU K) (tVar 0) (tC (.int 0))) (tC (.str "kind")))) (tRet (tCall (sp_kind_in K w) [] E0 (tCons (tVar 1) (tCons (tVar 2) (tCons (tOp (rIxU K) (tVar 0) (tC (.int 2))) tNil))))) tNext)
    (tSeq (tAsg (tCall (sp_cell_of K w) [] E0 (tCons (tVar 1) (tCons (tVar 2) (tCons (tOp (rIxU K) (tVar 0) (tC (.int 2))) (tCons (tOp (rIxU K) (tVar 0) (tC (.int 3))) (tCons (tOp (rIxU K) (tVar 0) (tC (.int 4))) tNil)))))) (gName 3))
    (tRet (tIf (tTest (tOp (rIsU) (tVar 3) (tC .non))) (tC .non) (tMeth (He.ga K "PlainWorld") "cell" (sp_PlainWorld_cell K w) [] E0 (tVar 2) (tCons (tOp (rIxU K) (tVar 3) (tC (.int 0))) (tCons (tOp (rIxU K) (tVar 3) (tC (.int 1))) (tCons (tOp (rIxU K) (tVar 0) (tC (.int 4))) tNil)))))))))))))
def sp_value_of (K : PySem.W.Frag) (w : World) : Sp := spOf ["row", "registers", "world", "found"] 3 (t_value_of K w)
def t_written (K : PySem.W.Frag) (w : World) (E : XK) : TS :=
    (tSeq (tAsg (tCall (sp_cell_of K w) [] E0 (tCons (tVar 1) (tCons (tVar 2) (tCons (tOp (rIxU K) (tVar 0) (tC (.int 1))) (tCons (tOp (rIxU K) (tVar 0) (tC (.int 2))) (tCons (tOp (rIxU K) (tVar 0) (tC (.int 3))) tNil)))))) (gName 3))
    (tSeq (tIfS (tTest (tOp (rIsNotU) (tVar 3) (tC .non))) (tDrop (tMeth (He.ga K "PlainWorld") "keep_cell" (sp_PlainWorld_keep_cell K w) [] E0 (tVar 2) (tCons (tOp (rIxU K) (tVar 3) (tC (.int 0))) (tCons (tOp (rIxU K) (tVar 3) (tC (.int 1))) (tCons (tOp (rIxU K) (tVar 0) (tC (.int 3))) (tCons (tOp (rIxU K) (tVar 1) (tOp (rIxU K) (tVar 0) (tC (.int 4)))) tNil)))))) tNext)
    (tRet (tOp (rIsNotU) (tVar 3) (tC .non)))))
def sp_written (K : PySem.W.Frag) (w : World) : Sp := spOf ["row", "registers", "world", "found"] 3 (t_written K w)
def t_is_gone (K : PySem.W.Frag) (w : World) (E : XK) : TS :=
    (tSeq (tPar 3 4 (tCons (tOp (rIxU K) (tVar 1) (tOp (rIxU K) (tVar 0) (tC (.int 1)))) (tCons (tOp (rIxU K) (tVar 1) (tOp (rIxU K) (tVar 0) (tC (.int 2)))) tNil)))
    (tSeq (tIfS (tTest (tOp (rEqU K) (tOp (rIxU K) (tVar 0) (tC (.int 0))) (tC (.str "less")))) (tRet (tIf (tOr (tTruU K (tCall (sp_is_pair K w) [] E0 (tCons (tVar 3) tNil))) (tTruU K (tCall (sp_is_pair K w) [] E0 (tCons (tVar 4) tNil)))) (tC .non) (tOp (rLtU K) (tVar 3) (tVar 4)))) tNext)
    (tSeq (tPar 5 6 (tCons (tCall (sp_number_in K w) [] E0 (tCons (tVar 3) (tCons (tC (.str "object")) tNil))) (tCons (tCall (sp_number_in K w) [] E0 (tCons (tVar 4) (tCons (tC (.str "kind")) tNil))) tNil)))
    (tRet (tIf (tOr (tTest (tOp (rIsU) (tVar 5) (tC .non))) (tTest (tOp (rIsU) (tVar 6) (tC .non)))) (tC .non) (tMeth (He.ga K "PlainWorld") "is_kind" (sp_PlainWorld_is_kind K w) [] E0 (tVar 2) (tCons (tVar 5) (tCons (tVar 6) tNil))))))))
def sp_is_gone (K : PySem.W.Frag) (w : World) : Sp := spOf ["row", "registers", "world", "one", "other", "number", "kind"] 3 (t_is_gone K w)
def t_next_row (K : PySem.W.Frag) (w : World) (E : XK) : TS :=
    (tSeq (tIfS (tTest (tOp (rEqU K) (tOp (rIxU K) (tVar 0) (tC (.int 0))) (tC (.str "go")))) (tRet (tOp (rIxU K) (tVar 0) (tC (.int 1)))) tNext)
    (tSeq (tIfS (tTest (tOp (rInU K) (tOp (rIxU K) (tVar 0) (tC (.int 0))) (tTup (tCons (tC (.str "is")) (tCons (tC (.str "less")) tNil))))) (tSeq (tAsg (tCall (sp_is_gone K w) [] E0 (tCons (tVar 0) (tCons (tVar 2) (tCons (tVar 4) tNil)))) (gName 5))
    (tRet (tIf (tTest (tOp (rIsU) (tVar 5) (tC .non))) (tC .non) (tIf (tTruU K (tVar 5)) (tOp (rIxU K) (tVar 0) (tC (.int 3))) (tOp (rAddU K) (tVar 1) (tC (.int 1))))))) tNext)
    (tSeq (tIfS (tTest (tOp (rEqU K) (tOp (rIxU K) (tVar 0) (tC (.int 0))) (tC (.str "show")))) (tSeq (tDrop (tBM K "list" (rAppend) (tVar 3) (tCons (tOp (rIxU K) (tVar 2) (tOp (rIxU K) (tVar 0) (tC (.int 1)))) tNil)))
    (tRet (tOp (rAddU K) (tVar 1) (tC (.int 1))))) tNext)
    (tSeq (tIfS (tTest (tOp (rEqU K) (tOp (rIxU K) (tVar 0) (tC (.int 0))) (tC (.str "write")))) (tRet (tIf (tTruU K (tCall (sp_written K w) [] E0 (tCons (tVar 0) (tCons (tVar 2) (tCons (tVar 4) tNil))))) (tOp (rAddU K) (tVar 1) (tC (.int 1))) (tC .non))) tNext)
    (tSeq (tAsg (tCall (sp_value_of K w) [] E0 (tCons (tVar 0) (tCons (tVar 2) (tCons (tVar 4) tNil)))) (gName 6))
    (tSeq (tIfS (tTest (tOp (rIsU) (tVar 6) (tC .non))) (tRet (tC .non)) tNext)
    (tSeq (tAsg (tVar 6) (gSub (tVar 2) (tOp (rIxU K) (tVar 0) (tC (.int 1))) rSetU))
    (tRet (tOp (rAddU K) (tVar 1) (tC (.int 1)))))))))))
def sp_next_row (K : PySem.W.Frag) (w : World) : Sp := spOf ["row", "at", "registers", "values", "world", "found", "value"] 5 (t_next_row K w)
def t_run (K : PySem.W.Frag) (w : World) (E : XK) : TS :=
    (tSeq (tDrop (tCall (sp_check_program K w) [] E0 (tCons (tVar 0) tNil)))
    (tSeq (tDrop (tCall (sp_check_number K w) [] E0 (tCons (tVar 1) (tCons (tC (.int 0)) (tCons (tC (.int (20000))) tNil)))))
    (tSeq (tAsg (tOp (rMulU K) (tLst (tCons (tC (.int 0)) tNil)) (tC (.int (10)))) (gName 2))
    (tSeq (tAsg (tLst tNil) (gName 3))
    (tSeq (tAsg (tMake (He.ga K "PlainWorld") (sp_PlainWorld___init__ K w) [] E0 tNil) (gName 4))
    (tSeq (tAsg (tC (.int 0)) (gName 5))
    (tSeq (tAsg (tC (.int 0)) (gName 6))
    (tSeq (tWhile (tAnd (tTest (tOp (rLtU K) (tVar 5) (tCB (rLenU K) (tCons (tVar 0) tNil)))) (tTest (tOp (rLtU K) (tVar 6) (tVar 1)))) (tSeq (tAsg (tCall (sp_next_row K w) [] E0 (tCons (tOp (rIxU K) (tVar 0) (tVar 5)) (tCons (tVar 5) (tCons (tVar 2) (tCons (tVar 3) (tCons (tVar 4) tNil)))))) (gName 7))
    (tSeq (tIfS (tTest (tOp (rIsU) (tVar 7) (tC .non))) (tRet (tTup (tCons (tVar 3) (tCons (tTup (tCons (tC (.str "fault")) (tCons (tVar 5) tNil))) tNil)))) tNext)
    (tSeq (tAsg (tVar 7) (gName 5))
    (tAug 6 (tC (.int 1)) rIAddU)))))
    (tRet (tTup (tCons (tVar 3) (tCons (tIf (tTest (tOp (rEqU K) (tVar 5) (tCB (rLenU K) (tCons (tVar 0) tNil)))) (tTup (tCons (tC (.str "end")) tNil)) (tTup (tCons (tC (.str "most")) (tCons (tVar 5) tNil)))) tNil))))))))))))
def sp_run (K : PySem.W.Frag) (w : World) : Sp := spOf ["program", "most", "registers", "values", "world", "at", "many", "later"] 2 (t_run K w)
def t__law_pool (K : PySem.W.Frag) (w : World) (E : XK) : TS :=
    (tSeq (tAsg (tOp (rAddU K) (tOp (rAddU K) (tOp (rModU) (tCB (rIntU) (tCons (tCB (rSum K) (tCons (tSl (rSlU K) (tVar 0) tNoPart (tPart (tC (.int 1)))) tNil)) tNil)) (tC (.int 1000003))) (tCB (rLenU K) (tCons (tVar 0) tNil))) (tC (.int 1))) (gName 1))
    (tSeq (tFor (iSeqU K (tSl (rSlU K) (tVar 0) tNoPart (tPart (tC (.int 63))))) (gName 2) (tAsg (tOp (rModU) (tCB (rIntU) (tCons (tOp (rAddU K) (tOp (rAddU K) (tOp (rMulU K) (tVar 1) (tC (.int 48271))) (tOp (rModU) (tCB (rIntU) (tCons (tVar 2) tNil)) (tC (.int 2147483629)))) (tC (.int 11))) tNil)) (tC (.int 2147483647))) (gName 1)))
    (tRet (tLst (tCons (tVar 1) (tCons (tC (.int 0)) (tCons (tLc (iSeqU K (tSl (rSlU K) (tVar 0) tNoPart (tPart (tC (.int 63))))) (gName 2) (tTest (tOp (rGeU) (tCB (rAbsU) (tCons (tVar 2) tNil)) (tOp (rPowU) (tC (.int 10)) (tC (.int 18))))) (tCB (rAbsU) (tCons (tVar 2) tNil)) [2]) tNil)))))))
def sp__law_pool (K : PySem.W.Frag) (w : World) : Sp := spOf ["_law_script", "_law_seed", "_law_cell"] 1 (t__law_pool K w)
def t__law_draw (K : PySem.W.Frag) (w : World) (E : XK) : TS :=
    (tSeq (tAsg (tOp (rAddU K) (tOp (rIxU K) (tVar 0) (tC (.int 1))) (tC (.int 1))) (gSub (tVar 0) (tC (.int 1)) rSetU))
    (tSeq (tAsg (tOp (rIxU K) (tVar 0) (tC (.int 2))) (gName 2))
    (tSeq (tIfS (tTest (tOp (rGtU) (tCB (rLenU K) (tCons (tVar 2) tNil)) (tC (.int 0)))) (tSeq (tAsg (tOp (rModU) (tCB (rIntU) (tCons (tOp (rIxU K) (tVar 2) (tC (.int 0))) tNil)) (tVar 1)) (gName 3))
    (tSeq (tAsg (tOp (rDivU) (tCB (rIntU) (tCons (tOp (rIxU K) (tVar 2) (tC (.int 0))) tNil)) (tVar 1)) (gSub (tVar 2) (tC (.int 0)) rSetU))
    (tSeq (tIfS (tTest (tOp (rEqU K) (tOp (rIxU K) (tVar 2) (tC (.int 0))) (tC (.int 0)))) (tDrop (tBM K "list" (rPopAt) (tVar 2) (tCons (tC (.int 0)) tNil))) tNext)
    (tRet (tVar 3))))) tNext)
    (tSeq (tAsg (tOp (rModU) (tCB (rIntU) (tCons (tOp (rMulU K) (tOp (rAddU K) (tOp (rIxU K) (tVar 0) (tC (.int 0))) (tOp (rMulU K) (tC (.int 7919)) (tOp (rIxU K) (tVar 0) (tC (.int 1))))) (tC (.int 48271))) tNil)) (tC (.int 2147483647))) (gName 4))
    (tSeq (tAsg (tOp (rModU) (tCB (rIntU) (tCons (tOp (rMulU K) (tVar 4) (tOp (rAddU K) (tOp (rDivU) (tVar 4) (tC (.int 1009))) (tC (.int 69621)))) tNil)) (tC (.int 2147483647))) (gName 4))
    (tSeq (tAsg (tOp (rModU) (tCB (rIntU) (tCons (tOp (rMulU K) (tVar 4) (tOp (rAddU K) (tOp (rDivU) (tVar 4) (tC (.int 2003))) (tC (.int 40692)))) tNil)) (tC (.int 2147483399))) (gName 4))
    (tRet (tOp (rModU) (tCB (rIntU) (tCons (tOp (rDivU) (tVar 4) (tC (.int 16))) tNil)) (tVar 1)))))))))
def sp__law_draw (K : PySem.W.Frag) (w : World) : Sp := spOf ["_law_pool_here", "_law_many", "_law_cells", "_law_digit", "_law_mixed_here"] 2 (t__law_draw K w)
def t__law_mixed (K : PySem.W.Frag) (w : World) (E : XK) : TS :=
    (tSeq (tAsg (tCB (rListU K) (tCons (tVar 1) tNil)) (gName 2))
    (tSeq (tAsg (tLst tNil) (gName 3))
    (tSeq (tFor (iRng1 (tCons (tCB (rLenU K) (tCons (tVar 1) tNil)) tNil)) (gName 4) (tDrop (tBM K "list" (rAppend) (tVar 3) (tCons (tBM K "list" (rPopAt) (tVar 2) (tCons (tCall (sp__law_draw K w) [] E0 (tCons (tVar 0) (tCons (tCB (rLenU K) (tCons (tVar 2) tNil)) tNil))) tNil)) tNil))))
    (tRet (tVar 3)))))
def sp__law_mixed (K : PySem.W.Frag) (w : World) : Sp := spOf ["_law_pool_here", "_law_things", "_law_left", "_law_made_here", "_law_k"] 2 (t__law_mixed K w)
def t__law_some (K : PySem.W.Frag) (w : World) (E : XK) : TS :=
    (tRet (tOp (rIxU K) (tVar 1) (tCall (sp__law_draw K w) [] E0 (tCons (tVar 0) (tCons (tCB (rLenU K) (tCons (tVar 1) tNil)) tNil)))))
def sp__law_some (K : PySem.W.Frag) (w : World) : Sp := spOf ["_law_pool_here", "_law_things"] 2 (t__law_some K w)
def t__law_begun (K : PySem.W.Frag) (w : World) (E : XK) : TS :=
    (tRet (tDisp [((tC (.str "at")), (tC (.int 0))), ((tC (.str "fault")), (tC (.bl false))), ((tC (.str "held")), (tOp (rMulU K) (tLst (tCons (tC (.int 0)) tNil)) (tC (.int 10)))), ((tC (.str "shown")), (tLst tNil)), ((tC (.str "parents")), (tLst tNil)), ((tC (.str "brought")), (tLst tNil)), ((tC (.str "above")), (tLst tNil)), ((tC (.str "kinds")), (tLst tNil)), ((tC (.str "cells")), (tLst tNil))]))
def sp__law_begun (K : PySem.W.Frag) (w : World) : Sp := spOf [] 0 (t__law_begun K w)
def t__law_sort (K : PySem.W.Frag) (w : World) (E : XK) : TS :=
    (tRet (tIf (tTruU K (tCB (rIsinU K) (tCons (tVar 0) (tCons (tC (.ty "tuple")) tNil)))) (tOp (rIxU K) (tVar 0) (tC (.int 0))) (tC (.str "integer"))))
def sp__law_sort (K : PySem.W.Frag) (w : World) : Sp := spOf ["_law_value_here"] 1 (t__law_sort K w)
def t__law_new_kind (K : PySem.W.Frag) (w : World) (E : XK) : TS :=
    (tSeq (tIfS (tTest (tOp (rEqU K) (tCB (rLenU K) (tCons (tOp (rIxU K) (tVar 0) (tC (.str "parents"))) tNil)) (tC (.int 400)))) (tRet (tC .non)) tNext)
    (tSeq (tAsg (tCB (rLenU K) (tCons (tOp (rIxU K) (tVar 0) (tC (.str "parents"))) tNil)) (gName 3))
    (tSeq (tAsg (tDisp [((tVar 3), (tC (.bl true)))]) (gName 4))
    (tSeq (tFor (iSeqU K (tVar 1)) (gName 5) (tDrop (tBM K "dict" rUpdK (tVar 4) (tCons (tOp (rIxU K) (tOp (rIxU K) (tVar 0) (tC (.str "above"))) (tVar 5)) tNil))))
    (tSeq (tDrop (tBM K "list" (rAppend) (tOp (rIxU K) (tVar 0) (tC (.str "parents"))) (tCons (tVar 1) tNil)))
    (tSeq (tDrop (tBM K "list" (rAppend) (tOp (rIxU K) (tVar 0) (tC (.str "brought"))) (tCons (tVar 2) tNil)))
    (tSeq (tDrop (tBM K "list" (rAppend) (tOp (rIxU K) (tVar 0) (tC (.str "above"))) (tCons (tVar 4) tNil)))
    (tRet (tTup (tCons (tC (.str "kind")) (tCons (tVar 3) tNil)))))))))))
def sp__law_new_kind (K : PySem.W.Frag) (w : World) : Sp := spOf ["_law_state", "_law_parents", "_law_many", "_law_number", "_law_here", "_law_parent"] 3 (t__law_new_kind K w)
def t__law_loaded (K : PySem.W.Frag) (w : World) (E : XK) : TS :=
    (tSeq (tAsg (tLc (iSeqU K (tVar 1)) (gName 5) tYes (tOp (rIxU K) (tOp (rIxU K) (tVar 0) (tC (.str "held"))) (tVar 5)) [5]) (gName 3))
    (tSeq (tIfS (tNot (tTruU K (tCB (rAll K) (tCons (tLc (iSeqU K (tVar 3)) (gName 6) tYes (tOp (rEqU K) (tCall (sp__law_sort K w) [] E0 (tCons (tVar 6) tNil)) (tC (.str "kind"))) [6]) tNil)))) (tRet (tC .non)) tNext)
    (tSeq (tAsg (tCB (rSortedU K) (tCons (tLc (iSeqU K (tVar 3)) (gName 6) tYes (tOp (rIxU K) (tVar 6) (tC (.int 1))) [6]) tNil)) (gName 4))
    (tSeq (tIfS (tTest (tOp (rLtU K) (tLenSetU K (tVar 4)) (tCB (rLenU K) (tCons (tVar 4) tNil)))) (tRet (tC .non)) tNext)
    (tRet (tCall (sp__law_new_kind K w) [] E0 (tCons (tVar 0) (tCons (tCB (rTupU K) (tCons (tVar 4) tNil)) (tCons (tVar 2) tNil)))))))))
def sp__law_loaded (K : PySem.W.Frag) (w : World) : Sp := spOf ["_law_state", "_law_some_here", "_law_many", "_law_values", "_law_numbers", "_law_place", "_law_value_here"] 3 (t__law_loaded K w)
def t__law_made (K : PySem.W.Frag) (w : World) (E : XK) : TS :=
    (tSeq (tIfS (tOr (tTest (tOp (rNeU K) (tCall (sp__law_sort K w) [] E0 (tCons (tVar 1) tNil)) (tC (.str "kind")))) (tTest (tOp (rEqU K) (tCB (rLenU K) (tCons (tOp (rIxU K) (tVar 0) (tC (.str "kinds"))) tNil)) (tC (.int 2000))))) (tRet (tC .non)) tNext)
    (tSeq (tAsg (tDNewU) (gName 2))
    (tSeq (tLock (tFor (iKeys (tOp (rIxU K) (tOp (rIxU K) (tVar 0) (tC (.str "above"))) (tOp (rIxU K) (tVar 1) (tC (.int 1))))) (gName 3) (tFor (iRng1 (tCons (tOp (rIxU K) (tOp (rIxU K) (tVar 0) (tC (.str "brought"))) (tVar 3)) tNil)) (gName 4) (tAsg (tC (.int 0)) (gSub (tVar 2) (tTup (tCons (tVar 3) (tCons (tVar 4) tNil))) rSetU)))))
    (tSeq (tDrop (tBM K "list" (rAppend) (tOp (rIxU K) (tVar 0) (tC (.str "kinds"))) (tCons (tOp (rIxU K) (tVar 1) (tC (.int 1))) tNil)))
    (tSeq (tDrop (tBM K "list" (rAppend) (tOp (rIxU K) (tVar 0) (tC (.str "cells"))) (tCons (tVar 2) tNil)))
    (tRet (tTup (tCons (tC (.str "object")) (tCons (tOp (rSubU) (tCB (rLenU K) (tCons (tOp (rIxU K) (tVar 0) (tC (.str "kinds"))) tNil)) (tC (.int 1))) tNil)))))))))
def sp__law_made (K : PySem.W.Frag) (w : World) : Sp := spOf ["_law_state", "_law_value_here", "_law_cells", "_law_one", "_law_field"] 2 (t__law_made K w)
def t__law_spot (K : PySem.W.Frag) (w : World) (E : XK) : TS :=
    (tSeq (tIfS (tOr (tTest (tOp (rNeU K) (tCall (sp__law_sort K w) [] E0 (tCons (tVar 1) tNil)) (tC (.str "object")))) (tTest (tOp (rNeU K) (tCall (sp__law_sort K w) [] E0 (tCons (tVar 2) tNil)) (tC (.str "kind"))))) (tRet (tC .non)) tNext)
    (tSeq (tAsg (tTup (tCons (tOp (rIxU K) (tVar 2) (tC (.int 1))) (tCons (tVar 3) tNil))) (gName 4))
    (tRet (tIf (tTest (tOp (rInU K) (tVar 4) (tOp (rIxU K) (tOp (rIxU K) (tVar 0) (tC (.str "cells"))) (tOp (rIxU K) (tVar 1) (tC (.int 1)))))) (tTup (tCons (tOp (rIxU K) (tVar 1) (tC (.int 1))) (tCons (tVar 4) tNil))) (tC .non)))))
def sp__law_spot (K : PySem.W.Frag) (w : World) : Sp := spOf ["_law_state", "_law_one", "_law_other", "_law_field", "_law_spot_here"] 4 (t__law_spot K w)
def t__law_value (K : PySem.W.Frag) (w : World) (E : XK) : TS :=
    (tSeq (tAsg (tOp (rIxU K) (tVar 0) (tC (.str "held"))) (gName 2))
    (tSeq (tIfS (tTest (tOp (rEqU K) (tOp (rIxU K) (tVar 1) (tC (.int 0))) (tC (.str "set")))) (tRet (tOp (rIxU K) (tVar 1) (tC (.int 2)))) tNext)
    (tSeq (tIfS (tTest (tOp (rEqU K) (tOp (rIxU K) (tVar 1) (tC (.int 0))) (tC (.str "copy")))) (tRet (tOp (rIxU K) (tVar 2) (tOp (rIxU K) (tVar 1) (tC (.int 2))))) tNext)
    (tSeq (tIfS (tTest (tOp (rEqU K) (tOp (rIxU K) (tVar 1) (tC (.int 0))) (tC (.str "load")))) (tRet (tCall (sp__law_loaded K w) [] E0 (tCons (tVar 0) (tCons (tOp (rIxU K) (tVar 1) (tC (.int 2))) (tCons (tOp (rIxU K) (tVar 1) (tC (.int 3))) tNil))))) tNext)
    (tSeq (tIfS (tTest (tOp (rEqU K) (tOp (rIxU K) (tVar 1) (tC (.int 0))) (tC (.str "make")))) (tRet (tCall (sp__law_made K w) [] E0 (tCons (tVar 0) (tCons (tOp (rIxU K) (tVar 2) (tOp (rIxU K) (tVar 1) (tC (.int 2)))) tNil)))) tNext)
    (tSeq (tIfS (tTest (tOp (rEqU K) (tOp (rIxU K) (tVar 1) (tC (.int 0))) (tC (.str "kind")))) (tSeq (tAsg (tOp (rIxU K) (tVar 2) (tOp (rIxU K) (tVar 1) (tC (.int 2)))) (gName 3))
    (tRet (tIf (tTest (tOp (rEqU K) (tCall (sp__law_sort K w) [] E0 (tCons (tVar 3) tNil)) (tC (.str "object")))) (tTup (tCons (tC (.str "kind")) (tCons (tOp (rIxU K) (tOp (rIxU K) (tVar 0) (tC (.str "kinds"))) (tOp (rIxU K) (tVar 3) (tC (.int 1)))) tNil))) (tC .non)))) tNext)
    (tSeq (tIfS (tTest (tOp (rEqU K) (tOp (rIxU K) (tVar 1) (tC (.int 0))) (tC (.str "add")))) (tSeq (tPar 4 5 (tCons (tOp (rIxU K) (tVar 2) (tOp (rIxU K) (tVar 1) (tC (.int 2)))) (tCons (tOp (rIxU K) (tVar 2) (tOp (rIxU K) (tVar 1) (tC (.int 3)))) tNil)))
    (tSeq (tIfS (tOr (tTest (tOp (rNeU K) (tCall (sp__law_sort K w) [] E0 (tCons (tVar 4) tNil)) (tC (.str "integer")))) (tOr (tTest (tOp (rNeU K) (tCall (sp__law_sort K w) [] E0 (tCons (tVar 5) tNil)) (tC (.str "integer")))) (tTest (tOp (rGtU) (tCB (rAbsU) (tCons (tOp (rAddU K) (tVar 4) (tVar 5)) tNil)) (tOp (rPowU) (tC (.int 10)) (tC (.int 18))))))) (tRet (tC .non)) tNext)
    (tRet (tOp (rAddU K) (tVar 4) (tVar 5))))) tNext)
    (tSeq (tAsg (tCall (sp__law_spot K w) [] E0 (tCons (tVar 0) (tCons (tOp (rIxU K) (tVar 2) (tOp (rIxU K) (tVar 1) (tC (.int 2)))) (tCons (tOp (rIxU K) (tVar 2) (tOp (rIxU K) (tVar 1) (tC (.int 3)))) (tCons (tOp (rIxU K) (tVar 1) (tC (.int 4))) tNil))))) (gName 6))
    (tRet (tIf (tTest (tOp (rIsU) (tVar 6) (tC .non))) (tC .non) (tOp (rIxU K) (tOp (rIxU K) (tOp (rIxU K) (tVar 0) (tC (.str "cells"))) (tOp (rIxU K) (tVar 6) (tC (.int 0)))) (tOp (rIxU K) (tVar 6) (tC (.int 1))))))))))))))
def sp__law_value (K : PySem.W.Frag) (w : World) : Sp := spOf ["_law_state", "_law_row_here", "_law_held", "_law_value_here", "_law_one", "_law_other", "_law_spot_here"] 2 (t__law_value K w)
def t__law_goes (K : PySem.W.Frag) (w : World) (E : XK) : TS :=
    (tSeq (tPar 2 3 (tCons (tOp (rIxU K) (tOp (rIxU K) (tVar 0) (tC (.str "held"))) (tOp (rIxU K) (tVar 1) (tC (.int 1)))) (tCons (tOp (rIxU K) (tOp (rIxU K) (tVar 0) (tC (.str "held"))) (tOp (rIxU K) (tVar 1) (tC (.int 2)))) tNil)))
    (tSeq (tIfS (tTest (tOp (rEqU K) (tOp (rIxU K) (tVar 1) (tC (.int 0))) (tC (.str "less")))) (tSeq (tIfS (tOr (tTest (tOp (rNeU K) (tCall (sp__law_sort K w) [] E0 (tCons (tVar 2) tNil)) (tC (.str "integer")))) (tTest (tOp (rNeU K) (tCall (sp__law_sort K w) [] E0 (tCons (tVar 3) tNil)) (tC (.str "integer"))))) (tRet (tC .non)) tNext)
    (tRet (tOp (rLtU K) (tVar 2) (tVar 3)))) tNext)
    (tSeq (tIfS (tOr (tTest (tOp (rNeU K) (tCall (sp__law_sort K w) [] E0 (tCons (tVar 2) tNil)) (tC (.str "object")))) (tTest (tOp (rNeU K) (tCall (sp__law_sort K w) [] E0 (tCons (tVar 3) tNil)) (tC (.str "kind"))))) (tRet (tC .non)) tNext)
    (tRet (tOp (rInU K) (tOp (rIxU K) (tVar 3) (tC (.int 1))) (tOp (rIxU K) (tOp (rIxU K) (tVar 0) (tC (.str "above"))) (tOp (rIxU K) (tOp (rIxU K) (tVar 0) (tC (.str "kinds"))) (tOp (rIxU K) (tVar 2) (tC (.int 1))))))))))
def sp__law_goes (K : PySem.W.Frag) (w : World) : Sp := spOf ["_law_state", "_law_row_here", "_law_one", "_law_other"] 2 (t__law_goes K w)
def t__law_step (K : PySem.W.Frag) (w : World) (E : XK) : TS :=
    (tSeq (tIfS (tOr (tTruU K (tOp (rIxU K) (tVar 1) (tC (.str "fault")))) (tTest (tOp (rEqU K) (tOp (rIxU K) (tVar 1) (tC (.str "at"))) (tCB (rLenU K) (tCons (tVar 0) tNil))))) (tRet (tC (.bl false))) tNext)
    (tSeq (tAsg (tOp (rIxU K) (tVar 0) (tOp (rIxU K) (tVar 1) (tC (.str "at")))) (gName 2))
    (tSeq (tAsg (tOp (rIxU K) (tVar 1) (tC (.str "held"))) (gName 3))
    (tSeq (tAsg (tOp (rAddU K) (tOp (rIxU K) (tVar 1) (tC (.str "at"))) (tC (.int 1))) (gName 4))
    (tSeq (tIfS (tTest (tOp (rEqU K) (tOp (rIxU K) (tVar 2) (tC (.int 0))) (tC (.str "go")))) (tAsg (tOp (rIxU K) (tVar 2) (tC (.int 1))) (gName 4)) (tIfS (tTest (tOp (rInU K) (tOp (rIxU K) (tVar 2) (tC (.int 0))) (tLst (tCons (tC (.str "is")) (tCons (tC (.str "less")) tNil))))) (tSeq (tAsg (tCall (sp__law_goes K w) [] E0 (tCons (tVar 1) (tCons (tVar 2) tNil))) (gName 5))
    (tAsg (tIf (tTest (tOp (rIsU) (tVar 5) (tC .non))) (tC .non) (tIf (tTruU K (tVar 5)) (tOp (rIxU K) (tVar 2) (tC (.int 3))) (tVar 4))) (gName 4))) (tIfS (tTest (tOp (rEqU K) (tOp (rIxU K) (tVar 2) (tC (.int 0))) (tC (.str "show")))) (tDrop (tBM K "list" (rAppend) (tOp (rIxU K) (tVar 1) (tC (.str "shown"))) (tCons (tOp (rIxU K) (tVar 3) (tOp (rIxU K) (tVar 2) (tC (.int 1)))) tNil))) (tIfS (tTest (tOp (rEqU K) (tOp (rIxU K) (tVar 2) (tC (.int 0))) (tC (.str "write")))) (tSeq (tAsg (tCall (sp__law_spot K w) [] E0 (tCons (tVar 1) (tCons (tOp (rIxU K) (tVar 3) (tOp (rIxU K) (tVar 2) (tC (.int 1)))) (tCons (tOp (rIxU K) (tVar 3) (tOp (rIxU K) (tVar 2) (tC (.int 2)))) (tCons (tOp (rIxU K) (tVar 2) (tC (.int 3))) tNil))))) (gName 6))
    (tIfS (tTest (tOp (rIsU) (tVar 6) (tC .non))) (tAsg (tC .non) (gName 4)) (tAsg (tOp (rIxU K) (tVar 3) (tOp (rIxU K) (tVar 2) (tC (.int 4)))) (gSub (tOp (rIxU K) (tOp (rIxU K) (tVar 1) (tC (.str "cells"))) (tOp (rIxU K) (tVar 6) (tC (.int 0)))) (tOp (rIxU K) (tVar 6) (tC (.int 1))) rSetU)))) (tSeq (tAsg (tCall (sp__law_value K w) [] E0 (tCons (tVar 1) (tCons (tVar 2) tNil))) (gName 7))
    (tIfS (tTest (tOp (rIsU) (tVar 7) (tC .non))) (tAsg (tC .non) (gName 4)) (tAsg (tVar 7) (gSub (tVar 3) (tOp (rIxU K) (tVar 2) (tC (.int 1))) rSetU))))))))
    (tSeq (tIfS (tTest (tOp (rIsU) (tVar 4) (tC .non))) (tAsg (tC (.bl true)) (gSub (tVar 1) (tC (.str "fault")) rSetU)) (tAsg (tVar 4) (gSub (tVar 1) (tC (.str "at")) rSetU)))
    (tRet (tC (.bl true)))))))))
def sp__law_step (K : PySem.W.Frag) (w : World) : Sp := spOf ["_law_program_here", "_law_state", "_law_row_here", "_law_held", "_law_later", "_law_answer", "_law_spot_here", "_law_value_here"] 2 (t__law_step K w)
def t__law_run (K : PySem.W.Frag) (w : World) (E : XK) : TS :=
    (tSeq (tAsg (tCall (sp__law_begun K w) [] E0 tNil) (gName 2))
    (tSeq (tAsg (tC (.int 0)) (gName 3))
    (tSeq (tWhile (tAnd (tTest (tOp (rLtU K) (tVar 3) (tVar 1))) (tAnd (tNot (tTruU K (tOp (rIxU K) (tVar 2) (tC (.str "fault"))))) (tTest (tOp (rLtU K) (tOp (rIxU K) (tVar 2) (tC (.str "at"))) (tCB (rLenU K) (tCons (tVar 0) tNil)))))) (tSeq (tDrop (tCall (sp__law_step K w) [] E0 (tCons (tVar 0) (tCons (tVar 2) tNil))))
    (tAsg (tOp (rAddU K) (tVar 3) (tC (.int 1))) (gName 3))))
    (tRet (tVar 2)))))
def sp__law_run (K : PySem.W.Frag) (w : World) : Sp := spOf ["_law_program_here", "_law_most", "_law_state", "_law_many"] 2 (t__law_run K w)
def t__law_end (K : PySem.W.Frag) (w : World) (E : XK) : TS :=
    (tSeq (tIfS (tTruU K (tOp (rIxU K) (tVar 1) (tC (.str "fault")))) (tRet (tTup (tCons (tC (.str "fault")) (tCons (tOp (rIxU K) (tVar 1) (tC (.str "at"))) tNil)))) tNext)
    (tRet (tIf (tTest (tOp (rEqU K) (tOp (rIxU K) (tVar 1) (tC (.str "at"))) (tCB (rLenU K) (tCons (tVar 0) tNil)))) (tTup (tCons (tC (.str "end")) tNil)) (tTup (tCons (tVar 2) (tCons (tOp (rIxU K) (tVar 1) (tC (.str "at"))) tNil))))))
def sp__law_end (K : PySem.W.Frag) (w : World) : Sp := spOf ["_law_program_here", "_law_state", "_law_word"] 3 (t__law_end K w)
def t__law_from (K : PySem.W.Frag) (w : World) (E : XK) : TS :=
    (tRet (tIf (tTest (tOp (rEqU K) (tCall (sp__law_draw K w) [] E0 (tCons (tVar 0) (tCons (tC (.int 24)) tNil))) (tC (.int 0)))) (tCall (sp__law_draw K w) [] E0 (tCons (tVar 0) (tCons (tC (.int 10)) tNil))) (tCall (sp__law_some K w) [] E0 (tCons (tVar 0) (tCons (tVar 1) tNil)))))
def sp__law_from (K : PySem.W.Frag) (w : World) : Sp := spOf ["_law_pool_here", "_law_some_here"] 2 (t__law_from K w)
def t__law_row (K : PySem.W.Frag) (w : World) (E : XK) : TS :=
    (tSeq (tPar3 2 3 4 (tCons (tLst (tCons (tC (.int 0)) (tCons (tC (.int 1)) (tCons (tC (.int 2)) tNil)))) (tCons (tLst (tCons (tC (.int 3)) (tCons (tC (.int 4)) (tCons (tC (.int 5)) (tCons (tC (.int 6)) tNil))))) (tCons (tLst (tCons (tC (.int 7)) (tCons (tC (.int 8)) (tCons (tC (.int 9)) tNil)))) tNil))))
    (tSeq (tAsg (tCall (sp__law_some K w) [] E0 (tCons (tVar 0) (tCons (tLst (tCons (tC (.str "set")) (tCons (tC (.str "copy")) (tCons (tC (.str "add")) (tCons (tC (.str "load")) (tCons (tC (.str "load")) (tCons (tC (.str "make")) (tCons (tC (.str "make")) (tCons (tC (.str "kind")) (tCons (tC (.str "write")) (tCons (tC (.str "write")) (tCons (tC (.str "read")) tNil)))))))))))) tNil))) (gName 5))
    (tSeq (tAsg (tCall (sp__law_some K w) [] E0 (tCons (tVar 0) (tCons (tLst (tCons (tVar 5) (tCons (tVar 5) (tCons (tVar 5) (tCons (tC (.str "is")) (tCons (tC (.str "less")) (tCons (tC (.str "go")) (tCons (tC (.str "show")) (tCons (tC (.str "show")) tNil))))))))) tNil))) (gName 5))
    (tSeq (tIfS (tTest (tOp (rEqU K) (tVar 5) (tC (.str "set")))) (tRet (tTup (tCons (tC (.str "set")) (tCons (tCall (sp__law_from K w) [] E0 (tCons (tVar 0) (tCons (tVar 2) tNil))) (tCons (tOp (rSubU) (tCall (sp__law_draw K w) [] E0 (tCons (tVar 0) (tCons (tC (.int 9)) tNil))) (tC (.int 3))) tNil))))) tNext)
    (tSeq (tIfS (tTest (tOp (rEqU K) (tVar 5) (tC (.str "copy")))) (tSeq (tAsg (tCall (sp__law_some K w) [] E0 (tCons (tVar 0) (tCons (tLst (tCons (tVar 2) (tCons (tVar 3) (tCons (tVar 4) tNil)))) tNil))) (gName 6))
    (tRet (tTup (tCons (tC (.str "copy")) (tCons (tCall (sp__law_from K w) [] E0 (tCons (tVar 0) (tCons (tVar 6) tNil))) (tCons (tCall (sp__law_from K w) [] E0 (tCons (tVar 0) (tCons (tVar 6) tNil))) tNil)))))) tNext)
    (tSeq (tIfS (tTest (tOp (rEqU K) (tVar 5) (tC (.str "add")))) (tRet (tTup (tCons (tC (.str "add")) (tCons (tCall (sp__law_from K w) [] E0 (tCons (tVar 0) (tCons (tVar 2) tNil))) (tCons (tCall (sp__law_from K w) [] E0 (tCons (tVar 0) (tCons (tVar 2) tNil))) (tCons (tCall (sp__law_from K w) [] E0 (tCons (tVar 0) (tCons (tVar 2) tNil))) tNil)))))) tNext)
    (tSeq (tIfS (tTest (tOp (rEqU K) (tVar 5) (tC (.str "load")))) (tSeq (tAsg (tCB (rTupU K) (tCons (tSl (rSlU K) (tCall (sp__law_mixed K w) [] E0 (tCons (tVar 0) (tCons (tVar 3) tNil))) tNoPart (tPart (tCall (sp__law_some K w) [] E0 (tCons (tVar 0) (tCons (tLst (tCons (tC (.int 0)) (tCons (tC (.int 1)) (tCons (tC (.int 1)) (tCons (tC (.int 2)) (tCons (tC (.int 2)) (tCons (tC (.int 3)) (tCons (tC (.int 4)) tNil)))))))) tNil))))) tNil)) (gName 6))
    (tRet (tTup (tCons (tC (.str "load")) (tCons (tCall (sp__law_from K w) [] E0 (tCons (tVar 0) (tCons (tVar 3) tNil))) (tCons (tVar 6) (tCons (tCall (sp__law_draw K w) [] E0 (tCons (tVar 0) (tCons (tC (.int 4)) tNil))) tNil))))))) tNext)
    (tSeq (tIfS (tTest (tOp (rEqU K) (tVar 5) (tC (.str "make")))) (tRet (tTup (tCons (tC (.str "make")) (tCons (tCall (sp__law_from K w) [] E0 (tCons (tVar 0) (tCons (tVar 4) tNil))) (tCons (tCall (sp__law_from K w) [] E0 (tCons (tVar 0) (tCons (tVar 3) tNil))) tNil))))) tNext)
    (tSeq (tIfS (tTest (tOp (rEqU K) (tVar 5) (tC (.str "kind")))) (tRet (tTup (tCons (tC (.str "kind")) (tCons (tCall (sp__law_from K w) [] E0 (tCons (tVar 0) (tCons (tVar 3) tNil))) (tCons (tCall (sp__law_from K w) [] E0 (tCons (tVar 0) (tCons (tVar 4) tNil))) tNil))))) tNext)
    (tSeq (tIfS (tTest (tOp (rEqU K) (tVar 5) (tC (.str "write")))) (tSeq (tAsg (tCall (sp__law_draw K w) [] E0 (tCons (tVar 0) (tCons (tC (.int 10)) tNil))) (gName 7))
    (tRet (tTup (tCons (tC (.str "write")) (tCons (tCall (sp__law_from K w) [] E0 (tCons (tVar 0) (tCons (tVar 4) tNil))) (tCons (tCall (sp__law_from K w) [] E0 (tCons (tVar 0) (tCons (tVar 3) tNil))) (tCons (tCall (sp__law_draw K w) [] E0 (tCons (tVar 0) (tCons (tC (.int 2)) tNil))) (tCons (tVar 7) tNil)))))))) tNext)
    (tSeq (tIfS (tTest (tOp (rEqU K) (tVar 5) (tC (.str "read")))) (tSeq (tAsg (tCall (sp__law_from K w) [] E0 (tCons (tVar 0) (tCons (tVar 2) tNil))) (gName 7))
    (tRet (tTup (tCons (tC (.str "read")) (tCons (tVar 7) (tCons (tCall (sp__law_from K w) [] E0 (tCons (tVar 0) (tCons (tVar 4) tNil))) (tCons (tCall (sp__law_from K w) [] E0 (tCons (tVar 0) (tCons (tVar 3) tNil))) (tCons (tCall (sp__law_draw K w) [] E0 (tCons (tVar 0) (tCons (tC (.int 2)) tNil))) tNil)))))))) tNext)
    (tSeq (tIfS (tTest (tOp (rEqU K) (tVar 5) (tC (.str "is")))) (tRet (tTup (tCons (tC (.str "is")) (tCons (tCall (sp__law_from K w) [] E0 (tCons (tVar 0) (tCons (tVar 4) tNil))) (tCons (tCall (sp__law_from K w) [] E0 (tCons (tVar 0) (tCons (tVar 3) tNil))) (tCons (tCall (sp__law_draw K w) [] E0 (tCons (tVar 0) (tCons (tOp (rAddU K) (tVar 1) (tC (.int 1))) tNil))) tNil)))))) tNext)
    (tSeq (tIfS (tTest (tOp (rEqU K) (tVar 5) (tC (.str "less")))) (tRet (tTup (tCons (tC (.str "less")) (tCons (tCall (sp__law_from K w) [] E0 (tCons (tVar 0) (tCons (tVar 2) tNil))) (tCons (tCall (sp__law_from K w) [] E0 (tCons (tVar 0) (tCons (tVar 2) tNil))) (tCons (tCall (sp__law_draw K w) [] E0 (tCons (tVar 0) (tCons (tOp (rAddU K) (tVar 1) (tC (.int 1))) tNil))) tNil)))))) tNext)
    (tSeq (tIfS (tTest (tOp (rEqU K) (tVar 5) (tC (.str "go")))) (tRet (tTup (tCons (tC (.str "go")) (tCons (tCall (sp__law_draw K w) [] E0 (tCons (tVar 0) (tCons (tOp (rAddU K) (tVar 1) (tC (.int 1))) tNil))) tNil)))) tNext)
    (tRet (tTup (tCons (tC (.str "show")) (tCons (tCall (sp__law_draw K w) [] E0 (tCons (tVar 0) (tCons (tC (.int 10)) tNil))) tNil))))))))))))))))))
def sp__law_row (K : PySem.W.Frag) (w : World) : Sp := spOf ["_law_pool_here", "_law_many", "_law_numbers", "_law_kinds", "_law_objects", "_law_word", "_law_some_here", "_law_any_one"] 2 (t__law_row K w)
def t__law_tried (K : PySem.W.Frag) (w : World) (E : XK) : TS :=
    (tSeq (tFor (iRng1 (tCons (tC (.int 3)) tNil)) (gName 3) (tSeq (tAsg (tCall (sp__law_row K w) [] E0 (tCons (tVar 0) (tCons (tVar 2) tNil))) (gName 4))
    (tSeq (tIfS (tTest (tOp (rInU K) (tOp (rIxU K) (tVar 4) (tC (.int 0))) (tLst (tCons (tC (.str "go")) (tCons (tC (.str "is")) (tCons (tC (.str "less")) tNil)))))) (tRet (tOp (rAddU K) (tVar 1) (tTup (tCons (tVar 4) tNil)))) tNext)
    (tSeq (tAsg (tCall (sp__law_run K w) [] E0 (tCons (tOp (rAddU K) (tVar 1) (tTup (tCons (tVar 4) tNil))) (tCons (tC (.int 40)) tNil))) (gName 5))
    (tIfS (tOr (tNot (tTruU K (tOp (rIxU K) (tVar 5) (tC (.str "fault"))))) (tTest (tOp (rNeU K) (tOp (rIxU K) (tVar 5) (tC (.str "at"))) (tCB (rLenU K) (tCons (tVar 1) tNil))))) (tRet (tOp (rAddU K) (tVar 1) (tTup (tCons (tVar 4) tNil)))) tNext)))))
    (tRet (tOp (rAddU K) (tVar 1) (tTup (tCons (tVar 4) tNil)))))
def sp__law_tried (K : PySem.W.Frag) (w : World) : Sp := spOf ["_law_pool_here", "_law_rows", "_law_many", "_law_turn", "_law_row_here", "_law_state"] 3 (t__law_tried K w)
def t__law_program (K : PySem.W.Frag) (w : World) (E : XK) : TS :=
    (tSeq (tAsg (tTup (tCons (tTup (tCons (tC (.str "load")) (tCons (tC (.int 3)) (tCons (tTup tNil) (tCons (tOp (rAddU K) (tC (.int 1)) (tCall (sp__law_draw K w) [] E0 (tCons (tVar 0) (tCons (tC (.int 3)) tNil)))) tNil))))) (tCons (tTup (tCons (tC (.str "load")) (tCons (tC (.int 4)) (tCons (tTup (tCons (tC (.int 3)) tNil)) (tCons (tCall (sp__law_draw K w) [] E0 (tCons (tVar 0) (tCons (tC (.int 3)) tNil))) tNil))))) (tCons (tTup (tCons (tC (.str "make")) (tCons (tC (.int 7)) (tCons (tC (.int 4)) tNil)))) tNil)))) (gName 1))
    (tSeq (tAsg (tOp (rAddU K) (tVar 1) (tTup (tCons (tTup (tCons (tC (.str "load")) (tCons (tC (.int 5)) (tCons (tTup tNil) (tCons (tC (.int 2)) tNil))))) (tCons (tTup (tCons (tC (.str "make")) (tCons (tC (.int 8)) (tCons (tC (.int 3)) tNil)))) (tCons (tTup (tCons (tC (.str "copy")) (tCons (tC (.int 9)) (tCons (tC (.int 7)) tNil)))) (tCons (tTup (tCons (tC (.str "load")) (tCons (tC (.int 6)) (tCons (tTup (tCons (tC (.int 4)) (tCons (tC (.int 5)) tNil))) (tCons (tC (.int 1)) tNil))))) (tCons (tTup (tCons (tC (.str "make")) (tCons (tC (.int 9)) (tCons (tC (.int 6)) tNil)))) tNil))))))) (gName 1))
    (tSeq (tAsg (tOp (rAddU K) (tC (.int 8)) (tCall (sp__law_some K w) [] E0 (tCons (tVar 0) (tCons (tLst (tCons (tC (.int 4)) (tCons (tC (.int 8)) (tCons (tC (.int 12)) (tCons (tC (.int 22)) tNil))))) tNil)))) (gName 2))
    (tSeq (tIfS (tTest (tOp (rEqU K) (tCall (sp__law_draw K w) [] E0 (tCons (tVar 0) (tCons (tC (.int 6)) tNil))) (tC (.int 0)))) (tRet (tCB (rTupU K) (tCons (tLc (iRng1 (tCons (tVar 2) tNil)) (gName 3) tYes (tCall (sp__law_row K w) [] E0 (tCons (tVar 0) (tCons (tVar 2) tNil))) [3]) tNil))) tNext)
    (tSeq (tFor (iRng1 (tCons (tOp (rSubU) (tVar 2) (tC (.int 8))) tNil)) (gName 3) (tAsg (tCall (sp__law_tried K w) [] E0 (tCons (tVar 0) (tCons (tVar 1) (tCons (tVar 2) tNil)))) (gName 1)))
    (tRet (tVar 1)))))))
def sp__law_program (K : PySem.W.Frag) (w : World) : Sp := spOf ["_law_pool_here", "_law_rows", "_law_many", "_law_k"] 1 (t__law_program K w)
def t_law (K : PySem.W.Frag) (w : World) (E : XK) : TS :=
    (tSeq (tAsg (tCall (sp__law_pool K w) [] E0 (tCons (tVar 0) tNil)) (gName 1))
    (tSeq (tFor (iRng1 (tCons (tC (.int 3)) tNil)) (gName 2) (tSeq (tAsg (tCall (sp__law_program K w) [] E0 (tCons (tVar 1) tNil)) (gName 3))
    (tSeq (tIfS (tTest (tOp (rIsNotU) (tCall (sp_is_program K w) [] E0 (tCons (tVar 3) tNil)) (tC (.bl true)))) (tRet (tC (.bl false))) tNext)
    (tFor (iSeqU K (tLst (tCons (tC (.int 0)) (tCons (tOp (rAddU K) (tC (.int 1)) (tCall (sp__law_draw K w) [] E0 (tCons (tVar 1) (tCons (tC (.int 40)) tNil)))) (tCons (tC (.int 300)) tNil))))) (gName 4) (tSeq (tAsg (tCall (sp__law_run K w) [] E0 (tCons (tVar 3) (tCons (tVar 4) tNil))) (gName 5))
    (tSeq (tAsg (tCall (sp_run K w) [] E0 (tCons (tVar 3) (tCons (tVar 4) tNil))) (gTup K 2 (gCons (gName 6) (gCons (gName 7) gNil))))
    (tSeq (tIfS (tOr (tNot (tTruU K (tCB (rIsinU K) (tCons (tVar 6) (tCons (tC (.ty "list")) tNil))))) (tTest (tOp (rNeU K) (tVar 6) (tOp (rIxU K) (tVar 5) (tC (.str "shown")))))) (tRet (tC (.bl false))) tNext)
    (tSeq (tIfS (tTest (tOp (rNeU K) (tVar 7) (tCall (sp__law_end K w) [] E0 (tCons (tVar 3) (tCons (tVar 5) (tCons (tC (.str "most")) tNil)))))) (tRet (tC (.bl false))) tNext)
    (tSeq (tIfS (tOr (tNot (tTruU K (tCB (rIsinU K) (tCons (tVar 7) (tCons (tC (.ty "tuple")) tNil))))) (tNot (tTruU K (tCB (rAll K) (tCons (tLc (iSeqU K (tVar 6)) (gName 8) tYes (tCB (rIsiT K) (tCons (tVar 8) (tCons (tTup (tCons (tC (.ty "int")) (tCons (tC (.ty "tuple")) tNil))) tNil))) [8]) tNil))))) (tRet (tC (.bl false))) tNext)
    (tSeq (tIfS (tTruU K (tCB (rAny K) (tCons (tLc (iSeqU K (tVar 6)) (gName 8) tYes (tCB (rIsinU K) (tCons (tVar 8) (tCons (tC (.ty "bool")) tNil))) [8]) tNil))) (tRet (tC (.bl false))) tNext)
    (tSeq (tDrop (tBM K "list" (rAppend) (tVar 6) (tCons (tC .non) tNil)))
    (tIfS (tTest (tOp (rNeU K) (tOp (rIxU K) (tCall (sp_run K w) [] E0 (tCons (tVar 3) (tCons (tVar 4) tNil))) (tC (.int 0))) (tOp (rIxU K) (tVar 5) (tC (.str "shown"))))) (tRet (tC (.bl false))) tNext))))))))))))
    (tRet (tAndV (tOp (rEqU K) (tCall (sp_run K w) [] E0 (tCons (tTup tNil) (tCons (tC (.int 5)) tNil))) (tTup (tCons (tLst tNil) (tCons (tTup (tCons (tC (.str "end")) tNil)) tNil)))) (tOp (rEqU K) (tCall (sp_run K w) [] E0 (tCons (tTup (tCons (tTup (tCons (tC (.str "go")) (tCons (tC (.int 0)) tNil))) tNil)) (tCons (tC (.int 7)) tNil))) (tTup (tCons (tLst tNil) (tCons (tTup (tCons (tC (.str "most")) (tCons (tC (.int 0)) tNil))) tNil))))))))
def sp_law (K : PySem.W.Frag) (w : World) : Sp := spOf ["_law_script", "_law_pool_here", "_law_again", "_law_program_here", "_law_most", "_law_state", "_law_shown", "_law_end_here", "_law_one"] 1 (t_law K w)
end G

set_option maxHeartbeats 4000000
namespace G
open PySem PySem.Spec PyProof.Rows L2 U
section
variable {P : Program} {w : World} {K : PySem.W.Frag} {mg : Str → Option Value} {base : Heap}
theorem sc_is_integer : FnScope ["thing"] ["thing"] (defScope s_is_integer) := ⟨rfl, rfl, rfl, by decide +kernel, rfl, by decide +kernel, by decide +kernel⟩
theorem ok_is_integer (C : Cxt P w K mg base) : FnEx P w K mg base CX0 1 (He.fAd K ("is_integer", none)) ["thing"] (sp_is_integer K w) :=
  fnEx (C.c.d.def_ 0 (d := d_is_integer) rfl) rfl rfl sc_is_integer rfl (fun _ _ _ _ _ _ us hl => match us, hl with | [_], _ => rfl) fun cdv A outer s H E hr => PSs.nox (
    (pss_one (ps_ret (pe_and (pe_callB isinU (by rfl) (n_isinstance C) (by decide +kernel) (pa_cons (pv 0) (pa_cons (pe_bltn (by rfl) (n_int C) (by decide +kernel) rfl) pa_nil))) (pe_one (pe_not (pe_callB isinU (by rfl) (n_isinstance C) (by decide +kernel) (pa_cons (pv 0) (pa_cons (pe_bltn (by rfl) (n_bool C) (by decide +kernel) rfl) pa_nil)))))))))
theorem sc_is_within : FnScope ["thing", "least", "most"] ["thing", "least", "most"] (defScope s_is_within) := ⟨rfl, rfl, rfl, by decide +kernel, rfl, by decide +kernel, by decide +kernel⟩
theorem ok_is_within (C : Cxt P w K mg base) : FnEx P w K mg base CX0 2 (He.fAd K ("is_within", none)) ["thing", "least", "most"] (sp_is_within K w) :=
  fnEx (C.c.d.def_ 1 (d := d_is_within) rfl) rfl rfl sc_is_within rfl (fun _ _ _ _ _ _ us hl => match us, hl with | [_, _, _], _ => rfl) fun cdv A outer s H E hr => PSs.nox (
    (pss_one (ps_ret (pe_and (pe_callE (ok_is_integer C) (hr.mono (by decide)) (g_is_integer C) pass0 (pa_cons (pv 0) pa_nil)) (pe_one (pe_chain leU leU (pv 1) (pv 0) (pv 2)))))))
theorem sc_is_pair : FnScope ["thing"] ["thing"] (defScope s_is_pair) := ⟨rfl, rfl, rfl, by decide +kernel, rfl, by decide +kernel, by decide +kernel⟩
theorem ok_is_pair (C : Cxt P w K mg base) : FnEx P w K mg base CX0 1 (He.fAd K ("is_pair", none)) ["thing"] (sp_is_pair K w) :=
  fnEx (C.c.d.def_ 2 (d := d_is_pair) rfl) rfl rfl sc_is_pair rfl (fun _ _ _ _ _ _ us hl => match us, hl with | [_], _ => rfl) fun cdv A outer s H E hr => PSs.nox (
    (pss_one (ps_ret (pe_and (pe_callB isinU (by rfl) (n_isinstance C) (by decide +kernel) (pa_cons (pv 0) (pa_cons (pe_bltn (by rfl) (n_tuple C) (by decide +kernel) rfl) pa_nil))) (pe_one (pe_cmpR (eqU hr.units) (pe_callB lenU (by rfl) (n_len C) (by decide +kernel) (pa_cons (pv 0) pa_nil)) pe_int (nomark _)))))))
theorem sc_check_number : FnScope ["thing", "least", "most"] ["thing", "least", "most"] (defScope s_check_number) := ⟨rfl, rfl, rfl, by decide +kernel, rfl, by decide +kernel, by decide +kernel⟩
theorem ok_check_number (C : Cxt P w K mg base) : FnEx P w K mg base CX0 3 (He.fAd K ("check_number", none)) ["thing", "least", "most"] (sp_check_number K w) :=
  fnEx (C.c.d.def_ 3 (d := d_check_number) rfl) rfl rfl sc_check_number rfl (fun _ _ _ _ _ _ us hl => match us, hl with | [_, _, _], _ => rfl) fun cdv A outer s H E hr => PSs.nox (
    (pss_one (ps_if (pt_not (pt_truth (pe_callE (ok_is_within C) (hr.mono (by decide)) (g_is_within C) pass0 (pa_cons (pv 0) (pa_cons (pv 1) (pa_cons (pv 2) pa_nil)))) (fun _ => rfl))) (pss_one ps_never) pss_nil)))
theorem sc_is_register : FnScope ["thing"] ["thing"] (defScope s_is_register) := ⟨rfl, rfl, rfl, by decide +kernel, rfl, by decide +kernel, by decide +kernel⟩
theorem ok_is_register (C : Cxt P w K mg base) : FnEx P w K mg base CX0 3 (He.fAd K ("is_register", none)) ["thing"] (sp_is_register K w) :=
  fnEx (C.c.d.def_ 4 (d := d_is_register) rfl) rfl rfl sc_is_register rfl (fun _ _ _ _ _ _ us hl => match us, hl with | [_], _ => rfl) fun cdv A outer s H E hr => PSs.nox (
    (pss_one (ps_ret (pe_callE (ok_is_within C) (hr.mono (by decide)) (g_is_within C) pass0 (pa_cons (pv 0) (pa_cons pe_int (pa_cons (pe_op subU (pe_globI rfl (c_REGISTERS C)) pe_int) pa_nil)))))))
theorem sc_are_registers : FnScope ["thing", "item"] ["thing"] (defScope s_are_registers) := ⟨rfl, rfl, rfl, by decide +kernel, rfl, by decide +kernel, by decide +kernel⟩
theorem ok_are_registers (C : Cxt P w K mg base) : FnEx P w K mg base CX0 4 (He.fAd K ("are_registers", none)) ["thing"] (sp_are_registers K w) :=
  fnEx (C.c.d.def_ 5 (d := d_are_registers) rfl) rfl rfl sc_are_registers rfl (fun _ _ _ _ _ _ us hl => match us, hl with | [_], _ => rfl) fun cdv A outer s H E hr => PSs.nox (
    (pss_one (ps_ret (pe_and (pe_callB isinU (by rfl) (n_isinstance C) (by decide +kernel) (pa_cons (pv 0) (pa_cons (pe_bltn (by rfl) (n_tuple C) (by decide +kernel) rfl) pa_nil))) (pe_and (pe_cmpR leU (pe_callB lenU (by rfl) (n_len C) (by decide +kernel) (pa_cons (pv 0) pa_nil)) (pe_globI rfl (c_MOST_PARENTS C)) (nomark _)) (pe_one (pe_callB (cr_all rfl) (by rfl) (n_all C) (by decide +kernel) (pa_cons (pe_lc (own := [("item", 1)]) rfl sc_are_registers.nd (pi_seqU (pv 0)) (blkOk_by (own := [("item", 1)]) (N := ["thing", "item"]) (sc := defScope s_are_registers) (by decide +kernel)) (fun _ _ _ _ _ => (pg_name (i := 1) sc_are_registers.nd rfl (Or.inl rfl))) (fun _ _ _ _ _ => pts_nil) (fun _ _ _ _ _ => (pe_callE (ok_is_register C) (hr.mono (by decide)) (g_is_register C) pass0 (pa_cons (pv 1) pa_nil)))) pa_nil))))))))
theorem sc_is_part : FnScope ["sort", "thing", "many"] ["sort", "thing", "many"] (defScope s_is_part) := ⟨rfl, rfl, rfl, by decide +kernel, rfl, by decide +kernel, by decide +kernel⟩
theorem ok_is_part (C : Cxt P w K mg base) : FnEx P w K mg base CX0 5 (He.fAd K ("is_part", none)) ["sort", "thing", "many"] (sp_is_part K w) :=
  fnEx (C.c.d.def_ 6 (d := d_is_part) rfl) rfl rfl sc_is_part rfl (fun _ _ _ _ _ _ us hl => match us, hl with | [_, _, _], _ => rfl) fun cdv A outer s H E hr => PSs.nox (
    (pss_cons (ps_if (pt_cmpR (eqU hr.units) (pv 0) pe_str (nomark _)) (pss_one (ps_ret (pe_callE (ok_is_register C) (hr.mono (by decide)) (g_is_register C) pass0 (pa_cons (pv 1) pa_nil)))) pss_nil)
    (pss_cons (ps_if (pt_cmpR (eqU hr.units) (pv 0) pe_str (nomark _)) (pss_one (ps_ret (pe_callE (ok_is_within C) (hr.mono (by decide)) (g_is_within C) pass0 (pa_cons (pv 1) (pa_cons (pe_un un_neg (pe_globI rfl (c_MOST_SET C))) (pa_cons (pe_globI rfl (c_MOST_SET C)) pa_nil)))))) pss_nil)
    (pss_cons (ps_if (pt_cmpR (eqU hr.units) (pv 0) pe_str (nomark _)) (pss_one (ps_ret (pe_callE (ok_are_registers C) (hr.mono (by decide)) (g_are_registers C) pass0 (pa_cons (pv 1) pa_nil)))) pss_nil)
    (pss_cons (ps_if (pt_cmpR (eqU hr.units) (pv 0) pe_str (nomark _)) (pss_one (ps_ret (pe_callE (ok_is_within C) (hr.mono (by decide)) (g_is_within C) pass0 (pa_cons (pv 1) (pa_cons pe_int (pa_cons (pv 2) pa_nil)))))) pss_nil)
    (pss_one (ps_ret (pe_callE (ok_is_within C) (hr.mono (by decide)) (g_is_within C) pass0 (pa_cons (pv 1) (pa_cons pe_int (pa_cons (pe_ifExp (pt_cmpR (eqU hr.units) (pv 0) pe_str (nomark _)) (pe_globI rfl (c_MOST_FIELDS C)) (pe_op subU (pe_globI rfl (c_MOST_FIELDS C)) pe_int)) pa_nil)))))))))))
theorem sc_is_row : FnScope ["thing", "many", "form", "sort", "item"] ["thing", "many"] (defScope s_is_row) := ⟨rfl, rfl, rfl, by decide +kernel, rfl, by decide +kernel, by decide +kernel⟩
theorem ok_is_row (C : Cxt P w K mg base) : FnEx P w K mg base CX0 6 (He.fAd K ("is_row", none)) ["thing", "many"] (sp_is_row K w) :=
  fnEx (C.c.d.def_ 7 (d := d_is_row) rfl) rfl rfl sc_is_row rfl (fun _ _ _ _ _ _ us hl => match us, hl with | [_, _], _ => rfl) fun cdv A outer s H E hr => PSs.nox (
    (pss_cons (ps_if (PW.pt (pw_or (pt_not (pt_truth (pe_callB isinU (by rfl) (n_isinstance C) (by decide +kernel) (pa_cons (pv 0) (pa_cons (pe_bltn (by rfl) (n_tuple C) (by decide +kernel) rfl) pa_nil))) (fun _ => rfl))) (pw_or (pt_cmpR (eqU hr.units) (pe_callB lenU (by rfl) (n_len C) (by decide +kernel) (pa_cons (pv 0) pa_nil)) pe_int (nomark _)) (pw_or1 (pt_not (pt_truth (pe_callB isinU (by rfl) (n_isinstance C) (by decide +kernel) (pa_cons (pe_ix (ixU (hu1 hr)) (pv 0) pe_int (fun _ _ => rfl)) (pa_cons (pe_bltn (by rfl) (n_str C) (by decide +kernel) rfl) pa_nil))) (fun _ => rfl))))))) (pss_one (ps_ret pe_bl)) pss_nil)
    (pss_cons (ps_set (i := 2) sc_is_row.nd rfl (Or.inl rfl) (pe_kget (tab_FORMS C) rfl (g_FORMS C) (pe_ix (ixU (hu1 hr)) (pv 0) pe_int (fun _ _ => rfl))))
    (pss_cons (ps_if (PW.pt (pw_or (pt_cmpR isU (pv 2) pe_non (nomark _)) (pw_or1 (pt_cmpR (neU hr.units) (pe_callB lenU (by rfl) (n_len C) (by decide +kernel) (pa_cons (pv 0) pa_nil)) (pe_op addU (pe_callB lenU (by rfl) (n_len C) (by decide +kernel) (pa_cons (pv 2) pa_nil)) pe_int) (nomark _))))) (pss_one (ps_ret pe_bl)) pss_nil)
    (pss_one (ps_ret (pe_callB (cr_all rfl) (by rfl) (n_all C) (by decide +kernel) (pa_cons (pe_lc (own := [("sort", 3), ("item", 4)]) rfl sc_is_row.nd (pi_zipU rfl (n_zip C) (pa_cons (pv 2) (pa_cons (pe_slice slU (pv 0) (po_some pe_int) po_none) pa_nil))) (blkOk_by (own := [("sort", 3), ("item", 4)]) (N := ["thing", "many", "form", "sort", "item"]) (sc := defScope s_is_row) (by decide +kernel)) (fun _ _ _ _ _ => (pg_tup rfl (pgs_cons (pg_name (i := 3) sc_is_row.nd rfl (Or.inl rfl)) (pgs_cons (pg_name (i := 4) sc_is_row.nd rfl (Or.inl rfl)) pgs_nil)))) (fun _ _ _ _ _ => pts_nil) (fun _ _ _ _ _ => (pe_callE (ok_is_part C) (hr.mono (by decide)) (g_is_part C) pass0 (pa_cons (pv 3) (pa_cons (pv 4) (pa_cons (pv 1) pa_nil)))))) pa_nil))))))))
theorem sc_check_rows : FnScope ["thing", "number", "item"] ["thing"] (defScope s_check_rows) := ⟨rfl, rfl, rfl, by decide +kernel, rfl, by decide +kernel, by decide +kernel⟩
theorem ok_check_rows (C : Cxt P w K mg base) : FnEx P w K mg base CX0 7 (He.fAd K ("check_rows", none)) ["thing"] (sp_check_rows K w) :=
  fnEx (C.c.d.def_ 8 (d := d_check_rows) rfl) rfl rfl sc_check_rows rfl (fun _ _ _ _ _ _ us hl => match us, hl with | [_], _ => rfl) fun cdv A outer s H E hr => PSs.nox (
    (pss_cons (ps_if (PW.pt (pw_or (pt_not (pt_truth (pe_callB isinU (by rfl) (n_isinstance C) (by decide +kernel) (pa_cons (pv 0) (pa_cons (pe_bltn (by rfl) (n_tuple C) (by decide +kernel) rfl) pa_nil))) (fun _ => rfl))) (pw_or1 (pt_cmpR gtU (pe_callB lenU (by rfl) (n_len C) (by decide +kernel) (pa_cons (pv 0) pa_nil)) (pe_globI rfl (c_MOST_ROWS C)) (nomark _))))) (pss_one (ps_ret (pe_un un_neg pe_int))) pss_nil)
    (pss_cons (ps_for PassesOwn.never rfl (pi_enumU rfl (n_enumerate C) (pa_cons (pv 0) pa_nil)) (pg_tup rfl (pgs_cons (pg_name (i := 1) sc_check_rows.nd rfl (Or.inl rfl)) (pgs_cons (pg_name (i := 2) sc_check_rows.nd rfl (Or.inl rfl)) pgs_nil))) (pss_one (ps_if (pt_not (pt_truth (pe_callE (ok_is_row C) (hr.mono (by decide)) (g_is_row C) pass0 (pa_cons (pv 2) (pa_cons (pe_callB lenU (by rfl) (n_len C) (by decide +kernel) (pa_cons (pv 0) pa_nil)) pa_nil))) (fun _ => rfl))) (pss_one (ps_ret (pv 1))) pss_nil)))
    (pss_one (ps_ret pe_non)))))
theorem sc_is_program : FnScope ["thing"] ["thing"] (defScope s_is_program) := ⟨rfl, rfl, rfl, by decide +kernel, rfl, by decide +kernel, by decide +kernel⟩
theorem ok_is_program (C : Cxt P w K mg base) : FnEx P w K mg base CX0 8 (He.fAd K ("is_program", none)) ["thing"] (sp_is_program K w) :=
  fnEx (C.c.d.def_ 9 (d := d_is_program) rfl) rfl rfl sc_is_program rfl (fun _ _ _ _ _ _ us hl => match us, hl with | [_], _ => rfl) fun cdv A outer s H E hr => PSs.nox (
    (pss_one (ps_ret (pe_cmpR isU (pe_callE (ok_check_rows C) (hr.mono (by decide)) (g_check_rows C) pass0 (pa_cons (pv 0) pa_nil)) pe_non (nomark _)))))
theorem sc_check_program : FnScope ["thing"] ["thing"] (defScope s_check_program) := ⟨rfl, rfl, rfl, by decide +kernel, rfl, by decide +kernel, by decide +kernel⟩
theorem ok_check_program (C : Cxt P w K mg base) : FnEx P w K mg base CX0 9 (He.fAd K ("check_program", none)) ["thing"] (sp_check_program K w) :=
  fnEx (C.c.d.def_ 10 (d := d_check_program) rfl) rfl rfl sc_check_program rfl (fun _ _ _ _ _ _ us hl => match us, hl with | [_], _ => rfl) fun cdv A outer s H E hr => PSs.nox (
    (pss_one (ps_if (pt_not (pt_truth (pe_callE (ok_is_program C) (hr.mono (by decide)) (g_is_program C) pass0 (pa_cons (pv 0) pa_nil)) (fun _ => rfl))) (pss_one ps_never) pss_nil)))
theorem sc_number_in : FnScope ["value", "word"] ["value", "word"] (defScope s_number_in) := ⟨rfl, rfl, rfl, by decide +kernel, rfl, by decide +kernel, by decide +kernel⟩
theorem ok_number_in (C : Cxt P w K mg base) : FnEx P w K mg base CX0 2 (He.fAd K ("number_in", none)) ["value", "word"] (sp_number_in K w) :=
  fnEx (C.c.d.def_ 11 (d := d_number_in) rfl) rfl rfl sc_number_in rfl (fun _ _ _ _ _ _ us hl => match us, hl with | [_, _], _ => rfl) fun cdv A outer s H E hr => PSs.nox (
    (pss_one (ps_ret (pe_ifExp (PW.pt (pw_and (pt_truth (pe_callE (ok_is_pair C) (hr.mono (by decide)) (g_is_pair C) pass0 (pa_cons (pv 0) pa_nil)) (fun _ => rfl)) (pw_and1 (pt_cmpR (eqU hr.units) (pe_ix (ixU (hu1 hr)) (pv 0) pe_int (fun _ _ => rfl)) (pv 1) (nomark _))))) (pe_ix (ixU (hu1 hr)) (pv 0) pe_int (fun _ _ => rfl)) pe_non))))
theorem sc_PlainWorld___init__ : FnScope ["self"] ["self"] (defScope s_PlainWorld___init__) := ⟨rfl, rfl, rfl, by decide +kernel, rfl, by decide +kernel, by decide +kernel⟩
theorem ok_PlainWorld___init__ (C : Cxt P w K mg base) : FnEx P w K mg base CX0 1 (He.fAd K ("PlainWorld", some "__init__")) ["self"] (sp_PlainWorld___init__ K w) :=
  fnEx (C.c.d.def_ 12 (d := d_PlainWorld___init__) rfl) rfl rfl sc_PlainWorld___init__ rfl (fun _ _ _ _ _ _ us hl => match us, hl with | [_], _ => rfl) fun cdv A outer s H E hr => PSs.nox (
    (pss_cons (ps_fld (pv 0) (pe_lst pa_nil) rfl)
    (pss_cons (ps_fld (pv 0) (pe_lst pa_nil) rfl)
    (pss_cons (ps_fld (pv 0) (pe_lst pa_nil) rfl)
    (pss_one (ps_fld (pv 0) (pe_lst pa_nil) rfl))))))
theorem sc_PlainWorld_ones : FnScope ["self", "kind", "found", "waiting", "parent"] ["self", "kind"] (defScope s_PlainWorld_ones) := ⟨rfl, rfl, rfl, by decide +kernel, rfl, by decide +kernel, by decide +kernel⟩
theorem ok_PlainWorld_ones (C : Cxt P w K mg base) : FnEx P w K mg base CX0 1 (He.fAd K ("PlainWorld", some "ones")) ["self", "kind"] (sp_PlainWorld_ones K w) :=
  fnEx (C.c.d.def_ 13 (d := d_PlainWorld_ones) rfl) rfl rfl sc_PlainWorld_ones rfl (fun _ _ _ _ _ _ us hl => match us, hl with | [_, _], _ => rfl) fun cdv A outer s H E hr => PSs.nox (
    (pss_cons (ps_set (i := 2) sc_PlainWorld_ones.nd rfl (Or.inl rfl) (pe_disp (pps_cons (pv 1) pe_bl pps_nil) (by rfl) (by rfl) (fun z => by cases z) (by decide)))
    (pss_cons (ps_set (i := 3) sc_PlainWorld_ones.nd rfl (Or.inl rfl) (pe_lst (pa_cons (pv 1) pa_nil)))
    (pss_cons (ps_while PassesOwn.never (pt_cmpR gtU (pe_callB lenU (by rfl) (n_len C) (by decide +kernel) (pa_cons (pv 3) pa_nil)) pe_int (nomark _)) (pss_one (ps_for PassesOwn.never rfl (pi_seqU (pe_ix (ixU (hu1 hr)) (pe_fld (pv 0) rfl) (pe_bm0 PySem.F.plainAttrs_list PySem.F.slot_list_pop PySem.F.type_list_pop mt_pop (pv 3)) (fun _ _ => rfl))) (pg_name (i := 4) sc_PlainWorld_ones.nd rfl (Or.inl rfl)) (pss_one (ps_if (pt_cmpR (notInU (hu65 hr)) (pv 4) (pv 2) (by with_unfolding_all rfl)) (pss_cons (ps_asg pe_bl (pg_sub (pv 2) (pv 4) (setU (hu1 hr))))
    (pss_one (ps_expr (pe_bm PySem.F.plainAttrs_list PySem.F.slot_list_append PySem.F.type_list_append mt_append (pv 3) (pa_cons (pv 4) pa_nil))))) pss_nil)))))
    (pss_one (ps_ret (pe_callTy (listU rfl) (by rfl) (n_list C) (by decide +kernel) (pa_cons (pv 2) pa_nil))))))))
theorem sc_PlainWorld_new_kind : FnScope ["self", "parents", "many"] ["self", "parents", "many"] (defScope s_PlainWorld_new_kind) := ⟨rfl, rfl, rfl, by decide +kernel, rfl, by decide +kernel, by decide +kernel⟩
theorem ok_PlainWorld_new_kind (C : Cxt P w K mg base) : FnEx P w K mg base CX0 1 (He.fAd K ("PlainWorld", some "new_kind")) ["self", "parents", "many"] (sp_PlainWorld_new_kind K w) :=
  fnEx (C.c.d.def_ 14 (d := d_PlainWorld_new_kind) rfl) rfl rfl sc_PlainWorld_new_kind rfl (fun _ _ _ _ _ _ us hl => match us, hl with | [_, _, _], _ => rfl) fun cdv A outer s H E hr => PSs.nox (
    (pss_cons (ps_if (pt_cmpR (eqU hr.units) (pe_callB lenU (by rfl) (n_len C) (by decide +kernel) (pa_cons (pe_fld (pv 0) rfl) pa_nil)) (pe_globI rfl (c_MOST_KINDS C)) (nomark _)) (pss_one (ps_ret pe_non)) pss_nil)
    (pss_cons (ps_expr (pe_bm PySem.F.plainAttrs_list PySem.F.slot_list_append PySem.F.type_list_append mt_append (pe_fld (pv 0) rfl) (pa_cons (pv 1) pa_nil)))
    (pss_cons (ps_expr (pe_bm PySem.F.plainAttrs_list PySem.F.slot_list_append PySem.F.type_list_append mt_append (pe_fld (pv 0) rfl) (pa_cons (pv 2) pa_nil)))
    (pss_one (ps_ret (pe_op subU (pe_callB lenU (by rfl) (n_len C) (by decide +kernel) (pa_cons (pe_fld (pv 0) rfl) pa_nil)) pe_int)))))))
theorem sc_PlainWorld_new_object : FnScope ["self", "kind", "one", "field"] ["self", "kind"] (defScope s_PlainWorld_new_object) := ⟨rfl, rfl, rfl, by decide +kernel, rfl, by decide +kernel, by decide +kernel⟩
theorem ok_PlainWorld_new_object (C : Cxt P w K mg base) : FnEx P w K mg base CX0 2 (He.fAd K ("PlainWorld", some "new_object")) ["self", "kind"] (sp_PlainWorld_new_object K w) :=
  fnEx (C.c.d.def_ 15 (d := d_PlainWorld_new_object) rfl) rfl rfl sc_PlainWorld_new_object rfl (fun _ _ _ _ _ _ us hl => match us, hl with | [_, _], _ => rfl) fun cdv A outer s H E hr => PSs.nox (
    (pss_cons (ps_if (pt_cmpR (eqU hr.units) (pe_callB lenU (by rfl) (n_len C) (by decide +kernel) (pa_cons (pe_fld (pv 0) rfl) pa_nil)) (pe_globI rfl (c_MOST_OBJECTS C)) (nomark _)) (pss_one (ps_ret pe_non)) pss_nil)
    (pss_cons (ps_expr (pe_bm PySem.F.plainAttrs_list PySem.F.slot_list_append PySem.F.type_list_append mt_append (pe_fld (pv 0) rfl) (pa_cons (pv 1) pa_nil)))
    (pss_cons (ps_expr (pe_bm PySem.F.plainAttrs_list PySem.F.slot_list_append PySem.F.type_list_append mt_append (pe_fld (pv 0) rfl) (pa_cons (PEor pe_dnewK pe_dnewT) pa_nil)))
    (pss_cons (ps_for PassesOwn.never rfl (pi_seqU (pe_methE (pv 0) (cl_PlainWorld C) (me_PlainWorld_ones C) (ok_PlainWorld_ones C) (hr.mono (by decide)) pass0 (pa_cons (pv 1) pa_nil))) (pg_name (i := 2) sc_PlainWorld_new_object.nd rfl (Or.inr rfl)) (pss_one (ps_expr (pe_bm PySem.F.plainAttrs_dict PySem.F.slot_dict_update PySem.F.type_dict_update (mt_updT (hu1 hr)) (pe_ix (ixU (hu1 hr)) (pe_fld (pv 0) rfl) (pe_un un_neg pe_int) (fun _ _ => rfl)) (pa_cons (pe_dcU (own := [("field", 3)]) (hu1 hr) rfl sc_PlainWorld_new_object.nd (pi_range1 rfl (n_range C) (pa_cons (pe_ix (ixU (hu1 hr)) (pe_fld (pv 0) rfl) (pv 2) (fun _ _ => rfl)) pa_nil)) (blkOk_by (own := [("field", 3)]) (N := ["self", "kind", "one", "field"]) (sc := defScope s_PlainWorld_new_object) (by decide +kernel)) (fun _ _ _ _ _ => (pg_name (i := 3) sc_PlainWorld_new_object.nd rfl (Or.inl rfl))) (fun _ _ _ _ _ => pts_nil) (fun _ _ _ _ _ => (pe_tup (pa_cons (pv 2) (pa_cons (pv 3) pa_nil)))) (fun _ _ _ _ _ => pe_int)) pa_nil)))))
    (pss_one (ps_ret (pe_op subU (pe_callB lenU (by rfl) (n_len C) (by decide +kernel) (pa_cons (pe_fld (pv 0) rfl) pa_nil)) pe_int))))))))
theorem sc_PlainWorld_kind_of : FnScope ["self", "number"] ["self", "number"] (defScope s_PlainWorld_kind_of) := ⟨rfl, rfl, rfl, by decide +kernel, rfl, by decide +kernel, by decide +kernel⟩
theorem ok_PlainWorld_kind_of (C : Cxt P w K mg base) : FnEx P w K mg base CX0 1 (He.fAd K ("PlainWorld", some "kind_of")) ["self", "number"] (sp_PlainWorld_kind_of K w) :=
  fnEx (C.c.d.def_ 16 (d := d_PlainWorld_kind_of) rfl) rfl rfl sc_PlainWorld_kind_of rfl (fun _ _ _ _ _ _ us hl => match us, hl with | [_, _], _ => rfl) fun cdv A outer s H E hr => PSs.nox (
    (pss_one (ps_ret (pe_ix (ixU (hu1 hr)) (pe_fld (pv 0) rfl) (pv 1) (fun _ _ => rfl)))))
theorem sc_PlainWorld_is_kind : FnScope ["self", "number", "kind"] ["self", "number", "kind"] (defScope s_PlainWorld_is_kind) := ⟨rfl, rfl, rfl, by decide +kernel, rfl, by decide +kernel, by decide +kernel⟩
theorem ok_PlainWorld_is_kind (C : Cxt P w K mg base) : FnEx P w K mg base CX0 2 (He.fAd K ("PlainWorld", some "is_kind")) ["self", "number", "kind"] (sp_PlainWorld_is_kind K w) :=
  fnEx (C.c.d.def_ 17 (d := d_PlainWorld_is_kind) rfl) rfl rfl sc_PlainWorld_is_kind rfl (fun _ _ _ _ _ _ us hl => match us, hl with | [_, _, _], _ => rfl) fun cdv A outer s H E hr => PSs.nox (
    (pss_one (ps_ret (pe_cmpR (inU (hu65 hr)) (pv 2) (pe_methE (pv 0) (cl_PlainWorld C) (me_PlainWorld_ones C) (ok_PlainWorld_ones C) (hr.mono (by decide)) pass0 (pa_cons (pe_ix (ixU (hu1 hr)) (pe_fld (pv 0) rfl) (pv 1) (fun _ _ => rfl)) pa_nil)) (by with_unfolding_all rfl)))))
theorem sc_PlainWorld_has_cell : FnScope ["self", "number", "kind", "field"] ["self", "number", "kind", "field"] (defScope s_PlainWorld_has_cell) := ⟨rfl, rfl, rfl, by decide +kernel, rfl, by decide +kernel, by decide +kernel⟩
theorem ok_PlainWorld_has_cell (C : Cxt P w K mg base) : FnEx P w K mg base CX0 1 (He.fAd K ("PlainWorld", some "has_cell")) ["self", "number", "kind", "field"] (sp_PlainWorld_has_cell K w) :=
  fnEx (C.c.d.def_ 18 (d := d_PlainWorld_has_cell) rfl) rfl rfl sc_PlainWorld_has_cell rfl (fun _ _ _ _ _ _ us hl => match us, hl with | [_, _, _, _], _ => rfl) fun cdv A outer s H E hr => PSs.nox (
    (pss_one (ps_ret (pe_cmpR (inU (hu65 hr)) (pe_tup (pa_cons (pv 2) (pa_cons (pv 3) pa_nil))) (pe_ix (ixU (hu1 hr)) (pe_fld (pv 0) rfl) (pv 1) (fun _ _ => rfl)) (by with_unfolding_all rfl)))))
theorem sc_PlainWorld_cell : FnScope ["self", "number", "kind", "field"] ["self", "number", "kind", "field"] (defScope s_PlainWorld_cell) := ⟨rfl, rfl, rfl, by decide +kernel, rfl, by decide +kernel, by decide +kernel⟩
theorem ok_PlainWorld_cell (C : Cxt P w K mg base) : FnEx P w K mg base CX0 1 (He.fAd K ("PlainWorld", some "cell")) ["self", "number", "kind", "field"] (sp_PlainWorld_cell K w) :=
  fnEx (C.c.d.def_ 19 (d := d_PlainWorld_cell) rfl) rfl rfl sc_PlainWorld_cell rfl (fun _ _ _ _ _ _ us hl => match us, hl with | [_, _, _, _], _ => rfl) fun cdv A outer s H E hr => PSs.nox (
    (pss_one (ps_ret (pe_ix (ixU (hu1 hr)) (pe_ix (ixU (hu1 hr)) (pe_fld (pv 0) rfl) (pv 1) (fun _ _ => rfl)) (pe_tup (pa_cons (pv 2) (pa_cons (pv 3) pa_nil))) (fun _ _ => rfl)))))
theorem sc_PlainWorld_keep_cell : FnScope ["self", "number", "kind", "field", "value"] ["self", "number", "kind", "field", "value"] (defScope s_PlainWorld_keep_cell) := ⟨rfl, rfl, rfl, by decide +kernel, rfl, by decide +kernel, by decide +kernel⟩
theorem ok_PlainWorld_keep_cell (C : Cxt P w K mg base) : FnEx P w K mg base CX0 1 (He.fAd K ("PlainWorld", some "keep_cell")) ["self", "number", "kind", "field", "value"] (sp_PlainWorld_keep_cell K w) :=
  fnEx (C.c.d.def_ 20 (d := d_PlainWorld_keep_cell) rfl) rfl rfl sc_PlainWorld_keep_cell rfl (fun _ _ _ _ _ _ us hl => match us, hl with | [_, _, _, _, _], _ => rfl) fun cdv A outer s H E hr => PSs.nox (
    (pss_one (ps_asg (pv 4) (pg_sub (pe_ix (ixU (hu1 hr)) (pe_fld (pv 0) rfl) (pv 1) (fun _ _ => rfl)) (pe_tup (pa_cons (pv 2) (pa_cons (pv 3) pa_nil))) (setU (hu1 hr))))))
theorem sc_cell_of : FnScope ["registers", "world", "y", "z", "field", "number", "kind"] ["registers", "world", "y", "z", "field"] (defScope s_cell_of) := ⟨rfl, rfl, rfl, by decide +kernel, rfl, by decide +kernel, by decide +kernel⟩
theorem ok_cell_of (C : Cxt P w K mg base) : FnEx P w K mg base CX0 3 (He.fAd K ("cell_of", none)) ["registers", "world", "y", "z", "field"] (sp_cell_of K w) :=
  fnEx (C.c.d.def_ 21 (d := d_cell_of) rfl) rfl rfl sc_cell_of rfl (fun _ _ _ _ _ _ us hl => match us, hl with | [_, _, _, _, _], _ => rfl) fun cdv A outer s H E hr => PSs.nox (
    (pss_cons (ps_par (i := 5) (j := 6) rfl sc_cell_of.nd rfl rfl (by decide) rfl rfl (pa_cons (pe_callE (ok_number_in C) (hr.mono (by decide)) (g_number_in C) pass0 (pa_cons (pe_ix (ixU (hu1 hr)) (pv 0) (pv 2) (fun _ _ => rfl)) (pa_cons pe_str pa_nil))) (pa_cons (pe_callE (ok_number_in C) (hr.mono (by decide)) (g_number_in C) pass0 (pa_cons (pe_ix (ixU (hu1 hr)) (pv 0) (pv 3) (fun _ _ => rfl)) (pa_cons pe_str pa_nil))) pa_nil)) (by with_unfolding_all rfl))
    (pss_cons (ps_if (PW.pt (pw_or (pt_cmpR isU (pv 5) pe_non (nomark _)) (pw_or (pt_cmpR isU (pv 6) pe_non (nomark _)) (pw_or1 (pt_not (pt_truth (pe_methE (pv 1) (cl_PlainWorld C) (me_PlainWorld_has_cell C) (ok_PlainWorld_has_cell C) (hr.mono (by decide)) pass0 (pa_cons (pv 5) (pa_cons (pv 6) (pa_cons (pv 4) pa_nil)))) (fun _ => rfl))))))) (pss_one (ps_ret pe_non)) pss_nil)
    (pss_one (ps_ret (pe_tup (pa_cons (pv 5) (pa_cons (pv 6) pa_nil))))))))
theorem sc_sum_of : FnScope ["one", "other"] ["one", "other"] (defScope s_sum_of) := ⟨rfl, rfl, rfl, by decide +kernel, rfl, by decide +kernel, by decide +kernel⟩
theorem ok_sum_of (C : Cxt P w K mg base) : FnEx P w K mg base CX0 2 (He.fAd K ("sum_of", none)) ["one", "other"] (sp_sum_of K w) :=
  fnEx (C.c.d.def_ 22 (d := d_sum_of) rfl) rfl rfl sc_sum_of rfl (fun _ _ _ _ _ _ us hl => match us, hl with | [_, _], _ => rfl) fun cdv A outer s H E hr => PSs.nox (
    (pss_cons (ps_if (PW.pt (pw_or (pt_truth (pe_callE (ok_is_pair C) (hr.mono (by decide)) (g_is_pair C) pass0 (pa_cons (pv 0) pa_nil)) (fun _ => rfl)) (pw_or (pt_truth (pe_callE (ok_is_pair C) (hr.mono (by decide)) (g_is_pair C) pass0 (pa_cons (pv 1) pa_nil)) (fun _ => rfl)) (pw_or1 (pt_cmpR gtU (pe_callB absU (by rfl) (n_abs C) (by decide +kernel) (pa_cons (pe_op addU (pv 0) (pv 1)) pa_nil)) (pe_globI rfl (c_MOST_SUM C)) (nomark _)))))) (pss_one (ps_ret pe_non)) pss_nil)
    (pss_one (ps_ret (pe_op addU (pv 0) (pv 1))))))
theorem sc_loaded_kind : FnScope ["registers", "world", "some", "many", "parents", "number", "place"] ["registers", "world", "some", "many"] (defScope s_loaded_kind) := ⟨rfl, rfl, rfl, by decide +kernel, rfl, by decide +kernel, by decide +kernel⟩
theorem ok_loaded_kind (C : Cxt P w K mg base) : FnEx P w K mg base CX0 3 (He.fAd K ("loaded_kind", none)) ["registers", "world", "some", "many"] (sp_loaded_kind K w) :=
  fnEx (C.c.d.def_ 23 (d := d_loaded_kind) rfl) rfl rfl sc_loaded_kind rfl (fun _ _ _ _ _ _ us hl => match us, hl with | [_, _, _, _], _ => rfl) fun cdv A outer s H E hr => PSs.nox (
    (pss_cons (ps_setLc (i := 4) (own := [("place", 6)]) rfl sc_loaded_kind.nd rfl rfl (sw_true rfl rfl rfl (by decide +kernel)) (pi_seqU (pv 2)) (blkOk_by (own := [("place", 6)]) (N := ["registers", "world", "some", "many", "parents", "number", "place"]) (sc := defScope s_loaded_kind) (by decide +kernel)) (fun _ _ _ _ _ => (pg_name (i := 6) sc_loaded_kind.nd rfl (Or.inl rfl))) (fun _ _ _ _ _ => pts_nil) (fun _ _ _ _ _ => (pe_callE (ok_number_in C) (hr.mono (by decide)) (g_number_in C) pass0 (pa_cons (pe_ix (ixU (hu1 hr)) (pv 0) (pv 6) (fun _ _ => rfl)) (pa_cons pe_str pa_nil)))))
    (pss_cons (ps_if (PW.pt (pw_or (pt_cmpR (inU (hu65 hr)) pe_non (pv 4) (by with_unfolding_all rfl)) (pw_or1 (pt_cmpR (ltU hr.units0) (pe_lenSet (by rfl) (n_len C) (by rfl) (n_set C) (pv 4)) (pe_callB lenU (by rfl) (n_len C) (by decide +kernel) (pa_cons (pv 4) pa_nil)) (nomark _))))) (pss_one (ps_ret pe_non)) pss_nil)
    (pss_cons (ps_set (i := 5) sc_loaded_kind.nd rfl (Or.inl rfl) (pe_methE (pv 1) (cl_PlainWorld C) (me_PlainWorld_new_kind C) (ok_PlainWorld_new_kind C) (hr.mono (by decide)) pass0 (pa_cons (pe_callTy tupU (by rfl) (n_tuple C) (by decide +kernel) (pa_cons (pe_callB sortedU (by rfl) (n_sorted C) (by decide +kernel) (pa_cons (pv 4) pa_nil)) pa_nil)) (pa_cons (pv 3) pa_nil))))
    (pss_one (ps_ret (pe_ifExp (pt_cmpR isU (pv 5) pe_non (nomark _)) pe_non (pe_tup (pa_cons pe_str (pa_cons (pv 5) pa_nil))))))))))
theorem sc_made_object : FnScope ["registers", "world", "y", "kind", "number"] ["registers", "world", "y"] (defScope s_made_object) := ⟨rfl, rfl, rfl, by decide +kernel, rfl, by decide +kernel, by decide +kernel⟩
theorem ok_made_object (C : Cxt P w K mg base) : FnEx P w K mg base CX0 3 (He.fAd K ("made_object", none)) ["registers", "world", "y"] (sp_made_object K w) :=
  fnEx (C.c.d.def_ 24 (d := d_made_object) rfl) rfl rfl sc_made_object rfl (fun _ _ _ _ _ _ us hl => match us, hl with | [_, _, _], _ => rfl) fun cdv A outer s H E hr => PSs.nox (
    (pss_cons (ps_set (i := 3) sc_made_object.nd rfl (Or.inl rfl) (pe_callE (ok_number_in C) (hr.mono (by decide)) (g_number_in C) pass0 (pa_cons (pe_ix (ixU (hu1 hr)) (pv 0) (pv 2) (fun _ _ => rfl)) (pa_cons pe_str pa_nil))))
    (pss_cons (ps_set (i := 4) sc_made_object.nd rfl (Or.inl rfl) (pe_ifExp (pt_cmpR isU (pv 3) pe_non (nomark _)) pe_non (pe_methE (pv 1) (cl_PlainWorld C) (me_PlainWorld_new_object C) (ok_PlainWorld_new_object C) (hr.mono (by decide)) pass0 (pa_cons (pv 3) pa_nil))))
    (pss_one (ps_ret (pe_ifExp (pt_cmpR isU (pv 4) pe_non (nomark _)) pe_non (pe_tup (pa_cons pe_str (pa_cons (pv 4) pa_nil)))))))))
theorem sc_kind_in : FnScope ["registers", "world", "y", "number"] ["registers", "world", "y"] (defScope s_kind_in) := ⟨rfl, rfl, rfl, by decide +kernel, rfl, by decide +kernel, by decide +kernel⟩
theorem ok_kind_in (C : Cxt P w K mg base) : FnEx P w K mg base CX0 3 (He.fAd K ("kind_in", none)) ["registers", "world", "y"] (sp_kind_in K w) :=
  fnEx (C.c.d.def_ 25 (d := d_kind_in) rfl) rfl rfl sc_kind_in rfl (fun _ _ _ _ _ _ us hl => match us, hl with | [_, _, _], _ => rfl) fun cdv A outer s H E hr => PSs.nox (
    (pss_cons (ps_set (i := 3) sc_kind_in.nd rfl (Or.inl rfl) (pe_callE (ok_number_in C) (hr.mono (by decide)) (g_number_in C) pass0 (pa_cons (pe_ix (ixU (hu1 hr)) (pv 0) (pv 2) (fun _ _ => rfl)) (pa_cons pe_str pa_nil))))
    (pss_one (ps_ret (pe_ifExp (pt_cmpR isU (pv 3) pe_non (nomark _)) pe_non (pe_tup (pa_cons pe_str (pa_cons (pe_methE (pv 1) (cl_PlainWorld C) (me_PlainWorld_kind_of C) (ok_PlainWorld_kind_of C) (hr.mono (by decide)) pass0 (pa_cons (pv 3) pa_nil)) pa_nil))))))))
theorem sc_value_of : FnScope ["row", "registers", "world", "found"] ["row", "registers", "world"] (defScope s_value_of) := ⟨rfl, rfl, rfl, by decide +kernel, rfl, by decide +kernel, by decide +kernel⟩
theorem ok_value_of (C : Cxt P w K mg base) : FnEx P w K mg base CX0 4 (He.fAd K ("value_of", none)) ["row", "registers", "world"] (sp_value_of K w) :=
  fnEx (C.c.d.def_ 26 (d := d_value_of) rfl) rfl rfl sc_value_of rfl (fun _ _ _ _ _ _ us hl => match us, hl with | [_, _, _], _ => rfl) fun cdv A outer s H E hr => PSs.nox (
    (pss_cons (ps_if (pt_cmpR (eqU hr.units) (pe_ix (ixU (hu1 hr)) (pv 0) pe_int (fun _ _ => rfl)) pe_str (nomark _)) (pss_one (ps_ret (pe_ix (ixU (hu1 hr)) (pv 0) pe_int (fun _ _ => rfl)))) pss_nil)
    (pss_cons (ps_if (pt_cmpR (eqU hr.units) (pe_ix (ixU (hu1 hr)) (pv 0) pe_int (fun _ _ => rfl)) pe_str (nomark _)) (pss_one (ps_ret (pe_ix (ixU (hu1 hr)) (pv 1) (pe_ix (ixU (hu1 hr)) (pv 0) pe_int (fun _ _ => rfl)) (fun _ _ => rfl)))) pss_nil)
    (pss_cons (ps_if (pt_cmpR (eqU hr.units) (pe_ix (ixU (hu1 hr)) (pv 0) pe_int (fun _ _ => rfl)) pe_str (nomark _)) (pss_one (ps_ret (pe_callE (ok_sum_of C) (hr.mono (by decide)) (g_sum_of C) pass0 (pa_cons (pe_ix (ixU (hu1 hr)) (pv 1) (pe_ix (ixU (hu1 hr)) (pv 0) pe_int (fun _ _ => rfl)) (fun _ _ => rfl)) (pa_cons (pe_ix (ixU (hu1 hr)) (pv 1) (pe_ix (ixU (hu1 hr)) (pv 0) pe_int (fun _ _ => rfl)) (fun _ _ => rfl)) pa_nil))))) pss_nil)
    (pss_cons (ps_if (pt_cmpR (eqU hr.units) (pe_ix (ixU (hu1 hr)) (pv 0) pe_int (fun _ _ => rfl)) pe_str (nomark _)) (pss_one (ps_ret (pe_callE (ok_loaded_kind C) (hr.mono (by decide)) (g_loaded_kind C) pass0 (pa_cons (pv 1) (pa_cons (pv 2) (pa_cons (pe_ix (ixU (hu1 hr)) (pv 0) pe_int (fun _ _ => rfl)) (pa_cons (pe_ix (ixU (hu1 hr)) (pv 0) pe_int (fun _ _ => rfl)) pa_nil))))))) pss_nil)
    (pss_cons (ps_if (pt_cmpR (eqU hr.units) (pe_ix (ixU (hu1 hr)) (pv 0) pe_int (fun _ _ => rfl)) pe_str (nomark _)) (pss_one (ps_ret (pe_callE (ok_made_object C) (hr.mono (by decide)) (g_made_object C) pass0 (pa_cons (pv 1) (pa_cons (pv 2) (pa_cons (pe_ix (ixU (hu1 hr)) (pv 0) pe_int (fun _ _ => rfl)) pa_nil)))))) pss_nil)
    (pss_cons (ps_if (pt_cmpR (eqU hr.units) (pe_ix (ixU (hu1 hr)) (pv 0) pe_int (fun _ _ => rfl)) pe_str (nomark _)) (pss_one (ps_ret (pe_callE (ok_kind_in C) (hr.mono (by decide)) (g_kind_in C) pass0 (pa_cons (pv 1) (pa_cons (pv 2) (pa_cons (pe_ix (ixU (hu1 hr)) (pv 0) pe_int (fun _ _ => rfl)) pa_nil)))))) pss_nil)
    (pss_cons (ps_set (i := 3) sc_value_of.nd rfl (Or.inl rfl) (pe_callE (ok_cell_of C) (hr.mono (by decide)) (g_cell_of C) pass0 (pa_cons (pv 1) (pa_cons (pv 2) (pa_cons (pe_ix (ixU (hu1 hr)) (pv 0) pe_int (fun _ _ => rfl)) (pa_cons (pe_ix (ixU (hu1 hr)) (pv 0) pe_int (fun _ _ => rfl)) (pa_cons (pe_ix (ixU (hu1 hr)) (pv 0) pe_int (fun _ _ => rfl)) pa_nil)))))))
    (pss_one (ps_ret (pe_ifExp (pt_cmpR isU (pv 3) pe_non (nomark _)) pe_non (pe_methE (pv 2) (cl_PlainWorld C) (me_PlainWorld_cell C) (ok_PlainWorld_cell C) (hr.mono (by decide)) pass0 (pa_cons (pe_ix (ixU (hu1 hr)) (pv 3) pe_int (fun _ _ => rfl)) (pa_cons (pe_ix (ixU (hu1 hr)) (pv 3) pe_int (fun _ _ => rfl)) (pa_cons (pe_ix (ixU (hu1 hr)) (pv 0) pe_int (fun _ _ => rfl)) pa_nil)))))))))))))))
theorem sc_written : FnScope ["row", "registers", "world", "found"] ["row", "registers", "world"] (defScope s_written) := ⟨rfl, rfl, rfl, by decide +kernel, rfl, by decide +kernel, by decide +kernel⟩
theorem ok_written (C : Cxt P w K mg base) : FnEx P w K mg base CX0 4 (He.fAd K ("written", none)) ["row", "registers", "world"] (sp_written K w) :=
  fnEx (C.c.d.def_ 27 (d := d_written) rfl) rfl rfl sc_written rfl (fun _ _ _ _ _ _ us hl => match us, hl with | [_, _, _], _ => rfl) fun cdv A outer s H E hr => PSs.nox (
    (pss_cons (ps_set (i := 3) sc_written.nd rfl (Or.inl rfl) (pe_callE (ok_cell_of C) (hr.mono (by decide)) (g_cell_of C) pass0 (pa_cons (pv 1) (pa_cons (pv 2) (pa_cons (pe_ix (ixU (hu1 hr)) (pv 0) pe_int (fun _ _ => rfl)) (pa_cons (pe_ix (ixU (hu1 hr)) (pv 0) pe_int (fun _ _ => rfl)) (pa_cons (pe_ix (ixU (hu1 hr)) (pv 0) pe_int (fun _ _ => rfl)) pa_nil)))))))
    (pss_cons (ps_if (pt_cmpR isNotU (pv 3) pe_non (nomark _)) (pss_one (ps_expr (pe_methE (pv 2) (cl_PlainWorld C) (me_PlainWorld_keep_cell C) (ok_PlainWorld_keep_cell C) (hr.mono (by decide)) pass0 (pa_cons (pe_ix (ixU (hu1 hr)) (pv 3) pe_int (fun _ _ => rfl)) (pa_cons (pe_ix (ixU (hu1 hr)) (pv 3) pe_int (fun _ _ => rfl)) (pa_cons (pe_ix (ixU (hu1 hr)) (pv 0) pe_int (fun _ _ => rfl)) (pa_cons (pe_ix (ixU (hu1 hr)) (pv 1) (pe_ix (ixU (hu1 hr)) (pv 0) pe_int (fun _ _ => rfl)) (fun _ _ => rfl)) pa_nil))))))) pss_nil)
    (pss_one (ps_ret (pe_cmpR isNotU (pv 3) pe_non (nomark _)))))))
theorem sc_is_gone : FnScope ["row", "registers", "world", "one", "other", "number", "kind"] ["row", "registers", "world"] (defScope s_is_gone) := ⟨rfl, rfl, rfl, by decide +kernel, rfl, by decide +kernel, by decide +kernel⟩
theorem ok_is_gone (C : Cxt P w K mg base) : FnEx P w K mg base CX0 3 (He.fAd K ("is_gone", none)) ["row", "registers", "world"] (sp_is_gone K w) :=
  fnEx (C.c.d.def_ 28 (d := d_is_gone) rfl) rfl rfl sc_is_gone rfl (fun _ _ _ _ _ _ us hl => match us, hl with | [_, _, _], _ => rfl) fun cdv A outer s H E hr => PSs.nox (
    (pss_cons (ps_par (i := 3) (j := 4) rfl sc_is_gone.nd rfl rfl (by decide) rfl rfl (pa_cons (pe_ix (ixU (hu1 hr)) (pv 1) (pe_ix (ixU (hu1 hr)) (pv 0) pe_int (fun _ _ => rfl)) (fun _ _ => rfl)) (pa_cons (pe_ix (ixU (hu1 hr)) (pv 1) (pe_ix (ixU (hu1 hr)) (pv 0) pe_int (fun _ _ => rfl)) (fun _ _ => rfl)) pa_nil)) (by with_unfolding_all rfl))
    (pss_cons (ps_if (pt_cmpR (eqU hr.units) (pe_ix (ixU (hu1 hr)) (pv 0) pe_int (fun _ _ => rfl)) pe_str (nomark _)) (pss_one (ps_ret (pe_ifExp (PW.pt (pw_or (pt_truth (pe_callE (ok_is_pair C) (hr.mono (by decide)) (g_is_pair C) pass0 (pa_cons (pv 3) pa_nil)) (fun _ => rfl)) (pw_or1 (pt_truth (pe_callE (ok_is_pair C) (hr.mono (by decide)) (g_is_pair C) pass0 (pa_cons (pv 4) pa_nil)) (fun _ => rfl))))) pe_non (pe_cmpR (ltU hr.units0) (pv 3) (pv 4) (nomark _))))) pss_nil)
    (pss_cons (ps_par (i := 5) (j := 6) rfl sc_is_gone.nd rfl rfl (by decide) rfl rfl (pa_cons (pe_callE (ok_number_in C) (hr.mono (by decide)) (g_number_in C) pass0 (pa_cons (pv 3) (pa_cons pe_str pa_nil))) (pa_cons (pe_callE (ok_number_in C) (hr.mono (by decide)) (g_number_in C) pass0 (pa_cons (pv 4) (pa_cons pe_str pa_nil))) pa_nil)) (by with_unfolding_all rfl))
    (pss_one (ps_ret (pe_ifExp (PW.pt (pw_or (pt_cmpR isU (pv 5) pe_non (nomark _)) (pw_or1 (pt_cmpR isU (pv 6) pe_non (nomark _))))) pe_non (pe_methE (pv 2) (cl_PlainWorld C) (me_PlainWorld_is_kind C) (ok_PlainWorld_is_kind C) (hr.mono (by decide)) pass0 (pa_cons (pv 5) (pa_cons (pv 6) pa_nil))))))))))
theorem sc_next_row : FnScope ["row", "at", "registers", "values", "world", "found", "value"] ["row", "at", "registers", "values", "world"] (defScope s_next_row) := ⟨rfl, rfl, rfl, by decide +kernel, rfl, by decide +kernel, by decide +kernel⟩
theorem ok_next_row (C : Cxt P w K mg base) : FnEx P w K mg base CX0 5 (He.fAd K ("next_row", none)) ["row", "at", "registers", "values", "world"] (sp_next_row K w) :=
  fnEx (C.c.d.def_ 29 (d := d_next_row) rfl) rfl rfl sc_next_row rfl (fun _ _ _ _ _ _ us hl => match us, hl with | [_, _, _, _, _], _ => rfl) fun cdv A outer s H E hr => PSs.nox (
    (pss_cons (ps_if (pt_cmpR (eqU hr.units) (pe_ix (ixU (hu1 hr)) (pv 0) pe_int (fun _ _ => rfl)) pe_str (nomark _)) (pss_one (ps_ret (pe_ix (ixU (hu1 hr)) (pv 0) pe_int (fun _ _ => rfl)))) pss_nil)
    (pss_cons (ps_if (pt_cmpR (inU (hu65 hr)) (pe_ix (ixU (hu1 hr)) (pv 0) pe_int (fun _ _ => rfl)) (pe_tup (pa_cons pe_str (pa_cons pe_str pa_nil))) (by with_unfolding_all rfl)) (pss_cons (ps_set (i := 5) sc_next_row.nd rfl (Or.inl rfl) (pe_callE (ok_is_gone C) (hr.mono (by decide)) (g_is_gone C) pass0 (pa_cons (pv 0) (pa_cons (pv 2) (pa_cons (pv 4) pa_nil)))))
    (pss_one (ps_ret (pe_ifExp (pt_cmpR isU (pv 5) pe_non (nomark _)) pe_non (pe_ifExp (pt_truth (pv 5) (fun _ => rfl)) (pe_ix (ixU (hu1 hr)) (pv 0) pe_int (fun _ _ => rfl)) (pe_op addU (pv 1) pe_int)))))) pss_nil)
    (pss_cons (ps_if (pt_cmpR (eqU hr.units) (pe_ix (ixU (hu1 hr)) (pv 0) pe_int (fun _ _ => rfl)) pe_str (nomark _)) (pss_cons (ps_expr (pe_bm PySem.F.plainAttrs_list PySem.F.slot_list_append PySem.F.type_list_append mt_append (pv 3) (pa_cons (pe_ix (ixU (hu1 hr)) (pv 2) (pe_ix (ixU (hu1 hr)) (pv 0) pe_int (fun _ _ => rfl)) (fun _ _ => rfl)) pa_nil)))
    (pss_one (ps_ret (pe_op addU (pv 1) pe_int)))) pss_nil)
    (pss_cons (ps_if (pt_cmpR (eqU hr.units) (pe_ix (ixU (hu1 hr)) (pv 0) pe_int (fun _ _ => rfl)) pe_str (nomark _)) (pss_one (ps_ret (pe_ifExp (pt_truth (pe_callE (ok_written C) (hr.mono (by decide)) (g_written C) pass0 (pa_cons (pv 0) (pa_cons (pv 2) (pa_cons (pv 4) pa_nil)))) (fun _ => rfl)) (pe_op addU (pv 1) pe_int) pe_non))) pss_nil)
    (pss_cons (ps_set (i := 6) sc_next_row.nd rfl (Or.inl rfl) (pe_callE (ok_value_of C) (hr.mono (by decide)) (g_value_of C) pass0 (pa_cons (pv 0) (pa_cons (pv 2) (pa_cons (pv 4) pa_nil)))))
    (pss_cons (ps_if (pt_cmpR isU (pv 6) pe_non (nomark _)) (pss_one (ps_ret pe_non)) pss_nil)
    (pss_cons (ps_asg (pv 6) (pg_sub (pv 2) (pe_ix (ixU (hu1 hr)) (pv 0) pe_int (fun _ _ => rfl)) (setU (hu1 hr))))
    (pss_one (ps_ret (pe_op addU (pv 1) pe_int)))))))))))
theorem sc_run : FnScope ["program", "most", "registers", "values", "world", "at", "many", "later"] ["program", "most"] (defScope s_run) := ⟨rfl, rfl, rfl, by decide +kernel, rfl, by decide +kernel, by decide +kernel⟩
theorem ok_run (C : Cxt P w K mg base) : FnEx P w K mg base CX0 10 (He.fAd K ("run", none)) ["program", "most"] (sp_run K w) :=
  fnEx (C.c.d.def_ 30 (d := d_run) rfl) rfl rfl sc_run rfl (fun _ _ _ _ _ _ us hl => match us, hl with | [_, _], _ => rfl) fun cdv A outer s H E hr => PSs.nox (
    (pss_cons (ps_expr (pe_callE (ok_check_program C) (hr.mono (by decide)) (g_check_program C) pass0 (pa_cons (pv 0) pa_nil)))
    (pss_cons (ps_expr (pe_callE (ok_check_number C) (hr.mono (by decide)) (g_check_number C) pass0 (pa_cons (pv 1) (pa_cons pe_int (pa_cons (pe_globI rfl (c_MOST_DONE C)) pa_nil)))))
    (pss_cons (ps_set (i := 2) sc_run.nd rfl (Or.inl rfl) (pe_op mulU (pe_lst (pa_cons pe_int pa_nil)) (pe_globI rfl (c_REGISTERS C))))
    (pss_cons (ps_set (i := 3) sc_run.nd rfl (Or.inl rfl) (pe_lst pa_nil))
    (pss_cons (ps_set (i := 4) sc_run.nd rfl (Or.inl rfl) (pe_makeE0 (mk_PlainWorld C) (ok_PlainWorld___init__ C) (hr.mono (by decide)) (g_PlainWorld C) pass0))
    (pss_cons (ps_set (i := 5) sc_run.nd rfl (Or.inl rfl) pe_int)
    (pss_cons (ps_set (i := 6) sc_run.nd rfl (Or.inl rfl) pe_int)
    (pss_cons (ps_while PassesOwn.never (PW.pt (pw_and (pt_cmpR (ltU hr.units0) (pv 5) (pe_callB lenU (by rfl) (n_len C) (by decide +kernel) (pa_cons (pv 0) pa_nil)) (nomark _)) (pw_and1 (pt_cmpR (ltU hr.units0) (pv 6) (pv 1) (nomark _))))) (pss_cons (ps_set (i := 7) sc_run.nd rfl (Or.inl rfl) (pe_callE (ok_next_row C) (hr.mono (by decide)) (g_next_row C) pass0 (pa_cons (pe_ix (ixU (hu1 hr)) (pv 0) (pv 5) (fun _ _ => rfl)) (pa_cons (pv 5) (pa_cons (pv 2) (pa_cons (pv 3) (pa_cons (pv 4) pa_nil)))))))
    (pss_cons (ps_if (pt_cmpR isU (pv 7) pe_non (nomark _)) (pss_one (ps_ret (pe_tup (pa_cons (pv 3) (pa_cons (pe_tup (pa_cons pe_str (pa_cons (pv 5) pa_nil))) pa_nil))))) pss_nil)
    (pss_cons (ps_set (i := 5) sc_run.nd rfl (Or.inl rfl) (pv 7))
    (pss_one (ps_aug (i := 6) sc_run.nd rfl (Or.inl rfl) pe_int iaddU))))))
    (pss_one (ps_ret (pe_tup (pa_cons (pv 3) (pa_cons (pe_ifExp (pt_cmpR (eqU hr.units) (pv 5) (pe_callB lenU (by rfl) (n_len C) (by decide +kernel) (pa_cons (pv 0) pa_nil)) (nomark _)) (pe_tup (pa_cons pe_str pa_nil)) (pe_tup (pa_cons pe_str (pa_cons (pv 5) pa_nil)))) pa_nil))))))))))))))
theorem sc__law_pool : FnScope ["_law_script", "_law_seed", "_law_cell"] ["_law_script"] (defScope s__law_pool) := ⟨rfl, rfl, rfl, by decide +kernel, rfl, by decide +kernel, by decide +kernel⟩
theorem ok__law_pool (C : Cxt P w K mg base) : FnEx P w K mg base CX0 1 (He.fAd K ("_law_pool", none)) ["_law_script"] (sp__law_pool K w) :=
  fnEx (C.c.d.def_ 31 (d := d__law_pool) rfl) rfl rfl sc__law_pool rfl (fun _ _ _ _ _ _ us hl => match us, hl with | [_], _ => rfl) fun cdv A outer s H E hr => PSs.nox (
    (pss_cons (ps_set (i := 1) sc__law_pool.nd rfl (Or.inl rfl) (pe_op addU (pe_op addU (pe_op modU (pe_callTy intU (by rfl) (n_int C) (by decide +kernel) (pa_cons (pe_callB (cr_sum rfl) (by rfl) (n_sum C) (by decide +kernel) (pa_cons (pe_slice slU (pv 0) po_none (po_some pe_int)) pa_nil)) pa_nil)) pe_int) (pe_callB lenU (by rfl) (n_len C) (by decide +kernel) (pa_cons (pv 0) pa_nil))) pe_int))
    (pss_cons (ps_for PassesOwn.never rfl (pi_seqU (pe_slice slU (pv 0) po_none (po_some pe_int))) (pg_name (i := 2) sc__law_pool.nd rfl (Or.inl rfl)) (pss_one (ps_set (i := 1) sc__law_pool.nd rfl (Or.inl rfl) (pe_op modU (pe_callTy intU (by rfl) (n_int C) (by decide +kernel) (pa_cons (pe_op addU (pe_op addU (pe_op mulU (pv 1) pe_int) (pe_op modU (pe_callTy intU (by rfl) (n_int C) (by decide +kernel) (pa_cons (pv 2) pa_nil)) pe_int)) pe_int) pa_nil)) pe_int))))
    (pss_one (ps_ret (pe_lst (pa_cons (pv 1) (pa_cons pe_int (pa_cons (pe_lc (own := [("_law_cell", 2)]) rfl sc__law_pool.nd (pi_seqU (pe_slice slU (pv 0) po_none (po_some pe_int))) (blkOk_by (own := [("_law_cell", 2)]) (N := ["_law_script", "_law_seed", "_law_cell"]) (sc := defScope s__law_pool) (by decide +kernel)) (fun _ _ _ _ _ => (pg_name (i := 2) sc__law_pool.nd rfl (Or.inl rfl))) (fun _ _ _ _ _ => (pts_one (pt_cmpR geU (pe_callB absU (by rfl) (n_abs C) (by decide +kernel) (pa_cons (pv 2) pa_nil)) (pe_op powU pe_int pe_int) (nomark _)))) (fun _ _ _ _ _ => (pe_callB absU (by rfl) (n_abs C) (by decide +kernel) (pa_cons (pv 2) pa_nil)))) pa_nil)))))))))
theorem sc__law_draw : FnScope ["_law_pool_here", "_law_many", "_law_cells", "_law_digit", "_law_mixed_here"] ["_law_pool_here", "_law_many"] (defScope s__law_draw) := ⟨rfl, rfl, rfl, by decide +kernel, rfl, by decide +kernel, by decide +kernel⟩
theorem ok__law_draw (C : Cxt P w K mg base) : FnEx P w K mg base CX0 1 (He.fAd K ("_law_draw", none)) ["_law_pool_here", "_law_many"] (sp__law_draw K w) :=
  fnEx (C.c.d.def_ 32 (d := d__law_draw) rfl) rfl rfl sc__law_draw rfl (fun _ _ _ _ _ _ us hl => match us, hl with | [_, _], _ => rfl) fun cdv A outer s H E hr => PSs.nox (
    (pss_cons (ps_asg (pe_op addU (pe_ix (ixU (hu1 hr)) (pv 0) pe_int (fun _ _ => rfl)) pe_int) (pg_sub (pv 0) pe_int (setU (hu1 hr))))
    (pss_cons (ps_set (i := 2) sc__law_draw.nd rfl (Or.inl rfl) (pe_ix (ixU (hu1 hr)) (pv 0) pe_int (fun _ _ => rfl)))
    (pss_cons (ps_if (pt_cmpR gtU (pe_callB lenU (by rfl) (n_len C) (by decide +kernel) (pa_cons (pv 2) pa_nil)) pe_int (nomark _)) (pss_cons (ps_set (i := 3) sc__law_draw.nd rfl (Or.inl rfl) (pe_op modU (pe_callTy intU (by rfl) (n_int C) (by decide +kernel) (pa_cons (pe_ix (ixU (hu1 hr)) (pv 2) pe_int (fun _ _ => rfl)) pa_nil)) (pv 1)))
    (pss_cons (ps_asg (pe_op divU (pe_callTy intU (by rfl) (n_int C) (by decide +kernel) (pa_cons (pe_ix (ixU (hu1 hr)) (pv 2) pe_int (fun _ _ => rfl)) pa_nil)) (pv 1)) (pg_sub (pv 2) pe_int (setU (hu1 hr))))
    (pss_cons (ps_if (pt_cmpR (eqU hr.units) (pe_ix (ixU (hu1 hr)) (pv 2) pe_int (fun _ _ => rfl)) pe_int (nomark _)) (pss_one (ps_expr (pe_bm PySem.F.plainAttrs_list PySem.F.slot_list_pop PySem.F.type_list_pop mt_popAt (pv 2) (pa_cons pe_int pa_nil)))) pss_nil)
    (pss_one (ps_ret (pv 3)))))) pss_nil)
    (pss_cons (ps_set (i := 4) sc__law_draw.nd rfl (Or.inl rfl) (pe_op modU (pe_callTy intU (by rfl) (n_int C) (by decide +kernel) (pa_cons (pe_op mulU (pe_op addU (pe_ix (ixU (hu1 hr)) (pv 0) pe_int (fun _ _ => rfl)) (pe_op mulU pe_int (pe_ix (ixU (hu1 hr)) (pv 0) pe_int (fun _ _ => rfl)))) pe_int) pa_nil)) pe_int))
    (pss_cons (ps_set (i := 4) sc__law_draw.nd rfl (Or.inl rfl) (pe_op modU (pe_callTy intU (by rfl) (n_int C) (by decide +kernel) (pa_cons (pe_op mulU (pv 4) (pe_op addU (pe_op divU (pv 4) pe_int) pe_int)) pa_nil)) pe_int))
    (pss_cons (ps_set (i := 4) sc__law_draw.nd rfl (Or.inl rfl) (pe_op modU (pe_callTy intU (by rfl) (n_int C) (by decide +kernel) (pa_cons (pe_op mulU (pv 4) (pe_op addU (pe_op divU (pv 4) pe_int) pe_int)) pa_nil)) pe_int))
    (pss_one (ps_ret (pe_op modU (pe_callTy intU (by rfl) (n_int C) (by decide +kernel) (pa_cons (pe_op divU (pv 4) pe_int) pa_nil)) (pv 1)))))))))))
theorem sc__law_mixed : FnScope ["_law_pool_here", "_law_things", "_law_left", "_law_made_here", "_law_k"] ["_law_pool_here", "_law_things"] (defScope s__law_mixed) := ⟨rfl, rfl, rfl, by decide +kernel, rfl, by decide +kernel, by decide +kernel⟩
theorem ok__law_mixed (C : Cxt P w K mg base) : FnEx P w K mg base CX0 2 (He.fAd K ("_law_mixed", none)) ["_law_pool_here", "_law_things"] (sp__law_mixed K w) :=
  fnEx (C.c.d.def_ 33 (d := d__law_mixed) rfl) rfl rfl sc__law_mixed rfl (fun _ _ _ _ _ _ us hl => match us, hl with | [_, _], _ => rfl) fun cdv A outer s H E hr => PSs.nox (
    (pss_cons (ps_set (i := 2) sc__law_mixed.nd rfl (Or.inl rfl) (pe_callTy (listU rfl) (by rfl) (n_list C) (by decide +kernel) (pa_cons (pv 1) pa_nil)))
    (pss_cons (ps_set (i := 3) sc__law_mixed.nd rfl (Or.inl rfl) (pe_lst pa_nil))
    (pss_cons (ps_for PassesOwn.never rfl (pi_range1 rfl (n_range C) (pa_cons (pe_callB lenU (by rfl) (n_len C) (by decide +kernel) (pa_cons (pv 1) pa_nil)) pa_nil)) (pg_name (i := 4) sc__law_mixed.nd rfl (Or.inl rfl)) (pss_one (ps_expr (pe_bm PySem.F.plainAttrs_list PySem.F.slot_list_append PySem.F.type_list_append mt_append (pv 3) (pa_cons (pe_bm PySem.F.plainAttrs_list PySem.F.slot_list_pop PySem.F.type_list_pop mt_popAt (pv 2) (pa_cons (pe_callE (ok__law_draw C) (hr.mono (by decide)) (g__law_draw C) pass0 (pa_cons (pv 0) (pa_cons (pe_callB lenU (by rfl) (n_len C) (by decide +kernel) (pa_cons (pv 2) pa_nil)) pa_nil))) pa_nil)) pa_nil)))))
    (pss_one (ps_ret (pv 3)))))))
theorem sc__law_some : FnScope ["_law_pool_here", "_law_things"] ["_law_pool_here", "_law_things"] (defScope s__law_some) := ⟨rfl, rfl, rfl, by decide +kernel, rfl, by decide +kernel, by decide +kernel⟩
theorem ok__law_some (C : Cxt P w K mg base) : FnEx P w K mg base CX0 2 (He.fAd K ("_law_some", none)) ["_law_pool_here", "_law_things"] (sp__law_some K w) :=
  fnEx (C.c.d.def_ 34 (d := d__law_some) rfl) rfl rfl sc__law_some rfl (fun _ _ _ _ _ _ us hl => match us, hl with | [_, _], _ => rfl) fun cdv A outer s H E hr => PSs.nox (
    (pss_one (ps_ret (pe_ix (ixU (hu1 hr)) (pv 1) (pe_callE (ok__law_draw C) (hr.mono (by decide)) (g__law_draw C) pass0 (pa_cons (pv 0) (pa_cons (pe_callB lenU (by rfl) (n_len C) (by decide +kernel) (pa_cons (pv 1) pa_nil)) pa_nil))) (fun _ _ => rfl)))))
theorem sc__law_begun : FnScope [] [] (defScope s__law_begun) := ⟨rfl, rfl, rfl, by decide +kernel, rfl, by decide +kernel, by decide +kernel⟩
theorem ok__law_begun (C : Cxt P w K mg base) : FnEx P w K mg base CX0 1 (He.fAd K ("_law_begun", none)) [] (sp__law_begun K w) :=
  fnEx (C.c.d.def_ 35 (d := d__law_begun) rfl) rfl rfl sc__law_begun rfl (fun _ _ _ _ _ _ us hl => match us, hl with | [], _ => rfl) fun cdv A outer s H E hr => PSs.nox (
    (pss_one (ps_ret (pe_disp (pps_cons pe_str pe_int (pps_cons pe_str pe_bl (pps_cons pe_str (pe_op mulU (pe_lst (pa_cons pe_int pa_nil)) pe_int) (pps_cons pe_str (pe_lst pa_nil) (pps_cons pe_str (pe_lst pa_nil) (pps_cons pe_str (pe_lst pa_nil) (pps_cons pe_str (pe_lst pa_nil) (pps_cons pe_str (pe_lst pa_nil) (pps_cons pe_str (pe_lst pa_nil) pps_nil))))))))) (by rfl) (by rfl) (fun z => by cases z) (by decide)))))
theorem sc__law_sort : FnScope ["_law_value_here"] ["_law_value_here"] (defScope s__law_sort) := ⟨rfl, rfl, rfl, by decide +kernel, rfl, by decide +kernel, by decide +kernel⟩
theorem ok__law_sort (C : Cxt P w K mg base) : FnEx P w K mg base CX0 1 (He.fAd K ("_law_sort", none)) ["_law_value_here"] (sp__law_sort K w) :=
  fnEx (C.c.d.def_ 36 (d := d__law_sort) rfl) rfl rfl sc__law_sort rfl (fun _ _ _ _ _ _ us hl => match us, hl with | [_], _ => rfl) fun cdv A outer s H E hr => PSs.nox (
    (pss_one (ps_ret (pe_ifExp (pt_truth (pe_callB isinU (by rfl) (n_isinstance C) (by decide +kernel) (pa_cons (pv 0) (pa_cons (pe_bltn (by rfl) (n_tuple C) (by decide +kernel) rfl) pa_nil))) (fun _ => rfl)) (pe_ix (ixU (hu1 hr)) (pv 0) pe_int (fun _ _ => rfl)) pe_str))))
theorem sc__law_new_kind : FnScope ["_law_state", "_law_parents", "_law_many", "_law_number", "_law_here", "_law_parent"] ["_law_state", "_law_parents", "_law_many"] (defScope s__law_new_kind) := ⟨rfl, rfl, rfl, by decide +kernel, rfl, by decide +kernel, by decide +kernel⟩
theorem ok__law_new_kind (C : Cxt P w K mg base) : FnEx P w K mg base CX0 1 (He.fAd K ("_law_new_kind", none)) ["_law_state", "_law_parents", "_law_many"] (sp__law_new_kind K w) :=
  fnEx (C.c.d.def_ 37 (d := d__law_new_kind) rfl) rfl rfl sc__law_new_kind rfl (fun _ _ _ _ _ _ us hl => match us, hl with | [_, _, _], _ => rfl) fun cdv A outer s H E hr => PSs.nox (
    (pss_cons (ps_if (pt_cmpR (eqU hr.units) (pe_callB lenU (by rfl) (n_len C) (by decide +kernel) (pa_cons (pe_ix (ixU (hu1 hr)) (pv 0) pe_str (fun _ _ => rfl)) pa_nil)) pe_int (nomark _)) (pss_one (ps_ret pe_non)) pss_nil)
    (pss_cons (ps_set (i := 3) sc__law_new_kind.nd rfl (Or.inl rfl) (pe_callB lenU (by rfl) (n_len C) (by decide +kernel) (pa_cons (pe_ix (ixU (hu1 hr)) (pv 0) pe_str (fun _ _ => rfl)) pa_nil)))
    (pss_cons (ps_set (i := 4) sc__law_new_kind.nd rfl (Or.inl rfl) (pe_disp (pps_cons (pv 3) pe_bl pps_nil) (by rfl) (by rfl) (fun z => by cases z) (by decide)))
    (pss_cons (ps_for PassesOwn.never rfl (pi_seqU (pv 1)) (pg_name (i := 5) sc__law_new_kind.nd rfl (Or.inl rfl)) (pss_one (ps_expr (pe_bm PySem.F.plainAttrs_dict PySem.F.slot_dict_update PySem.F.type_dict_update mt_updK (pv 4) (pa_cons (pe_ix (ixU (hu1 hr)) (pe_ix (ixU (hu1 hr)) (pv 0) pe_str (fun _ _ => rfl)) (pv 5) (fun _ _ => rfl)) pa_nil)))))
    (pss_cons (ps_expr (pe_bm PySem.F.plainAttrs_list PySem.F.slot_list_append PySem.F.type_list_append mt_append (pe_ix (ixU (hu1 hr)) (pv 0) pe_str (fun _ _ => rfl)) (pa_cons (pv 1) pa_nil)))
    (pss_cons (ps_expr (pe_bm PySem.F.plainAttrs_list PySem.F.slot_list_append PySem.F.type_list_append mt_append (pe_ix (ixU (hu1 hr)) (pv 0) pe_str (fun _ _ => rfl)) (pa_cons (pv 2) pa_nil)))
    (pss_cons (ps_expr (pe_bm PySem.F.plainAttrs_list PySem.F.slot_list_append PySem.F.type_list_append mt_append (pe_ix (ixU (hu1 hr)) (pv 0) pe_str (fun _ _ => rfl)) (pa_cons (pv 4) pa_nil)))
    (pss_one (ps_ret (pe_tup (pa_cons pe_str (pa_cons (pv 3) pa_nil)))))))))))))
theorem sc__law_loaded : FnScope ["_law_state", "_law_some_here", "_law_many", "_law_values", "_law_numbers", "_law_place", "_law_value_here"] ["_law_state", "_law_some_here", "_law_many"] (defScope s__law_loaded) := ⟨rfl, rfl, rfl, by decide +kernel, rfl, by decide +kernel, by decide +kernel⟩
theorem ok__law_loaded (C : Cxt P w K mg base) : FnEx P w K mg base CX0 2 (He.fAd K ("_law_loaded", none)) ["_law_state", "_law_some_here", "_law_many"] (sp__law_loaded K w) :=
  fnEx (C.c.d.def_ 38 (d := d__law_loaded) rfl) rfl rfl sc__law_loaded rfl (fun _ _ _ _ _ _ us hl => match us, hl with | [_, _, _], _ => rfl) fun cdv A outer s H E hr => PSs.nox (
    (pss_cons (ps_setLc (i := 3) (own := [("_law_place", 5)]) rfl sc__law_loaded.nd rfl rfl (sw_true rfl rfl rfl (by decide +kernel)) (pi_seqU (pv 1)) (blkOk_by (own := [("_law_place", 5)]) (N := ["_law_state", "_law_some_here", "_law_many", "_law_values", "_law_numbers", "_law_place", "_law_value_here"]) (sc := defScope s__law_loaded) (by decide +kernel)) (fun _ _ _ _ _ => (pg_name (i := 5) sc__law_loaded.nd rfl (Or.inl rfl))) (fun _ _ _ _ _ => pts_nil) (fun _ _ _ _ _ => (pe_ix (ixU (hu1 hr)) (pe_ix (ixU (hu1 hr)) (pv 0) pe_str (fun _ _ => rfl)) (pv 5) (fun _ _ => rfl))))
    (pss_cons (ps_if (pt_not (pt_truth (pe_callB (cr_all rfl) (by rfl) (n_all C) (by decide +kernel) (pa_cons (pe_lc (own := [("_law_value_here", 6)]) rfl sc__law_loaded.nd (pi_seqU (pv 3)) (blkOk_by (own := [("_law_value_here", 6)]) (N := ["_law_state", "_law_some_here", "_law_many", "_law_values", "_law_numbers", "_law_place", "_law_value_here"]) (sc := defScope s__law_loaded) (by decide +kernel)) (fun _ _ _ _ _ => (pg_name (i := 6) sc__law_loaded.nd rfl (Or.inl rfl))) (fun _ _ _ _ _ => pts_nil) (fun _ _ _ _ _ => (pe_cmpR (eqU hr.units) (pe_callE (ok__law_sort C) (hr.mono (by decide)) (g__law_sort C) pass0 (pa_cons (pv 6) pa_nil)) pe_str (nomark _)))) pa_nil)) (fun _ => rfl))) (pss_one (ps_ret pe_non)) pss_nil)
    (pss_cons (ps_set (i := 4) sc__law_loaded.nd rfl (Or.inl rfl) (pe_callB sortedU (by rfl) (n_sorted C) (by decide +kernel) (pa_cons (pe_lc (own := [("_law_value_here", 6)]) rfl sc__law_loaded.nd (pi_seqU (pv 3)) (blkOk_by (own := [("_law_value_here", 6)]) (N := ["_law_state", "_law_some_here", "_law_many", "_law_values", "_law_numbers", "_law_place", "_law_value_here"]) (sc := defScope s__law_loaded) (by decide +kernel)) (fun _ _ _ _ _ => (pg_name (i := 6) sc__law_loaded.nd rfl (Or.inl rfl))) (fun _ _ _ _ _ => pts_nil) (fun _ _ _ _ _ => (pe_ix (ixU (hu1 hr)) (pv 6) pe_int (fun _ _ => rfl)))) pa_nil)))
    (pss_cons (ps_if (pt_cmpR (ltU hr.units0) (pe_lenSet (by rfl) (n_len C) (by rfl) (n_set C) (pv 4)) (pe_callB lenU (by rfl) (n_len C) (by decide +kernel) (pa_cons (pv 4) pa_nil)) (nomark _)) (pss_one (ps_ret pe_non)) pss_nil)
    (pss_one (ps_ret (pe_callE (ok__law_new_kind C) (hr.mono (by decide)) (g__law_new_kind C) pass0 (pa_cons (pv 0) (pa_cons (pe_callTy tupU (by rfl) (n_tuple C) (by decide +kernel) (pa_cons (pv 4) pa_nil)) (pa_cons (pv 2) pa_nil)))))))))))
theorem sc__law_made : FnScope ["_law_state", "_law_value_here", "_law_cells", "_law_one", "_law_field"] ["_law_state", "_law_value_here"] (defScope s__law_made) := ⟨rfl, rfl, rfl, by decide +kernel, rfl, by decide +kernel, by decide +kernel⟩
theorem ok__law_made (C : Cxt P w K mg base) : FnEx P w K mg base CX0 2 (He.fAd K ("_law_made", none)) ["_law_state", "_law_value_here"] (sp__law_made K w) :=
  fnEx (C.c.d.def_ 39 (d := d__law_made) rfl) rfl rfl sc__law_made rfl (fun _ _ _ _ _ _ us hl => match us, hl with | [_, _], _ => rfl) fun cdv A outer s H E hr => PSs.nox (
    (pss_cons (ps_if (PW.pt (pw_or (pt_cmpR (neU hr.units) (pe_callE (ok__law_sort C) (hr.mono (by decide)) (g__law_sort C) pass0 (pa_cons (pv 1) pa_nil)) pe_str (nomark _)) (pw_or1 (pt_cmpR (eqU hr.units) (pe_callB lenU (by rfl) (n_len C) (by decide +kernel) (pa_cons (pe_ix (ixU (hu1 hr)) (pv 0) pe_str (fun _ _ => rfl)) pa_nil)) pe_int (nomark _))))) (pss_one (ps_ret pe_non)) pss_nil)
    (pss_cons (ps_set (i := 2) sc__law_made.nd rfl (Or.inl rfl) (PEor pe_dnewK pe_dnewT))
    (pss_cons (ps_lock (ps_for PassesOwn.never rfl (pi_keys (pe_ix (ixU (hu1 hr)) (pe_ix (ixU (hu1 hr)) (pv 0) pe_str (fun _ _ => rfl)) (pe_ix (ixU (hu1 hr)) (pv 1) pe_int (fun _ _ => rfl)) (fun _ _ => rfl))) (pg_name (i := 3) sc__law_made.nd rfl (Or.inl rfl)) (pss_one (ps_for PassesOwn.never rfl (pi_range1 rfl (n_range C) (pa_cons (pe_ix (ixU (hu1 hr)) (pe_ix (ixU (hu1 hr)) (pv 0) pe_str (fun _ _ => rfl)) (pv 3) (fun _ _ => rfl)) pa_nil)) (pg_name (i := 4) sc__law_made.nd rfl (Or.inl rfl)) (pss_one (ps_asg pe_int (pg_sub (pv 2) (pe_tup (pa_cons (pv 3) (pa_cons (pv 4) pa_nil))) (setU (hu1 hr)))))))))
    (pss_cons (ps_expr (pe_bm PySem.F.plainAttrs_list PySem.F.slot_list_append PySem.F.type_list_append mt_append (pe_ix (ixU (hu1 hr)) (pv 0) pe_str (fun _ _ => rfl)) (pa_cons (pe_ix (ixU (hu1 hr)) (pv 1) pe_int (fun _ _ => rfl)) pa_nil)))
    (pss_cons (ps_expr (pe_bm PySem.F.plainAttrs_list PySem.F.slot_list_append PySem.F.type_list_append mt_append (pe_ix (ixU (hu1 hr)) (pv 0) pe_str (fun _ _ => rfl)) (pa_cons (pv 2) pa_nil)))
    (pss_one (ps_ret (pe_tup (pa_cons pe_str (pa_cons (pe_op subU (pe_callB lenU (by rfl) (n_len C) (by decide +kernel) (pa_cons (pe_ix (ixU (hu1 hr)) (pv 0) pe_str (fun _ _ => rfl)) pa_nil)) pe_int) pa_nil)))))))))))
theorem sc__law_spot : FnScope ["_law_state", "_law_one", "_law_other", "_law_field", "_law_spot_here"] ["_law_state", "_law_one", "_law_other", "_law_field"] (defScope s__law_spot) := ⟨rfl, rfl, rfl, by decide +kernel, rfl, by decide +kernel, by decide +kernel⟩
theorem ok__law_spot (C : Cxt P w K mg base) : FnEx P w K mg base CX0 2 (He.fAd K ("_law_spot", none)) ["_law_state", "_law_one", "_law_other", "_law_field"] (sp__law_spot K w) :=
  fnEx (C.c.d.def_ 40 (d := d__law_spot) rfl) rfl rfl sc__law_spot rfl (fun _ _ _ _ _ _ us hl => match us, hl with | [_, _, _, _], _ => rfl) fun cdv A outer s H E hr => PSs.nox (
    (pss_cons (ps_if (PW.pt (pw_or (pt_cmpR (neU hr.units) (pe_callE (ok__law_sort C) (hr.mono (by decide)) (g__law_sort C) pass0 (pa_cons (pv 1) pa_nil)) pe_str (nomark _)) (pw_or1 (pt_cmpR (neU hr.units) (pe_callE (ok__law_sort C) (hr.mono (by decide)) (g__law_sort C) pass0 (pa_cons (pv 2) pa_nil)) pe_str (nomark _))))) (pss_one (ps_ret pe_non)) pss_nil)
    (pss_cons (ps_set (i := 4) sc__law_spot.nd rfl (Or.inl rfl) (pe_tup (pa_cons (pe_ix (ixU (hu1 hr)) (pv 2) pe_int (fun _ _ => rfl)) (pa_cons (pv 3) pa_nil))))
    (pss_one (ps_ret (pe_ifExp (pt_cmpR (inU (hu65 hr)) (pv 4) (pe_ix (ixU (hu1 hr)) (pe_ix (ixU (hu1 hr)) (pv 0) pe_str (fun _ _ => rfl)) (pe_ix (ixU (hu1 hr)) (pv 1) pe_int (fun _ _ => rfl)) (fun _ _ => rfl)) (by with_unfolding_all rfl)) (pe_tup (pa_cons (pe_ix (ixU (hu1 hr)) (pv 1) pe_int (fun _ _ => rfl)) (pa_cons (pv 4) pa_nil))) pe_non))))))
theorem sc__law_value : FnScope ["_law_state", "_law_row_here", "_law_held", "_law_value_here", "_law_one", "_law_other", "_law_spot_here"] ["_law_state", "_law_row_here"] (defScope s__law_value) := ⟨rfl, rfl, rfl, by decide +kernel, rfl, by decide +kernel, by decide +kernel⟩
theorem ok__law_value (C : Cxt P w K mg base) : FnEx P w K mg base CX0 3 (He.fAd K ("_law_value", none)) ["_law_state", "_law_row_here"] (sp__law_value K w) :=
  fnEx (C.c.d.def_ 41 (d := d__law_value) rfl) rfl rfl sc__law_value rfl (fun _ _ _ _ _ _ us hl => match us, hl with | [_, _], _ => rfl) fun cdv A outer s H E hr => PSs.nox (
    (pss_cons (ps_set (i := 2) sc__law_value.nd rfl (Or.inl rfl) (pe_ix (ixU (hu1 hr)) (pv 0) pe_str (fun _ _ => rfl)))
    (pss_cons (ps_if (pt_cmpR (eqU hr.units) (pe_ix (ixU (hu1 hr)) (pv 1) pe_int (fun _ _ => rfl)) pe_str (nomark _)) (pss_one (ps_ret (pe_ix (ixU (hu1 hr)) (pv 1) pe_int (fun _ _ => rfl)))) pss_nil)
    (pss_cons (ps_if (pt_cmpR (eqU hr.units) (pe_ix (ixU (hu1 hr)) (pv 1) pe_int (fun _ _ => rfl)) pe_str (nomark _)) (pss_one (ps_ret (pe_ix (ixU (hu1 hr)) (pv 2) (pe_ix (ixU (hu1 hr)) (pv 1) pe_int (fun _ _ => rfl)) (fun _ _ => rfl)))) pss_nil)
    (pss_cons (ps_if (pt_cmpR (eqU hr.units) (pe_ix (ixU (hu1 hr)) (pv 1) pe_int (fun _ _ => rfl)) pe_str (nomark _)) (pss_one (ps_ret (pe_callE (ok__law_loaded C) (hr.mono (by decide)) (g__law_loaded C) pass0 (pa_cons (pv 0) (pa_cons (pe_ix (ixU (hu1 hr)) (pv 1) pe_int (fun _ _ => rfl)) (pa_cons (pe_ix (ixU (hu1 hr)) (pv 1) pe_int (fun _ _ => rfl)) pa_nil)))))) pss_nil)
    (pss_cons (ps_if (pt_cmpR (eqU hr.units) (pe_ix (ixU (hu1 hr)) (pv 1) pe_int (fun _ _ => rfl)) pe_str (nomark _)) (pss_one (ps_ret (pe_callE (ok__law_made C) (hr.mono (by decide)) (g__law_made C) pass0 (pa_cons (pv 0) (pa_cons (pe_ix (ixU (hu1 hr)) (pv 2) (pe_ix (ixU (hu1 hr)) (pv 1) pe_int (fun _ _ => rfl)) (fun _ _ => rfl)) pa_nil))))) pss_nil)
    (pss_cons (ps_if (pt_cmpR (eqU hr.units) (pe_ix (ixU (hu1 hr)) (pv 1) pe_int (fun _ _ => rfl)) pe_str (nomark _)) (pss_cons (ps_set (i := 3) sc__law_value.nd rfl (Or.inl rfl) (pe_ix (ixU (hu1 hr)) (pv 2) (pe_ix (ixU (hu1 hr)) (pv 1) pe_int (fun _ _ => rfl)) (fun _ _ => rfl)))
    (pss_one (ps_ret (pe_ifExp (pt_cmpR (eqU hr.units) (pe_callE (ok__law_sort C) (hr.mono (by decide)) (g__law_sort C) pass0 (pa_cons (pv 3) pa_nil)) pe_str (nomark _)) (pe_tup (pa_cons pe_str (pa_cons (pe_ix (ixU (hu1 hr)) (pe_ix (ixU (hu1 hr)) (pv 0) pe_str (fun _ _ => rfl)) (pe_ix (ixU (hu1 hr)) (pv 3) pe_int (fun _ _ => rfl)) (fun _ _ => rfl)) pa_nil))) pe_non)))) pss_nil)
    (pss_cons (ps_if (pt_cmpR (eqU hr.units) (pe_ix (ixU (hu1 hr)) (pv 1) pe_int (fun _ _ => rfl)) pe_str (nomark _)) (pss_cons (ps_par (i := 4) (j := 5) rfl sc__law_value.nd rfl rfl (by decide) rfl rfl (pa_cons (pe_ix (ixU (hu1 hr)) (pv 2) (pe_ix (ixU (hu1 hr)) (pv 1) pe_int (fun _ _ => rfl)) (fun _ _ => rfl)) (pa_cons (pe_ix (ixU (hu1 hr)) (pv 2) (pe_ix (ixU (hu1 hr)) (pv 1) pe_int (fun _ _ => rfl)) (fun _ _ => rfl)) pa_nil)) (by with_unfolding_all rfl))
    (pss_cons (ps_if (PW.pt (pw_or (pt_cmpR (neU hr.units) (pe_callE (ok__law_sort C) (hr.mono (by decide)) (g__law_sort C) pass0 (pa_cons (pv 4) pa_nil)) pe_str (nomark _)) (pw_or (pt_cmpR (neU hr.units) (pe_callE (ok__law_sort C) (hr.mono (by decide)) (g__law_sort C) pass0 (pa_cons (pv 5) pa_nil)) pe_str (nomark _)) (pw_or1 (pt_cmpR gtU (pe_callB absU (by rfl) (n_abs C) (by decide +kernel) (pa_cons (pe_op addU (pv 4) (pv 5)) pa_nil)) (pe_op powU pe_int pe_int) (nomark _)))))) (pss_one (ps_ret pe_non)) pss_nil)
    (pss_one (ps_ret (pe_op addU (pv 4) (pv 5)))))) pss_nil)
    (pss_cons (ps_set (i := 6) sc__law_value.nd rfl (Or.inl rfl) (pe_callE (ok__law_spot C) (hr.mono (by decide)) (g__law_spot C) pass0 (pa_cons (pv 0) (pa_cons (pe_ix (ixU (hu1 hr)) (pv 2) (pe_ix (ixU (hu1 hr)) (pv 1) pe_int (fun _ _ => rfl)) (fun _ _ => rfl)) (pa_cons (pe_ix (ixU (hu1 hr)) (pv 2) (pe_ix (ixU (hu1 hr)) (pv 1) pe_int (fun _ _ => rfl)) (fun _ _ => rfl)) (pa_cons (pe_ix (ixU (hu1 hr)) (pv 1) pe_int (fun _ _ => rfl)) pa_nil))))))
    (pss_one (ps_ret (pe_ifExp (pt_cmpR isU (pv 6) pe_non (nomark _)) pe_non (pe_ix (ixU (hu1 hr)) (pe_ix (ixU (hu1 hr)) (pe_ix (ixU (hu1 hr)) (pv 0) pe_str (fun _ _ => rfl)) (pe_ix (ixU (hu1 hr)) (pv 6) pe_int (fun _ _ => rfl)) (fun _ _ => rfl)) (pe_ix (ixU (hu1 hr)) (pv 6) pe_int (fun _ _ => rfl)) (fun _ _ => rfl))))))))))))))
theorem sc__law_goes : FnScope ["_law_state", "_law_row_here", "_law_one", "_law_other"] ["_law_state", "_law_row_here"] (defScope s__law_goes) := ⟨rfl, rfl, rfl, by decide +kernel, rfl, by decide +kernel, by decide +kernel⟩
theorem ok__law_goes (C : Cxt P w K mg base) : FnEx P w K mg base CX0 2 (He.fAd K ("_law_goes", none)) ["_law_state", "_law_row_here"] (sp__law_goes K w) :=
  fnEx (C.c.d.def_ 42 (d := d__law_goes) rfl) rfl rfl sc__law_goes rfl (fun _ _ _ _ _ _ us hl => match us, hl with | [_, _], _ => rfl) fun cdv A outer s H E hr => PSs.nox (
    (pss_cons (ps_par (i := 2) (j := 3) rfl sc__law_goes.nd rfl rfl (by decide) rfl rfl (pa_cons (pe_ix (ixU (hu1 hr)) (pe_ix (ixU (hu1 hr)) (pv 0) pe_str (fun _ _ => rfl)) (pe_ix (ixU (hu1 hr)) (pv 1) pe_int (fun _ _ => rfl)) (fun _ _ => rfl)) (pa_cons (pe_ix (ixU (hu1 hr)) (pe_ix (ixU (hu1 hr)) (pv 0) pe_str (fun _ _ => rfl)) (pe_ix (ixU (hu1 hr)) (pv 1) pe_int (fun _ _ => rfl)) (fun _ _ => rfl)) pa_nil)) (by with_unfolding_all rfl))
    (pss_cons (ps_if (pt_cmpR (eqU hr.units) (pe_ix (ixU (hu1 hr)) (pv 1) pe_int (fun _ _ => rfl)) pe_str (nomark _)) (pss_cons (ps_if (PW.pt (pw_or (pt_cmpR (neU hr.units) (pe_callE (ok__law_sort C) (hr.mono (by decide)) (g__law_sort C) pass0 (pa_cons (pv 2) pa_nil)) pe_str (nomark _)) (pw_or1 (pt_cmpR (neU hr.units) (pe_callE (ok__law_sort C) (hr.mono (by decide)) (g__law_sort C) pass0 (pa_cons (pv 3) pa_nil)) pe_str (nomark _))))) (pss_one (ps_ret pe_non)) pss_nil)
    (pss_one (ps_ret (pe_cmpR (ltU hr.units0) (pv 2) (pv 3) (nomark _))))) pss_nil)
    (pss_cons (ps_if (PW.pt (pw_or (pt_cmpR (neU hr.units) (pe_callE (ok__law_sort C) (hr.mono (by decide)) (g__law_sort C) pass0 (pa_cons (pv 2) pa_nil)) pe_str (nomark _)) (pw_or1 (pt_cmpR (neU hr.units) (pe_callE (ok__law_sort C) (hr.mono (by decide)) (g__law_sort C) pass0 (pa_cons (pv 3) pa_nil)) pe_str (nomark _))))) (pss_one (ps_ret pe_non)) pss_nil)
    (pss_one (ps_ret (pe_cmpR (inU (hu65 hr)) (pe_ix (ixU (hu1 hr)) (pv 3) pe_int (fun _ _ => rfl)) (pe_ix (ixU (hu1 hr)) (pe_ix (ixU (hu1 hr)) (pv 0) pe_str (fun _ _ => rfl)) (pe_ix (ixU (hu1 hr)) (pe_ix (ixU (hu1 hr)) (pv 0) pe_str (fun _ _ => rfl)) (pe_ix (ixU (hu1 hr)) (pv 2) pe_int (fun _ _ => rfl)) (fun _ _ => rfl)) (fun _ _ => rfl)) (by with_unfolding_all rfl))))))))
theorem sc__law_step : FnScope ["_law_program_here", "_law_state", "_law_row_here", "_law_held", "_law_later", "_law_answer", "_law_spot_here", "_law_value_here"] ["_law_program_here", "_law_state"] (defScope s__law_step) := ⟨rfl, rfl, rfl, by decide +kernel, rfl, by decide +kernel, by decide +kernel⟩
theorem ok__law_step (C : Cxt P w K mg base) : FnEx P w K mg base CX0 4 (He.fAd K ("_law_step", none)) ["_law_program_here", "_law_state"] (sp__law_step K w) :=
  fnEx (C.c.d.def_ 43 (d := d__law_step) rfl) rfl rfl sc__law_step rfl (fun _ _ _ _ _ _ us hl => match us, hl with | [_, _], _ => rfl) fun cdv A outer s H E hr => PSs.nox (
    (pss_cons (ps_if (PW.pt (pw_or (pt_truth (pe_ix (ixU (hu1 hr)) (pv 1) pe_str (fun _ _ => rfl)) (fun _ => rfl)) (pw_or1 (pt_cmpR (eqU hr.units) (pe_ix (ixU (hu1 hr)) (pv 1) pe_str (fun _ _ => rfl)) (pe_callB lenU (by rfl) (n_len C) (by decide +kernel) (pa_cons (pv 0) pa_nil)) (nomark _))))) (pss_one (ps_ret pe_bl)) pss_nil)
    (pss_cons (ps_set (i := 2) sc__law_step.nd rfl (Or.inl rfl) (pe_ix (ixU (hu1 hr)) (pv 0) (pe_ix (ixU (hu1 hr)) (pv 1) pe_str (fun _ _ => rfl)) (fun _ _ => rfl)))
    (pss_cons (ps_set (i := 3) sc__law_step.nd rfl (Or.inl rfl) (pe_ix (ixU (hu1 hr)) (pv 1) pe_str (fun _ _ => rfl)))
    (pss_cons (ps_set (i := 4) sc__law_step.nd rfl (Or.inl rfl) (pe_op addU (pe_ix (ixU (hu1 hr)) (pv 1) pe_str (fun _ _ => rfl)) pe_int))
    (pss_cons (ps_if (pt_cmpR (eqU hr.units) (pe_ix (ixU (hu1 hr)) (pv 2) pe_int (fun _ _ => rfl)) pe_str (nomark _)) (pss_one (ps_set (i := 4) sc__law_step.nd rfl (Or.inl rfl) (pe_ix (ixU (hu1 hr)) (pv 2) pe_int (fun _ _ => rfl)))) (pss_one (ps_if (pt_cmpR (inU (hu65 hr)) (pe_ix (ixU (hu1 hr)) (pv 2) pe_int (fun _ _ => rfl)) (pe_lst (pa_cons pe_str (pa_cons pe_str pa_nil))) (by with_unfolding_all rfl)) (pss_cons (ps_set (i := 5) sc__law_step.nd rfl (Or.inl rfl) (pe_callE (ok__law_goes C) (hr.mono (by decide)) (g__law_goes C) pass0 (pa_cons (pv 1) (pa_cons (pv 2) pa_nil))))
    (pss_one (ps_set (i := 4) sc__law_step.nd rfl (Or.inl rfl) (pe_ifExp (pt_cmpR isU (pv 5) pe_non (nomark _)) pe_non (pe_ifExp (pt_truth (pv 5) (fun _ => rfl)) (pe_ix (ixU (hu1 hr)) (pv 2) pe_int (fun _ _ => rfl)) (pv 4)))))) (pss_one (ps_if (pt_cmpR (eqU hr.units) (pe_ix (ixU (hu1 hr)) (pv 2) pe_int (fun _ _ => rfl)) pe_str (nomark _)) (pss_one (ps_expr (pe_bm PySem.F.plainAttrs_list PySem.F.slot_list_append PySem.F.type_list_append mt_append (pe_ix (ixU (hu1 hr)) (pv 1) pe_str (fun _ _ => rfl)) (pa_cons (pe_ix (ixU (hu1 hr)) (pv 3) (pe_ix (ixU (hu1 hr)) (pv 2) pe_int (fun _ _ => rfl)) (fun _ _ => rfl)) pa_nil)))) (pss_one (ps_if (pt_cmpR (eqU hr.units) (pe_ix (ixU (hu1 hr)) (pv 2) pe_int (fun _ _ => rfl)) pe_str (nomark _)) (pss_cons (ps_set (i := 6) sc__law_step.nd rfl (Or.inl rfl) (pe_callE (ok__law_spot C) (hr.mono (by decide)) (g__law_spot C) pass0 (pa_cons (pv 1) (pa_cons (pe_ix (ixU (hu1 hr)) (pv 3) (pe_ix (ixU (hu1 hr)) (pv 2) pe_int (fun _ _ => rfl)) (fun _ _ => rfl)) (pa_cons (pe_ix (ixU (hu1 hr)) (pv 3) (pe_ix (ixU (hu1 hr)) (pv 2) pe_int (fun _ _ => rfl)) (fun _ _ => rfl)) (pa_cons (pe_ix (ixU (hu1 hr)) (pv 2) pe_int (fun _ _ => rfl)) pa_nil))))))
    (pss_one (ps_if (pt_cmpR isU (pv 6) pe_non (nomark _)) (pss_one (ps_set (i := 4) sc__law_step.nd rfl (Or.inl rfl) pe_non)) (pss_one (ps_asg (pe_ix (ixU (hu1 hr)) (pv 3) (pe_ix (ixU (hu1 hr)) (pv 2) pe_int (fun _ _ => rfl)) (fun _ _ => rfl)) (pg_sub (pe_ix (ixU (hu1 hr)) (pe_ix (ixU (hu1 hr)) (pv 1) pe_str (fun _ _ => rfl)) (pe_ix (ixU (hu1 hr)) (pv 6) pe_int (fun _ _ => rfl)) (fun _ _ => rfl)) (pe_ix (ixU (hu1 hr)) (pv 6) pe_int (fun _ _ => rfl)) (setU (hu1 hr)))))))) (pss_cons (ps_set (i := 7) sc__law_step.nd rfl (Or.inl rfl) (pe_callE (ok__law_value C) (hr.mono (by decide)) (g__law_value C) pass0 (pa_cons (pv 1) (pa_cons (pv 2) pa_nil))))
    (pss_one (ps_if (pt_cmpR isU (pv 7) pe_non (nomark _)) (pss_one (ps_set (i := 4) sc__law_step.nd rfl (Or.inl rfl) pe_non)) (pss_one (ps_asg (pv 7) (pg_sub (pv 3) (pe_ix (ixU (hu1 hr)) (pv 2) pe_int (fun _ _ => rfl)) (setU (hu1 hr)))))))))))))))
    (pss_cons (ps_if (pt_cmpR isU (pv 4) pe_non (nomark _)) (pss_one (ps_asg pe_bl (pg_sub (pv 1) pe_str (setU (hu1 hr))))) (pss_one (ps_asg (pv 4) (pg_sub (pv 1) pe_str (setU (hu1 hr))))))
    (pss_one (ps_ret pe_bl)))))))))
theorem sc__law_run : FnScope ["_law_program_here", "_law_most", "_law_state", "_law_many"] ["_law_program_here", "_law_most"] (defScope s__law_run) := ⟨rfl, rfl, rfl, by decide +kernel, rfl, by decide +kernel, by decide +kernel⟩
theorem ok__law_run (C : Cxt P w K mg base) : FnEx P w K mg base CX0 5 (He.fAd K ("_law_run", none)) ["_law_program_here", "_law_most"] (sp__law_run K w) :=
  fnEx (C.c.d.def_ 44 (d := d__law_run) rfl) rfl rfl sc__law_run rfl (fun _ _ _ _ _ _ us hl => match us, hl with | [_, _], _ => rfl) fun cdv A outer s H E hr => PSs.nox (
    (pss_cons (ps_set (i := 2) sc__law_run.nd rfl (Or.inl rfl) (pe_callE0 (ok__law_begun C) (hr.mono (by decide)) (g__law_begun C) pass0))
    (pss_cons (ps_set (i := 3) sc__law_run.nd rfl (Or.inl rfl) pe_int)
    (pss_cons (ps_while PassesOwn.never (PW.pt (pw_and (pt_cmpR (ltU hr.units0) (pv 3) (pv 1) (nomark _)) (pw_and (pt_not (pt_truth (pe_ix (ixU (hu1 hr)) (pv 2) pe_str (fun _ _ => rfl)) (fun _ => rfl))) (pw_and1 (pt_cmpR (ltU hr.units0) (pe_ix (ixU (hu1 hr)) (pv 2) pe_str (fun _ _ => rfl)) (pe_callB lenU (by rfl) (n_len C) (by decide +kernel) (pa_cons (pv 0) pa_nil)) (nomark _)))))) (pss_cons (ps_expr (pe_callE (ok__law_step C) (hr.mono (by decide)) (g__law_step C) pass0 (pa_cons (pv 0) (pa_cons (pv 2) pa_nil))))
    (pss_one (ps_set (i := 3) sc__law_run.nd rfl (Or.inl rfl) (pe_op addU (pv 3) pe_int)))))
    (pss_one (ps_ret (pv 2)))))))
theorem sc__law_end : FnScope ["_law_program_here", "_law_state", "_law_word"] ["_law_program_here", "_law_state", "_law_word"] (defScope s__law_end) := ⟨rfl, rfl, rfl, by decide +kernel, rfl, by decide +kernel, by decide +kernel⟩
theorem ok__law_end (C : Cxt P w K mg base) : FnEx P w K mg base CX0 1 (He.fAd K ("_law_end", none)) ["_law_program_here", "_law_state", "_law_word"] (sp__law_end K w) :=
  fnEx (C.c.d.def_ 45 (d := d__law_end) rfl) rfl rfl sc__law_end rfl (fun _ _ _ _ _ _ us hl => match us, hl with | [_, _, _], _ => rfl) fun cdv A outer s H E hr => PSs.nox (
    (pss_cons (ps_if (pt_truth (pe_ix (ixU (hu1 hr)) (pv 1) pe_str (fun _ _ => rfl)) (fun _ => rfl)) (pss_one (ps_ret (pe_tup (pa_cons pe_str (pa_cons (pe_ix (ixU (hu1 hr)) (pv 1) pe_str (fun _ _ => rfl)) pa_nil))))) pss_nil)
    (pss_one (ps_ret (pe_ifExp (pt_cmpR (eqU hr.units) (pe_ix (ixU (hu1 hr)) (pv 1) pe_str (fun _ _ => rfl)) (pe_callB lenU (by rfl) (n_len C) (by decide +kernel) (pa_cons (pv 0) pa_nil)) (nomark _)) (pe_tup (pa_cons pe_str pa_nil)) (pe_tup (pa_cons (pv 2) (pa_cons (pe_ix (ixU (hu1 hr)) (pv 1) pe_str (fun _ _ => rfl)) pa_nil))))))))
theorem sc__law_from : FnScope ["_law_pool_here", "_law_some_here"] ["_law_pool_here", "_law_some_here"] (defScope s__law_from) := ⟨rfl, rfl, rfl, by decide +kernel, rfl, by decide +kernel, by decide +kernel⟩
theorem ok__law_from (C : Cxt P w K mg base) : FnEx P w K mg base CX0 3 (He.fAd K ("_law_from", none)) ["_law_pool_here", "_law_some_here"] (sp__law_from K w) :=
  fnEx (C.c.d.def_ 46 (d := d__law_from) rfl) rfl rfl sc__law_from rfl (fun _ _ _ _ _ _ us hl => match us, hl with | [_, _], _ => rfl) fun cdv A outer s H E hr => PSs.nox (
    (pss_one (ps_ret (pe_ifExp (pt_cmpR (eqU hr.units) (pe_callE (ok__law_draw C) (hr.mono (by decide)) (g__law_draw C) pass0 (pa_cons (pv 0) (pa_cons pe_int pa_nil))) pe_int (nomark _)) (pe_callE (ok__law_draw C) (hr.mono (by decide)) (g__law_draw C) pass0 (pa_cons (pv 0) (pa_cons pe_int pa_nil))) (pe_callE (ok__law_some C) (hr.mono (by decide)) (g__law_some C) pass0 (pa_cons (pv 0) (pa_cons (pv 1) pa_nil)))))))
theorem sc__law_row : FnScope ["_law_pool_here", "_law_many", "_law_numbers", "_law_kinds", "_law_objects", "_law_word", "_law_some_here", "_law_any_one"] ["_law_pool_here", "_law_many"] (defScope s__law_row) := ⟨rfl, rfl, rfl, by decide +kernel, rfl, by decide +kernel, by decide +kernel⟩
theorem ok__law_row (C : Cxt P w K mg base) : FnEx P w K mg base CX0 4 (He.fAd K ("_law_row", none)) ["_law_pool_here", "_law_many"] (sp__law_row K w) :=
  fnEx (C.c.d.def_ 47 (d := d__law_row) rfl) rfl rfl sc__law_row rfl (fun _ _ _ _ _ _ us hl => match us, hl with | [_, _], _ => rfl) fun cdv A outer s H E hr => PSs.nox (
    (pss_cons (ps_par3 (i := 2) (j := 3) (l := 4) rfl sc__law_row.nd rfl rfl rfl (by decide) (by decide) (by decide) rfl rfl rfl (pa_cons (pe_lst (pa_cons pe_int (pa_cons pe_int (pa_cons pe_int pa_nil)))) (pa_cons (pe_lst (pa_cons pe_int (pa_cons pe_int (pa_cons pe_int (pa_cons pe_int pa_nil))))) (pa_cons (pe_lst (pa_cons pe_int (pa_cons pe_int (pa_cons pe_int pa_nil)))) pa_nil))) (by with_unfolding_all rfl))
    (pss_cons (ps_set (i := 5) sc__law_row.nd rfl (Or.inl rfl) (pe_callE (ok__law_some C) (hr.mono (by decide)) (g__law_some C) pass0 (pa_cons (pv 0) (pa_cons (pe_lst (pa_cons pe_str (pa_cons pe_str (pa_cons pe_str (pa_cons pe_str (pa_cons pe_str (pa_cons pe_str (pa_cons pe_str (pa_cons pe_str (pa_cons pe_str (pa_cons pe_str (pa_cons pe_str pa_nil)))))))))))) pa_nil))))
    (pss_cons (ps_set (i := 5) sc__law_row.nd rfl (Or.inl rfl) (pe_callE (ok__law_some C) (hr.mono (by decide)) (g__law_some C) pass0 (pa_cons (pv 0) (pa_cons (pe_lst (pa_cons (pv 5) (pa_cons (pv 5) (pa_cons (pv 5) (pa_cons pe_str (pa_cons pe_str (pa_cons pe_str (pa_cons pe_str (pa_cons pe_str pa_nil))))))))) pa_nil))))
    (pss_cons (ps_if (pt_cmpR (eqU hr.units) (pv 5) pe_str (nomark _)) (pss_one (ps_ret (pe_tup (pa_cons pe_str (pa_cons (pe_callE (ok__law_from C) (hr.mono (by decide)) (g__law_from C) pass0 (pa_cons (pv 0) (pa_cons (pv 2) pa_nil))) (pa_cons (pe_op subU (pe_callE (ok__law_draw C) (hr.mono (by decide)) (g__law_draw C) pass0 (pa_cons (pv 0) (pa_cons pe_int pa_nil))) pe_int) pa_nil)))))) pss_nil)
    (pss_cons (ps_if (pt_cmpR (eqU hr.units) (pv 5) pe_str (nomark _)) (pss_cons (ps_set (i := 6) sc__law_row.nd rfl (Or.inl rfl) (pe_callE (ok__law_some C) (hr.mono (by decide)) (g__law_some C) pass0 (pa_cons (pv 0) (pa_cons (pe_lst (pa_cons (pv 2) (pa_cons (pv 3) (pa_cons (pv 4) pa_nil)))) pa_nil))))
    (pss_one (ps_ret (pe_tup (pa_cons pe_str (pa_cons (pe_callE (ok__law_from C) (hr.mono (by decide)) (g__law_from C) pass0 (pa_cons (pv 0) (pa_cons (pv 6) pa_nil))) (pa_cons (pe_callE (ok__law_from C) (hr.mono (by decide)) (g__law_from C) pass0 (pa_cons (pv 0) (pa_cons (pv 6) pa_nil))) pa_nil))))))) pss_nil)
    (pss_cons (ps_if (pt_cmpR (eqU hr.units) (pv 5) pe_str (nomark _)) (pss_one (ps_ret (pe_tup (pa_cons pe_str (pa_cons (pe_callE (ok__law_from C) (hr.mono (by decide)) (g__law_from C) pass0 (pa_cons (pv 0) (pa_cons (pv 2) pa_nil))) (pa_cons (pe_callE (ok__law_from C) (hr.mono (by decide)) (g__law_from C) pass0 (pa_cons (pv 0) (pa_cons (pv 2) pa_nil))) (pa_cons (pe_callE (ok__law_from C) (hr.mono (by decide)) (g__law_from C) pass0 (pa_cons (pv 0) (pa_cons (pv 2) pa_nil))) pa_nil))))))) pss_nil)
    (pss_cons (ps_if (pt_cmpR (eqU hr.units) (pv 5) pe_str (nomark _)) (pss_cons (ps_set (i := 6) sc__law_row.nd rfl (Or.inl rfl) (pe_callTy tupU (by rfl) (n_tuple C) (by decide +kernel) (pa_cons (pe_slice slU (pe_callE (ok__law_mixed C) (hr.mono (by decide)) (g__law_mixed C) pass0 (pa_cons (pv 0) (pa_cons (pv 3) pa_nil))) po_none (po_some (pe_callE (ok__law_some C) (hr.mono (by decide)) (g__law_some C) pass0 (pa_cons (pv 0) (pa_cons (pe_lst (pa_cons pe_int (pa_cons pe_int (pa_cons pe_int (pa_cons pe_int (pa_cons pe_int (pa_cons pe_int (pa_cons pe_int pa_nil)))))))) pa_nil))))) pa_nil)))
    (pss_one (ps_ret (pe_tup (pa_cons pe_str (pa_cons (pe_callE (ok__law_from C) (hr.mono (by decide)) (g__law_from C) pass0 (pa_cons (pv 0) (pa_cons (pv 3) pa_nil))) (pa_cons (pv 6) (pa_cons (pe_callE (ok__law_draw C) (hr.mono (by decide)) (g__law_draw C) pass0 (pa_cons (pv 0) (pa_cons pe_int pa_nil))) pa_nil)))))))) pss_nil)
    (pss_cons (ps_if (pt_cmpR (eqU hr.units) (pv 5) pe_str (nomark _)) (pss_one (ps_ret (pe_tup (pa_cons pe_str (pa_cons (pe_callE (ok__law_from C) (hr.mono (by decide)) (g__law_from C) pass0 (pa_cons (pv 0) (pa_cons (pv 4) pa_nil))) (pa_cons (pe_callE (ok__law_from C) (hr.mono (by decide)) (g__law_from C) pass0 (pa_cons (pv 0) (pa_cons (pv 3) pa_nil))) pa_nil)))))) pss_nil)
    (pss_cons (ps_if (pt_cmpR (eqU hr.units) (pv 5) pe_str (nomark _)) (pss_one (ps_ret (pe_tup (pa_cons pe_str (pa_cons (pe_callE (ok__law_from C) (hr.mono (by decide)) (g__law_from C) pass0 (pa_cons (pv 0) (pa_cons (pv 3) pa_nil))) (pa_cons (pe_callE (ok__law_from C) (hr.mono (by decide)) (g__law_from C) pass0 (pa_cons (pv 0) (pa_cons (pv 4) pa_nil))) pa_nil)))))) pss_nil)
    (pss_cons (ps_if (pt_cmpR (eqU hr.units) (pv 5) pe_str (nomark _)) (pss_cons (ps_set (i := 7) sc__law_row.nd rfl (Or.inl rfl) (pe_callE (ok__law_draw C) (hr.mono (by decide)) (g__law_draw C) pass0 (pa_cons (pv 0) (pa_cons pe_int pa_nil))))
    (pss_one (ps_ret (pe_tup (pa_cons pe_str (pa_cons (pe_callE (ok__law_from C) (hr.mono (by decide)) (g__law_from C) pass0 (pa_cons (pv 0) (pa_cons (pv 4) pa_nil))) (pa_cons (pe_callE (ok__law_from C) (hr.mono (by decide)) (g__law_from C) pass0 (pa_cons (pv 0) (pa_cons (pv 3) pa_nil))) (pa_cons (pe_callE (ok__law_draw C) (hr.mono (by decide)) (g__law_draw C) pass0 (pa_cons (pv 0) (pa_cons pe_int pa_nil))) (pa_cons (pv 7) pa_nil))))))))) pss_nil)
    (pss_cons (ps_if (pt_cmpR (eqU hr.units) (pv 5) pe_str (nomark _)) (pss_cons (ps_set (i := 7) sc__law_row.nd rfl (Or.inl rfl) (pe_callE (ok__law_from C) (hr.mono (by decide)) (g__law_from C) pass0 (pa_cons (pv 0) (pa_cons (pv 2) pa_nil))))
    (pss_one (ps_ret (pe_tup (pa_cons pe_str (pa_cons (pv 7) (pa_cons (pe_callE (ok__law_from C) (hr.mono (by decide)) (g__law_from C) pass0 (pa_cons (pv 0) (pa_cons (pv 4) pa_nil))) (pa_cons (pe_callE (ok__law_from C) (hr.mono (by decide)) (g__law_from C) pass0 (pa_cons (pv 0) (pa_cons (pv 3) pa_nil))) (pa_cons (pe_callE (ok__law_draw C) (hr.mono (by decide)) (g__law_draw C) pass0 (pa_cons (pv 0) (pa_cons pe_int pa_nil))) pa_nil))))))))) pss_nil)
    (pss_cons (ps_if (pt_cmpR (eqU hr.units) (pv 5) pe_str (nomark _)) (pss_one (ps_ret (pe_tup (pa_cons pe_str (pa_cons (pe_callE (ok__law_from C) (hr.mono (by decide)) (g__law_from C) pass0 (pa_cons (pv 0) (pa_cons (pv 4) pa_nil))) (pa_cons (pe_callE (ok__law_from C) (hr.mono (by decide)) (g__law_from C) pass0 (pa_cons (pv 0) (pa_cons (pv 3) pa_nil))) (pa_cons (pe_callE (ok__law_draw C) (hr.mono (by decide)) (g__law_draw C) pass0 (pa_cons (pv 0) (pa_cons (pe_op addU (pv 1) pe_int) pa_nil))) pa_nil))))))) pss_nil)
    (pss_cons (ps_if (pt_cmpR (eqU hr.units) (pv 5) pe_str (nomark _)) (pss_one (ps_ret (pe_tup (pa_cons pe_str (pa_cons (pe_callE (ok__law_from C) (hr.mono (by decide)) (g__law_from C) pass0 (pa_cons (pv 0) (pa_cons (pv 2) pa_nil))) (pa_cons (pe_callE (ok__law_from C) (hr.mono (by decide)) (g__law_from C) pass0 (pa_cons (pv 0) (pa_cons (pv 2) pa_nil))) (pa_cons (pe_callE (ok__law_draw C) (hr.mono (by decide)) (g__law_draw C) pass0 (pa_cons (pv 0) (pa_cons (pe_op addU (pv 1) pe_int) pa_nil))) pa_nil))))))) pss_nil)
    (pss_cons (ps_if (pt_cmpR (eqU hr.units) (pv 5) pe_str (nomark _)) (pss_one (ps_ret (pe_tup (pa_cons pe_str (pa_cons (pe_callE (ok__law_draw C) (hr.mono (by decide)) (g__law_draw C) pass0 (pa_cons (pv 0) (pa_cons (pe_op addU (pv 1) pe_int) pa_nil))) pa_nil))))) pss_nil)
    (pss_one (ps_ret (pe_tup (pa_cons pe_str (pa_cons (pe_callE (ok__law_draw C) (hr.mono (by decide)) (g__law_draw C) pass0 (pa_cons (pv 0) (pa_cons pe_int pa_nil))) pa_nil))))))))))))))))))))
theorem sc__law_tried : FnScope ["_law_pool_here", "_law_rows", "_law_many", "_law_turn", "_law_row_here", "_law_state"] ["_law_pool_here", "_law_rows", "_law_many"] (defScope s__law_tried) := ⟨rfl, rfl, rfl, by decide +kernel, rfl, by decide +kernel, by decide +kernel⟩
theorem ok__law_tried (C : Cxt P w K mg base) : FnEx P w K mg base CX0 6 (He.fAd K ("_law_tried", none)) ["_law_pool_here", "_law_rows", "_law_many"] (sp__law_tried K w) :=
  fnEx (C.c.d.def_ 48 (d := d__law_tried) rfl) rfl rfl sc__law_tried rfl (fun _ _ _ _ _ _ us hl => match us, hl with | [_, _, _], _ => rfl) fun cdv A outer s H E hr => PSs.nox (
    (pss_cons (ps_for PassesOwn.never rfl (pi_range1 rfl (n_range C) (pa_cons pe_int pa_nil)) (pg_name (i := 3) sc__law_tried.nd rfl (Or.inl rfl)) (pss_cons (ps_set (i := 4) sc__law_tried.nd rfl (Or.inl rfl) (pe_callE (ok__law_row C) (hr.mono (by decide)) (g__law_row C) pass0 (pa_cons (pv 0) (pa_cons (pv 2) pa_nil))))
    (pss_cons (ps_if (pt_cmpR (inU (hu65 hr)) (pe_ix (ixU (hu1 hr)) (pv 4) pe_int (fun _ _ => rfl)) (pe_lst (pa_cons pe_str (pa_cons pe_str (pa_cons pe_str pa_nil)))) (by with_unfolding_all rfl)) (pss_one (ps_ret (pe_op addU (pv 1) (pe_tup (pa_cons (pv 4) pa_nil))))) pss_nil)
    (pss_cons (ps_set (i := 5) sc__law_tried.nd rfl (Or.inl rfl) (pe_callE (ok__law_run C) (hr.mono (by decide)) (g__law_run C) pass0 (pa_cons (pe_op addU (pv 1) (pe_tup (pa_cons (pv 4) pa_nil))) (pa_cons pe_int pa_nil))))
    (pss_one (ps_if (PW.pt (pw_or (pt_not (pt_truth (pe_ix (ixU (hu1 hr)) (pv 5) pe_str (fun _ _ => rfl)) (fun _ => rfl))) (pw_or1 (pt_cmpR (neU hr.units) (pe_ix (ixU (hu1 hr)) (pv 5) pe_str (fun _ _ => rfl)) (pe_callB lenU (by rfl) (n_len C) (by decide +kernel) (pa_cons (pv 1) pa_nil)) (nomark _))))) (pss_one (ps_ret (pe_op addU (pv 1) (pe_tup (pa_cons (pv 4) pa_nil))))) pss_nil))))))
    (pss_one (ps_ret (pe_op addU (pv 1) (pe_tup (pa_cons (pv 4) pa_nil)))))))
theorem sc__law_program : FnScope ["_law_pool_here", "_law_rows", "_law_many", "_law_k"] ["_law_pool_here"] (defScope s__law_program) := ⟨rfl, rfl, rfl, by decide +kernel, rfl, by decide +kernel, by decide +kernel⟩
theorem ok__law_program (C : Cxt P w K mg base) : FnEx P w K mg base CX0 7 (He.fAd K ("_law_program", none)) ["_law_pool_here"] (sp__law_program K w) :=
  fnEx (C.c.d.def_ 49 (d := d__law_program) rfl) rfl rfl sc__law_program rfl (fun _ _ _ _ _ _ us hl => match us, hl with | [_], _ => rfl) fun cdv A outer s H E hr => PSs.nox (
    (pss_cons (ps_set (i := 1) sc__law_program.nd rfl (Or.inl rfl) (pe_tup (pa_cons (pe_tup (pa_cons pe_str (pa_cons pe_int (pa_cons (pe_tup pa_nil) (pa_cons (pe_op addU pe_int (pe_callE (ok__law_draw C) (hr.mono (by decide)) (g__law_draw C) pass0 (pa_cons (pv 0) (pa_cons pe_int pa_nil)))) pa_nil))))) (pa_cons (pe_tup (pa_cons pe_str (pa_cons pe_int (pa_cons (pe_tup (pa_cons pe_int pa_nil)) (pa_cons (pe_callE (ok__law_draw C) (hr.mono (by decide)) (g__law_draw C) pass0 (pa_cons (pv 0) (pa_cons pe_int pa_nil))) pa_nil))))) (pa_cons (pe_tup (pa_cons pe_str (pa_cons pe_int (pa_cons pe_int pa_nil)))) pa_nil)))))
    (pss_cons (ps_set (i := 1) sc__law_program.nd rfl (Or.inl rfl) (pe_op addU (pv 1) (pe_tup (pa_cons (pe_tup (pa_cons pe_str (pa_cons pe_int (pa_cons (pe_tup pa_nil) (pa_cons pe_int pa_nil))))) (pa_cons (pe_tup (pa_cons pe_str (pa_cons pe_int (pa_cons pe_int pa_nil)))) (pa_cons (pe_tup (pa_cons pe_str (pa_cons pe_int (pa_cons pe_int pa_nil)))) (pa_cons (pe_tup (pa_cons pe_str (pa_cons pe_int (pa_cons (pe_tup (pa_cons pe_int (pa_cons pe_int pa_nil))) (pa_cons pe_int pa_nil))))) (pa_cons (pe_tup (pa_cons pe_str (pa_cons pe_int (pa_cons pe_int pa_nil)))) pa_nil))))))))
    (pss_cons (ps_set (i := 2) sc__law_program.nd rfl (Or.inr rfl) (pe_op addU pe_int (pe_callE (ok__law_some C) (hr.mono (by decide)) (g__law_some C) pass0 (pa_cons (pv 0) (pa_cons (pe_lst (pa_cons pe_int (pa_cons pe_int (pa_cons pe_int (pa_cons pe_int pa_nil))))) pa_nil)))))
    (pss_cons (ps_if (pt_cmpR (eqU hr.units) (pe_callE (ok__law_draw C) (hr.mono (by decide)) (g__law_draw C) pass0 (pa_cons (pv 0) (pa_cons pe_int pa_nil))) pe_int (nomark _)) (pss_one (ps_ret (pe_callTy tupU (by rfl) (n_tuple C) (by decide +kernel) (pa_cons (pe_lc (own := [("_law_k", 3)]) rfl sc__law_program.nd (pi_range1 rfl (n_range C) (pa_cons (pv 2) pa_nil)) (blkOk_by (own := [("_law_k", 3)]) (N := ["_law_pool_here", "_law_rows", "_law_many", "_law_k"]) (sc := defScope s__law_program) (by decide +kernel)) (fun _ _ _ _ _ => (pg_name (i := 3) sc__law_program.nd rfl (Or.inl rfl))) (fun _ _ _ _ _ => pts_nil) (fun _ _ _ _ _ => (pe_callE (ok__law_row C) (hr.mono (by decide)) (g__law_row C) pass0 (pa_cons (pv 0) (pa_cons (pv 2) pa_nil))))) pa_nil)))) pss_nil)
    (pss_cons (ps_for PassesOwn.never rfl (pi_range1 rfl (n_range C) (pa_cons (pe_op subU (pv 2) pe_int) pa_nil)) (pg_name (i := 3) sc__law_program.nd rfl (Or.inl rfl)) (pss_one (ps_set (i := 1) sc__law_program.nd rfl (Or.inl rfl) (pe_callE (ok__law_tried C) (hr.mono (by decide)) (g__law_tried C) pass0 (pa_cons (pv 0) (pa_cons (pv 1) (pa_cons (pv 2) pa_nil)))))))
    (pss_one (ps_ret (pv 1)))))))))
theorem sc_law : FnScope ["_law_script", "_law_pool_here", "_law_again", "_law_program_here", "_law_most", "_law_state", "_law_shown", "_law_end_here", "_law_one"] ["_law_script"] (defScope s_law) := ⟨rfl, rfl, rfl, by decide +kernel, rfl, by decide +kernel, by decide +kernel⟩
theorem ok_law (C : Cxt P w K mg base) : FnEx P w K mg base CX0 11 (He.fAd K ("law", none)) ["_law_script"] (sp_law K w) :=
  fnEx (C.c.d.def_ 50 (d := d_law) rfl) rfl rfl sc_law rfl (fun _ _ _ _ _ _ us hl => match us, hl with | [_], _ => rfl) fun cdv A outer s H E hr => PSs.nox (
    (pss_cons (ps_set (i := 1) sc_law.nd rfl (Or.inl rfl) (pe_callE (ok__law_pool C) (hr.mono (by decide)) (g__law_pool C) pass0 (pa_cons (pv 0) pa_nil)))
    (pss_cons (ps_for PassesOwn.never rfl (pi_range1 rfl (n_range C) (pa_cons pe_int pa_nil)) (pg_name (i := 2) sc_law.nd rfl (Or.inl rfl)) (pss_cons (ps_set (i := 3) sc_law.nd rfl (Or.inl rfl) (pe_callE (ok__law_program C) (hr.mono (by decide)) (g__law_program C) pass0 (pa_cons (pv 1) pa_nil)))
    (pss_cons (ps_if (pt_cmpR isNotU (pe_callE (ok_is_program C) (hr.mono (by decide)) (g_is_program C) pass0 (pa_cons (pv 3) pa_nil)) pe_bl (nomark _)) (pss_one (ps_ret pe_bl)) pss_nil)
    (pss_one (ps_for PassesOwn.never rfl (pi_seqU (pe_lst (pa_cons pe_int (pa_cons (pe_op addU pe_int (pe_callE (ok__law_draw C) (hr.mono (by decide)) (g__law_draw C) pass0 (pa_cons (pv 1) (pa_cons pe_int pa_nil)))) (pa_cons pe_int pa_nil))))) (pg_name (i := 4) sc_law.nd rfl (Or.inl rfl)) (pss_cons (ps_set (i := 5) sc_law.nd rfl (Or.inl rfl) (pe_callE (ok__law_run C) (hr.mono (by decide)) (g__law_run C) pass0 (pa_cons (pv 3) (pa_cons (pv 4) pa_nil))))
    (pss_cons (ps_asg (pe_callE (ok_run C) (hr.mono (by decide)) (g_run C) pass0 (pa_cons (pv 3) (pa_cons (pv 4) pa_nil))) (pg_tup rfl (pgs_cons (pg_name (i := 6) sc_law.nd rfl (Or.inl rfl)) (pgs_cons (pg_name (i := 7) sc_law.nd rfl (Or.inl rfl)) pgs_nil))))
    (pss_cons (ps_if (PW.pt (pw_or (pt_not (pt_truth (pe_callB isinU (by rfl) (n_isinstance C) (by decide +kernel) (pa_cons (pv 6) (pa_cons (pe_bltn (by rfl) (n_list C) (by decide +kernel) rfl) pa_nil))) (fun _ => rfl))) (pw_or1 (pt_cmpR (neU hr.units) (pv 6) (pe_ix (ixU (hu1 hr)) (pv 5) pe_str (fun _ _ => rfl)) (nomark _))))) (pss_one (ps_ret pe_bl)) pss_nil)
    (pss_cons (ps_if (pt_cmpR (neU hr.units) (pv 7) (pe_callE (ok__law_end C) (hr.mono (by decide)) (g__law_end C) pass0 (pa_cons (pv 3) (pa_cons (pv 5) (pa_cons pe_str pa_nil)))) (nomark _)) (pss_one (ps_ret pe_bl)) pss_nil)
    (pss_cons (ps_if (PW.pt (pw_or (pt_not (pt_truth (pe_callB isinU (by rfl) (n_isinstance C) (by decide +kernel) (pa_cons (pv 7) (pa_cons (pe_bltn (by rfl) (n_tuple C) (by decide +kernel) rfl) pa_nil))) (fun _ => rfl))) (pw_or1 (pt_not (pt_truth (pe_callB (cr_all rfl) (by rfl) (n_all C) (by decide +kernel) (pa_cons (pe_lc (own := [("_law_one", 8)]) rfl sc_law.nd (pi_seqU (pv 6)) (blkOk_by (own := [("_law_one", 8)]) (N := ["_law_script", "_law_pool_here", "_law_again", "_law_program_here", "_law_most", "_law_state", "_law_shown", "_law_end_here", "_law_one"]) (sc := defScope s_law) (by decide +kernel)) (fun _ _ _ _ _ => (pg_name (i := 8) sc_law.nd rfl (Or.inl rfl))) (fun _ _ _ _ _ => pts_nil) (fun _ _ _ _ _ => (pe_callB call_isiT (by rfl) (n_isinstance C) (by decide +kernel) (pa_cons (pv 8) (pa_cons (pe_tup (pa_cons (pe_bltn (by rfl) (n_int C) (by decide +kernel) rfl) (pa_cons (pe_bltn (by rfl) (n_tuple C) (by decide +kernel) rfl) pa_nil))) pa_nil))))) pa_nil)) (fun _ => rfl)))))) (pss_one (ps_ret pe_bl)) pss_nil)
    (pss_cons (ps_if (pt_truth (pe_callB (cr_any rfl) (by rfl) (n_any C) (by decide +kernel) (pa_cons (pe_lc (own := [("_law_one", 8)]) rfl sc_law.nd (pi_seqU (pv 6)) (blkOk_by (own := [("_law_one", 8)]) (N := ["_law_script", "_law_pool_here", "_law_again", "_law_program_here", "_law_most", "_law_state", "_law_shown", "_law_end_here", "_law_one"]) (sc := defScope s_law) (by decide +kernel)) (fun _ _ _ _ _ => (pg_name (i := 8) sc_law.nd rfl (Or.inl rfl))) (fun _ _ _ _ _ => pts_nil) (fun _ _ _ _ _ => (pe_callB isinU (by rfl) (n_isinstance C) (by decide +kernel) (pa_cons (pv 8) (pa_cons (pe_bltn (by rfl) (n_bool C) (by decide +kernel) rfl) pa_nil))))) pa_nil)) (fun _ => rfl)) (pss_one (ps_ret pe_bl)) pss_nil)
    (pss_cons (ps_expr (pe_bm PySem.F.plainAttrs_list PySem.F.slot_list_append PySem.F.type_list_append mt_append (pv 6) (pa_cons pe_non pa_nil)))
    (pss_one (ps_if (pt_cmpR (neU hr.units) (pe_ix (ixU (hu1 hr)) (pe_callE (ok_run C) (hr.mono (by decide)) (g_run C) pass0 (pa_cons (pv 3) (pa_cons (pv 4) pa_nil))) pe_int (fun _ _ => rfl)) (pe_ix (ixU (hu1 hr)) (pv 5) pe_str (fun _ _ => rfl)) (nomark _)) (pss_one (ps_ret pe_bl)) pss_nil))))))))))))))
    (pss_one (ps_ret (pe_and (pe_cmpR (eqU hr.units) (pe_callE (ok_run C) (hr.mono (by decide)) (g_run C) pass0 (pa_cons (pe_tup pa_nil) (pa_cons pe_int pa_nil))) (pe_tup (pa_cons (pe_lst pa_nil) (pa_cons (pe_tup (pa_cons pe_str pa_nil)) pa_nil))) (nomark _)) (pe_one (pe_cmpR (eqU hr.units) (pe_callE (ok_run C) (hr.mono (by decide)) (g_run C) pass0 (pa_cons (pe_tup (pa_cons (pe_tup (pa_cons pe_str (pa_cons pe_int pa_nil))) pa_nil)) (pa_cons pe_int pa_nil))) (pe_tup (pa_cons (pe_lst pa_nil) (pa_cons (pe_tup (pa_cons pe_str (pa_cons pe_int pa_nil))) pa_nil))) (nomark _)))))))))
theorem okF_law (C : Cxt P w K mg base) {fd : FuncData} (F : FunD K d_law.name d_law.qual d_law.params d_law.body d_law.scope (d_law.dvs K) (d_law.kws K) (He.fAd K d_law.at_) fd) : FnOk P w K mg base CX0 11 (He.fAd K ("law", none)) fd ["_law_script"] (sp_law K w) :=
  fnOkD F rfl rfl sc_law rfl fun cdv A outer s H E hr => PSs.nox (
    (pss_cons (ps_set (i := 1) sc_law.nd rfl (Or.inl rfl) (pe_callE (ok__law_pool C) (hr.mono (by decide)) (g__law_pool C) pass0 (pa_cons (pv 0) pa_nil)))
    (pss_cons (ps_for PassesOwn.never rfl (pi_range1 rfl (n_range C) (pa_cons pe_int pa_nil)) (pg_name (i := 2) sc_law.nd rfl (Or.inl rfl)) (pss_cons (ps_set (i := 3) sc_law.nd rfl (Or.inl rfl) (pe_callE (ok__law_program C) (hr.mono (by decide)) (g__law_program C) pass0 (pa_cons (pv 1) pa_nil)))
    (pss_cons (ps_if (pt_cmpR isNotU (pe_callE (ok_is_program C) (hr.mono (by decide)) (g_is_program C) pass0 (pa_cons (pv 3) pa_nil)) pe_bl (nomark _)) (pss_one (ps_ret pe_bl)) pss_nil)
    (pss_one (ps_for PassesOwn.never rfl (pi_seqU (pe_lst (pa_cons pe_int (pa_cons (pe_op addU pe_int (pe_callE (ok__law_draw C) (hr.mono (by decide)) (g__law_draw C) pass0 (pa_cons (pv 1) (pa_cons pe_int pa_nil)))) (pa_cons pe_int pa_nil))))) (pg_name (i := 4) sc_law.nd rfl (Or.inl rfl)) (pss_cons (ps_set (i := 5) sc_law.nd rfl (Or.inl rfl) (pe_callE (ok__law_run C) (hr.mono (by decide)) (g__law_run C) pass0 (pa_cons (pv 3) (pa_cons (pv 4) pa_nil))))
    (pss_cons (ps_asg (pe_callE (ok_run C) (hr.mono (by decide)) (g_run C) pass0 (pa_cons (pv 3) (pa_cons (pv 4) pa_nil))) (pg_tup rfl (pgs_cons (pg_name (i := 6) sc_law.nd rfl (Or.inl rfl)) (pgs_cons (pg_name (i := 7) sc_law.nd rfl (Or.inl rfl)) pgs_nil))))
    (pss_cons (ps_if (PW.pt (pw_or (pt_not (pt_truth (pe_callB isinU (by rfl) (n_isinstance C) (by decide +kernel) (pa_cons (pv 6) (pa_cons (pe_bltn (by rfl) (n_list C) (by decide +kernel) rfl) pa_nil))) (fun _ => rfl))) (pw_or1 (pt_cmpR (neU hr.units) (pv 6) (pe_ix (ixU (hu1 hr)) (pv 5) pe_str (fun _ _ => rfl)) (nomark _))))) (pss_one (ps_ret pe_bl)) pss_nil)
    (pss_cons (ps_if (pt_cmpR (neU hr.units) (pv 7) (pe_callE (ok__law_end C) (hr.mono (by decide)) (g__law_end C) pass0 (pa_cons (pv 3) (pa_cons (pv 5) (pa_cons pe_str pa_nil)))) (nomark _)) (pss_one (ps_ret pe_bl)) pss_nil)
    (pss_cons (ps_if (PW.pt (pw_or (pt_not (pt_truth (pe_callB isinU (by rfl) (n_isinstance C) (by decide +kernel) (pa_cons (pv 7) (pa_cons (pe_bltn (by rfl) (n_tuple C) (by decide +kernel) rfl) pa_nil))) (fun _ => rfl))) (pw_or1 (pt_not (pt_truth (pe_callB (cr_all rfl) (by rfl) (n_all C) (by decide +kernel) (pa_cons (pe_lc (own := [("_law_one", 8)]) rfl sc_law.nd (pi_seqU (pv 6)) (blkOk_by (own := [("_law_one", 8)]) (N := ["_law_script", "_law_pool_here", "_law_again", "_law_program_here", "_law_most", "_law_state", "_law_shown", "_law_end_here", "_law_one"]) (sc := defScope s_law) (by decide +kernel)) (fun _ _ _ _ _ => (pg_name (i := 8) sc_law.nd rfl (Or.inl rfl))) (fun _ _ _ _ _ => pts_nil) (fun _ _ _ _ _ => (pe_callB call_isiT (by rfl) (n_isinstance C) (by decide +kernel) (pa_cons (pv 8) (pa_cons (pe_tup (pa_cons (pe_bltn (by rfl) (n_int C) (by decide +kernel) rfl) (pa_cons (pe_bltn (by rfl) (n_tuple C) (by decide +kernel) rfl) pa_nil))) pa_nil))))) pa_nil)) (fun _ => rfl)))))) (pss_one (ps_ret pe_bl)) pss_nil)
    (pss_cons (ps_if (pt_truth (pe_callB (cr_any rfl) (by rfl) (n_any C) (by decide +kernel) (pa_cons (pe_lc (own := [("_law_one", 8)]) rfl sc_law.nd (pi_seqU (pv 6)) (blkOk_by (own := [("_law_one", 8)]) (N := ["_law_script", "_law_pool_here", "_law_again", "_law_program_here", "_law_most", "_law_state", "_law_shown", "_law_end_here", "_law_one"]) (sc := defScope s_law) (by decide +kernel)) (fun _ _ _ _ _ => (pg_name (i := 8) sc_law.nd rfl (Or.inl rfl))) (fun _ _ _ _ _ => pts_nil) (fun _ _ _ _ _ => (pe_callB isinU (by rfl) (n_isinstance C) (by decide +kernel) (pa_cons (pv 8) (pa_cons (pe_bltn (by rfl) (n_bool C) (by decide +kernel) rfl) pa_nil))))) pa_nil)) (fun _ => rfl)) (pss_one (ps_ret pe_bl)) pss_nil)
    (pss_cons (ps_expr (pe_bm PySem.F.plainAttrs_list PySem.F.slot_list_append PySem.F.type_list_append mt_append (pv 6) (pa_cons pe_non pa_nil)))
    (pss_one (ps_if (pt_cmpR (neU hr.units) (pe_ix (ixU (hu1 hr)) (pe_callE (ok_run C) (hr.mono (by decide)) (g_run C) pass0 (pa_cons (pv 3) (pa_cons (pv 4) pa_nil))) pe_int (fun _ _ => rfl)) (pe_ix (ixU (hu1 hr)) (pv 5) pe_str (fun _ _ => rfl)) (nomark _)) (pss_one (ps_ret pe_bl)) pss_nil))))))))))))))
    (pss_one (ps_ret (pe_and (pe_cmpR (eqU hr.units) (pe_callE (ok_run C) (hr.mono (by decide)) (g_run C) pass0 (pa_cons (pe_tup pa_nil) (pa_cons pe_int pa_nil))) (pe_tup (pa_cons (pe_lst pa_nil) (pa_cons (pe_tup (pa_cons pe_str pa_nil)) pa_nil))) (nomark _)) (pe_one (pe_cmpR (eqU hr.units) (pe_callE (ok_run C) (hr.mono (by decide)) (g_run C) pass0 (pa_cons (pe_tup (pa_cons (pe_tup (pa_cons pe_str (pa_cons pe_int pa_nil))) pa_nil)) (pa_cons pe_int pa_nil))) (pe_tup (pa_cons (pe_lst pa_nil) (pa_cons (pe_tup (pa_cons pe_str (pa_cons pe_int pa_nil))) pa_nil))) (nomark _)))))))))
end
end G

set_option maxHeartbeats 0
namespace G
open PySem PySem.Spec PyProof.Rows L2 U
abbrev R : PySem.W.OpenRow := PySem.W.OpenLaw.row PySem.Challenge.rw_latekinds_k81_whole_programs_run
abbrev hk : PySem.W.Hook := He.hookX 5 fa fn ts [] exB
def ob (s : PySem.W.SharedT) : He.AlX := He.obsX 5 fa fn ts [] exB (HandSHeadRun.getT s)
theorem ob_eq (s : PySem.W.SharedT) : ob s = hk.obs s.abs := He.obsX_eq (HandSHeadRun.getT_eq s)
theorem run (w : World) : HandSHeadRun.RunEq R (PySem.W.view R.prog [59]) hk ob 8000 names w := by
  refine PySem.W.byRow2 "special-get-raises" (P := fun w => HandSHeadRun.RunEq R (PySem.W.view R.prog [59]) hk ob 8000 names w) (fun w => ?_) (fun w => ?_) w
  · intro os
    kernel_rfl
  · intro os
    kernel_rfl
end G

set_option maxHeartbeats 4000000
namespace G
open PySem PySem.Spec PyProof.Rows L2 U
section
variable {P : Program} {w : World} {K : PySem.W.Frag} {mg : Str → Option Value} {base : Heap}
noncomputable def d_is_integer_ (K : PySem.W.Frag) : DS :=
    (zRet (dAndV (dIsin .int (dVar 0)) (dNotV (dIsin .bool (dVar 0)))))
noncomputable def df_is_integer (K : PySem.W.Frag) : DF := sealF (dfOf ["thing"] 1 (d_is_integer_ K))
theorem df_is_integer_eq (K : PySem.W.Frag) : df_is_integer K = dfOf ["thing"] 1 (d_is_integer_ K) := sealF_eq _
theorem sd_is_integer (C : Cxt P w K mg base) : SF (sp_is_integer K w) (df_is_integer K) := sfSeal (sfOf fun E =>
    (ssRet (sAndV (sIsin .int rfl (sVar 0)) (sNotV (sIsin .bool rfl (sVar 0))))))
noncomputable def d_is_within_ (K : PySem.W.Frag) : DS :=
    (zRet (dAndV (dCall (df_is_integer K) (dCons (dVar 0) dNil)) (dChain dLe dLe (dVar 1) (dVar 0) (dVar 2))))
noncomputable def df_is_within (K : PySem.W.Frag) : DF := sealF (dfOf ["thing", "least", "most"] 3 (d_is_within_ K))
theorem df_is_within_eq (K : PySem.W.Frag) : df_is_within K = dfOf ["thing", "least", "most"] 3 (d_is_within_ K) := sealF_eq _
theorem sd_is_within (C : Cxt P w K mg base) : SF (sp_is_within K w) (df_is_within K) := sfSeal (sfOf fun E =>
    (ssRet (sAndV (sCall (sd_is_integer C) (sCons (sVar 0) sNil)) (sChain leD leD (sVar 1) (sVar 0) (sVar 2)))))
noncomputable def d_is_pair_ (K : PySem.W.Frag) : DS :=
    (zRet (dAndV (dIsin .tuple (dVar 0)) (dOp dEq (dCB dLen (dCons (dVar 0) dNil)) (dC (.int 2)))))
noncomputable def df_is_pair (K : PySem.W.Frag) : DF := sealF (dfOf ["thing"] 1 (d_is_pair_ K))
theorem df_is_pair_eq (K : PySem.W.Frag) : df_is_pair K = dfOf ["thing"] 1 (d_is_pair_ K) := sealF_eq _
theorem sd_is_pair (C : Cxt P w K mg base) : SF (sp_is_pair K w) (df_is_pair K) := sfSeal (sfOf fun E =>
    (ssRet (sAndV (sIsin .tuple rfl (sVar 0)) (sOp eqD (sCB lenDD (sCons (sVar 0) sNil)) (sCi _)))))
noncomputable def d_check_number_ (K : PySem.W.Frag) : DS :=
    (zIf (dNot (dTru (dCall (df_is_within K) (dCons (dVar 0) (dCons (dVar 1) (dCons (dVar 2) dNil)))))) zNever zNext)
noncomputable def df_check_number (K : PySem.W.Frag) : DF := sealF (dfOf ["thing", "least", "most"] 3 (d_check_number_ K))
theorem df_check_number_eq (K : PySem.W.Frag) : df_check_number K = dfOf ["thing", "least", "most"] 3 (d_check_number_ K) := sealF_eq _
theorem sd_check_number (C : Cxt P w K mg base) : SF (sp_check_number K w) (df_check_number K) := sfSeal (sfOf fun E =>
    (ssIf (sNot (sTru (sCall (sd_is_within C) (sCons (sVar 0) (sCons (sVar 1) (sCons (sVar 2) sNil)))))) ssNever ssNext))
noncomputable def d_is_register_ (K : PySem.W.Frag) : DS :=
    (zRet (dCall (df_is_within K) (dCons (dVar 0) (dCons (dC (.int 0)) (dCons (dOp dSub (dC (.int (10))) (dC (.int 1))) dNil)))))
noncomputable def df_is_register (K : PySem.W.Frag) : DF := sealF (dfOf ["thing"] 1 (d_is_register_ K))
theorem df_is_register_eq (K : PySem.W.Frag) : df_is_register K = dfOf ["thing"] 1 (d_is_register_ K) := sealF_eq _
theorem sd_is_register (C : Cxt P w K mg base) : SF (sp_is_register K w) (df_is_register K) := sfSeal (sfOf fun E =>
    (ssRet (sCall (sd_is_within C) (sCons (sVar 0) (sCons (sCi _) (sCons (sOp subD (sCi _) (sCi _)) sNil))))))
noncomputable def d_are_registers_ (K : PySem.W.Frag) : DS :=
    (zRet (dAndV (dIsin .tuple (dVar 0)) (dAndV (dOp dLe (dCB dLen (dCons (dVar 0) dNil)) (dC (.int (6)))) (dCB dAll (dCons (dLc (jSeq (dVar 0)) (hName 1) dYes (dCall (df_is_register K) (dCons (dVar 1) dNil)) [1]) dNil)))))
noncomputable def df_are_registers (K : PySem.W.Frag) : DF := sealF (dfOf ["thing", "item"] 1 (d_are_registers_ K))
theorem df_are_registers_eq (K : PySem.W.Frag) : df_are_registers K = dfOf ["thing", "item"] 1 (d_are_registers_ K) := sealF_eq _
theorem sd_are_registers (C : Cxt P w K mg base) : SF (sp_are_registers K w) (df_are_registers K) := sfSeal (sfOf fun E =>
    (ssRet (sAndV (sIsin .tuple rfl (sVar 0)) (sAndV (sOp leD (sCB lenDD (sCons (sVar 0) sNil)) (sCi _)) (sCB allD (sCons (sLc (siSeq (sVar 0)) (sgName 1) (wpName (by decide)) sYes (sCall (sd_is_register C) (sCons (sVar 1) sNil))) sNil))))))
noncomputable def d_is_part_ (K : PySem.W.Frag) : DS :=
    (zSeq (zIf (dTest (dOp dEq (dVar 0) (dC (.str "x")))) (zRet (dCall (df_is_register K) (dCons (dVar 1) dNil))) zNext)
    (zSeq (zIf (dTest (dOp dEq (dVar 0) (dC (.str "n")))) (zRet (dCall (df_is_within K) (dCons (dVar 1) (dCons (dNeg (dC (.int (1000000000)))) (dCons (dC (.int (1000000000))) dNil))))) zNext)
    (zSeq (zIf (dTest (dOp dEq (dVar 0) (dC (.str "p")))) (zRet (dCall (df_are_registers K) (dCons (dVar 1) dNil))) zNext)
    (zSeq (zIf (dTest (dOp dEq (dVar 0) (dC (.str "t")))) (zRet (dCall (df_is_within K) (dCons (dVar 1) (dCons (dC (.int 0)) (dCons (dVar 2) dNil))))) zNext)
    (zRet (dCall (df_is_within K) (dCons (dVar 1) (dCons (dC (.int 0)) (dCons (dIf (dTest (dOp dEq (dVar 0) (dC (.str "b")))) (dC (.int (6))) (dOp dSub (dC (.int (6))) (dC (.int 1)))) dNil)))))))))
noncomputable def df_is_part (K : PySem.W.Frag) : DF := sealF (dfOf ["sort", "thing", "many"] 3 (d_is_part_ K))
theorem df_is_part_eq (K : PySem.W.Frag) : df_is_part K = dfOf ["sort", "thing", "many"] 3 (d_is_part_ K) := sealF_eq _
theorem sd_is_part (C : Cxt P w K mg base) : SF (sp_is_part K w) (df_is_part K) := sfSeal (sfOf fun E =>
    (ssSeq (ssIf (sTest (sOp eqD (sVar 0) (sCs _))) (ssRet (sCall (sd_is_register C) (sCons (sVar 1) sNil))) ssNext)
    (ssSeq (ssIf (sTest (sOp eqD (sVar 0) (sCs _))) (ssRet (sCall (sd_is_within C) (sCons (sVar 1) (sCons (sNeg (sCi _)) (sCons (sCi _) sNil))))) ssNext)
    (ssSeq (ssIf (sTest (sOp eqD (sVar 0) (sCs _))) (ssRet (sCall (sd_are_registers C) (sCons (sVar 1) sNil))) ssNext)
    (ssSeq (ssIf (sTest (sOp eqD (sVar 0) (sCs _))) (ssRet (sCall (sd_is_within C) (sCons (sVar 1) (sCons (sCi _) (sCons (sVar 2) sNil))))) ssNext)
    (ssRet (sCall (sd_is_within C) (sCons (sVar 1) (sCons (sCi _) (sCons (sIf (sTest (sOp eqD (sVar 0) (sCs _))) (sCi _) (sOp subD (sCi _) (sCi _))) sNil))))))))))
noncomputable def d_is_row_ (K : PySem.W.Frag) : DS :=
    (zSeq (zIf (dOr (dNot (dTru (dIsin .tuple (dVar 0)))) (dOr (dTest (dOp dEq (dCB dLen (dCons (dVar 0) dNil)) (dC (.int 0)))) (dNot (dTru (dIsin .str (dOp dIx (dVar 0) (dC (.int 0)))))))) (zRet (dC (.bool false))) zNext)
    (zSeq (zAsg (dKGet kv_FORMS (dOp dIx (dVar 0) (dC (.int 0)))) (hName 2))
    (zSeq (zIf (dOr (dTest (dOp dIs (dVar 2) (dC .none))) (dTest (dOp dNe (dCB dLen (dCons (dVar 0) dNil)) (dOp dAdd (dCB dLen (dCons (dVar 2) dNil)) (dC (.int 1)))))) (zRet (dC (.bool false))) zNext)
    (zRet (dCB dAll (dCons (dLc (jZip (dVar 2) (dSl (dVar 0) (dPart (dC (.int 1))) dNoPart)) (hTup 2 (hCons (hName 3) (hCons (hName 4) hNil))) dYes (dCall (df_is_part K) (dCons (dVar 3) (dCons (dVar 4) (dCons (dVar 1) dNil)))) [3, 4]) dNil))))))
noncomputable def df_is_row (K : PySem.W.Frag) : DF := sealF (dfOf ["thing", "many", "form", "sort", "item"] 2 (d_is_row_ K))
theorem df_is_row_eq (K : PySem.W.Frag) : df_is_row K = dfOf ["thing", "many", "form", "sort", "item"] 2 (d_is_row_ K) := sealF_eq _
theorem sd_is_row (C : Cxt P w K mg base) : SF (sp_is_row K w) (df_is_row K) := sfSeal (sfOf fun E =>
    (ssSeq (ssIf (sOr (sNot (sTru (sIsin .tuple rfl (sVar 0)))) (sOr (sTest (sOp eqD (sCB lenDD (sCons (sVar 0) sNil)) (sCi _))) (sNot (sTru (sIsin .str rfl (sOp ixD (sVar 0) (sCi _))))))) (ssRet (sCb _)) ssNext)
    (ssSeq (ssAsg (sKGet (sOp ixD (sVar 0) (sCi _))) (sgName 2))
    (ssSeq (ssIf (sOr (sTest (sOp isD (sVar 2) sCn)) (sTest (sOp neD (sCB lenDD (sCons (sVar 0) sNil)) (sOp addD (sCB lenDD (sCons (sVar 2) sNil)) (sCi _))))) (ssRet (sCb _)) ssNext)
    (ssRet (sCB allD (sCons (sLc (siZip (sVar 2) (sSl (sVar 0) (sPart (sCi _)) sNoPart)) (sgTup (sgCons (sgName 3) (sgCons (sgName 4) sgNil))) (wpTup (wpCons (wpName (by decide)) mnName (wpCons (wpName (by decide)) mnName wpNil mnNil) (mnCons mnName mnNil))) sYes (sCall (sd_is_part C) (sCons (sVar 3) (sCons (sVar 4) (sCons (sVar 1) sNil))))) sNil)))))))
noncomputable def d_check_rows_ (K : PySem.W.Frag) : DS :=
    (zSeq (zIf (dOr (dNot (dTru (dIsin .tuple (dVar 0)))) (dTest (dOp dGt (dCB dLen (dCons (dVar 0) dNil)) (dC (.int (60)))))) (zRet (dNeg (dC (.int 1)))) zNext)
    (zSeq (zFor (jEnum (dVar 0)) (hTup 2 (hCons (hName 1) (hCons (hName 2) hNil))) (zIf (dNot (dTru (dCall (df_is_row K) (dCons (dVar 2) (dCons (dCB dLen (dCons (dVar 0) dNil)) dNil))))) (zRet (dVar 1)) zNext))
    (zRet (dC .none))))
noncomputable def df_check_rows (K : PySem.W.Frag) : DF := sealF (dfOf ["thing", "number", "item"] 1 (d_check_rows_ K))
theorem df_check_rows_eq (K : PySem.W.Frag) : df_check_rows K = dfOf ["thing", "number", "item"] 1 (d_check_rows_ K) := sealF_eq _
theorem sd_check_rows (C : Cxt P w K mg base) : SF (sp_check_rows K w) (df_check_rows K) := sfSeal (sfOf fun E =>
    (ssSeq (ssIf (sOr (sNot (sTru (sIsin .tuple rfl (sVar 0)))) (sTest (sOp gtD (sCB lenDD (sCons (sVar 0) sNil)) (sCi _)))) (ssRet (sNeg (sCi _))) ssNext)
    (ssSeq (ssFor (siEnum (sVar 0)) (sgTup (sgCons (sgName 1) (sgCons (sgName 2) sgNil))) (ssIf (sNot (sTru (sCall (sd_is_row C) (sCons (sVar 2) (sCons (sCB lenDD (sCons (sVar 0) sNil)) sNil))))) (ssRet (sVar 1)) ssNext))
    (ssRet sCn))))
noncomputable def d_is_program_ (K : PySem.W.Frag) : DS :=
    (zRet (dOp dIs (dCall (df_check_rows K) (dCons (dVar 0) dNil)) (dC .none)))
noncomputable def df_is_program (K : PySem.W.Frag) : DF := sealF (dfOf ["thing"] 1 (d_is_program_ K))
theorem df_is_program_eq (K : PySem.W.Frag) : df_is_program K = dfOf ["thing"] 1 (d_is_program_ K) := sealF_eq _
theorem sd_is_program (C : Cxt P w K mg base) : SF (sp_is_program K w) (df_is_program K) := sfSeal (sfOf fun E =>
    (ssRet (sOp isD (sCall (sd_check_rows C) (sCons (sVar 0) sNil)) sCn)))
noncomputable def d_check_program_ (K : PySem.W.Frag) : DS :=
    (zIf (dNot (dTru (dCall (df_is_program K) (dCons (dVar 0) dNil)))) zNever zNext)
noncomputable def df_check_program (K : PySem.W.Frag) : DF := sealF (dfOf ["thing"] 1 (d_check_program_ K))
theorem df_check_program_eq (K : PySem.W.Frag) : df_check_program K = dfOf ["thing"] 1 (d_check_program_ K) := sealF_eq _
theorem sd_check_program (C : Cxt P w K mg base) : SF (sp_check_program K w) (df_check_program K) := sfSeal (sfOf fun E =>
    (ssIf (sNot (sTru (sCall (sd_is_program C) (sCons (sVar 0) sNil)))) ssNever ssNext))
noncomputable def d_number_in_ (K : PySem.W.Frag) : DS :=
    (zRet (dIf (dAnd (dTru (dCall (df_is_pair K) (dCons (dVar 0) dNil))) (dTest (dOp dEq (dOp dIx (dVar 0) (dC (.int 0))) (dVar 1)))) (dOp dIx (dVar 0) (dC (.int 1))) (dC .none)))
noncomputable def df_number_in (K : PySem.W.Frag) : DF := sealF (dfOf ["value", "word"] 2 (d_number_in_ K))
theorem df_number_in_eq (K : PySem.W.Frag) : df_number_in K = dfOf ["value", "word"] 2 (d_number_in_ K) := sealF_eq _
theorem sd_number_in (C : Cxt P w K mg base) : SF (sp_number_in K w) (df_number_in K) := sfSeal (sfOf fun E =>
    (ssRet (sIf (sAnd (sTru (sCall (sd_is_pair C) (sCons (sVar 0) sNil))) (sTest (sOp eqD (sOp ixD (sVar 0) (sCi _)) (sVar 1)))) (sOp ixD (sVar 0) (sCi _)) sCn)))
noncomputable def d_PlainWorld___init___ (K : PySem.W.Frag) : DS :=
    (zSeq (zFld (He.ga K "PlainWorld") (dVar 0) (dLstO dNil) "parents_of")
    (zSeq (zFld (He.ga K "PlainWorld") (dVar 0) (dLstO dNil) "brought")
    (zSeq (zFld (He.ga K "PlainWorld") (dVar 0) (dLstO dNil) "object_kinds")
    (zFld (He.ga K "PlainWorld") (dVar 0) (dLstO dNil) "contents"))))
noncomputable def df_PlainWorld___init__ (K : PySem.W.Frag) : DF := sealF (dfOf ["self"] 1 (d_PlainWorld___init___ K))
theorem df_PlainWorld___init___eq (K : PySem.W.Frag) : df_PlainWorld___init__ K = dfOf ["self"] 1 (d_PlainWorld___init___ K) := sealF_eq _
theorem sd_PlainWorld___init__ (C : Cxt P w K mg base) : SF (sp_PlainWorld___init__ K w) (df_PlainWorld___init__ K) := sfSeal (sfOf fun E =>
    (ssSeq (ssFld (cl_PlainWorld C) (na_PlainWorld_parents_of C) (sVar 0) (sLstO sNil))
    (ssSeq (ssFld (cl_PlainWorld C) (na_PlainWorld_brought C) (sVar 0) (sLstO sNil))
    (ssSeq (ssFld (cl_PlainWorld C) (na_PlainWorld_object_kinds C) (sVar 0) (sLstO sNil))
    (ssFld (cl_PlainWorld C) (na_PlainWorld_contents C) (sVar 0) (sLstO sNil))))))
noncomputable def d_PlainWorld_ones_ (K : PySem.W.Frag) : DS :=
    (zSeq (zAsg (dDisp1 (dVar 1) (dC (.bool true))) (hName 2))
    (zSeq (zAsg (dLstO (dCons (dVar 1) dNil)) (hName 3))
    (zSeq (zWhile (dTest (dOp dGt (dCB dLen (dCons (dVar 3) dNil)) (dC (.int 0)))) (zFor (jSeq (dOp dIx (dFld (He.ga K "PlainWorld") "parents_of" (dVar 0)) (dPop (dVar 3)))) (hName 4) (zIf (dTest (dOp dNotIn (dVar 4) (dVar 2))) (zSeq (zAsg (dC (.bool true)) (hSub (dVar 2) (dVar 4)))
    (zDrop (dAppendT (dVar 3) (dVar 4)))) zNext)))
    (zRet (dCB dListC (dCons (dVar 2) dNil))))))
noncomputable def df_PlainWorld_ones (K : PySem.W.Frag) : DF := sealF (dfOfX ["self", "kind", "found", "waiting", "parent"] 2 (d_PlainWorld_ones_ K))
theorem df_PlainWorld_ones_eq (K : PySem.W.Frag) : df_PlainWorld_ones K = dfOfX ["self", "kind", "found", "waiting", "parent"] 2 (d_PlainWorld_ones_ K) := sealF_eq _
theorem sd_PlainWorld_ones (C : Cxt P w K mg base) : SF (sp_PlainWorld_ones K w) (df_PlainWorld_ones K) := sfSeal (sfOfX fun E =>
    (ssSeq (ssAsg (sDisp1 (sVar 1) (sCb _)) (sgName 2))
    (ssSeq (ssAsg (sLstO (sCons (sVar 1) sNil)) (sgName 3))
    (ssSeq (ssWhile (sTest (sOp gtD (sCB lenDD (sCons (sVar 3) sNil)) (sCi _))) (ssFor (siSeq (sOp ixD (sFldE (cl_PlainWorld C) (na_PlainWorld_parents_of C) (sVar 0)) (sPop (sVar 3)))) (sgName 4) (ssIf (sTest (sOp notInD (sVar 4) (sVar 2))) (ssSeq (ssAsg (sCb _) (sgSub (sVar 2) (sVar 4)))
    (ssDrop (sAppend (sVar 3) (sVar 4)))) ssNext)))
    (ssRet (sCB listD (sCons (sVar 2) sNil)))))))
noncomputable def d_PlainWorld_new_kind_ (K : PySem.W.Frag) : DS :=
    (zSeq (zIf (dTest (dOp dEq (dCB dLen (dCons (dFld (He.ga K "PlainWorld") "parents_of" (dVar 0)) dNil)) (dC (.int (400))))) (zRet (dC .none)) zNext)
    (zSeq (zDrop (dAppendT (dFld (He.ga K "PlainWorld") "parents_of" (dVar 0)) (dVar 1)))
    (zSeq (zDrop (dAppendT (dFld (He.ga K "PlainWorld") "brought" (dVar 0)) (dVar 2)))
    (zRet (dOp dSub (dCB dLen (dCons (dFld (He.ga K "PlainWorld") "brought" (dVar 0)) dNil)) (dC (.int 1)))))))
noncomputable def df_PlainWorld_new_kind (K : PySem.W.Frag) : DF := sealF (dfOf ["self", "parents", "many"] 3 (d_PlainWorld_new_kind_ K))
theorem df_PlainWorld_new_kind_eq (K : PySem.W.Frag) : df_PlainWorld_new_kind K = dfOf ["self", "parents", "many"] 3 (d_PlainWorld_new_kind_ K) := sealF_eq _
theorem sd_PlainWorld_new_kind (C : Cxt P w K mg base) : SF (sp_PlainWorld_new_kind K w) (df_PlainWorld_new_kind K) := sfSeal (sfOf fun E =>
    (ssSeq (ssIf (sTest (sOp eqD (sCB lenDD (sCons (sFldE (cl_PlainWorld C) (na_PlainWorld_parents_of C) (sVar 0)) sNil)) (sCi _))) (ssRet sCn) ssNext)
    (ssSeq (ssDrop (sAppend (sFldE (cl_PlainWorld C) (na_PlainWorld_parents_of C) (sVar 0)) (sVar 1)))
    (ssSeq (ssDrop (sAppend (sFldE (cl_PlainWorld C) (na_PlainWorld_brought C) (sVar 0)) (sVar 2)))
    (ssRet (sOp subD (sCB lenDD (sCons (sFldE (cl_PlainWorld C) (na_PlainWorld_brought C) (sVar 0)) sNil)) (sCi _)))))))
noncomputable def d_PlainWorld_new_object_ (K : PySem.W.Frag) : DS :=
    (zSeq (zIf (dTest (dOp dEq (dCB dLen (dCons (dFld (He.ga K "PlainWorld") "object_kinds" (dVar 0)) dNil)) (dC (.int (2000))))) (zRet (dC .none)) zNext)
    (zSeq (zDrop (dAppendT (dFld (He.ga K "PlainWorld") "object_kinds" (dVar 0)) (dVar 1)))
    (zSeq (zDrop (dAppendT (dFld (He.ga K "PlainWorld") "contents" (dVar 0)) dNewT))
    (zSeq (zFor (jSeq (dMeth (He.ga K "PlainWorld") "ones" (df_PlainWorld_ones K) (dVar 0) (dCons (dVar 1) dNil))) (hName 2) (zDrop (dUpd (dOp dIx (dFld (He.ga K "PlainWorld") "contents" (dVar 0)) (dNeg (dC (.int 1)))) (dDc (jRng1 (dOp dIx (dFld (He.ga K "PlainWorld") "brought" (dVar 0)) (dVar 2))) (hName 3) (dTup (dCons (dVar 2) (dCons (dVar 3) dNil))) (dC (.int 0)) [3]))))
    (zRet (dOp dSub (dCB dLen (dCons (dFld (He.ga K "PlainWorld") "object_kinds" (dVar 0)) dNil)) (dC (.int 1))))))))
noncomputable def df_PlainWorld_new_object (K : PySem.W.Frag) : DF := sealF (dfOf ["self", "kind", "one", "field"] 2 (d_PlainWorld_new_object_ K))
theorem df_PlainWorld_new_object_eq (K : PySem.W.Frag) : df_PlainWorld_new_object K = dfOf ["self", "kind", "one", "field"] 2 (d_PlainWorld_new_object_ K) := sealF_eq _
theorem sd_PlainWorld_new_object (C : Cxt P w K mg base) : SF (sp_PlainWorld_new_object K w) (df_PlainWorld_new_object K) := sfSeal (sfOf fun E =>
    (ssSeq (ssIf (sTest (sOp eqD (sCB lenDD (sCons (sFldE (cl_PlainWorld C) (na_PlainWorld_object_kinds C) (sVar 0)) sNil)) (sCi _))) (ssRet sCn) ssNext)
    (ssSeq (ssDrop (sAppend (sFldE (cl_PlainWorld C) (na_PlainWorld_object_kinds C) (sVar 0)) (sVar 1)))
    (ssSeq (ssDrop (sAppend (sFldE (cl_PlainWorld C) (na_PlainWorld_contents C) (sVar 0)) sNewT))
    (ssSeq (ssFor (siSeq (sMeth (sd_PlainWorld_ones C) (sVar 0) (sCons (sVar 1) sNil))) (sgName 2) (ssDrop (sUpd (sOp ixD (sFldE (cl_PlainWorld C) (na_PlainWorld_contents C) (sVar 0)) (sNeg (sCi _))) (sDc (siRng1 (sOp ixD (sFldE (cl_PlainWorld C) (na_PlainWorld_brought C) (sVar 0)) (sVar 2))) (sgName 3) (wpName (by decide)) (sTup (sCons (sVar 2) (sCons (sVar 3) sNil))) (sCi _)))))
    (ssRet (sOp subD (sCB lenDD (sCons (sFldE (cl_PlainWorld C) (na_PlainWorld_object_kinds C) (sVar 0)) sNil)) (sCi _))))))))
noncomputable def d_PlainWorld_kind_of_ (K : PySem.W.Frag) : DS :=
    (zRet (dOp dIx (dFld (He.ga K "PlainWorld") "object_kinds" (dVar 0)) (dVar 1)))
noncomputable def df_PlainWorld_kind_of (K : PySem.W.Frag) : DF := sealF (dfOf ["self", "number"] 2 (d_PlainWorld_kind_of_ K))
theorem df_PlainWorld_kind_of_eq (K : PySem.W.Frag) : df_PlainWorld_kind_of K = dfOf ["self", "number"] 2 (d_PlainWorld_kind_of_ K) := sealF_eq _
theorem sd_PlainWorld_kind_of (C : Cxt P w K mg base) : SF (sp_PlainWorld_kind_of K w) (df_PlainWorld_kind_of K) := sfSeal (sfOf fun E =>
    (ssRet (sOp ixD (sFldE (cl_PlainWorld C) (na_PlainWorld_object_kinds C) (sVar 0)) (sVar 1))))
noncomputable def d_PlainWorld_is_kind_ (K : PySem.W.Frag) : DS :=
    (zRet (dOp dIn (dVar 2) (dMeth (He.ga K "PlainWorld") "ones" (df_PlainWorld_ones K) (dVar 0) (dCons (dOp dIx (dFld (He.ga K "PlainWorld") "object_kinds" (dVar 0)) (dVar 1)) dNil))))
noncomputable def df_PlainWorld_is_kind (K : PySem.W.Frag) : DF := sealF (dfOf ["self", "number", "kind"] 3 (d_PlainWorld_is_kind_ K))
theorem df_PlainWorld_is_kind_eq (K : PySem.W.Frag) : df_PlainWorld_is_kind K = dfOf ["self", "number", "kind"] 3 (d_PlainWorld_is_kind_ K) := sealF_eq _
theorem sd_PlainWorld_is_kind (C : Cxt P w K mg base) : SF (sp_PlainWorld_is_kind K w) (df_PlainWorld_is_kind K) := sfSeal (sfOf fun E =>
    (ssRet (sOp inD (sVar 2) (sMeth (sd_PlainWorld_ones C) (sVar 0) (sCons (sOp ixD (sFldE (cl_PlainWorld C) (na_PlainWorld_object_kinds C) (sVar 0)) (sVar 1)) sNil)))))
noncomputable def d_PlainWorld_has_cell_ (K : PySem.W.Frag) : DS :=
    (zRet (dOp dIn (dTup (dCons (dVar 2) (dCons (dVar 3) dNil))) (dOp dIx (dFld (He.ga K "PlainWorld") "contents" (dVar 0)) (dVar 1))))
noncomputable def df_PlainWorld_has_cell (K : PySem.W.Frag) : DF := sealF (dfOf ["self", "number", "kind", "field"] 4 (d_PlainWorld_has_cell_ K))
theorem df_PlainWorld_has_cell_eq (K : PySem.W.Frag) : df_PlainWorld_has_cell K = dfOf ["self", "number", "kind", "field"] 4 (d_PlainWorld_has_cell_ K) := sealF_eq _
theorem sd_PlainWorld_has_cell (C : Cxt P w K mg base) : SF (sp_PlainWorld_has_cell K w) (df_PlainWorld_has_cell K) := sfSeal (sfOf fun E =>
    (ssRet (sOp inD (sTup (sCons (sVar 2) (sCons (sVar 3) sNil))) (sOp ixD (sFldE (cl_PlainWorld C) (na_PlainWorld_contents C) (sVar 0)) (sVar 1)))))
noncomputable def d_PlainWorld_cell_ (K : PySem.W.Frag) : DS :=
    (zRet (dOp dIx (dOp dIx (dFld (He.ga K "PlainWorld") "contents" (dVar 0)) (dVar 1)) (dTup (dCons (dVar 2) (dCons (dVar 3) dNil)))))
noncomputable def df_PlainWorld_cell (K : PySem.W.Frag) : DF := sealF (dfOf ["self", "number", "kind", "field"] 4 (d_PlainWorld_cell_ K))
theorem df_PlainWorld_cell_eq (K : PySem.W.Frag) : df_PlainWorld_cell K = dfOf ["self", "number", "kind", "field"] 4 (d_PlainWorld_cell_ K) := sealF_eq _
theorem sd_PlainWorld_cell (C : Cxt P w K mg base) : SF (sp_PlainWorld_cell K w) (df_PlainWorld_cell K) := sfSeal (sfOf fun E =>
    (ssRet (sOp ixD (sOp ixD (sFldE (cl_PlainWorld C) (na_PlainWorld_contents C) (sVar 0)) (sVar 1)) (sTup (sCons (sVar 2) (sCons (sVar 3) sNil))))))
noncomputable def d_PlainWorld_keep_cell_ (K : PySem.W.Frag) : DS :=
    (zAsg (dVar 4) (hSub (dOp dIx (dFld (He.ga K "PlainWorld") "contents" (dVar 0)) (dVar 1)) (dTup (dCons (dVar 2) (dCons (dVar 3) dNil)))))
noncomputable def df_PlainWorld_keep_cell (K : PySem.W.Frag) : DF := sealF (dfOf ["self", "number", "kind", "field", "value"] 5 (d_PlainWorld_keep_cell_ K))
theorem df_PlainWorld_keep_cell_eq (K : PySem.W.Frag) : df_PlainWorld_keep_cell K = dfOf ["self", "number", "kind", "field", "value"] 5 (d_PlainWorld_keep_cell_ K) := sealF_eq _
theorem sd_PlainWorld_keep_cell (C : Cxt P w K mg base) : SF (sp_PlainWorld_keep_cell K w) (df_PlainWorld_keep_cell K) := sfSeal (sfOf fun E =>
    (ssAsg (sVar 4) (sgSub (sOp ixD (sFldE (cl_PlainWorld C) (na_PlainWorld_contents C) (sVar 0)) (sVar 1)) (sTup (sCons (sVar 2) (sCons (sVar 3) sNil))))))
noncomputable def d_cell_of_ (K : PySem.W.Frag) : DS :=
    (zSeq (zPar 5 6 (dCons (dCall (df_number_in K) (dCons (dOp dIx (dVar 0) (dVar 2)) (dCons (dC (.str "object")) dNil))) (dCons (dCall (df_number_in K) (dCons (dOp dIx (dVar 0) (dVar 3)) (dCons (dC (.str "kind")) dNil))) dNil)))
    (zSeq (zIf (dOr (dTest (dOp dIs (dVar 5) (dC .none))) (dOr (dTest (dOp dIs (dVar 6) (dC .none))) (dNot (dTru (dMeth (He.ga K "PlainWorld") "has_cell" (df_PlainWorld_has_cell K) (dVar 1) (dCons (dVar 5) (dCons (dVar 6) (dCons (dVar 4) dNil)))))))) (zRet (dC .none)) zNext)
    (zRet (dTup (dCons (dVar 5) (dCons (dVar 6) dNil))))))
noncomputable def df_cell_of (K : PySem.W.Frag) : DF := sealF (dfOf ["registers", "world", "y", "z", "field", "number", "kind"] 5 (d_cell_of_ K))
theorem df_cell_of_eq (K : PySem.W.Frag) : df_cell_of K = dfOf ["registers", "world", "y", "z", "field", "number", "kind"] 5 (d_cell_of_ K) := sealF_eq _
theorem sd_cell_of (C : Cxt P w K mg base) : SF (sp_cell_of K w) (df_cell_of K) := sfSeal (sfOf fun E =>
    (ssSeq (ssPar (sCons (sCall (sd_number_in C) (sCons (sOp ixD (sVar 0) (sVar 2)) (sCons (sCs _) sNil))) (sCons (sCall (sd_number_in C) (sCons (sOp ixD (sVar 0) (sVar 3)) (sCons (sCs _) sNil))) sNil)))
    (ssSeq (ssIf (sOr (sTest (sOp isD (sVar 5) sCn)) (sOr (sTest (sOp isD (sVar 6) sCn)) (sNot (sTru (sMeth (sd_PlainWorld_has_cell C) (sVar 1) (sCons (sVar 5) (sCons (sVar 6) (sCons (sVar 4) sNil)))))))) (ssRet sCn) ssNext)
    (ssRet (sTup (sCons (sVar 5) (sCons (sVar 6) sNil)))))))
noncomputable def d_sum_of_ (K : PySem.W.Frag) : DS :=
    (zSeq (zIf (dOr (dTru (dCall (df_is_pair K) (dCons (dVar 0) dNil))) (dOr (dTru (dCall (df_is_pair K) (dCons (dVar 1) dNil))) (dTest (dOp dGt (dCB (d1 absD) (dCons (dOp dAdd (dVar 0) (dVar 1)) dNil)) (dC (.int (1000000000000000000))))))) (zRet (dC .none)) zNext)
    (zRet (dOp dAdd (dVar 0) (dVar 1))))
noncomputable def df_sum_of (K : PySem.W.Frag) : DF := sealF (dfOf ["one", "other"] 2 (d_sum_of_ K))
theorem df_sum_of_eq (K : PySem.W.Frag) : df_sum_of K = dfOf ["one", "other"] 2 (d_sum_of_ K) := sealF_eq _
theorem sd_sum_of (C : Cxt P w K mg base) : SF (sp_sum_of K w) (df_sum_of K) := sfSeal (sfOf fun E =>
    (ssSeq (ssIf (sOr (sTru (sCall (sd_is_pair C) (sCons (sVar 0) sNil))) (sOr (sTru (sCall (sd_is_pair C) (sCons (sVar 1) sNil))) (sTest (sOp gtD (sCB absDD (sCons (sOp addD (sVar 0) (sVar 1)) sNil)) (sCi _))))) (ssRet sCn) ssNext)
    (ssRet (sOp addD (sVar 0) (sVar 1)))))
noncomputable def d_loaded_kind_ (K : PySem.W.Frag) : DS :=
    (zSeq (zAsg (dLc (jSeq (dVar 2)) (hName 6) dYes (dCall (df_number_in K) (dCons (dOp dIx (dVar 0) (dVar 6)) (dCons (dC (.str "kind")) dNil))) [6]) (hName 4))
    (zSeq (zIf (dOr (dTest (dOp dIn (dC .none) (dVar 4))) (dTest (dOp dLt (dLenSet (dVar 4)) (dCB dLen (dCons (dVar 4) dNil))))) (zRet (dC .none)) zNext)
    (zSeq (zAsg (dMeth (He.ga K "PlainWorld") "new_kind" (df_PlainWorld_new_kind K) (dVar 1) (dCons (dCB dTupC (dCons (dCB dSorted (dCons (dVar 4) dNil)) dNil)) (dCons (dVar 3) dNil))) (hName 5))
    (zRet (dIf (dTest (dOp dIs (dVar 5) (dC .none))) (dC .none) (dTup (dCons (dC (.str "kind")) (dCons (dVar 5) dNil))))))))
noncomputable def df_loaded_kind (K : PySem.W.Frag) : DF := sealF (dfOf ["registers", "world", "some", "many", "parents", "number", "place"] 4 (d_loaded_kind_ K))
theorem df_loaded_kind_eq (K : PySem.W.Frag) : df_loaded_kind K = dfOf ["registers", "world", "some", "many", "parents", "number", "place"] 4 (d_loaded_kind_ K) := sealF_eq _
theorem sd_loaded_kind (C : Cxt P w K mg base) : SF (sp_loaded_kind K w) (df_loaded_kind K) := sfSeal (sfOf fun E =>
    (ssSeq (ssAsg (sLc (siSeq (sVar 2)) (sgName 6) (wpName (by decide)) sYes (sCall (sd_number_in C) (sCons (sOp ixD (sVar 0) (sVar 6)) (sCons (sCs _) sNil)))) (sgName 4))
    (ssSeq (ssIf (sOr (sTest (sOp inD sCn (sVar 4))) (sTest (sOp ltD (sLenSet (sVar 4)) (sCB lenDD (sCons (sVar 4) sNil))))) (ssRet sCn) ssNext)
    (ssSeq (ssAsg (sMeth (sd_PlainWorld_new_kind C) (sVar 1) (sCons (sCB tupD (sCons (sCB sortedD (sCons (sVar 4) sNil)) sNil)) (sCons (sVar 3) sNil))) (sgName 5))
    (ssRet (sIf (sTest (sOp isD (sVar 5) sCn)) sCn (sTup (sCons (sCs _) (sCons (sVar 5) sNil)))))))))
noncomputable def d_made_object_ (K : PySem.W.Frag) : DS :=
    (zSeq (zAsg (dCall (df_number_in K) (dCons (dOp dIx (dVar 0) (dVar 2)) (dCons (dC (.str "kind")) dNil))) (hName 3))
    (zSeq (zAsg (dIf (dTest (dOp dIs (dVar 3) (dC .none))) (dC .none) (dMeth (He.ga K "PlainWorld") "new_object" (df_PlainWorld_new_object K) (dVar 1) (dCons (dVar 3) dNil))) (hName 4))
    (zRet (dIf (dTest (dOp dIs (dVar 4) (dC .none))) (dC .none) (dTup (dCons (dC (.str "object")) (dCons (dVar 4) dNil)))))))
noncomputable def df_made_object (K : PySem.W.Frag) : DF := sealF (dfOf ["registers", "world", "y", "kind", "number"] 3 (d_made_object_ K))
theorem df_made_object_eq (K : PySem.W.Frag) : df_made_object K = dfOf ["registers", "world", "y", "kind", "number"] 3 (d_made_object_ K) := sealF_eq _
theorem sd_made_object (C : Cxt P w K mg base) : SF (sp_made_object K w) (df_made_object K) := sfSeal (sfOf fun E =>
    (ssSeq (ssAsg (sCall (sd_number_in C) (sCons (sOp ixD (sVar 0) (sVar 2)) (sCons (sCs _) sNil))) (sgName 3))
    (ssSeq (ssAsg (sIf (sTest (sOp isD (sVar 3) sCn)) sCn (sMeth (sd_PlainWorld_new_object C) (sVar 1) (sCons (sVar 3) sNil))) (sgName 4))
    (ssRet (sIf (sTest (sOp isD (sVar 4) sCn)) sCn (sTup (sCons (sCs _) (sCons (sVar 4) sNil))))))))
noncomputable def d_kind_in_ (K : PySem.W.Frag) : DS :=
    (zSeq (zAsg (dCall (df_number_in K) (dCons (dOp dIx (dVar 0) (dVar 2)) (dCons (dC (.str "object")) dNil))) (hName 3))
    (zRet (dIf (dTest (dOp dIs (dVar 3) (dC .none))) (dC .none) (dTup (dCons (dC (.str "kind")) (dCons (dMeth (He.ga K "PlainWorld") "kind_of" (df_PlainWorld_kind_of K) (dVar 1) (dCons (dVar 3) dNil)) dNil))))))
noncomputable def df_kind_in (K : PySem.W.Frag) : DF := sealF (dfOf ["registers", "world", "y", "number"] 3 (d_kind_in_ K))
theorem df_kind_in_eq (K : PySem.W.Frag) : df_kind_in K = dfOf ["registers", "world", "y", "number"] 3 (d_kind_in_ K) := sealF_eq _
theorem sd_kind_in (C : Cxt P w K mg base) : SF (sp_kind_in K w) (df_kind_in K) := sfSeal (sfOf fun E =>
    (ssSeq (ssAsg (sCall (sd_number_in C) (sCons (sOp ixD (sVar 0) (sVar 2)) (sCons (sCs _) sNil))) (sgName 3))
    (ssRet (sIf (sTest (sOp isD (sVar 3) sCn)) sCn (sTup (sCons (sCs _) (sCons (sMeth (sd_PlainWorld_kind_of C) (sVar 1) (sCons (sVar 3) sNil)) sNil)))))))
noncomputable def d_value_of_ (K : PySem.W.Frag) : DS :=
    (zSeq (zIf (dTest (dOp dEq (dOp dIx (dVar 0) (dC (.int 0))) (dC (.str "set")))) (zRet (dOp dIx (dVar 0) (dC (.int 2)))) zNext)
    (zSeq (zIf (dTest (dOp dEq (dOp dIx (dVar 0) (dC (.int 0))) (dC (.str "copy")))) (zRet (dOp dIx (dVar 1) (dOp dIx (dVar 0) (dC (.int 2))))) zNext)
    (zSeq (zIf (dTest (dOp dEq (dOp dIx (dVar 0) (dC (.int 0))) (dC (.str "add")))) (zRet (dCall (df_sum_of K) (dCons (dOp dIx (dVar 1) (dOp dIx (dVar 0) (dC (.int 2)))) (dCons (dOp dIx (dVar 1) (dOp dIx (dVar 0) (dC (.int 3)))) dNil)))) zNext)
    (zSeq (zIf (dTest (dOp dEq (dOp dIx (dVar 0) (dC (.int 0))) (dC (.str "load")))) (zRet (dCall (df_loaded_kind K) (dCons (dVar 1) (dCons (dVar 2) (dCons (dOp dIx (dVar 0) (dC (.int 2))) (dCons (dOp dIx (dVar 0) (dC (.int 3))) dNil)))))) zNext)
    (zSeq (zIf (dTest (dOp dEq (dOp dIx (dVar 0) (dC (.int 0))) (dC (.str "make")))) (zRet (dCall (df_made_object K) (dCons (dVar 1) (dCons (dVar 2) (dCons (dOp dIx (dVar 0) (dC (.int 2))) dNil))))) zNext)
    (zSeq (zIf (dTest (dOp dEq (dOp dIx (dVar 0) (dC (.int 0))) (dC (.str "kind")))) (zRet (dCall (df_kind_in K) (dCons (dVar 1) (dCons (dVar 2) (dCons (dOp dIx (dVar 0) (dC (.int 2))) dNil))))) zNext)
    (zSeq (zAsg (dCall (df_cell_of K) (dCons (dVar 1) (dCons (dVar 2) (dCons (dOp dIx (dVar 0) (dC (.int 2))) (dCons (dOp dIx (dVar 0) (dC (.int 3))) (dCons (dOp dIx (dVar 0) (dC (.int 4))) dNil)))))) (hName 3))
    (zRet (dIf (dTest (dOp dIs (dVar 3) (dC .none))) (dC .none) (dMeth (He.ga K "PlainWorld") "cell" (df_PlainWorld_cell K) (dVar 2) (dCons (dOp dIx (dVar 3) (dC (.int 0))) (dCons (dOp dIx (dVar 3) (dC (.int 1))) (dCons (dOp dIx (dVar 0) (dC (.int 4))) dNil)))))))))))))
noncomputable def df_value_of (K : PySem.W.Frag) : DF := sealF (dfOf ["row", "registers", "world", "found"] 3 (d_value_of_ K))
theorem df_value_of_eq (K : PySem.W.Frag) : df_value_of K = dfOf ["row", "registers", "world", "found"] 3 (d_value_of_ K) := sealF_eq _
theorem sd_value_of (C : Cxt P w K mg base) : SF (sp_value_of K w) (df_value_of K) := sfSeal (sfOf fun E =>
    (ssSeq (ssIf (sTest (sOp eqD (sOp ixD (sVar 0) (sCi _)) (sCs _))) (ssRet (sOp ixD (sVar 0) (sCi _))) ssNext)
    (ssSeq (ssIf (sTest (sOp eqD (sOp ixD (sVar 0) (sCi _)) (sCs _))) (ssRet (sOp ixD (sVar 1) (sOp ixD (sVar 0) (sCi _)))) ssNext)
    (ssSeq (ssIf (sTest (sOp eqD (sOp ixD (sVar 0) (sCi _)) (sCs _))) (ssRet (sCall (sd_sum_of C) (sCons (sOp ixD (sVar 1) (sOp ixD (sVar 0) (sCi _))) (sCons (sOp ixD (sVar 1) (sOp ixD (sVar 0) (sCi _))) sNil)))) ssNext)
    (ssSeq (ssIf (sTest (sOp eqD (sOp ixD (sVar 0) (sCi _)) (sCs _))) (ssRet (sCall (sd_loaded_kind C) (sCons (sVar 1) (sCons (sVar 2) (sCons (sOp ixD (sVar 0) (sCi _)) (sCons (sOp ixD (sVar 0) (sCi _)) sNil)))))) ssNext)
    (ssSeq (ssIf (sTest (sOp eqD (sOp ixD (sVar 0) (sCi _)) (sCs _))) (ssRet (sCall (sd_made_object C) (sCons (sVar 1) (sCons (sVar 2) (sCons (sOp ixD (sVar 0) (sCi _)) sNil))))) ssNext)
    (ssSeq (ssIf (sTest (sOp eqD (sOp ixD (sVar 0) (sCi _)) (sCs _))) (ssRet (sCall (sd_kind_in C) (sCons (sVar 1) (sCons (sVar 2) (sCons (sOp ixD (sVar 0) (sCi _)) sNil))))) ssNext)
    (ssSeq (ssAsg (sCall (sd_cell_of C) (sCons (sVar 1) (sCons (sVar 2) (sCons (sOp ixD (sVar 0) (sCi _)) (sCons (sOp ixD (sVar 0) (sCi _)) (sCons (sOp ixD (sVar 0) (sCi _)) sNil)))))) (sgName 3))
    (ssRet (sIf (sTest (sOp isD (sVar 3) sCn)) sCn (sMeth (sd_PlainWorld_cell C) (sVar 2) (sCons (sOp ixD (sVar 3) (sCi _)) (sCons (sOp ixD (sVar 3) (sCi _)) (sCons (sOp ixD (sVar 0) (sCi _)) sNil))))))))))))))
noncomputable def d_written_ (K : PySem.W.Frag) : DS :=
    (zSeq (zAsg (dCall (df_cell_of K) (dCons (dVar 1) (dCons (dVar 2) (dCons (dOp dIx (dVar 0) (dC (.int 1))) (dCons (dOp dIx (dVar 0) (dC (.int 2))) (dCons (dOp dIx (dVar 0) (dC (.int 3))) dNil)))))) (hName 3))
    (zSeq (zIf (dTest (dOp dIsNot (dVar 3) (dC .none))) (zDrop (dMeth (He.ga K "PlainWorld") "keep_cell" (df_PlainWorld_keep_cell K) (dVar 2) (dCons (dOp dIx (dVar 3) (dC (.int 0))) (dCons (dOp dIx (dVar 3) (dC (.int 1))) (dCons (dOp dIx (dVar 0) (dC (.int 3))) (dCons (dOp dIx (dVar 1) (dOp dIx (dVar 0) (dC (.int 4)))) dNil)))))) zNext)
    (zRet (dOp dIsNot (dVar 3) (dC .none)))))
noncomputable def df_written (K : PySem.W.Frag) : DF := sealF (dfOf ["row", "registers", "world", "found"] 3 (d_written_ K))
theorem df_written_eq (K : PySem.W.Frag) : df_written K = dfOf ["row", "registers", "world", "found"] 3 (d_written_ K) := sealF_eq _
theorem sd_written (C : Cxt P w K mg base) : SF (sp_written K w) (df_written K) := sfSeal (sfOf fun E =>
    (ssSeq (ssAsg (sCall (sd_cell_of C) (sCons (sVar 1) (sCons (sVar 2) (sCons (sOp ixD (sVar 0) (sCi _)) (sCons (sOp ixD (sVar 0) (sCi _)) (sCons (sOp ixD (sVar 0) (sCi _)) sNil)))))) (sgName 3))
    (ssSeq (ssIf (sTest (sOp isNotD (sVar 3) sCn)) (ssDrop (sMeth (sd_PlainWorld_keep_cell C) (sVar 2) (sCons (sOp ixD (sVar 3) (sCi _)) (sCons (sOp ixD (sVar 3) (sCi _)) (sCons (sOp ixD (sVar 0) (sCi _)) (sCons (sOp ixD (sVar 1) (sOp ixD (sVar 0) (sCi _))) sNil)))))) ssNext)
    (ssRet (sOp isNotD (sVar 3) sCn)))))
noncomputable def d_is_gone_ (K : PySem.W.Frag) : DS :=
    (zSeq (zPar 3 4 (dCons (dOp dIx (dVar 1) (dOp dIx (dVar 0) (dC (.int 1)))) (dCons (dOp dIx (dVar 1) (dOp dIx (dVar 0) (dC (.int 2)))) dNil)))
    (zSeq (zIf (dTest (dOp dEq (dOp dIx (dVar 0) (dC (.int 0))) (dC (.str "less")))) (zRet (dIf (dOr (dTru (dCall (df_is_pair K) (dCons (dVar 3) dNil))) (dTru (dCall (df_is_pair K) (dCons (dVar 4) dNil)))) (dC .none) (dOp dLt (dVar 3) (dVar 4)))) zNext)
    (zSeq (zPar 5 6 (dCons (dCall (df_number_in K) (dCons (dVar 3) (dCons (dC (.str "object")) dNil))) (dCons (dCall (df_number_in K) (dCons (dVar 4) (dCons (dC (.str "kind")) dNil))) dNil)))
    (zRet (dIf (dOr (dTest (dOp dIs (dVar 5) (dC .none))) (dTest (dOp dIs (dVar 6) (dC .none)))) (dC .none) (dMeth (He.ga K "PlainWorld") "is_kind" (df_PlainWorld_is_kind K) (dVar 2) (dCons (dVar 5) (dCons (dVar 6) dNil))))))))
noncomputable def df_is_gone (K : PySem.W.Frag) : DF := sealF (dfOf ["row", "registers", "world", "one", "other", "number", "kind"] 3 (d_is_gone_ K))
theorem df_is_gone_eq (K : PySem.W.Frag) : df_is_gone K = dfOf ["row", "registers", "world", "one", "other", "number", "kind"] 3 (d_is_gone_ K) := sealF_eq _
theorem sd_is_gone (C : Cxt P w K mg base) : SF (sp_is_gone K w) (df_is_gone K) := sfSeal (sfOf fun E =>
    (ssSeq (ssPar (sCons (sOp ixD (sVar 1) (sOp ixD (sVar 0) (sCi _))) (sCons (sOp ixD (sVar 1) (sOp ixD (sVar 0) (sCi _))) sNil)))
    (ssSeq (ssIf (sTest (sOp eqD (sOp ixD (sVar 0) (sCi _)) (sCs _))) (ssRet (sIf (sOr (sTru (sCall (sd_is_pair C) (sCons (sVar 3) sNil))) (sTru (sCall (sd_is_pair C) (sCons (sVar 4) sNil)))) sCn (sOp ltD (sVar 3) (sVar 4)))) ssNext)
    (ssSeq (ssPar (sCons (sCall (sd_number_in C) (sCons (sVar 3) (sCons (sCs _) sNil))) (sCons (sCall (sd_number_in C) (sCons (sVar 4) (sCons (sCs _) sNil))) sNil)))
    (ssRet (sIf (sOr (sTest (sOp isD (sVar 5) sCn)) (sTest (sOp isD (sVar 6) sCn))) sCn (sMeth (sd_PlainWorld_is_kind C) (sVar 2) (sCons (sVar 5) (sCons (sVar 6) sNil)))))))))
noncomputable def d_next_row_ (K : PySem.W.Frag) : DS :=
    (zSeq (zIf (dTest (dOp dEq (dOp dIx (dVar 0) (dC (.int 0))) (dC (.str "go")))) (zRet (dOp dIx (dVar 0) (dC (.int 1)))) zNext)
    (zSeq (zIf (dTest (dOp dIn (dOp dIx (dVar 0) (dC (.int 0))) (dTup (dCons (dC (.str "is")) (dCons (dC (.str "less")) dNil))))) (zSeq (zAsg (dCall (df_is_gone K) (dCons (dVar 0) (dCons (dVar 2) (dCons (dVar 4) dNil)))) (hName 5))
    (zRet (dIf (dTest (dOp dIs (dVar 5) (dC .none))) (dC .none) (dIf (dTru (dVar 5)) (dOp dIx (dVar 0) (dC (.int 3))) (dOp dAdd (dVar 1) (dC (.int 1))))))) zNext)
    (zSeq (zIf (dTest (dOp dEq (dOp dIx (dVar 0) (dC (.int 0))) (dC (.str "show")))) (zSeq (zDrop (dAppendT (dVar 3) (dOp dIx (dVar 2) (dOp dIx (dVar 0) (dC (.int 1))))))
    (zRet (dOp dAdd (dVar 1) (dC (.int 1))))) zNext)
    (zSeq (zIf (dTest (dOp dEq (dOp dIx (dVar 0) (dC (.int 0))) (dC (.str "write")))) (zRet (dIf (dTru (dCall (df_written K) (dCons (dVar 0) (dCons (dVar 2) (dCons (dVar 4) dNil))))) (dOp dAdd (dVar 1) (dC (.int 1))) (dC .none))) zNext)
    (zSeq (zAsg (dCall (df_value_of K) (dCons (dVar 0) (dCons (dVar 2) (dCons (dVar 4) dNil)))) (hName 6))
    (zSeq (zIf (dTest (dOp dIs (dVar 6) (dC .none))) (zRet (dC .none)) zNext)
    (zSeq (zAsg (dVar 6) (hSub (dVar 2) (dOp dIx (dVar 0) (dC (.int 1)))))
    (zRet (dOp dAdd (dVar 1) (dC (.int 1)))))))))))
noncomputable def df_next_row (K : PySem.W.Frag) : DF := sealF (dfOf ["row", "at", "registers", "values", "world", "found", "value"] 5 (d_next_row_ K))
theorem df_next_row_eq (K : PySem.W.Frag) : df_next_row K = dfOf ["row", "at", "registers", "values", "world", "found", "value"] 5 (d_next_row_ K) := sealF_eq _
theorem sd_next_row (C : Cxt P w K mg base) : SF (sp_next_row K w) (df_next_row K) := sfSeal (sfOf fun E =>
    (ssSeq (ssIf (sTest (sOp eqD (sOp ixD (sVar 0) (sCi _)) (sCs _))) (ssRet (sOp ixD (sVar 0) (sCi _))) ssNext)
    (ssSeq (ssIf (sTest (sOp inD (sOp ixD (sVar 0) (sCi _)) (sTup (sCons (sCs _) (sCons (sCs _) sNil))))) (ssSeq (ssAsg (sCall (sd_is_gone C) (sCons (sVar 0) (sCons (sVar 2) (sCons (sVar 4) sNil)))) (sgName 5))
    (ssRet (sIf (sTest (sOp isD (sVar 5) sCn)) sCn (sIf (sTru (sVar 5)) (sOp ixD (sVar 0) (sCi _)) (sOp addD (sVar 1) (sCi _)))))) ssNext)
    (ssSeq (ssIf (sTest (sOp eqD (sOp ixD (sVar 0) (sCi _)) (sCs _))) (ssSeq (ssDrop (sAppend (sVar 3) (sOp ixD (sVar 2) (sOp ixD (sVar 0) (sCi _)))))
    (ssRet (sOp addD (sVar 1) (sCi _)))) ssNext)
    (ssSeq (ssIf (sTest (sOp eqD (sOp ixD (sVar 0) (sCi _)) (sCs _))) (ssRet (sIf (sTru (sCall (sd_written C) (sCons (sVar 0) (sCons (sVar 2) (sCons (sVar 4) sNil))))) (sOp addD (sVar 1) (sCi _)) sCn)) ssNext)
    (ssSeq (ssAsg (sCall (sd_value_of C) (sCons (sVar 0) (sCons (sVar 2) (sCons (sVar 4) sNil)))) (sgName 6))
    (ssSeq (ssIf (sTest (sOp isD (sVar 6) sCn)) (ssRet sCn) ssNext)
    (ssSeq (ssAsg (sVar 6) (sgSub (sVar 2) (sOp ixD (sVar 0) (sCi _))))
    (ssRet (sOp addD (sVar 1) (sCi _)))))))))))
noncomputable def d_run_ (K : PySem.W.Frag) : DS :=
    (zSeq (zDrop (dCall (df_check_program K) (dCons (dVar 0) dNil)))
    (zSeq (zDrop (dCall (df_check_number K) (dCons (dVar 1) (dCons (dC (.int 0)) (dCons (dC (.int (20000))) dNil)))))
    (zSeq (zAsg (dOp dMulO (dLst (dCons (dC (.int 0)) dNil)) (dC (.int (10)))) (hName 2))
    (zSeq (zAsg (dLstO dNil) (hName 3))
    (zSeq (zAsg (dMake (He.ga K "PlainWorld") (df_PlainWorld___init__ K) dNil) (hName 4))
    (zSeq (zAsg (dC (.int 0)) (hName 5))
    (zSeq (zAsg (dC (.int 0)) (hName 6))
    (zSeq (zWhile (dAnd (dTest (dOp dLt (dVar 5) (dCB dLen (dCons (dVar 0) dNil)))) (dTest (dOp dLt (dVar 6) (dVar 1)))) (zSeq (zAsg (dCall (df_next_row K) (dCons (dOp dIx (dVar 0) (dVar 5)) (dCons (dVar 5) (dCons (dVar 2) (dCons (dVar 3) (dCons (dVar 4) dNil)))))) (hName 7))
    (zSeq (zIf (dTest (dOp dIs (dVar 7) (dC .none))) (zRet (dTup (dCons (dVar 3) (dCons (dTup (dCons (dC (.str "fault")) (dCons (dVar 5) dNil))) dNil)))) zNext)
    (zSeq (zAsg (dVar 7) (hName 5))
    (zAug 6 dIAdd (dC (.int 1)))))))
    (zRet (dTup (dCons (dVar 3) (dCons (dIf (dTest (dOp dEq (dVar 5) (dCB dLen (dCons (dVar 0) dNil)))) (dTup (dCons (dC (.str "end")) dNil)) (dTup (dCons (dC (.str "most")) (dCons (dVar 5) dNil)))) dNil))))))))))))
noncomputable def df_run (K : PySem.W.Frag) : DF := sealF (dfOfX ["program", "most", "registers", "values", "world", "at", "many", "later"] 2 (d_run_ K))
theorem df_run_eq (K : PySem.W.Frag) : df_run K = dfOfX ["program", "most", "registers", "values", "world", "at", "many", "later"] 2 (d_run_ K) := sealF_eq _
theorem sd_run (C : Cxt P w K mg base) : SF (sp_run K w) (df_run K) := sfSeal (sfOfX fun E =>
    (ssSeq (ssDrop (sCall (sd_check_program C) (sCons (sVar 0) sNil)))
    (ssSeq (ssDrop (sCall (sd_check_number C) (sCons (sVar 1) (sCons (sCi _) (sCons (sCi _) sNil)))))
    (ssSeq (ssAsg (sOp mulO (sLst (sCons (sCi _) sNil)) (sCi _)) (sgName 2))
    (ssSeq (ssAsg (sLstO sNil) (sgName 3))
    (ssSeq (ssAsg (sMake (sd_PlainWorld___init__ C) sNil) (sgName 4))
    (ssSeq (ssAsg (sCi _) (sgName 5))
    (ssSeq (ssAsg (sCi _) (sgName 6))
    (ssSeq (ssWhile (sAnd (sTest (sOp ltD (sVar 5) (sCB lenDD (sCons (sVar 0) sNil)))) (sTest (sOp ltD (sVar 6) (sVar 1)))) (ssSeq (ssAsg (sCall (sd_next_row C) (sCons (sOp ixD (sVar 0) (sVar 5)) (sCons (sVar 5) (sCons (sVar 2) (sCons (sVar 3) (sCons (sVar 4) sNil)))))) (sgName 7))
    (ssSeq (ssIf (sTest (sOp isD (sVar 7) sCn)) (ssRet (sTup (sCons (sVar 3) (sCons (sTup (sCons (sCs _) (sCons (sVar 5) sNil))) sNil)))) ssNext)
    (ssSeq (ssAsg (sVar 7) (sgName 5))
    (ssAug iaddD (sCi _))))))
    (ssRet (sTup (sCons (sVar 3) (sCons (sIf (sTest (sOp eqD (sVar 5) (sCB lenDD (sCons (sVar 0) sNil)))) (sTup (sCons (sCs _) sNil)) (sTup (sCons (sCs _) (sCons (sVar 5) sNil)))) sNil)))))))))))))
noncomputable def d__law_pool_ (K : PySem.W.Frag) : DS :=
    (zSeq (zAsg (dOp dAdd (dOp dAdd (dOp dMod (dCB (d1 intD) (dCons (dCB dSum (dCons (dSlK K (dVar 0) dNoPart (dPart (dC (.int 1)))) dNil)) dNil)) (dC (.int 1000003))) (dLenK K (dVar 0))) (dC (.int 1))) (hName 1))
    (zSeq (zFor (jSeq (dSlK K (dVar 0) dNoPart (dPart (dC (.int 63))))) (hName 2) (zAsg (dOp dMod (dCB (d1 intD) (dCons (dOp dAdd (dOp dAdd (dOp dMul (dVar 1) (dC (.int 48271))) (dOp dMod (dCB (d1 intD) (dCons (dVar 2) dNil)) (dC (.int 2147483629)))) (dC (.int 11))) dNil)) (dC (.int 2147483647))) (hName 1)))
    (zRet (dLstO (dCons (dVar 1) (dCons (dC (.int 0)) (dCons (dLcO (jSeq (dSlK K (dVar 0) dNoPart (dPart (dC (.int 63))))) (hName 2) (dTest (dOp dGe (dCB (d1 absD) (dCons (dVar 2) dNil)) (dOp dPow (dC (.int 10)) (dC (.int 18))))) (dCB (d1 absD) (dCons (dVar 2) dNil)) [2]) dNil)))))))
noncomputable def df__law_pool (K : PySem.W.Frag) : DF := sealF (dfOf ["_law_script", "_law_seed", "_law_cell"] 1 (d__law_pool_ K))
theorem df__law_pool_eq (K : PySem.W.Frag) : df__law_pool K = dfOf ["_law_script", "_law_seed", "_law_cell"] 1 (d__law_pool_ K) := sealF_eq _
theorem sd__law_pool (C : Cxt P w K mg base) : SF (sp__law_pool K w) (df__law_pool K) := sfSeal (sfOf fun E =>
    (ssSeq (ssAsg (sOp addD (sOp addD (sOp modD (sCB intDD (sCons (sCB sumD (sCons (sSlK (sVar 0) sNoPart (sPart (sCi _))) sNil)) sNil)) (sCi _)) (sLenK (sVar 0))) (sCi _)) (sgName 1))
    (ssSeq (ssFor (siSeq (sSlK (sVar 0) sNoPart (sPart (sCi _)))) (sgName 2) (ssAsg (sOp modD (sCB intDD (sCons (sOp addD (sOp addD (sOp mulD (sVar 1) (sCi _)) (sOp modD (sCB intDD (sCons (sVar 2) sNil)) (sCi _))) (sCi _)) sNil)) (sCi _)) (sgName 1)))
    (ssRet (sLstO (sCons (sVar 1) (sCons (sCi _) (sCons (sLcO (siSeq (sSlK (sVar 0) sNoPart (sPart (sCi _)))) (sgName 2) (wpName (by decide)) (sTest (sOp geD (sCB absDD (sCons (sVar 2) sNil)) (sOp powD (sCi _) (sCi _)))) (sCB absDD (sCons (sVar 2) sNil))) sNil))))))))
noncomputable def d__law_draw_ (K : PySem.W.Frag) : DS :=
    (zSeq (zAsg (dOp dAdd (dOp dIx (dVar 0) (dC (.int 1))) (dC (.int 1))) (hSub (dVar 0) (dC (.int 1))))
    (zSeq (zAsg (dOp dIx (dVar 0) (dC (.int 2))) (hName 2))
    (zSeq (zIf (dTest (dOp dGt (dCB dLen (dCons (dVar 2) dNil)) (dC (.int 0)))) (zSeq (zAsg (dOp dMod (dCB (d1 intD) (dCons (dOp dIx (dVar 2) (dC (.int 0))) dNil)) (dVar 1)) (hName 3))
    (zSeq (zAsg (dOp dDiv (dCB (d1 intD) (dCons (dOp dIx (dVar 2) (dC (.int 0))) dNil)) (dVar 1)) (hSub (dVar 2) (dC (.int 0))))
    (zSeq (zIf (dTest (dOp dEq (dOp dIx (dVar 2) (dC (.int 0))) (dC (.int 0)))) (zDrop (dPopAt (dVar 2) (dC (.int 0)))) zNext)
    (zRet (dVar 3))))) zNext)
    (zSeq (zAsg (dOp dMod (dCB (d1 intD) (dCons (dOp dMul (dOp dAdd (dOp dIx (dVar 0) (dC (.int 0))) (dOp dMul (dC (.int 7919)) (dOp dIx (dVar 0) (dC (.int 1))))) (dC (.int 48271))) dNil)) (dC (.int 2147483647))) (hName 4))
    (zSeq (zAsg (dOp dMod (dCB (d1 intD) (dCons (dOp dMul (dVar 4) (dOp dAdd (dOp dDiv (dVar 4) (dC (.int 1009))) (dC (.int 69621)))) dNil)) (dC (.int 2147483647))) (hName 4))
    (zSeq (zAsg (dOp dMod (dCB (d1 intD) (dCons (dOp dMul (dVar 4) (dOp dAdd (dOp dDiv (dVar 4) (dC (.int 2003))) (dC (.int 40692)))) dNil)) (dC (.int 2147483399))) (hName 4))
    (zRet (dOp dMod (dCB (d1 intD) (dCons (dOp dDiv (dVar 4) (dC (.int 16))) dNil)) (dVar 1)))))))))
noncomputable def df__law_draw (K : PySem.W.Frag) : DF := sealF (dfOf ["_law_pool_here", "_law_many", "_law_cells", "_law_digit", "_law_mixed_here"] 2 (d__law_draw_ K))
theorem df__law_draw_eq (K : PySem.W.Frag) : df__law_draw K = dfOf ["_law_pool_here", "_law_many", "_law_cells", "_law_digit", "_law_mixed_here"] 2 (d__law_draw_ K) := sealF_eq _
theorem sd__law_draw (C : Cxt P w K mg base) : SF (sp__law_draw K w) (df__law_draw K) := sfSeal (sfOf fun E =>
    (ssSeq (ssAsg (sOp addD (sOp ixD (sVar 0) (sCi _)) (sCi _)) (sgSub (sVar 0) (sCi _)))
    (ssSeq (ssAsg (sOp ixD (sVar 0) (sCi _)) (sgName 2))
    (ssSeq (ssIf (sTest (sOp gtD (sCB lenDD (sCons (sVar 2) sNil)) (sCi _))) (ssSeq (ssAsg (sOp modD (sCB intDD (sCons (sOp ixD (sVar 2) (sCi _)) sNil)) (sVar 1)) (sgName 3))
    (ssSeq (ssAsg (sOp divD (sCB intDD (sCons (sOp ixD (sVar 2) (sCi _)) sNil)) (sVar 1)) (sgSub (sVar 2) (sCi _)))
    (ssSeq (ssIf (sTest (sOp eqD (sOp ixD (sVar 2) (sCi _)) (sCi _))) (ssDrop (sPopAt (sVar 2) (sCi _))) ssNext)
    (ssRet (sVar 3))))) ssNext)
    (ssSeq (ssAsg (sOp modD (sCB intDD (sCons (sOp mulD (sOp addD (sOp ixD (sVar 0) (sCi _)) (sOp mulD (sCi _) (sOp ixD (sVar 0) (sCi _)))) (sCi _)) sNil)) (sCi _)) (sgName 4))
    (ssSeq (ssAsg (sOp modD (sCB intDD (sCons (sOp mulD (sVar 4) (sOp addD (sOp divD (sVar 4) (sCi _)) (sCi _))) sNil)) (sCi _)) (sgName 4))
    (ssSeq (ssAsg (sOp modD (sCB intDD (sCons (sOp mulD (sVar 4) (sOp addD (sOp divD (sVar 4) (sCi _)) (sCi _))) sNil)) (sCi _)) (sgName 4))
    (ssRet (sOp modD (sCB intDD (sCons (sOp divD (sVar 4) (sCi _)) sNil)) (sVar 1))))))))))
noncomputable def d__law_mixed_ (K : PySem.W.Frag) : DS :=
    (zSeq (zAsg (dCB dListO (dCons (dVar 1) dNil)) (hName 2))
    (zSeq (zAsg (dLstO dNil) (hName 3))
    (zSeq (zFor (jRng1 (dCB dLen (dCons (dVar 1) dNil))) (hName 4) (zDrop (dAppendT (dVar 3) (dPopAt (dVar 2) (dCall (df__law_draw K) (dCons (dVar 0) (dCons (dCB dLen (dCons (dVar 2) dNil)) dNil)))))))
    (zRet (dFrz 3)))))
noncomputable def df__law_mixed (K : PySem.W.Frag) : DF := sealF (dfOfX ["_law_pool_here", "_law_things", "_law_left", "_law_made_here", "_law_k"] 2 (d__law_mixed_ K))
theorem df__law_mixed_eq (K : PySem.W.Frag) : df__law_mixed K = dfOfX ["_law_pool_here", "_law_things", "_law_left", "_law_made_here", "_law_k"] 2 (d__law_mixed_ K) := sealF_eq _
theorem sd__law_mixed (C : Cxt P w K mg base) : SF (sp__law_mixed K w) (df__law_mixed K) := sfSeal (sfOfX fun E =>
    (ssSeq (ssAsg (sCB listO (sCons (sVar 1) sNil)) (sgName 2))
    (ssSeq (ssAsg (sLstO sNil) (sgName 3))
    (ssSeq (ssFor (siRng1 (sCB lenDD (sCons (sVar 1) sNil))) (sgName 4) (ssDrop (sAppend (sVar 3) (sPopAt (sVar 2) (sCall (sd__law_draw C) (sCons (sVar 0) (sCons (sCB lenDD (sCons (sVar 2) sNil)) sNil)))))))
    (ssRet (sFrz 3))))))
noncomputable def d__law_some_ (K : PySem.W.Frag) : DS :=
    (zRet (dOp dIx (dVar 1) (dCall (df__law_draw K) (dCons (dVar 0) (dCons (dCB dLen (dCons (dVar 1) dNil)) dNil)))))
noncomputable def df__law_some (K : PySem.W.Frag) : DF := sealF (dfOf ["_law_pool_here", "_law_things"] 2 (d__law_some_ K))
theorem df__law_some_eq (K : PySem.W.Frag) : df__law_some K = dfOf ["_law_pool_here", "_law_things"] 2 (d__law_some_ K) := sealF_eq _
theorem sd__law_some (C : Cxt P w K mg base) : SF (sp__law_some K w) (df__law_some K) := sfSeal (sfOf fun E =>
    (ssRet (sOp ixD (sVar 1) (sCall (sd__law_draw C) (sCons (sVar 0) (sCons (sCB lenDD (sCons (sVar 1) sNil)) sNil))))))
noncomputable def d__law_begun_ (K : PySem.W.Frag) : DS :=
    (zRet (dDisp [((dC (.str "at")), (dC (.int 0))), ((dC (.str "fault")), (dC (.bool false))), ((dC (.str "held")), (dOp dMulO (dLst (dCons (dC (.int 0)) dNil)) (dC (.int 10)))), ((dC (.str "shown")), (dLstO dNil)), ((dC (.str "parents")), (dLstO dNil)), ((dC (.str "brought")), (dLstO dNil)), ((dC (.str "above")), (dLstO dNil)), ((dC (.str "kinds")), (dLstO dNil)), ((dC (.str "cells")), (dLstO dNil))]))
noncomputable def df__law_begun (K : PySem.W.Frag) : DF := sealF (dfOf [] 0 (d__law_begun_ K))
theorem df__law_begun_eq (K : PySem.W.Frag) : df__law_begun K = dfOf [] 0 (d__law_begun_ K) := sealF_eq _
theorem sd__law_begun (C : Cxt P w K mg base) : SF (sp__law_begun K w) (df__law_begun K) := sfSeal (sfOf fun E =>
    (ssRet (sDisp (.cons (sCs _) (sCi _) (.cons (sCs _) (sCb _) (.cons (sCs _) (sOp mulO (sLst (sCons (sCi _) sNil)) (sCi _)) (.cons (sCs _) (sLstO sNil) (.cons (sCs _) (sLstO sNil) (.cons (sCs _) (sLstO sNil) (.cons (sCs _) (sLstO sNil) (.cons (sCs _) (sLstO sNil) (.cons (sCs _) (sLstO sNil) .nil))))))))))))
noncomputable def d__law_sort_ (K : PySem.W.Frag) : DS :=
    (zRet (dIf (dTru (dIsin .tuple (dVar 0))) (dOp dIx (dVar 0) (dC (.int 0))) (dC (.str "integer"))))
noncomputable def df__law_sort (K : PySem.W.Frag) : DF := sealF (dfOf ["_law_value_here"] 1 (d__law_sort_ K))
theorem df__law_sort_eq (K : PySem.W.Frag) : df__law_sort K = dfOf ["_law_value_here"] 1 (d__law_sort_ K) := sealF_eq _
theorem sd__law_sort (C : Cxt P w K mg base) : SF (sp__law_sort K w) (df__law_sort K) := sfSeal (sfOf fun E =>
    (ssRet (sIf (sTru (sIsin .tuple rfl (sVar 0))) (sOp ixD (sVar 0) (sCi _)) (sCs _))))
noncomputable def d__law_new_kind_ (K : PySem.W.Frag) : DS :=
    (zSeq (zIf (dTest (dOp dEq (dCB dLen (dCons (dOp dIx (dVar 0) (dC (.str "parents"))) dNil)) (dC (.int 400)))) (zRet (dC .none)) zNext)
    (zSeq (zAsg (dCB dLen (dCons (dOp dIx (dVar 0) (dC (.str "parents"))) dNil)) (hName 3))
    (zSeq (zAsg (dDisp1 (dVar 3) (dC (.bool true))) (hName 4))
    (zSeq (zFor (jSeq (dVar 1)) (hName 5) (zDrop (dUpdK (dVar 4) (dOp dIx (dOp dIx (dVar 0) (dC (.str "above"))) (dVar 5)))))
    (zSeq (zDrop (dAppendT (dOp dIx (dVar 0) (dC (.str "parents"))) (dVar 1)))
    (zSeq (zDrop (dAppendT (dOp dIx (dVar 0) (dC (.str "brought"))) (dVar 2)))
    (zSeq (zDrop (dAppendT (dOp dIx (dVar 0) (dC (.str "above"))) (dVar 4)))
    (zRet (dTup (dCons (dC (.str "kind")) (dCons (dVar 3) dNil)))))))))))
noncomputable def df__law_new_kind (K : PySem.W.Frag) : DF := sealF (dfOfX ["_law_state", "_law_parents", "_law_many", "_law_number", "_law_here", "_law_parent"] 3 (d__law_new_kind_ K))
theorem df__law_new_kind_eq (K : PySem.W.Frag) : df__law_new_kind K = dfOfX ["_law_state", "_law_parents", "_law_many", "_law_number", "_law_here", "_law_parent"] 3 (d__law_new_kind_ K) := sealF_eq _
theorem sd__law_new_kind (C : Cxt P w K mg base) : SF (sp__law_new_kind K w) (df__law_new_kind K) := sfSeal (sfOfX fun E =>
    (ssSeq (ssIf (sTest (sOp eqD (sCB lenDD (sCons (sOp ixD (sVar 0) (sCs _)) sNil)) (sCi _))) (ssRet sCn) ssNext)
    (ssSeq (ssAsg (sCB lenDD (sCons (sOp ixD (sVar 0) (sCs _)) sNil)) (sgName 3))
    (ssSeq (ssAsg (sDisp1 (sVar 3) (sCb _)) (sgName 4))
    (ssSeq (ssFor (siSeq (sVar 1)) (sgName 5) (ssDrop (sUpdK (sVar 4) (sOp ixD (sOp ixD (sVar 0) (sCs _)) (sVar 5)))))
    (ssSeq (ssDrop (sAppend (sOp ixD (sVar 0) (sCs _)) (sVar 1)))
    (ssSeq (ssDrop (sAppend (sOp ixD (sVar 0) (sCs _)) (sVar 2)))
    (ssSeq (ssDrop (sAppend (sOp ixD (sVar 0) (sCs _)) (sVar 4)))
    (ssRet (sTup (sCons (sCs _) (sCons (sVar 3) sNil))))))))))))
noncomputable def d__law_loaded_ (K : PySem.W.Frag) : DS :=
    (zSeq (zAsg (dLc (jSeq (dVar 1)) (hName 5) dYes (dOp dIx (dOp dIx (dVar 0) (dC (.str "held"))) (dVar 5)) [5]) (hName 3))
    (zSeq (zIf (dNot (dTru (dCB dAll (dCons (dLc (jSeq (dVar 3)) (hName 6) dYes (dOp dEq (dCall (df__law_sort K) (dCons (dVar 6) dNil)) (dC (.str "kind"))) [6]) dNil)))) (zRet (dC .none)) zNext)
    (zSeq (zAsg (dCB dSorted (dCons (dLc (jSeq (dVar 3)) (hName 6) dYes (dOp dIx (dVar 6) (dC (.int 1))) [6]) dNil)) (hName 4))
    (zSeq (zIf (dTest (dOp dLt (dLenSet (dVar 4)) (dCB dLen (dCons (dVar 4) dNil)))) (zRet (dC .none)) zNext)
    (zRet (dCall (df__law_new_kind K) (dCons (dVar 0) (dCons (dCB dTupC (dCons (dVar 4) dNil)) (dCons (dVar 2) dNil)))))))))
noncomputable def df__law_loaded (K : PySem.W.Frag) : DF := sealF (dfOf ["_law_state", "_law_some_here", "_law_many", "_law_values", "_law_numbers", "_law_place", "_law_value_here"] 3 (d__law_loaded_ K))
theorem df__law_loaded_eq (K : PySem.W.Frag) : df__law_loaded K = dfOf ["_law_state", "_law_some_here", "_law_many", "_law_values", "_law_numbers", "_law_place", "_law_value_here"] 3 (d__law_loaded_ K) := sealF_eq _
theorem sd__law_loaded (C : Cxt P w K mg base) : SF (sp__law_loaded K w) (df__law_loaded K) := sfSeal (sfOf fun E =>
    (ssSeq (ssAsg (sLc (siSeq (sVar 1)) (sgName 5) (wpName (by decide)) sYes (sOp ixD (sOp ixD (sVar 0) (sCs _)) (sVar 5))) (sgName 3))
    (ssSeq (ssIf (sNot (sTru (sCB allD (sCons (sLc (siSeq (sVar 3)) (sgName 6) (wpName (by decide)) sYes (sOp eqD (sCall (sd__law_sort C) (sCons (sVar 6) sNil)) (sCs _))) sNil)))) (ssRet sCn) ssNext)
    (ssSeq (ssAsg (sCB sortedD (sCons (sLc (siSeq (sVar 3)) (sgName 6) (wpName (by decide)) sYes (sOp ixD (sVar 6) (sCi _))) sNil)) (sgName 4))
    (ssSeq (ssIf (sTest (sOp ltD (sLenSet (sVar 4)) (sCB lenDD (sCons (sVar 4) sNil)))) (ssRet sCn) ssNext)
    (ssRet (sCall (sd__law_new_kind C) (sCons (sVar 0) (sCons (sCB tupD (sCons (sVar 4) sNil)) (sCons (sVar 2) sNil))))))))))
noncomputable def d__law_made_ (K : PySem.W.Frag) : DS :=
    (zSeq (zIf (dOr (dTest (dOp dNe (dCall (df__law_sort K) (dCons (dVar 1) dNil)) (dC (.str "kind")))) (dTest (dOp dEq (dCB dLen (dCons (dOp dIx (dVar 0) (dC (.str "kinds"))) dNil)) (dC (.int 2000))))) (zRet (dC .none)) zNext)
    (zSeq (zAsg dNewT (hName 2))
    (zSeq (zForK (dOp dIx (dOp dIx (dVar 0) (dC (.str "above"))) (dOp dIx (dVar 1) (dC (.int 1)))) (hName 3) (zFor (jRng1 (dOp dIx (dOp dIx (dVar 0) (dC (.str "brought"))) (dVar 3))) (hName 4) (zAsg (dC (.int 0)) (hSub (dVar 2) (dTup (dCons (dVar 3) (dCons (dVar 4) dNil)))))))
    (zSeq (zDrop (dAppendT (dOp dIx (dVar 0) (dC (.str "kinds"))) (dOp dIx (dVar 1) (dC (.int 1)))))
    (zSeq (zDrop (dAppendT (dOp dIx (dVar 0) (dC (.str "cells"))) (dVar 2)))
    (zRet (dTup (dCons (dC (.str "object")) (dCons (dOp dSub (dCB dLen (dCons (dOp dIx (dVar 0) (dC (.str "kinds"))) dNil)) (dC (.int 1))) dNil)))))))))
noncomputable def df__law_made (K : PySem.W.Frag) : DF := sealF (dfOfX ["_law_state", "_law_value_here", "_law_cells", "_law_one", "_law_field"] 2 (d__law_made_ K))
theorem df__law_made_eq (K : PySem.W.Frag) : df__law_made K = dfOfX ["_law_state", "_law_value_here", "_law_cells", "_law_one", "_law_field"] 2 (d__law_made_ K) := sealF_eq _
theorem sd__law_made (C : Cxt P w K mg base) : SF (sp__law_made K w) (df__law_made K) := sfSeal (sfOfX fun E =>
    (ssSeq (ssIf (sOr (sTest (sOp neD (sCall (sd__law_sort C) (sCons (sVar 1) sNil)) (sCs _))) (sTest (sOp eqD (sCB lenDD (sCons (sOp ixD (sVar 0) (sCs _)) sNil)) (sCi _)))) (ssRet sCn) ssNext)
    (ssSeq (ssAsg sNewT (sgName 2))
    (ssSeq (ssForK (sOp ixD (sOp ixD (sVar 0) (sCs _)) (sOp ixD (sVar 1) (sCi _))) (sgName 3) (ssFor (siRng1 (sOp ixD (sOp ixD (sVar 0) (sCs _)) (sVar 3))) (sgName 4) (ssAsg (sCi _) (sgSub (sVar 2) (sTup (sCons (sVar 3) (sCons (sVar 4) sNil)))))))
    (ssSeq (ssDrop (sAppend (sOp ixD (sVar 0) (sCs _)) (sOp ixD (sVar 1) (sCi _))))
    (ssSeq (ssDrop (sAppend (sOp ixD (sVar 0) (sCs _)) (sVar 2)))
    (ssRet (sTup (sCons (sCs _) (sCons (sOp subD (sCB lenDD (sCons (sOp ixD (sVar 0) (sCs _)) sNil)) (sCi _)) sNil))))))))))
noncomputable def d__law_spot_ (K : PySem.W.Frag) : DS :=
    (zSeq (zIf (dOr (dTest (dOp dNe (dCall (df__law_sort K) (dCons (dVar 1) dNil)) (dC (.str "object")))) (dTest (dOp dNe (dCall (df__law_sort K) (dCons (dVar 2) dNil)) (dC (.str "kind"))))) (zRet (dC .none)) zNext)
    (zSeq (zAsg (dTup (dCons (dOp dIx (dVar 2) (dC (.int 1))) (dCons (dVar 3) dNil))) (hName 4))
    (zRet (dIf (dTest (dOp dIn (dVar 4) (dOp dIx (dOp dIx (dVar 0) (dC (.str "cells"))) (dOp dIx (dVar 1) (dC (.int 1)))))) (dTup (dCons (dOp dIx (dVar 1) (dC (.int 1))) (dCons (dVar 4) dNil))) (dC .none)))))
noncomputable def df__law_spot (K : PySem.W.Frag) : DF := sealF (dfOf ["_law_state", "_law_one", "_law_other", "_law_field", "_law_spot_here"] 4 (d__law_spot_ K))
theorem df__law_spot_eq (K : PySem.W.Frag) : df__law_spot K = dfOf ["_law_state", "_law_one", "_law_other", "_law_field", "_law_spot_here"] 4 (d__law_spot_ K) := sealF_eq _
theorem sd__law_spot (C : Cxt P w K mg base) : SF (sp__law_spot K w) (df__law_spot K) := sfSeal (sfOf fun E =>
    (ssSeq (ssIf (sOr (sTest (sOp neD (sCall (sd__law_sort C) (sCons (sVar 1) sNil)) (sCs _))) (sTest (sOp neD (sCall (sd__law_sort C) (sCons (sVar 2) sNil)) (sCs _)))) (ssRet sCn) ssNext)
    (ssSeq (ssAsg (sTup (sCons (sOp ixD (sVar 2) (sCi _)) (sCons (sVar 3) sNil))) (sgName 4))
    (ssRet (sIf (sTest (sOp inD (sVar 4) (sOp ixD (sOp ixD (sVar 0) (sCs _)) (sOp ixD (sVar 1) (sCi _))))) (sTup (sCons (sOp ixD (sVar 1) (sCi _)) (sCons (sVar 4) sNil))) sCn)))))
noncomputable def d__law_value_ (K : PySem.W.Frag) : DS :=
    (zSeq (zAsg (dOp dIx (dVar 0) (dC (.str "held"))) (hName 2))
    (zSeq (zIf (dTest (dOp dEq (dOp dIx (dVar 1) (dC (.int 0))) (dC (.str "set")))) (zRet (dOp dIx (dVar 1) (dC (.int 2)))) zNext)
    (zSeq (zIf (dTest (dOp dEq (dOp dIx (dVar 1) (dC (.int 0))) (dC (.str "copy")))) (zRet (dOp dIx (dVar 2) (dOp dIx (dVar 1) (dC (.int 2))))) zNext)
    (zSeq (zIf (dTest (dOp dEq (dOp dIx (dVar 1) (dC (.int 0))) (dC (.str "load")))) (zRet (dCall (df__law_loaded K) (dCons (dVar 0) (dCons (dOp dIx (dVar 1) (dC (.int 2))) (dCons (dOp dIx (dVar 1) (dC (.int 3))) dNil))))) zNext)
    (zSeq (zIf (dTest (dOp dEq (dOp dIx (dVar 1) (dC (.int 0))) (dC (.str "make")))) (zRet (dCall (df__law_made K) (dCons (dVar 0) (dCons (dOp dIx (dVar 2) (dOp dIx (dVar 1) (dC (.int 2)))) dNil)))) zNext)
    (zSeq (zIf (dTest (dOp dEq (dOp dIx (dVar 1) (dC (.int 0))) (dC (.str "kind")))) (zSeq (zAsg (dOp dIx (dVar 2) (dOp dIx (dVar 1) (dC (.int 2)))) (hName 3))
    (zRet (dIf (dTest (dOp dEq (dCall (df__law_sort K) (dCons (dVar 3) dNil)) (dC (.str "object")))) (dTup (dCons (dC (.str "kind")) (dCons (dOp dIx (dOp dIx (dVar 0) (dC (.str "kinds"))) (dOp dIx (dVar 3) (dC (.int 1)))) dNil))) (dC .none)))) zNext)
    (zSeq (zIf (dTest (dOp dEq (dOp dIx (dVar 1) (dC (.int 0))) (dC (.str "add")))) (zSeq (zPar 4 5 (dCons (dOp dIx (dVar 2) (dOp dIx (dVar 1) (dC (.int 2)))) (dCons (dOp dIx (dVar 2) (dOp dIx (dVar 1) (dC (.int 3)))) dNil)))
    (zSeq (zIf (dOr (dTest (dOp dNe (dCall (df__law_sort K) (dCons (dVar 4) dNil)) (dC (.str "integer")))) (dOr (dTest (dOp dNe (dCall (df__law_sort K) (dCons (dVar 5) dNil)) (dC (.str "integer")))) (dTest (dOp dGt (dCB (d1 absD) (dCons (dOp dAdd (dVar 4) (dVar 5)) dNil)) (dOp dPow (dC (.int 10)) (dC (.int 18))))))) (zRet (dC .none)) zNext)
    (zRet (dOp dAdd (dVar 4) (dVar 5))))) zNext)
    (zSeq (zAsg (dCall (df__law_spot K) (dCons (dVar 0) (dCons (dOp dIx (dVar 2) (dOp dIx (dVar 1) (dC (.int 2)))) (dCons (dOp dIx (dVar 2) (dOp dIx (dVar 1) (dC (.int 3)))) (dCons (dOp dIx (dVar 1) (dC (.int 4))) dNil))))) (hName 6))
    (zRet (dIf (dTest (dOp dIs (dVar 6) (dC .none))) (dC .none) (dOp dIx (dOp dIx (dOp dIx (dVar 0) (dC (.str "cells"))) (dOp dIx (dVar 6) (dC (.int 0)))) (dOp dIx (dVar 6) (dC (.int 1))))))))))))))
noncomputable def df__law_value (K : PySem.W.Frag) : DF := sealF (dfOf ["_law_state", "_law_row_here", "_law_held", "_law_value_here", "_law_one", "_law_other", "_law_spot_here"] 2 (d__law_value_ K))
theorem df__law_value_eq (K : PySem.W.Frag) : df__law_value K = dfOf ["_law_state", "_law_row_here", "_law_held", "_law_value_here", "_law_one", "_law_other", "_law_spot_here"] 2 (d__law_value_ K) := sealF_eq _
theorem sd__law_value (C : Cxt P w K mg base) : SF (sp__law_value K w) (df__law_value K) := sfSeal (sfOf fun E =>
    (ssSeq (ssAsg (sOp ixD (sVar 0) (sCs _)) (sgName 2))
    (ssSeq (ssIf (sTest (sOp eqD (sOp ixD (sVar 1) (sCi _)) (sCs _))) (ssRet (sOp ixD (sVar 1) (sCi _))) ssNext)
    (ssSeq (ssIf (sTest (sOp eqD (sOp ixD (sVar 1) (sCi _)) (sCs _))) (ssRet (sOp ixD (sVar 2) (sOp ixD (sVar 1) (sCi _)))) ssNext)
    (ssSeq (ssIf (sTest (sOp eqD (sOp ixD (sVar 1) (sCi _)) (sCs _))) (ssRet (sCall (sd__law_loaded C) (sCons (sVar 0) (sCons (sOp ixD (sVar 1) (sCi _)) (sCons (sOp ixD (sVar 1) (sCi _)) sNil))))) ssNext)
    (ssSeq (ssIf (sTest (sOp eqD (sOp ixD (sVar 1) (sCi _)) (sCs _))) (ssRet (sCall (sd__law_made C) (sCons (sVar 0) (sCons (sOp ixD (sVar 2) (sOp ixD (sVar 1) (sCi _))) sNil)))) ssNext)
    (ssSeq (ssIf (sTest (sOp eqD (sOp ixD (sVar 1) (sCi _)) (sCs _))) (ssSeq (ssAsg (sOp ixD (sVar 2) (sOp ixD (sVar 1) (sCi _))) (sgName 3))
    (ssRet (sIf (sTest (sOp eqD (sCall (sd__law_sort C) (sCons (sVar 3) sNil)) (sCs _))) (sTup (sCons (sCs _) (sCons (sOp ixD (sOp ixD (sVar 0) (sCs _)) (sOp ixD (sVar 3) (sCi _))) sNil))) sCn))) ssNext)
    (ssSeq (ssIf (sTest (sOp eqD (sOp ixD (sVar 1) (sCi _)) (sCs _))) (ssSeq (ssPar (sCons (sOp ixD (sVar 2) (sOp ixD (sVar 1) (sCi _))) (sCons (sOp ixD (sVar 2) (sOp ixD (sVar 1) (sCi _))) sNil)))
    (ssSeq (ssIf (sOr (sTest (sOp neD (sCall (sd__law_sort C) (sCons (sVar 4) sNil)) (sCs _))) (sOr (sTest (sOp neD (sCall (sd__law_sort C) (sCons (sVar 5) sNil)) (sCs _))) (sTest (sOp gtD (sCB absDD (sCons (sOp addD (sVar 4) (sVar 5)) sNil)) (sOp powD (sCi _) (sCi _)))))) (ssRet sCn) ssNext)
    (ssRet (sOp addD (sVar 4) (sVar 5))))) ssNext)
    (ssSeq (ssAsg (sCall (sd__law_spot C) (sCons (sVar 0) (sCons (sOp ixD (sVar 2) (sOp ixD (sVar 1) (sCi _))) (sCons (sOp ixD (sVar 2) (sOp ixD (sVar 1) (sCi _))) (sCons (sOp ixD (sVar 1) (sCi _)) sNil))))) (sgName 6))
    (ssRet (sIf (sTest (sOp isD (sVar 6) sCn)) sCn (sOp ixD (sOp ixD (sOp ixD (sVar 0) (sCs _)) (sOp ixD (sVar 6) (sCi _))) (sOp ixD (sVar 6) (sCi _))))))))))))))
noncomputable def d__law_goes_ (K : PySem.W.Frag) : DS :=
    (zSeq (zPar 2 3 (dCons (dOp dIx (dOp dIx (dVar 0) (dC (.str "held"))) (dOp dIx (dVar 1) (dC (.int 1)))) (dCons (dOp dIx (dOp dIx (dVar 0) (dC (.str "held"))) (dOp dIx (dVar 1) (dC (.int 2)))) dNil)))
    (zSeq (zIf (dTest (dOp dEq (dOp dIx (dVar 1) (dC (.int 0))) (dC (.str "less")))) (zSeq (zIf (dOr (dTest (dOp dNe (dCall (df__law_sort K) (dCons (dVar 2) dNil)) (dC (.str "integer")))) (dTest (dOp dNe (dCall (df__law_sort K) (dCons (dVar 3) dNil)) (dC (.str "integer"))))) (zRet (dC .none)) zNext)
    (zRet (dOp dLt (dVar 2) (dVar 3)))) zNext)
    (zSeq (zIf (dOr (dTest (dOp dNe (dCall (df__law_sort K) (dCons (dVar 2) dNil)) (dC (.str "object")))) (dTest (dOp dNe (dCall (df__law_sort K) (dCons (dVar 3) dNil)) (dC (.str "kind"))))) (zRet (dC .none)) zNext)
    (zRet (dOp dIn (dOp dIx (dVar 3) (dC (.int 1))) (dOp dIx (dOp dIx (dVar 0) (dC (.str "above"))) (dOp dIx (dOp dIx (dVar 0) (dC (.str "kinds"))) (dOp dIx (dVar 2) (dC (.int 1))))))))))
noncomputable def df__law_goes (K : PySem.W.Frag) : DF := sealF (dfOf ["_law_state", "_law_row_here", "_law_one", "_law_other"] 2 (d__law_goes_ K))
theorem df__law_goes_eq (K : PySem.W.Frag) : df__law_goes K = dfOf ["_law_state", "_law_row_here", "_law_one", "_law_other"] 2 (d__law_goes_ K) := sealF_eq _
theorem sd__law_goes (C : Cxt P w K mg base) : SF (sp__law_goes K w) (df__law_goes K) := sfSeal (sfOf fun E =>
    (ssSeq (ssPar (sCons (sOp ixD (sOp ixD (sVar 0) (sCs _)) (sOp ixD (sVar 1) (sCi _))) (sCons (sOp ixD (sOp ixD (sVar 0) (sCs _)) (sOp ixD (sVar 1) (sCi _))) sNil)))
    (ssSeq (ssIf (sTest (sOp eqD (sOp ixD (sVar 1) (sCi _)) (sCs _))) (ssSeq (ssIf (sOr (sTest (sOp neD (sCall (sd__law_sort C) (sCons (sVar 2) sNil)) (sCs _))) (sTest (sOp neD (sCall (sd__law_sort C) (sCons (sVar 3) sNil)) (sCs _)))) (ssRet sCn) ssNext)
    (ssRet (sOp ltD (sVar 2) (sVar 3)))) ssNext)
    (ssSeq (ssIf (sOr (sTest (sOp neD (sCall (sd__law_sort C) (sCons (sVar 2) sNil)) (sCs _))) (sTest (sOp neD (sCall (sd__law_sort C) (sCons (sVar 3) sNil)) (sCs _)))) (ssRet sCn) ssNext)
    (ssRet (sOp inD (sOp ixD (sVar 3) (sCi _)) (sOp ixD (sOp ixD (sVar 0) (sCs _)) (sOp ixD (sOp ixD (sVar 0) (sCs _)) (sOp ixD (sVar 2) (sCi _))))))))))
noncomputable def d__law_step_ (K : PySem.W.Frag) : DS :=
    (zSeq (zIf (dOr (dTru (dOp dIx (dVar 1) (dC (.str "fault")))) (dTest (dOp dEq (dOp dIx (dVar 1) (dC (.str "at"))) (dCB dLen (dCons (dVar 0) dNil))))) (zRet (dC (.bool false))) zNext)
    (zSeq (zAsg (dOp dIx (dVar 0) (dOp dIx (dVar 1) (dC (.str "at")))) (hName 2))
    (zSeq (zAsg (dOp dIx (dVar 1) (dC (.str "held"))) (hName 3))
    (zSeq (zAsg (dOp dAdd (dOp dIx (dVar 1) (dC (.str "at"))) (dC (.int 1))) (hName 4))
    (zSeq (zIf (dTest (dOp dEq (dOp dIx (dVar 2) (dC (.int 0))) (dC (.str "go")))) (zAsg (dOp dIx (dVar 2) (dC (.int 1))) (hName 4)) (zIf (dTest (dOp dIn (dOp dIx (dVar 2) (dC (.int 0))) (dLst (dCons (dC (.str "is")) (dCons (dC (.str "less")) dNil))))) (zSeq (zAsg (dCall (df__law_goes K) (dCons (dVar 1) (dCons (dVar 2) dNil))) (hName 5))
    (zAsg (dIf (dTest (dOp dIs (dVar 5) (dC .none))) (dC .none) (dIf (dTru (dVar 5)) (dOp dIx (dVar 2) (dC (.int 3))) (dVar 4))) (hName 4))) (zIf (dTest (dOp dEq (dOp dIx (dVar 2) (dC (.int 0))) (dC (.str "show")))) (zDrop (dAppendT (dOp dIx (dVar 1) (dC (.str "shown"))) (dOp dIx (dVar 3) (dOp dIx (dVar 2) (dC (.int 1)))))) (zIf (dTest (dOp dEq (dOp dIx (dVar 2) (dC (.int 0))) (dC (.str "write")))) (zSeq (zAsg (dCall (df__law_spot K) (dCons (dVar 1) (dCons (dOp dIx (dVar 3) (dOp dIx (dVar 2) (dC (.int 1)))) (dCons (dOp dIx (dVar 3) (dOp dIx (dVar 2) (dC (.int 2)))) (dCons (dOp dIx (dVar 2) (dC (.int 3))) dNil))))) (hName 6))
    (zIf (dTest (dOp dIs (dVar 6) (dC .none))) (zAsg (dC .none) (hName 4)) (zAsg (dOp dIx (dVar 3) (dOp dIx (dVar 2) (dC (.int 4)))) (hSub (dOp dIx (dOp dIx (dVar 1) (dC (.str "cells"))) (dOp dIx (dVar 6) (dC (.int 0)))) (dOp dIx (dVar 6) (dC (.int 1))))))) (zSeq (zAsg (dCall (df__law_value K) (dCons (dVar 1) (dCons (dVar 2) dNil))) (hName 7))
    (zIf (dTest (dOp dIs (dVar 7) (dC .none))) (zAsg (dC .none) (hName 4)) (zAsg (dVar 7) (hSub (dVar 3) (dOp dIx (dVar 2) (dC (.int 1)))))))))))
    (zSeq (zIf (dTest (dOp dIs (dVar 4) (dC .none))) (zAsg (dC (.bool true)) (hSub (dVar 1) (dC (.str "fault")))) (zAsg (dVar 4) (hSub (dVar 1) (dC (.str "at")))))
    (zRet (dC (.bool true)))))))))
noncomputable def df__law_step (K : PySem.W.Frag) : DF := sealF (dfOfX ["_law_program_here", "_law_state", "_law_row_here", "_law_held", "_law_later", "_law_answer", "_law_spot_here", "_law_value_here"] 2 (d__law_step_ K))
theorem df__law_step_eq (K : PySem.W.Frag) : df__law_step K = dfOfX ["_law_program_here", "_law_state", "_law_row_here", "_law_held", "_law_later", "_law_answer", "_law_spot_here", "_law_value_here"] 2 (d__law_step_ K) := sealF_eq _
theorem sd__law_step (C : Cxt P w K mg base) : SF (sp__law_step K w) (df__law_step K) := sfSeal (sfOfX fun E =>
    (ssSeq (ssIf (sOr (sTru (sOp ixD (sVar 1) (sCs _))) (sTest (sOp eqD (sOp ixD (sVar 1) (sCs _)) (sCB lenDD (sCons (sVar 0) sNil))))) (ssRet (sCb _)) ssNext)
    (ssSeq (ssAsg (sOp ixD (sVar 0) (sOp ixD (sVar 1) (sCs _))) (sgName 2))
    (ssSeq (ssAsg (sOp ixD (sVar 1) (sCs _)) (sgName 3))
    (ssSeq (ssAsg (sOp addD (sOp ixD (sVar 1) (sCs _)) (sCi _)) (sgName 4))
    (ssSeq (ssIf (sTest (sOp eqD (sOp ixD (sVar 2) (sCi _)) (sCs _))) (ssAsg (sOp ixD (sVar 2) (sCi _)) (sgName 4)) (ssIf (sTest (sOp inD (sOp ixD (sVar 2) (sCi _)) (sLst (sCons (sCs _) (sCons (sCs _) sNil))))) (ssSeq (ssAsg (sCall (sd__law_goes C) (sCons (sVar 1) (sCons (sVar 2) sNil))) (sgName 5))
    (ssAsg (sIf (sTest (sOp isD (sVar 5) sCn)) sCn (sIf (sTru (sVar 5)) (sOp ixD (sVar 2) (sCi _)) (sVar 4))) (sgName 4))) (ssIf (sTest (sOp eqD (sOp ixD (sVar 2) (sCi _)) (sCs _))) (ssDrop (sAppend (sOp ixD (sVar 1) (sCs _)) (sOp ixD (sVar 3) (sOp ixD (sVar 2) (sCi _))))) (ssIf (sTest (sOp eqD (sOp ixD (sVar 2) (sCi _)) (sCs _))) (ssSeq (ssAsg (sCall (sd__law_spot C) (sCons (sVar 1) (sCons (sOp ixD (sVar 3) (sOp ixD (sVar 2) (sCi _))) (sCons (sOp ixD (sVar 3) (sOp ixD (sVar 2) (sCi _))) (sCons (sOp ixD (sVar 2) (sCi _)) sNil))))) (sgName 6))
    (ssIf (sTest (sOp isD (sVar 6) sCn)) (ssAsg sCn (sgName 4)) (ssAsg (sOp ixD (sVar 3) (sOp ixD (sVar 2) (sCi _))) (sgSub (sOp ixD (sOp ixD (sVar 1) (sCs _)) (sOp ixD (sVar 6) (sCi _))) (sOp ixD (sVar 6) (sCi _)))))) (ssSeq (ssAsg (sCall (sd__law_value C) (sCons (sVar 1) (sCons (sVar 2) sNil))) (sgName 7))
    (ssIf (sTest (sOp isD (sVar 7) sCn)) (ssAsg sCn (sgName 4)) (ssAsg (sVar 7) (sgSub (sVar 3) (sOp ixD (sVar 2) (sCi _))))))))))
    (ssSeq (ssIf (sTest (sOp isD (sVar 4) sCn)) (ssAsg (sCb _) (sgSub (sVar 1) (sCs _))) (ssAsg (sVar 4) (sgSub (sVar 1) (sCs _))))
    (ssRet (sCb _)))))))))
noncomputable def d__law_run_ (K : PySem.W.Frag) : DS :=
    (zSeq (zAsg (dCall (df__law_begun K) dNil) (hName 2))
    (zSeq (zAsg (dC (.int 0)) (hName 3))
    (zSeq (zWhile (dAnd (dTest (dOp dLt (dVar 3) (dVar 1))) (dAnd (dNot (dTru (dOp dIx (dVar 2) (dC (.str "fault"))))) (dTest (dOp dLt (dOp dIx (dVar 2) (dC (.str "at"))) (dCB dLen (dCons (dVar 0) dNil)))))) (zSeq (zDrop (dCall (df__law_step K) (dCons (dVar 0) (dCons (dVar 2) dNil))))
    (zAsg (dOp dAdd (dVar 3) (dC (.int 1))) (hName 3))))
    (zRet (dVar 2)))))
noncomputable def df__law_run (K : PySem.W.Frag) : DF := sealF (dfOf ["_law_program_here", "_law_most", "_law_state", "_law_many"] 2 (d__law_run_ K))
theorem df__law_run_eq (K : PySem.W.Frag) : df__law_run K = dfOf ["_law_program_here", "_law_most", "_law_state", "_law_many"] 2 (d__law_run_ K) := sealF_eq _
theorem sd__law_run (C : Cxt P w K mg base) : SF (sp__law_run K w) (df__law_run K) := sfSeal (sfOf fun E =>
    (ssSeq (ssAsg (sCall (sd__law_begun C) sNil) (sgName 2))
    (ssSeq (ssAsg (sCi _) (sgName 3))
    (ssSeq (ssWhile (sAnd (sTest (sOp ltD (sVar 3) (sVar 1))) (sAnd (sNot (sTru (sOp ixD (sVar 2) (sCs _)))) (sTest (sOp ltD (sOp ixD (sVar 2) (sCs _)) (sCB lenDD (sCons (sVar 0) sNil)))))) (ssSeq (ssDrop (sCall (sd__law_step C) (sCons (sVar 0) (sCons (sVar 2) sNil))))
    (ssAsg (sOp addD (sVar 3) (sCi _)) (sgName 3))))
    (ssRet (sVar 2))))))
noncomputable def d__law_end_ (K : PySem.W.Frag) : DS :=
    (zSeq (zIf (dTru (dOp dIx (dVar 1) (dC (.str "fault")))) (zRet (dTup (dCons (dC (.str "fault")) (dCons (dOp dIx (dVar 1) (dC (.str "at"))) dNil)))) zNext)
    (zRet (dIf (dTest (dOp dEq (dOp dIx (dVar 1) (dC (.str "at"))) (dCB dLen (dCons (dVar 0) dNil)))) (dTup (dCons (dC (.str "end")) dNil)) (dTup (dCons (dVar 2) (dCons (dOp dIx (dVar 1) (dC (.str "at"))) dNil))))))
noncomputable def df__law_end (K : PySem.W.Frag) : DF := sealF (dfOf ["_law_program_here", "_law_state", "_law_word"] 3 (d__law_end_ K))
theorem df__law_end_eq (K : PySem.W.Frag) : df__law_end K = dfOf ["_law_program_here", "_law_state", "_law_word"] 3 (d__law_end_ K) := sealF_eq _
theorem sd__law_end (C : Cxt P w K mg base) : SF (sp__law_end K w) (df__law_end K) := sfSeal (sfOf fun E =>
    (ssSeq (ssIf (sTru (sOp ixD (sVar 1) (sCs _))) (ssRet (sTup (sCons (sCs _) (sCons (sOp ixD (sVar 1) (sCs _)) sNil)))) ssNext)
    (ssRet (sIf (sTest (sOp eqD (sOp ixD (sVar 1) (sCs _)) (sCB lenDD (sCons (sVar 0) sNil)))) (sTup (sCons (sCs _) sNil)) (sTup (sCons (sVar 2) (sCons (sOp ixD (sVar 1) (sCs _)) sNil)))))))
noncomputable def d__law_from_ (K : PySem.W.Frag) : DS :=
    (zRet (dIf (dTest (dOp dEq (dCall (df__law_draw K) (dCons (dVar 0) (dCons (dC (.int 24)) dNil))) (dC (.int 0)))) (dCall (df__law_draw K) (dCons (dVar 0) (dCons (dC (.int 10)) dNil))) (dCall (df__law_some K) (dCons (dVar 0) (dCons (dVar 1) dNil)))))
noncomputable def df__law_from (K : PySem.W.Frag) : DF := sealF (dfOf ["_law_pool_here", "_law_some_here"] 2 (d__law_from_ K))
theorem df__law_from_eq (K : PySem.W.Frag) : df__law_from K = dfOf ["_law_pool_here", "_law_some_here"] 2 (d__law_from_ K) := sealF_eq _
theorem sd__law_from (C : Cxt P w K mg base) : SF (sp__law_from K w) (df__law_from K) := sfSeal (sfOf fun E =>
    (ssRet (sIf (sTest (sOp eqD (sCall (sd__law_draw C) (sCons (sVar 0) (sCons (sCi _) sNil))) (sCi _))) (sCall (sd__law_draw C) (sCons (sVar 0) (sCons (sCi _) sNil))) (sCall (sd__law_some C) (sCons (sVar 0) (sCons (sVar 1) sNil))))))
noncomputable def d__law_row_ (K : PySem.W.Frag) : DS :=
    (zSeq (zPar3 2 3 4 (dCons (dLst (dCons (dC (.int 0)) (dCons (dC (.int 1)) (dCons (dC (.int 2)) dNil)))) (dCons (dLst (dCons (dC (.int 3)) (dCons (dC (.int 4)) (dCons (dC (.int 5)) (dCons (dC (.int 6)) dNil))))) (dCons (dLst (dCons (dC (.int 7)) (dCons (dC (.int 8)) (dCons (dC (.int 9)) dNil)))) dNil))))
    (zSeq (zAsg (dCall (df__law_some K) (dCons (dVar 0) (dCons (dLst (dCons (dC (.str "set")) (dCons (dC (.str "copy")) (dCons (dC (.str "add")) (dCons (dC (.str "load")) (dCons (dC (.str "load")) (dCons (dC (.str "make")) (dCons (dC (.str "make")) (dCons (dC (.str "kind")) (dCons (dC (.str "write")) (dCons (dC (.str "write")) (dCons (dC (.str "read")) dNil)))))))))))) dNil))) (hName 5))
    (zSeq (zAsg (dCall (df__law_some K) (dCons (dVar 0) (dCons (dLst (dCons (dVar 5) (dCons (dVar 5) (dCons (dVar 5) (dCons (dC (.str "is")) (dCons (dC (.str "less")) (dCons (dC (.str "go")) (dCons (dC (.str "show")) (dCons (dC (.str "show")) dNil))))))))) dNil))) (hName 5))
    (zSeq (zIf (dTest (dOp dEq (dVar 5) (dC (.str "set")))) (zRet (dTup (dCons (dC (.str "set")) (dCons (dCall (df__law_from K) (dCons (dVar 0) (dCons (dVar 2) dNil))) (dCons (dOp dSub (dCall (df__law_draw K) (dCons (dVar 0) (dCons (dC (.int 9)) dNil))) (dC (.int 3))) dNil))))) zNext)
    (zSeq (zIf (dTest (dOp dEq (dVar 5) (dC (.str "copy")))) (zSeq (zAsg (dCall (df__law_some K) (dCons (dVar 0) (dCons (dLst (dCons (dVar 2) (dCons (dVar 3) (dCons (dVar 4) dNil)))) dNil))) (hName 6))
    (zRet (dTup (dCons (dC (.str "copy")) (dCons (dCall (df__law_from K) (dCons (dVar 0) (dCons (dVar 6) dNil))) (dCons (dCall (df__law_from K) (dCons (dVar 0) (dCons (dVar 6) dNil))) dNil)))))) zNext)
    (zSeq (zIf (dTest (dOp dEq (dVar 5) (dC (.str "add")))) (zRet (dTup (dCons (dC (.str "add")) (dCons (dCall (df__law_from K) (dCons (dVar 0) (dCons (dVar 2) dNil))) (dCons (dCall (df__law_from K) (dCons (dVar 0) (dCons (dVar 2) dNil))) (dCons (dCall (df__law_from K) (dCons (dVar 0) (dCons (dVar 2) dNil))) dNil)))))) zNext)
    (zSeq (zIf (dTest (dOp dEq (dVar 5) (dC (.str "load")))) (zSeq (zAsg (dCB dTupC (dCons (dSl (dCall (df__law_mixed K) (dCons (dVar 0) (dCons (dVar 3) dNil))) dNoPart (dPart (dCall (df__law_some K) (dCons (dVar 0) (dCons (dLst (dCons (dC (.int 0)) (dCons (dC (.int 1)) (dCons (dC (.int 1)) (dCons (dC (.int 2)) (dCons (dC (.int 2)) (dCons (dC (.int 3)) (dCons (dC (.int 4)) dNil)))))))) dNil))))) dNil)) (hName 6))
    (zRet (dTup (dCons (dC (.str "load")) (dCons (dCall (df__law_from K) (dCons (dVar 0) (dCons (dVar 3) dNil))) (dCons (dVar 6) (dCons (dCall (df__law_draw K) (dCons (dVar 0) (dCons (dC (.int 4)) dNil))) dNil))))))) zNext)
    (zSeq (zIf (dTest (dOp dEq (dVar 5) (dC (.str "make")))) (zRet (dTup (dCons (dC (.str "make")) (dCons (dCall (df__law_from K) (dCons (dVar 0) (dCons (dVar 4) dNil))) (dCons (dCall (df__law_from K) (dCons (dVar 0) (dCons (dVar 3) dNil))) dNil))))) zNext)
    (zSeq (zIf (dTest (dOp dEq (dVar 5) (dC (.str "kind")))) (zRet (dTup (dCons (dC (.str "kind")) (dCons (dCall (df__law_from K) (dCons (dVar 0) (dCons (dVar 3) dNil))) (dCons (dCall (df__law_from K) (dCons (dVar 0) (dCons (dVar 4) dNil))) dNil))))) zNext)
    (zSeq (zIf (dTest (dOp dEq (dVar 5) (dC (.str "write")))) (zSeq (zAsg (dCall (df__law_draw K) (dCons (dVar 0) (dCons (dC (.int 10)) dNil))) (hName 7))
    (zRet (dTup (dCons (dC (.str "write")) (dCons (dCall (df__law_from K) (dCons (dVar 0) (dCons (dVar 4) dNil))) (dCons (dCall (df__law_from K) (dCons (dVar 0) (dCons (dVar 3) dNil))) (dCons (dCall (df__law_draw K) (dCons (dVar 0) (dCons (dC (.int 2)) dNil))) (dCons (dVar 7) dNil)))))))) zNext)
    (zSeq (zIf (dTest (dOp dEq (dVar 5) (dC (.str "read")))) (zSeq (zAsg (dCall (df__law_from K) (dCons (dVar 0) (dCons (dVar 2) dNil))) (hName 7))
    (zRet (dTup (dCons (dC (.str "read")) (dCons (dVar 7) (dCons (dCall (df__law_from K) (dCons (dVar 0) (dCons (dVar 4) dNil))) (dCons (dCall (df__law_from K) (dCons (dVar 0) (dCons (dVar 3) dNil))) (dCons (dCall (df__law_draw K) (dCons (dVar 0) (dCons (dC (.int 2)) dNil))) dNil)))))))) zNext)
    (zSeq (zIf (dTest (dOp dEq (dVar 5) (dC (.str "is")))) (zRet (dTup (dCons (dC (.str "is")) (dCons (dCall (df__law_from K) (dCons (dVar 0) (dCons (dVar 4) dNil))) (dCons (dCall (df__law_from K) (dCons (dVar 0) (dCons (dVar 3) dNil))) (dCons (dCall (df__law_draw K) (dCons (dVar 0) (dCons (dOp dAdd (dVar 1) (dC (.int 1))) dNil))) dNil)))))) zNext)
    (zSeq (zIf (dTest (dOp dEq (dVar 5) (dC (.str "less")))) (zRet (dTup (dCons (dC (.str "less")) (dCons (dCall (df__law_from K) (dCons (dVar 0) (dCons (dVar 2) dNil))) (dCons (dCall (df__law_from K) (dCons (dVar 0) (dCons (dVar 2) dNil))) (dCons (dCall (df__law_draw K) (dCons (dVar 0) (dCons (dOp dAdd (dVar 1) (dC (.int 1))) dNil))) dNil)))))) zNext)
    (zSeq (zIf (dTest (dOp dEq (dVar 5) (dC (.str "go")))) (zRet (dTup (dCons (dC (.str "go")) (dCons (dCall (df__law_draw K) (dCons (dVar 0) (dCons (dOp dAdd (dVar 1) (dC (.int 1))) dNil))) dNil)))) zNext)
    (zRet (dTup (dCons (dC (.str "show")) (dCons (dCall (df__law_draw K) (dCons (dVar 0) (dCons (dC (.int 10)) dNil))) dNil))))))))))))))))))
noncomputable def df__law_row (K : PySem.W.Frag) : DF := sealF (dfOf ["_law_pool_here", "_law_many", "_law_numbers", "_law_kinds", "_law_objects", "_law_word", "_law_some_here", "_law_any_one"] 2 (d__law_row_ K))
theorem df__law_row_eq (K : PySem.W.Frag) : df__law_row K = dfOf ["_law_pool_here", "_law_many", "_law_numbers", "_law_kinds", "_law_objects", "_law_word", "_law_some_here", "_law_any_one"] 2 (d__law_row_ K) := sealF_eq _
theorem sd__law_row (C : Cxt P w K mg base) : SF (sp__law_row K w) (df__law_row K) := sfSeal (sfOf fun E =>
    (ssSeq (ssPar3 (sCons (sLst (sCons (sCi _) (sCons (sCi _) (sCons (sCi _) sNil)))) (sCons (sLst (sCons (sCi _) (sCons (sCi _) (sCons (sCi _) (sCons (sCi _) sNil))))) (sCons (sLst (sCons (sCi _) (sCons (sCi _) (sCons (sCi _) sNil)))) sNil))))
    (ssSeq (ssAsg (sCall (sd__law_some C) (sCons (sVar 0) (sCons (sLst (sCons (sCs _) (sCons (sCs _) (sCons (sCs _) (sCons (sCs _) (sCons (sCs _) (sCons (sCs _) (sCons (sCs _) (sCons (sCs _) (sCons (sCs _) (sCons (sCs _) (sCons (sCs _) sNil)))))))))))) sNil))) (sgName 5))
    (ssSeq (ssAsg (sCall (sd__law_some C) (sCons (sVar 0) (sCons (sLst (sCons (sVar 5) (sCons (sVar 5) (sCons (sVar 5) (sCons (sCs _) (sCons (sCs _) (sCons (sCs _) (sCons (sCs _) (sCons (sCs _) sNil))))))))) sNil))) (sgName 5))
    (ssSeq (ssIf (sTest (sOp eqD (sVar 5) (sCs _))) (ssRet (sTup (sCons (sCs _) (sCons (sCall (sd__law_from C) (sCons (sVar 0) (sCons (sVar 2) sNil))) (sCons (sOp subD (sCall (sd__law_draw C) (sCons (sVar 0) (sCons (sCi _) sNil))) (sCi _)) sNil))))) ssNext)
    (ssSeq (ssIf (sTest (sOp eqD (sVar 5) (sCs _))) (ssSeq (ssAsg (sCall (sd__law_some C) (sCons (sVar 0) (sCons (sLst (sCons (sVar 2) (sCons (sVar 3) (sCons (sVar 4) sNil)))) sNil))) (sgName 6))
    (ssRet (sTup (sCons (sCs _) (sCons (sCall (sd__law_from C) (sCons (sVar 0) (sCons (sVar 6) sNil))) (sCons (sCall (sd__law_from C) (sCons (sVar 0) (sCons (sVar 6) sNil))) sNil)))))) ssNext)
    (ssSeq (ssIf (sTest (sOp eqD (sVar 5) (sCs _))) (ssRet (sTup (sCons (sCs _) (sCons (sCall (sd__law_from C) (sCons (sVar 0) (sCons (sVar 2) sNil))) (sCons (sCall (sd__law_from C) (sCons (sVar 0) (sCons (sVar 2) sNil))) (sCons (sCall (sd__law_from C) (sCons (sVar 0) (sCons (sVar 2) sNil))) sNil)))))) ssNext)
    (ssSeq (ssIf (sTest (sOp eqD (sVar 5) (sCs _))) (ssSeq (ssAsg (sCB tupD (sCons (sSl (sCall (sd__law_mixed C) (sCons (sVar 0) (sCons (sVar 3) sNil))) sNoPart (sPart (sCall (sd__law_some C) (sCons (sVar 0) (sCons (sLst (sCons (sCi _) (sCons (sCi _) (sCons (sCi _) (sCons (sCi _) (sCons (sCi _) (sCons (sCi _) (sCons (sCi _) sNil)))))))) sNil))))) sNil)) (sgName 6))
    (ssRet (sTup (sCons (sCs _) (sCons (sCall (sd__law_from C) (sCons (sVar 0) (sCons (sVar 3) sNil))) (sCons (sVar 6) (sCons (sCall (sd__law_draw C) (sCons (sVar 0) (sCons (sCi _) sNil))) sNil))))))) ssNext)
    (ssSeq (ssIf (sTest (sOp eqD (sVar 5) (sCs _))) (ssRet (sTup (sCons (sCs _) (sCons (sCall (sd__law_from C) (sCons (sVar 0) (sCons (sVar 4) sNil))) (sCons (sCall (sd__law_from C) (sCons (sVar 0) (sCons (sVar 3) sNil))) sNil))))) ssNext)
    (ssSeq (ssIf (sTest (sOp eqD (sVar 5) (sCs _))) (ssRet (sTup (sCons (sCs _) (sCons (sCall (sd__law_from C) (sCons (sVar 0) (sCons (sVar 3) sNil))) (sCons (sCall (sd__law_from C) (sCons (sVar 0) (sCons (sVar 4) sNil))) sNil))))) ssNext)
    (ssSeq (ssIf (sTest (sOp eqD (sVar 5) (sCs _))) (ssSeq (ssAsg (sCall (sd__law_draw C) (sCons (sVar 0) (sCons (sCi _) sNil))) (sgName 7))
    (ssRet (sTup (sCons (sCs _) (sCons (sCall (sd__law_from C) (sCons (sVar 0) (sCons (sVar 4) sNil))) (sCons (sCall (sd__law_from C) (sCons (sVar 0) (sCons (sVar 3) sNil))) (sCons (sCall (sd__law_draw C) (sCons (sVar 0) (sCons (sCi _) sNil))) (sCons (sVar 7) sNil)))))))) ssNext)
    (ssSeq (ssIf (sTest (sOp eqD (sVar 5) (sCs _))) (ssSeq (ssAsg (sCall (sd__law_from C) (sCons (sVar 0) (sCons (sVar 2) sNil))) (sgName 7))
    (ssRet (sTup (sCons (sCs _) (sCons (sVar 7) (sCons (sCall (sd__law_from C) (sCons (sVar 0) (sCons (sVar 4) sNil))) (sCons (sCall (sd__law_from C) (sCons (sVar 0) (sCons (sVar 3) sNil))) (sCons (sCall (sd__law_draw C) (sCons (sVar 0) (sCons (sCi _) sNil))) sNil)))))))) ssNext)
    (ssSeq (ssIf (sTest (sOp eqD (sVar 5) (sCs _))) (ssRet (sTup (sCons (sCs _) (sCons (sCall (sd__law_from C) (sCons (sVar 0) (sCons (sVar 4) sNil))) (sCons (sCall (sd__law_from C) (sCons (sVar 0) (sCons (sVar 3) sNil))) (sCons (sCall (sd__law_draw C) (sCons (sVar 0) (sCons (sOp addD (sVar 1) (sCi _)) sNil))) sNil)))))) ssNext)
    (ssSeq (ssIf (sTest (sOp eqD (sVar 5) (sCs _))) (ssRet (sTup (sCons (sCs _) (sCons (sCall (sd__law_from C) (sCons (sVar 0) (sCons (sVar 2) sNil))) (sCons (sCall (sd__law_from C) (sCons (sVar 0) (sCons (sVar 2) sNil))) (sCons (sCall (sd__law_draw C) (sCons (sVar 0) (sCons (sOp addD (sVar 1) (sCi _)) sNil))) sNil)))))) ssNext)
    (ssSeq (ssIf (sTest (sOp eqD (sVar 5) (sCs _))) (ssRet (sTup (sCons (sCs _) (sCons (sCall (sd__law_draw C) (sCons (sVar 0) (sCons (sOp addD (sVar 1) (sCi _)) sNil))) sNil)))) ssNext)
    (ssRet (sTup (sCons (sCs _) (sCons (sCall (sd__law_draw C) (sCons (sVar 0) (sCons (sCi _) sNil))) sNil)))))))))))))))))))
noncomputable def d__law_tried_ (K : PySem.W.Frag) : DS :=
    (zSeq (zFor (jRng1 (dC (.int 3))) (hName 3) (zSeq (zAsg (dCall (df__law_row K) (dCons (dVar 0) (dCons (dVar 2) dNil))) (hName 4))
    (zSeq (zIf (dTest (dOp dIn (dOp dIx (dVar 4) (dC (.int 0))) (dLst (dCons (dC (.str "go")) (dCons (dC (.str "is")) (dCons (dC (.str "less")) dNil)))))) (zRet (dOp dAdd (dVar 1) (dTup (dCons (dVar 4) dNil)))) zNext)
    (zSeq (zAsg (dCall (df__law_run K) (dCons (dOp dAdd (dVar 1) (dTup (dCons (dVar 4) dNil))) (dCons (dC (.int 40)) dNil))) (hName 5))
    (zIf (dOr (dNot (dTru (dOp dIx (dVar 5) (dC (.str "fault"))))) (dTest (dOp dNe (dOp dIx (dVar 5) (dC (.str "at"))) (dCB dLen (dCons (dVar 1) dNil))))) (zRet (dOp dAdd (dVar 1) (dTup (dCons (dVar 4) dNil)))) zNext)))))
    (zRet (dOp dAdd (dVar 1) (dTup (dCons (dVar 4) dNil)))))
noncomputable def df__law_tried (K : PySem.W.Frag) : DF := sealF (dfOfX ["_law_pool_here", "_law_rows", "_law_many", "_law_turn", "_law_row_here", "_law_state"] 3 (d__law_tried_ K))
theorem df__law_tried_eq (K : PySem.W.Frag) : df__law_tried K = dfOfX ["_law_pool_here", "_law_rows", "_law_many", "_law_turn", "_law_row_here", "_law_state"] 3 (d__law_tried_ K) := sealF_eq _
theorem sd__law_tried (C : Cxt P w K mg base) : SF (sp__law_tried K w) (df__law_tried K) := sfSeal (sfOfX fun E =>
    (ssSeq (ssFor (siRng1 (sCi _)) (sgName 3) (ssSeq (ssAsg (sCall (sd__law_row C) (sCons (sVar 0) (sCons (sVar 2) sNil))) (sgName 4))
    (ssSeq (ssIf (sTest (sOp inD (sOp ixD (sVar 4) (sCi _)) (sLst (sCons (sCs _) (sCons (sCs _) (sCons (sCs _) sNil)))))) (ssRet (sOp addD (sVar 1) (sTup (sCons (sVar 4) sNil)))) ssNext)
    (ssSeq (ssAsg (sCall (sd__law_run C) (sCons (sOp addD (sVar 1) (sTup (sCons (sVar 4) sNil))) (sCons (sCi _) sNil))) (sgName 5))
    (ssIf (sOr (sNot (sTru (sOp ixD (sVar 5) (sCs _)))) (sTest (sOp neD (sOp ixD (sVar 5) (sCs _)) (sCB lenDD (sCons (sVar 1) sNil))))) (ssRet (sOp addD (sVar 1) (sTup (sCons (sVar 4) sNil)))) ssNext)))))
    (ssRet (sOp addD (sVar 1) (sTup (sCons (sVar 4) sNil))))))
noncomputable def d__law_program_ (K : PySem.W.Frag) : DS :=
    (zSeq (zAsg (dTup (dCons (dTup (dCons (dC (.str "load")) (dCons (dC (.int 3)) (dCons (dTup dNil) (dCons (dOp dAdd (dC (.int 1)) (dCall (df__law_draw K) (dCons (dVar 0) (dCons (dC (.int 3)) dNil)))) dNil))))) (dCons (dTup (dCons (dC (.str "load")) (dCons (dC (.int 4)) (dCons (dTup (dCons (dC (.int 3)) dNil)) (dCons (dCall (df__law_draw K) (dCons (dVar 0) (dCons (dC (.int 3)) dNil))) dNil))))) (dCons (dTup (dCons (dC (.str "make")) (dCons (dC (.int 7)) (dCons (dC (.int 4)) dNil)))) dNil)))) (hName 1))
    (zSeq (zAsg (dOp dAdd (dVar 1) (dTup (dCons (dTup (dCons (dC (.str "load")) (dCons (dC (.int 5)) (dCons (dTup dNil) (dCons (dC (.int 2)) dNil))))) (dCons (dTup (dCons (dC (.str "make")) (dCons (dC (.int 8)) (dCons (dC (.int 3)) dNil)))) (dCons (dTup (dCons (dC (.str "copy")) (dCons (dC (.int 9)) (dCons (dC (.int 7)) dNil)))) (dCons (dTup (dCons (dC (.str "load")) (dCons (dC (.int 6)) (dCons (dTup (dCons (dC (.int 4)) (dCons (dC (.int 5)) dNil))) (dCons (dC (.int 1)) dNil))))) (dCons (dTup (dCons (dC (.str "make")) (dCons (dC (.int 9)) (dCons (dC (.int 6)) dNil)))) dNil))))))) (hName 1))
    (zSeq (zAsg (dOp dAdd (dC (.int 8)) (dCall (df__law_some K) (dCons (dVar 0) (dCons (dLst (dCons (dC (.int 4)) (dCons (dC (.int 8)) (dCons (dC (.int 12)) (dCons (dC (.int 22)) dNil))))) dNil)))) (hName 2))
    (zSeq (zIf (dTest (dOp dEq (dCall (df__law_draw K) (dCons (dVar 0) (dCons (dC (.int 6)) dNil))) (dC (.int 0)))) (zRet (dCB dTupC (dCons (dLc (jRng1 (dVar 2)) (hName 3) dYes (dCall (df__law_row K) (dCons (dVar 0) (dCons (dVar 2) dNil))) [3]) dNil))) zNext)
    (zSeq (zFor (jRng1 (dOp dSub (dVar 2) (dC (.int 8)))) (hName 3) (zAsg (dCall (df__law_tried K) (dCons (dVar 0) (dCons (dVar 1) (dCons (dVar 2) dNil)))) (hName 1)))
    (zRet (dVar 1)))))))
noncomputable def df__law_program (K : PySem.W.Frag) : DF := sealF (dfOf ["_law_pool_here", "_law_rows", "_law_many", "_law_k"] 1 (d__law_program_ K))
theorem df__law_program_eq (K : PySem.W.Frag) : df__law_program K = dfOf ["_law_pool_here", "_law_rows", "_law_many", "_law_k"] 1 (d__law_program_ K) := sealF_eq _
theorem sd__law_program (C : Cxt P w K mg base) : SF (sp__law_program K w) (df__law_program K) := sfSeal (sfOf fun E =>
    (ssSeq (ssAsg (sTup (sCons (sTup (sCons (sCs _) (sCons (sCi _) (sCons (sTup sNil) (sCons (sOp addD (sCi _) (sCall (sd__law_draw C) (sCons (sVar 0) (sCons (sCi _) sNil)))) sNil))))) (sCons (sTup (sCons (sCs _) (sCons (sCi _) (sCons (sTup (sCons (sCi _) sNil)) (sCons (sCall (sd__law_draw C) (sCons (sVar 0) (sCons (sCi _) sNil))) sNil))))) (sCons (sTup (sCons (sCs _) (sCons (sCi _) (sCons (sCi _) sNil)))) sNil)))) (sgName 1))
    (ssSeq (ssAsg (sOp addD (sVar 1) (sTup (sCons (sTup (sCons (sCs _) (sCons (sCi _) (sCons (sTup sNil) (sCons (sCi _) sNil))))) (sCons (sTup (sCons (sCs _) (sCons (sCi _) (sCons (sCi _) sNil)))) (sCons (sTup (sCons (sCs _) (sCons (sCi _) (sCons (sCi _) sNil)))) (sCons (sTup (sCons (sCs _) (sCons (sCi _) (sCons (sTup (sCons (sCi _) (sCons (sCi _) sNil))) (sCons (sCi _) sNil))))) (sCons (sTup (sCons (sCs _) (sCons (sCi _) (sCons (sCi _) sNil)))) sNil))))))) (sgName 1))
    (ssSeq (ssAsg (sOp addD (sCi _) (sCall (sd__law_some C) (sCons (sVar 0) (sCons (sLst (sCons (sCi _) (sCons (sCi _) (sCons (sCi _) (sCons (sCi _) sNil))))) sNil)))) (sgName 2))
    (ssSeq (ssIf (sTest (sOp eqD (sCall (sd__law_draw C) (sCons (sVar 0) (sCons (sCi _) sNil))) (sCi _))) (ssRet (sCB tupD (sCons (sLc (siRng1 (sVar 2)) (sgName 3) (wpName (by decide)) sYes (sCall (sd__law_row C) (sCons (sVar 0) (sCons (sVar 2) sNil)))) sNil))) ssNext)
    (ssSeq (ssFor (siRng1 (sOp subD (sVar 2) (sCi _))) (sgName 3) (ssAsg (sCall (sd__law_tried C) (sCons (sVar 0) (sCons (sVar 1) (sCons (sVar 2) sNil)))) (sgName 1)))
    (ssRet (sVar 1))))))))
noncomputable def d_law_ (K : PySem.W.Frag) : DS :=
    (zSeq (zAsg (dCall (df__law_pool K) (dCons (dVar 0) dNil)) (hName 1))
    (zSeq (zFor (jRng1 (dC (.int 3))) (hName 2) (zSeq (zAsg (dCall (df__law_program K) (dCons (dVar 1) dNil)) (hName 3))
    (zSeq (zIf (dTest (dOp dIsNot (dCall (df_is_program K) (dCons (dVar 3) dNil)) (dC (.bool true)))) (zRet (dC (.bool false))) zNext)
    (zFor (jSeq (dLst (dCons (dC (.int 0)) (dCons (dOp dAdd (dC (.int 1)) (dCall (df__law_draw K) (dCons (dVar 1) (dCons (dC (.int 40)) dNil)))) (dCons (dC (.int 300)) dNil))))) (hName 4) (zSeq (zAsg (dCall (df__law_run K) (dCons (dVar 3) (dCons (dVar 4) dNil))) (hName 5))
    (zSeq (zAsg (dCall (df_run K) (dCons (dVar 3) (dCons (dVar 4) dNil))) (hTup 2 (hCons (hName 6) (hCons (hName 7) hNil))))
    (zSeq (zIf (dOr (dNot (dTru (dIsin .list (dVar 6)))) (dTest (dOp dNe (dVar 6) (dOp dIx (dVar 5) (dC (.str "shown")))))) (zRet (dC (.bool false))) zNext)
    (zSeq (zIf (dTest (dOp dNe (dVar 7) (dCall (df__law_end K) (dCons (dVar 3) (dCons (dVar 5) (dCons (dC (.str "most")) dNil)))))) (zRet (dC (.bool false))) zNext)
    (zSeq (zIf (dOr (dNot (dTru (dIsin .tuple (dVar 7)))) (dNot (dTru (dCB dAll (dCons (dLc (jSeq (dVar 6)) (hName 8) dYes (dIsin2 .int .tuple (dVar 8)) [8]) dNil))))) (zRet (dC (.bool false))) zNext)
    (zSeq (zIf (dTru (dCB dAny (dCons (dLc (jSeq (dVar 6)) (hName 8) dYes (dIsin .bool (dVar 8)) [8]) dNil))) (zRet (dC (.bool false))) zNext)
    (zSeq (zDrop (dAppendT (dVar 6) (dC .none)))
    (zIf (dTest (dOp dNe (dOp dIx (dCall (df_run K) (dCons (dVar 3) (dCons (dVar 4) dNil))) (dC (.int 0))) (dOp dIx (dVar 5) (dC (.str "shown"))))) (zRet (dC (.bool false))) zNext))))))))))))
    (zRet (dAndV (dOp dEq (dCall (df_run K) (dCons (dTup dNil) (dCons (dC (.int 5)) dNil))) (dTup (dCons (dLst dNil) (dCons (dTup (dCons (dC (.str "end")) dNil)) dNil)))) (dOp dEq (dCall (df_run K) (dCons (dTup (dCons (dTup (dCons (dC (.str "go")) (dCons (dC (.int 0)) dNil))) dNil)) (dCons (dC (.int 7)) dNil))) (dTup (dCons (dLst dNil) (dCons (dTup (dCons (dC (.str "most")) (dCons (dC (.int 0)) dNil))) dNil))))))))
noncomputable def df_law (K : PySem.W.Frag) : DF := sealF (dfOf ["_law_script", "_law_pool_here", "_law_again", "_law_program_here", "_law_most", "_law_state", "_law_shown", "_law_end_here", "_law_one"] 1 (d_law_ K))
theorem df_law_eq (K : PySem.W.Frag) : df_law K = dfOf ["_law_script", "_law_pool_here", "_law_again", "_law_program_here", "_law_most", "_law_state", "_law_shown", "_law_end_here", "_law_one"] 1 (d_law_ K) := sealF_eq _
theorem sd_law (C : Cxt P w K mg base) : SF (sp_law K w) (df_law K) := sfSeal (sfOf fun E =>
    (ssSeq (ssAsg (sCall (sd__law_pool C) (sCons (sVar 0) sNil)) (sgName 1))
    (ssSeq (ssFor (siRng1 (sCi _)) (sgName 2) (ssSeq (ssAsg (sCall (sd__law_program C) (sCons (sVar 1) sNil)) (sgName 3))
    (ssSeq (ssIf (sTest (sOp isNotD (sCall (sd_is_program C) (sCons (sVar 3) sNil)) (sCb _))) (ssRet (sCb _)) ssNext)
    (ssFor (siSeq (sLst (sCons (sCi _) (sCons (sOp addD (sCi _) (sCall (sd__law_draw C) (sCons (sVar 1) (sCons (sCi _) sNil)))) (sCons (sCi _) sNil))))) (sgName 4) (ssSeq (ssAsg (sCall (sd__law_run C) (sCons (sVar 3) (sCons (sVar 4) sNil))) (sgName 5))
    (ssSeq (ssAsg (sCall (sd_run C) (sCons (sVar 3) (sCons (sVar 4) sNil))) (sgTup (sgCons (sgName 6) (sgCons (sgName 7) sgNil))))
    (ssSeq (ssIf (sOr (sNot (sTru (sIsin .list rfl (sVar 6)))) (sTest (sOp neD (sVar 6) (sOp ixD (sVar 5) (sCs _))))) (ssRet (sCb _)) ssNext)
    (ssSeq (ssIf (sTest (sOp neD (sVar 7) (sCall (sd__law_end C) (sCons (sVar 3) (sCons (sVar 5) (sCons (sCs _) sNil)))))) (ssRet (sCb _)) ssNext)
    (ssSeq (ssIf (sOr (sNot (sTru (sIsin .tuple rfl (sVar 7)))) (sNot (sTru (sCB allD (sCons (sLc (siSeq (sVar 6)) (sgName 8) (wpName (by decide)) sYes (sIsin2 .int .tuple rfl rfl (sVar 8))) sNil))))) (ssRet (sCb _)) ssNext)
    (ssSeq (ssIf (sTru (sCB anyD (sCons (sLc (siSeq (sVar 6)) (sgName 8) (wpName (by decide)) sYes (sIsin .bool rfl (sVar 8))) sNil))) (ssRet (sCb _)) ssNext)
    (ssSeq (ssDrop (sAppend (sVar 6) sCn))
    (ssIf (sTest (sOp neD (sOp ixD (sCall (sd_run C) (sCons (sVar 3) (sCons (sVar 4) sNil))) (sCi _)) (sOp ixD (sVar 5) (sCs _)))) (ssRet (sCb _)) ssNext))))))))))))
    (ssRet (sAndV (sOp eqD (sCall (sd_run C) (sCons (sTup sNil) (sCons (sCi _) sNil))) (sTup (sCons (sLst sNil) (sCons (sTup (sCons (sCs _) sNil)) sNil)))) (sOp eqD (sCall (sd_run C) (sCons (sTup (sCons (sTup (sCons (sCs _) (sCons (sCi _) sNil))) sNil)) (sCons (sCi _) sNil))) (sTup (sCons (sLst sNil) (sCons (sTup (sCons (sCs _) (sCons (sCi _) sNil))) sNil)))))))))
end
end G

set_option maxHeartbeats 400000
namespace G
open PySem PySem.Spec PyProof.Rows L2 U
local macro_rules | `(tactic| walk_at "dl") => `(tactic| simp only [dfOf, startD, List.map_cons, List.map_nil, List.length_cons, List.length_nil, List.cons_append, List.nil_append, List.replicate, Nat.zero_add, Nat.reduceAdd, Nat.reduceSub, true_and,
  zNext, zSeq, zRet, zDrop, zIf, zAsg, zPar, zAug, dVar, dC, dV, dOp, dNeg, dNil, dCons, dTest, dTru, dAnd, dOr, dNot, dYes, dAndV, dOrV, dNotV, dIf, dChain, dCB, dCall, dIsin, tkD, truD, dCmp, dLt, dLe, dGt, dGe, dMod, dDiv, dPow, dSub, dI2, hName, hTup, hCons, hNil, wipeD, dPart, dNoPart, dSl, lstOf, asD, seqOf,
  dEq, dNe, dIs, dIsNot, isNone, dLen, lenD, dAdd, dMul, dTup, dLst, newT, newL, datas, dIx_tup, dIx_list, atI_zero, dKGet, Option.map_some, dIAdd, d1,
  List.getElem?_cons_zero, List.getElem?_cons_succ, List.set_cons_zero, List.set_cons_succ, if_true, Bool.false_eq_true, if_false, reduceIte, Bool.not_true, Bool.not_false])
def isIntD : PyData → Bool
  | .int _ => true
  | _ => false
section
variable {K : PySem.W.Frag} {s : Hs} {k : DK}
theorem e_is_integer (x : PyData) : df_is_integer K [.d x] s k = k (.d (.bool (isIntD x))) s := by
  cases x <;> (rw [df_is_integer_eq]; unfold d_is_integer_; walk_at "dl") <;> simp [tkP, isTk, isIntD]
def withinD (x : PyData) (a b : Int) : Bool := match x with
  | .int i => decide (a ≤ i) && decide (i ≤ b)
  | _ => false
theorem e_is_within (x : PyData) (a b : Int) : df_is_within K [.d x, .d (.int a), .d (.int b)] s k = k (.d (.bool (withinD x a b))) s := by
  rw [df_is_within_eq]; unfold d_is_within_
  walk_at "dl"
  simp only [e_is_integer]
  cases x <;> simp [isIntD, withinD]
  rename_i i
  by_cases h : a ≤ i <;> simp [h, dCmp]
def pairD : PyData → Bool
  | .tuple xs => xs.length == 2
  | _ => false
theorem eqv_int (i j : Int) : PyData.eqv (.int i) (.int j) = (i == j) := by simp [PyData.eqv]
theorem eqv_str (i j : Str) : PyData.eqv (.str i) (.str j) = (i == j) := by simp [PyData.eqv]
theorem eqOk_int (i j : Int) : eqOk (.int i) (.int j) = true := rfl
theorem eqOk_str (i j : Str) : eqOk (.str i) (.str j) = true := rfl
theorem e_is_pair (x : PyData) : df_is_pair K [.d x] s k = k (.d (.bool (pairD x))) s := by
  cases x <;> (rw [df_is_pair_eq]; unfold d_is_pair_; walk_at "dl") <;> simp [tkP, isTk, pairD, eqv_int, eqOk_int]
  rename_i xs
  have : ((xs.length : Int) == 2) = (xs.length == 2) := by rw [Bool.eq_iff_iff]; simp; omega
  rw [this]
theorem e_check_number (x : PyData) (a b : Int) (h : withinD x a b = true) (q : k (.d .none) s) : df_check_number K [.d x, .d (.int a), .d (.int b)] s k := by
  rw [df_check_number_eq]; unfold d_check_number_
  walk_at "dl"
  simp only [e_is_within, h]
  simpa [truD] using q
theorem e_is_register (x : PyData) : df_is_register K [.d x] s k = k (.d (.bool (withinD x 0 9))) s := by
  rw [df_is_register_eq]; unfold d_is_register_
  walk_at "dl"
  simp only [e_is_within]
  rfl
def regsD : PyData → Bool
  | .tuple xs => decide (xs.length ≤ 6) && xs.all fun x => withinD x 0 9
  | _ => false
theorem d_of_mem {α : Type} {f : α → W} {xs : List α} {P : W → Prop} (h : ∀ x ∈ xs, P (f x)) : ∀ w ∈ xs.map f, P w := fun w hw => by
  obtain ⟨x, hx, rfl⟩ := List.mem_map.mp hw
  exact h x hx
def unD : W → PyData
  | .d x => x
  | _ => .none
theorem map_unD {β : Type} (f : PyData → β) (xs : List PyData) : (xs.map W.d).map (fun w => f (unD w)) = xs.map f := by rw [List.map_map]; rfl
theorem e_are_registers (x : PyData) (q : k (.d (.bool (regsD x))) s) : df_are_registers K [.d x] s k := by
  cases x <;> (rw [df_are_registers_eq]; unfold d_are_registers_; walk_at "dl") <;> try (simpa [tkP, isTk, regsD] using q)
  rename_i xs
  simp only [tkP, isTk, if_true]
  simp only [regsD] at q
  by_cases h : xs.length ≤ 6
  · have h' : ((xs.length : Int) ≤ 6) := by omega
    simp only [List.length_map, h', decide_true, if_true]
    refine dLc_yes (xs := xs.map .d) (fun w => .bool (withinD (unD w) 0 9)) (fun k' hk => by simpa [jSeq, dVar, srcOf] using hk) (d_of_mem fun x hx s k hk => ?_) (by simp; omega) ?_
    · walk_at "dl"
      rw [e_is_register]
      exact hk
    · simp only [List.map_map, Function.comp_def, unD]
      unfold dAll dL1
      simp only [lstOf, boolsOf_map]
      simpa [h] using q
  · have h' : ¬ ((xs.length : Int) ≤ 6) := by omega
    simp only [List.length_map, h', decide_false]
    simpa [h] using q
/-- one part of a row, by its sort -/
def partD (sort : Str) (x : PyData) (many : Int) : Bool :=
  if sort == "x" then withinD x 0 9 else if sort == "n" then withinD x (-1000000000) 1000000000 else if sort == "p" then regsD x else if sort == "t" then withinD x 0 many else withinD x 0 (if sort == "b" then 6 else 5)
theorem e_is_part (c : Str) (x : PyData) (many : Int) (q : k (.d (.bool (partD c x many))) s) : df_is_part K [.d (.str c), .d x, .d (.int many)] s k := by
  rw [df_is_part_eq]; unfold d_is_part_
  walk_at "dl"
  simp only [eqv_str, eqOk_str, true_and]
  unfold partD at q
  by_cases h1 : (c == "x") = true
  · simp only [h1, if_true] at q ⊢
    rw [e_is_register]; exact q
  simp only [h1, Bool.false_eq_true, if_false] at q ⊢
  by_cases h2 : (c == "n") = true
  · simp only [h2, if_true] at q ⊢
    rw [e_is_within]; exact q
  simp only [h2, Bool.false_eq_true, if_false] at q ⊢
  by_cases h3 : (c == "p") = true
  · simp only [h3, if_true] at q ⊢
    exact e_are_registers x q
  simp only [h3, Bool.false_eq_true, if_false] at q ⊢
  by_cases h4 : (c == "t") = true
  · simp only [h4, if_true] at q ⊢
    rw [e_is_within]; exact q
  simp only [h4, Bool.false_eq_true, if_false] at q ⊢
  by_cases h5 : (c == "b") = true
  · simp only [h5, if_true] at q ⊢
    rw [e_is_within]; exact q
  simp only [h5, Bool.false_eq_true, if_false] at q ⊢
  rw [e_is_within]; exact q
/-- a row -/
def partsD (form : List Str) (xs : List PyData) (many : Int) : Bool := (form.zip xs).all fun p => partD p.1 p.2 many
def signsS (z : Str) : List Str := z.cps.toList.map fun c => ⟨#[c]⟩
def rowD (x : PyData) (many : Int) : Bool := match x with
  | .tuple (.str w :: xs) => match kv_FORMS.lookup w with
    | some (.str form) => xs.length == form.length && partsD (signsS form) xs many
    | _ => false
  | _ => false
theorem forms_str {w : Str} {v : V} (h : kv_FORMS.lookup w = some v) : ∃ z, v = .str z ∧ z.length ≤ 10 := by
  have all : ∀ p ∈ kv_FORMS, (match p.2 with | .str z => decide (z.length ≤ 10) | _ => false) = true := by decide +kernel
  have := all _ (lookup_mem h)
  cases v with
  | str z => exact ⟨z, rfl, by simpa using this⟩
  | _ => exact absurd this Bool.false_ne_true
theorem signs_data (z : Str) : (z.cps.toList.map fun c => PyData.str ⟨#[c]⟩) = (signsS z).map .str := by unfold signsS; rw [List.map_map]; rfl
theorem zipW_map (a : List Str) (b : List PyData) : zipW (a.map .str) b = (a.zip b).map fun p => .d (.tuple [.str p.1, p.2]) := by
  unfold zipW
  rw [List.zip_map_left, List.map_map]
  rfl
def fstD : PyData → Str
  | .tuple [.str a, _] => a
  | _ => ⟨#[]⟩
def sndD : PyData → PyData
  | .tuple [_, b] => b
  | _ => .none
theorem e_is_row (x : PyData) (many : Int) (hl : ∀ xs, x = .tuple xs → xs.length ≤ 100000) (q : k (.d (.bool (rowD x many))) s) : df_is_row K [.d x, .d (.int many)] s k := by
  rw [df_is_row_eq]; unfold d_is_row_
  cases x with
  | tuple xs =>
    cases xs with
    | nil => walk_at "dl"; simpa [tkP, isTk, rowD, eqv_int, eqOk_int] using q
    | cons y r =>
      walk_at "dl"
      have h1 : ((((r.length + 1 : Nat) : Int)) == 0) = false := by rw [Bool.eq_false_iff]; simp; omega
      simp only [tkP, isTk, eqv_int, eqOk_int, List.length_cons, List.length_map, h1, Bool.not_true, Bool.false_eq_true, if_false, true_and, dIx_tup, atI_zero, dKGet]
      cases y with
      | str w =>
        simp only [tkP, isTk, Bool.not_true, Bool.false_eq_true, if_false]
        simp only [rowD] at q
        cases e : kv_FORMS.lookup w with
        | none =>
          rw [e] at q
          simp only [Option.getD_none, vD]
          walk_at "dl"
          simpa [isNone] using q
        | some v =>
          obtain ⟨z, rfl, hz⟩ := forms_str e
          rw [e] at q
          dsimp only at q
          have hz2 : z.length ≤ 100000 := by omega
          simp only [Option.getD_some, vD, isNone]
          walk_at "dl"
          simp only [hz2, if_true, isNone, eqv_int, eqOk_int, true_and, Bool.false_eq_true, if_false]
          have hn : (((r.length + 1 : Nat) : Int) == ((z.length : Nat) : Int) + 1) = (r.length == z.length) := by rw [Bool.eq_iff_iff]; simp; omega
          rw [hn]
          by_cases hq : (r.length == z.length) = true
          · simp only [hq, Bool.not_true, Bool.false_eq_true, if_false]
            refine dLc_yes (xs := ((signsS z).zip r).map fun p => .d (.tuple [.str p.1, p.2])) (fun w => .bool (partD (fstD (unD w)) (sndD (unD w)) many)) (fun k' hk => ?_) (d_of_mem fun p hp s k hk => ?_) ?_ ?_
            · simp only [jZip]
              walk_at "dl"
              simp only [dataSrc, cut_one, signs_data, zipW_map]
              exact hk
            · walk_at "dl"
              exact e_is_part _ _ _ hk
            · have := hl _ rfl
              simp at this ⊢; omega
            · simp only [List.map_map, Function.comp_def, unD, fstD, sndD]
              unfold dAll dL1
              simp only [lstOf, boolsOf_map]
              rw [hq, Bool.true_and] at q
              have e2 : (((signsS z).zip r).map fun p => partD p.1 p.2 many).all id = partsD (signsS z) r many := by unfold partsD; rw [List.all_map]; rfl
              rw [e2]
              exact q
          · rw [Bool.not_eq_true] at hq
            simp only [hq, Bool.not_false, if_true]
            rw [hq] at q
            exact q
      | _ => simpa [tkP, isTk, rowD] using q
  | _ => walk_at "dl"; simpa [tkP, isTk, rowD] using q
/-- the first row that is none -/
def firstBad (many : Int) : List PyData → Nat → Option Nat
  | [], _ => none
  | x :: r, i => if rowD x many = true then firstBad many r (i + 1) else some i
def badD (x : PyData) : PyData := match x with
  | .tuple rows => if rows.length ≤ 60 then (match firstBad rows.length rows 0 with | some i => .int (i : Nat) | none => .none) else .int (-1)
  | _ => .int (-1)
theorem row_step {D : DEnds} (all : List PyData) (r : PyData) (i : Nat) (a b : Option W) (hl : ∀ xs, r = .tuple xs → xs.length ≤ 100000)
    (q : if rowD r all.length = true then D.nx [some (.d (.tuple all)), some (.d (.int (i : Nat))), some (.d r)] s else D.rt (.d (.int (i : Nat))) s) :
    hTup 2 (hCons (hName 1) (hCons (hName 2) hNil)) (.d (.tuple [.int (i : Nat), r])) [some (.d (.tuple all)), a, b] s fun δ1 s1 =>
      zIf (dNot (dTru (dCall (df_is_row K) (dCons (dVar 2) (dCons (dCB dLen (dCons (dVar 0) dNil)) dNil))))) (zRet (dVar 1)) zNext D δ1 s1 := by
  walk_at "dl"
  simp only [List.length_map]
  refine e_is_row r _ hl ?_
  cases hr : rowD r all.length with
  | true => rw [hr, if_pos rfl] at q; exact q
  | false => rw [hr, if_neg Bool.false_ne_true] at q; exact q
theorem for_rows {D : DEnds} (all : List PyData) (rows : List PyData) : ∀ (i : Nat) (a b : Option W) (s : Hs), (∀ r ∈ rows, ∀ xs, r = .tuple xs → xs.length ≤ 100000) →
    (∀ j, firstBad all.length rows i = some j → D.rt (.d (.int (j : Nat))) s) → (firstBad all.length rows i = none → ∀ a b, D.nx [some (.d (.tuple all)), a, b] s) →
    forN (hTup 2 (hCons (hName 1) (hCons (hName 2) hNil))) (zIf (dNot (dTru (dCall (df_is_row K) (dCons (dVar 2) (dCons (dCB dLen (dCons (dVar 0) dNil)) dNil))))) (zRet (dVar 1)) zNext) (fun _ => True)
      ((rows.zipIdx i).map fun p => .d (.tuple [.int (p.2 : Nat), p.1])) D [some (.d (.tuple all)), a, b] s := by
  induction rows with
  | nil => intro i a b s _ _ h; exact ⟨True.intro, h rfl a b⟩
  | cons r rows ih =>
    intro i a b s hl h1 h2
    rw [List.zipIdx_cons, List.map_cons]
    refine ⟨True.intro, row_step all r i a b (hl r List.mem_cons_self) ?_⟩
    unfold firstBad at h1 h2
    by_cases hr : rowD r all.length = true
    · rw [if_pos hr] at h1 h2 ⊢
      exact ih (i + 1) _ _ s (fun q hq => hl q (List.mem_cons_of_mem _ hq)) h1 h2
    · rw [if_neg hr] at h1 ⊢
      exact h1 i rfl
theorem e_check_rows (x : PyData) (hl : ∀ rows, x = .tuple rows → ∀ r ∈ rows, ∀ xs, r = .tuple xs → xs.length ≤ 100000) (q : k (.d (badD x)) s) : df_check_rows K [.d x] s k := by
  rw [df_check_rows_eq]; unfold d_check_rows_
  cases x with
  | tuple rows =>
    walk_at "dl"
    simp only [tkP, isTk, Bool.not_true, Bool.false_eq_true, if_false, List.length_map]
    simp only [badD] at q
    by_cases h : rows.length ≤ 60
    · have h' : ¬ ((60 : Int) < (rows.length : Nat)) := by omega
      rw [if_pos h] at q
      simp only [h', decide_false, Bool.false_eq_true, if_false, zFor, jEnum]
      walk_at "dl"
      simp only [dataSrc]
      refine for_rows rows rows 0 _ _ s (hl _ rfl) (fun j hj => ?_) (fun hj a b => ?_)
      · rw [hj] at q; exact q
      · rw [hj] at q; exact q
    · have h' : ((60 : Int) < (rows.length : Nat)) := by omega
      rw [if_neg h] at q
      simp only [h', decide_true, if_true]
      exact q
  | _ => walk_at "dl"; simpa [tkP, isTk, badD] using q
def progD (x : PyData) : Bool := isNone (.d (badD x))
theorem e_is_program (x : PyData) (hl : ∀ rows, x = .tuple rows → ∀ r ∈ rows, ∀ xs, r = .tuple xs → xs.length ≤ 100000) (q : k (.d (.bool (progD x))) s) : df_is_program K [.d x] s k := by
  rw [df_is_program_eq]; unfold d_is_program_
  walk_at "dl"
  refine e_check_rows x hl ?_
  exact q
theorem e_check_program (x : PyData) (hl : ∀ rows, x = .tuple rows → ∀ r ∈ rows, ∀ xs, r = .tuple xs → xs.length ≤ 100000) (h : progD x = true) (q : k (.d .none) s) : df_check_program K [.d x] s k := by
  rw [df_check_program_eq]; unfold d_check_program_
  walk_at "dl"
  refine e_is_program x hl ?_
  rw [h]
  exact q
/-- what stands in a pair that begins with a word -/
def numIn (x : PyData) (w : Str) : PyData := match x with
  | .tuple [.str z, y] => if z == w then y else .none
  | _ => .none
/-- what may stand in a register -/
inductive RegOk : PyData → Prop
  | int (i : Int) : RegOk (.int i)
  | kind (n : Nat) : RegOk (.tuple [.str "kind", .int n])
  | object (n : Nat) : RegOk (.tuple [.str "object", .int n])
theorem e_number_in (x : PyData) (w : Str) (h : RegOk x) (q : k (.d (numIn x w)) s) : df_number_in K [.d x, .d (.str w)] s k := by
  rw [df_number_in_eq]; unfold d_number_in_
  walk_at "dl"
  rw [e_is_pair]
  cases h with
  | int i => exact q
  | kind n =>
    simp only [pairD, List.length_cons, List.length_nil, Nat.zero_add, Nat.reduceAdd, BEq.rfl, if_true, eqv_str, eqOk_str, true_and]
    simp only [numIn] at q
    rw [dIx_tup, atI_zero]
    simp only [eqv_str, eqOk_str, true_and, dIx_tup, atI_one]
    cases hw : (("kind" : Str) == w) with
    | true => rw [hw] at q; exact q
    | false => rw [hw] at q; exact q
  | object n =>
    simp only [pairD, List.length_cons, List.length_nil, Nat.zero_add, Nat.reduceAdd, BEq.rfl, if_true, eqv_str, eqOk_str, true_and]
    simp only [numIn] at q
    rw [dIx_tup, atI_zero]
    simp only [eqv_str, eqOk_str, true_and, dIx_tup, atI_one]
    cases hw : (("object" : Str) == w) with
    | true => rw [hw] at q; exact q
    | false => rw [hw] at q; exact q
end
end G

set_option maxHeartbeats 400000
namespace G
open PySem PySem.Spec PyProof.Rows L2 U
local macro_rules | `(tactic| walk_at "dl") => `(tactic| simp only [dfOf, dfOfX, startD, List.map_cons, List.map_nil, List.length_cons, List.length_nil, List.cons_append, List.nil_append, List.replicate, Nat.zero_add, Nat.reduceAdd, Nat.reduceSub, true_and,
  zNext, zSeq, zRet, zDrop, zIf, zAsg, zPar, zAug, dVar, dC, dV, dOp, dNeg, dNil, dCons, dTest, dTru, dAnd, dOr, dNot, dYes, dAndV, dOrV, dNotV, dIf, dChain, dCB, dCall, dIsin, tkD, truD, dCmp, dLt, dLe, dGt, dGe, dMod, dDiv, dPow, dSub, dI2, hName, hTup, hCons, hNil, wipeD, dPart, dNoPart, dSl, lstOf, asD, seqOf,
  dEq, dNe, dIs, dIsNot, isNone, dLen, lenD, dAdd, dMul, dTup, dLst, newT, newL, datas, dIx_tup, dIx_list, atI_zero, dKGet, Option.map_some, dIAdd, d1, eqv_int, eqv_str, eqOk_int, eqOk_str,
  List.getElem?_cons_zero, List.getElem?_cons_succ, List.set_cons_zero, List.set_cons_succ, if_true, Bool.false_eq_true, if_false, reduceIte, Bool.not_true, Bool.not_false])
theorem dFld_go {C : Addr} {f : Str} {i : Nat} {δ : DEnv} {s : Hs} {k : DK} {p : Addr} {fs : List (Str × W)} {x : W} (hδ : δ[i]? = some (some (.v (.ref p)))) (h : s p = some (.ins C fs)) (hf : fs.lookup f = some x) : dFld C f (dVar i) δ s k = k x s := by
  unfold dFld dVar
  rw [hδ]
  dsimp only
  apply propext
  constructor
  · rintro ⟨p', fs', x', e, h', hf', q⟩
    cases e
    rw [h] at h'
    cases h'
    rw [hf] at hf'
    cases hf'
    exact q
  · intro q
    exact ⟨p, fs, x, rfl, h, hf, q⟩
/-! ### the law's own world, as plain data -/
structure PW where
  parents : List (List Nat) := []
  brought : List Nat := []
  kinds : List Nat := []
  cells : List (List ((Nat × Nat) × PyData)) := []
structure WA where
  w : Addr
  p : Addr
  b : Addr
  k : Addr
  c : Addr
  cs : List Addr
def WA.all (a : WA) : List Addr := a.w :: a.p :: a.b :: a.k :: a.c :: a.cs
def fldsW (a : WA) : List (Str × W) := [("parents_of", .v (.ref a.p)), ("brought", .v (.ref a.b)), ("object_kinds", .v (.ref a.k)), ("contents", .v (.ref a.c))]
def natsD (ns : List Nat) : List PyData := ns.map fun n => .int (n : Nat)
def natsW (ns : List Nat) : List W := ns.map fun n => .d (.int (n : Nat))
def cellsW (l : List ((Nat × Nat) × PyData)) : List (List L2.Key × W) := l.map fun e => ([.inl (e.1.1 : Int), .inl (e.1.2 : Int)], .d e.2)
structure WAt (K : PySem.W.Frag) (s : Hs) (a : WA) (V : PW) : Prop where
  w : s a.w = some (.ins (He.ga K "PlainWorld") (fldsW a))
  p : s a.p = some (.lst (V.parents.map fun ps => .d (.tuple (natsD ps))))
  b : s a.b = some (.lst (natsW V.brought))
  k : s a.k = some (.lst (natsW V.kinds))
  c : s a.c = some (.lst (a.cs.map fun x => .v (.ref x)))
  cs : Paired (fun x l => s x = some (.dT (cellsW l))) a.cs V.cells
  nd : a.all.Nodup
/-! ### a kind and its forebears -/
def visit (found stack : List Nat) : List Nat → List Nat × List Nat
  | [] => (found, stack)
  | x :: r => if x ∈ found then visit found stack r else visit (found ++ [x]) (stack ++ [x]) r
def onesF (parents : List (List Nat)) : Nat → List Nat → List Nat → Option (List Nat)
  | 0, _, _ => none
  | n + 1, found, stack => match stack.getLast? with
    | none => some found
    | some t => onesF parents n (visit found stack.dropLast (parents.getD t [])).1 (visit found stack.dropLast (parents.getD t [])).2
def ones (parents : List (List Nat)) (k : Nat) : List Nat := (onesF parents (2 * parents.length + 2) [k] [k]).getD []
def foundK (found : List Nat) : Cell := .dK (found.map fun (n : Nat) => ((Sum.inl (n : Int) : L2.Key), W.d (.bool true)))
def stackL (stack : List Nat) : Cell := .lst (natsW stack)
section
variable {K : PySem.W.Frag} {s : Hs} {k : DK}
theorem valW_found (found : List Nat) (x : Nat) : (valW (found.map fun (n : Nat) => ((Sum.inl (n : Int) : L2.Key), W.d (.bool true))) (Sum.inl (x : Int))).isSome = decide (x ∈ found) := by
  induction found with
  | nil => rfl
  | cons y r ih =>
    unfold valW at ih ⊢
    rw [List.map_cons, List.find?_cons]
    by_cases h : y = x
    · subst h; simp
    · have : decide ((Sum.inl (y : Int) : L2.Key) = Sum.inl (x : Int)) = false := by simp; omega
      simp only [this]
      rw [ih]
      simp [Ne.symm h]
theorem putW_found (found : List Nat) (x : Nat) (h : x ∉ found) : putW (found.map fun (n : Nat) => ((Sum.inl (n : Int) : L2.Key), W.d (.bool true))) (Sum.inl (x : Int)) (.d (.bool true)) = (found ++ [x]).map fun (n : Nat) => ((Sum.inl (n : Int) : L2.Key), W.d (.bool true)) := by
  unfold putW
  have : ((found.map fun (n : Nat) => ((Sum.inl (n : Int) : L2.Key), W.d (.bool true))).any fun kv => decide (kv.1 = Sum.inl (x : Int))) = false := by
    rw [Bool.eq_false_iff]
    intro z
    rw [List.any_map, List.any_eq_true] at z
    obtain ⟨y, hy, e⟩ := z
    have e2 : (y : Int) = (x : Int) := by simpa using e
    exact h (by have : y = x := by omega
                rw [← this]; exact hy)
  rw [this]
  simp
abbrev onesBody : DS := zIf (dTest (dOp dNotIn (dVar 4) (dVar 2))) (zSeq (zAsg (dC (.bool true)) (hSub (dVar 2) (dVar 4))) (zDrop (dAppendT (dVar 3) (dVar 4)))) zNext
theorem ones_step {D : DEnds} {a0 a1 : Option W} {p q : Addr} {x : Nat} {found stack : List Nat} (hpq : p ≠ q) (hp : s p = some (foundK found)) (hq : s q = some (stackL stack)) (hl : found.length < 100000) (hl2 : stack.length < 100000)
    (h : if x ∈ found then D.nx [a0, a1, some (.v (.ref p)), some (.v (.ref q)), some (.d (.int (x : Nat)))] s else D.nx [a0, a1, some (.v (.ref p)), some (.v (.ref q)), some (.d (.int (x : Nat)))] (put (put s p (foundK (found ++ [x]))) q (stackL (stack ++ [x])))) :
    onesBody D [a0, a1, some (.v (.ref p)), some (.v (.ref q)), some (.d (.int (x : Nat)))] s := by
  walk_at "dl"
  simp only [dNotIn, dInB, U.getD, hp, foundK, keyOf, Option.map_some]
  simp only [valW_found, if_true]
  by_cases hx : x ∈ found
  · rw [if_pos hx] at h
    simpa [hx] using h
  · rw [if_neg hx] at h
    simp only [hx, decide_false, Bool.not_false, if_true, hSub]
    walk_at "dl"
    simp only [setD, hp, foundK, keyOf, List.length_map, hl, if_true, putW_found _ _ hx]
    simp only [dAppendT]
    walk_at "dl"
    have hq2 : put s p (foundK (found ++ [x])) q = some (stackL stack) := by rw [put_ne (Ne.symm hpq)]; exact hq
    simp only [foundK, stackL] at hq2
    simp only [isL, ownL, hq2, true_and]
    refine ⟨by simpa [natsW] using hl2, ?_⟩
    have e : natsW stack ++ [W.d (.int (x : Nat))] = natsW (stack ++ [x]) := by unfold natsW; rw [List.map_append]; rfl
    rw [e]
    exact h
abbrev onesSt (s : Hs) (p q : Addr) (found stack : List Nat) : Hs := put (put s p (foundK found)) q (stackL stack)
theorem onesSt_next {p q : Addr} {f f' st st' : List Nat} (hpq : p ≠ q) : put (put (onesSt s p q f st) p (foundK f')) q (stackL st') = onesSt s p q f' st' := by
  unfold onesSt
  rw [put_comm (Ne.symm hpq), put_put, put_put]
theorem visit_len (ps : List Nat) : ∀ (f st : List Nat), (visit f st ps).1.length ≤ f.length + ps.length ∧ (visit f st ps).2.length ≤ st.length + ps.length := by
  induction ps with
  | nil => intro f st; simp [visit]
  | cons x r ih =>
    intro f st
    unfold visit
    split
    · have := ih f st; simp only [List.length_cons]; omega
    · have := ih (f ++ [x]) (st ++ [x]); simp only [List.length_append, List.length_cons, List.length_nil] at this ⊢; omega
theorem ones_for {D : DEnds} {a0 a1 : Option W} {p q : Addr} (hpq : p ≠ q) (ps : List Nat) : ∀ (z : Option W) (f st : List Nat), f.length + ps.length < 100000 → st.length + ps.length < 100000 →
    (∀ z, D.nx [a0, a1, some (.v (.ref p)), some (.v (.ref q)), z] (onesSt s p q (visit f st ps).1 (visit f st ps).2)) →
    forN (hName 4) onesBody (fun _ => True) (natsW ps) D [a0, a1, some (.v (.ref p)), some (.v (.ref q)), z] (onesSt s p q f st) := by
  induction ps with
  | nil => intro z f st _ _ h; exact ⟨True.intro, h z⟩
  | cons x r ih =>
    intro z f st h1 h2 h
    refine ⟨True.intro, ?_⟩
    show onesBody _ [a0, a1, some (.v (.ref p)), some (.v (.ref q)), some (.d (.int (x : Nat)))] _
    simp only [List.length_cons] at h1 h2
    refine ones_step (found := f) (stack := st) hpq (by show put _ q _ p = _; rw [put_ne hpq]; exact put_eq) put_eq (by omega) (by omega) ?_
    unfold visit at h
    by_cases hx : x ∈ f
    · rw [if_pos hx] at h ⊢
      exact ih _ f st (by omega) (by omega) h
    · rw [if_neg hx] at h ⊢
      rw [onesSt_next hpq]
      exact ih _ _ _ (by simp; omega) (by simp; omega) h
theorem WAt.frame {s s' : Hs} {a : WA} {V : PW} (h : WAt K s a V) (e : ∀ x ∈ a.all, s' x = s x) : WAt K s' a V := by
  have m : ∀ x ∈ a.cs, x ∈ a.all := fun x hx => by unfold WA.all; simp [hx]
  refine ⟨(e _ (by simp [WA.all])).trans h.w, (e _ (by simp [WA.all])).trans h.p, (e _ (by simp [WA.all])).trans h.b, (e _ (by simp [WA.all])).trans h.k, (e _ (by simp [WA.all])).trans h.c, ?_, h.nd⟩
  have hc := h.cs
  revert m
  generalize V.cells = cl at hc
  generalize a.cs = cs at hc
  induction hc with
  | nil => intro m; exact .nil
  | cons q t ih => intro m; exact .cons ((e _ (m _ List.mem_cons_self)).trans q) (ih fun x hx => m x (List.mem_cons_of_mem _ hx))
section
variable {a : WA} {V : PW} {δ : DEnv} {i : Nat}
theorem fld_p (hw : WAt K s a V) (hδ : δ[i]? = some (some (.v (.ref a.w)))) : dFld (He.ga K "PlainWorld") "parents_of" (dVar i) δ s k = k (.v (.ref a.p)) s := dFld_go hδ hw.w (by rfl)
theorem fld_b (hw : WAt K s a V) (hδ : δ[i]? = some (some (.v (.ref a.w)))) : dFld (He.ga K "PlainWorld") "brought" (dVar i) δ s k = k (.v (.ref a.b)) s := dFld_go hδ hw.w (by rfl)
theorem fld_k (hw : WAt K s a V) (hδ : δ[i]? = some (some (.v (.ref a.w)))) : dFld (He.ga K "PlainWorld") "object_kinds" (dVar i) δ s k = k (.v (.ref a.k)) s := dFld_go hδ hw.w (by rfl)
theorem fld_c (hw : WAt K s a V) (hδ : δ[i]? = some (some (.v (.ref a.w)))) : dFld (He.ga K "PlainWorld") "contents" (dVar i) δ s k = k (.v (.ref a.c)) s := dFld_go hδ hw.w (by rfl)
end
theorem getLast_concat {α : Type} {xs : List α} {t : α} (h : xs.getLast? = some t) : xs = xs.dropLast ++ [t] := by
  have hne : xs ≠ [] := fun e => by rw [e] at h; cases h
  have e := List.getLast?_eq_some_getLast hne
  rw [h] at e
  cases e
  exact (List.dropLast_concat_getLast hne).symm
theorem natsW_pop {st : List Nat} {t : Nat} (h : st.getLast? = some t) : (natsW st)[(natsW st).length - 1]? = some (.d (.int (t : Nat))) ∧ (natsW st).dropLast = natsW st.dropLast ∧ st.length ≠ 0 := by
  have e := getLast_concat h
  generalize st.dropLast = r at e
  subst e
  unfold natsW
  refine ⟨?_, ?_, by simp⟩
  · simp
  · simp
theorem visit_mem (N : Nat) (ps : List Nat) : ∀ (f st : List Nat), (∀ x ∈ ps, x < N) → (∀ x ∈ st, x < N) → ∀ x ∈ (visit f st ps).2, x < N := by
  induction ps with
  | nil => intro f st _ h; exact h
  | cons y r ih =>
    intro f st h1 h2
    unfold visit
    split
    · exact ih f st (fun x hx => h1 x (List.mem_cons_of_mem _ hx)) h2
    · refine ih _ _ (fun x hx => h1 x (List.mem_cons_of_mem _ hx)) (fun x hx => ?_)
      rcases List.mem_append.mp hx with h | h
      · exact h2 x h
      · have : x = y := by simpa using h
        rw [this]; exact h1 y List.mem_cons_self
/-- parents are kinds that are there -/
structure PW.Wf (V : PW) : Prop where
  par : ∀ ps ∈ V.parents, ps.length ≤ 6 ∧ ∀ x ∈ ps, x < V.parents.length
  few : V.parents.length ≤ 400
  bro : ∀ m ∈ V.brought, m ≤ 6
  len : V.brought.length = V.parents.length
abbrev onesCond : DT := dTest (dOp dGt (dCB dLen (dCons (dVar 3) dNil)) (dC (.int 0)))
abbrev onesFor (K : PySem.W.Frag) : DS := zFor (jSeq (dOp dIx (dFld (He.ga K "PlainWorld") "parents_of" (dVar 0)) (dPop (dVar 3)))) (hName 4) onesBody
theorem ones_while {D : DEnds} {a : WA} {V : PW} {a1 : Option W} {p q : Addr} (hpq : p ≠ q) (hp : p ∉ a.all) (hq : q ∉ a.all) (hw : WAt K s a V) (wf : V.Wf) (r : List Nat) (n : Nat) : ∀ (z : Option W) (f st : List Nat), onesF V.parents n f st = some r →
    f.length + n * 10 < 90000 → st.length + n * 10 < 90000 → (∀ x ∈ st, x < V.parents.length) →
    (∀ z st', D.nx [some (.v (.ref a.w)), a1, some (.v (.ref p)), some (.v (.ref q)), z] (onesSt s p q r st')) →
    whileN onesCond (onesFor K) n D [some (.v (.ref a.w)), a1, some (.v (.ref p)), some (.v (.ref q)), z] (onesSt s p q f st) := by
  induction n with
  | zero => intro z f st h; exact nomatch h
  | succ n ih =>
    intro z f st h h1 h2 h3 hD
    have hqs : onesSt s p q f st q = some (stackL st) := put_eq
    have fr : ∀ x ∈ a.all, onesSt s p q f st x = s x := fun x hx => by
      show put _ q _ x = s x
      rw [put_ne (fun e => hq (by rw [← e]; exact hx)), put_ne (fun e => hp (by rw [← e]; exact hx))]
    have hw2 := hw.frame fr
    unfold onesF at h
    show onesCond _ _ _
    walk_at "dl"
    simp only [hqs, stackL]
    cases hl : st.getLast? with
    | none =>
      rw [hl] at h
      have hst : st = [] := List.getLast?_eq_none_iff.mp hl
      subst hst
      cases h
      simp only [natsW, List.map_nil, List.length_nil]
      simpa using hD z []
    | some t =>
      rw [hl] at h
      dsimp only at h
      obtain ⟨g1, g2, g3⟩ := natsW_pop hl
      have hpos : (0 : Int) < ((natsW st).length : Nat) := by unfold natsW; rw [List.length_map]; omega
      simp only [hpos, decide_true, if_true, zFor, jSeq]
      simp only [dOp]
      rw [fld_p hw2 rfl]
      simp only [dPop]
      walk_at "dl"
      simp only [ownL, hqs, stackL, g1]
      have ht : t < V.parents.length := h3 t (by rw [getLast_concat hl]; simp)
      have hps : put (onesSt s p q f st) q (Cell.lst (natsW st).dropLast) = onesSt s p q f st.dropLast := by
        rw [g2]; show put (put _ q _) q _ = _; rw [put_put]; rfl
      rw [hps]
      have hpp : onesSt s p q f st.dropLast a.p = some (.lst (V.parents.map fun ps => .d (.tuple (natsD ps)))) := by
        have := hw2.p
        show put _ q _ a.p = _
        rw [put_ne (fun e => hq (by rw [← e]; simp [WA.all])), put_ne (fun e => hp (by rw [← e]; simp [WA.all]))]
        exact hw.p
      rw [dIx_own hpp, U.atI_nat, List.getElem?_map, List.getElem?_eq_getElem ht]
      simp only [Option.map_some, srcOf]
      have hmem : V.parents[t] ∈ V.parents := List.getElem_mem ht
      have hd : V.parents.getD t [] = V.parents[t] := by rw [List.getD_eq_getElem?_getD, List.getElem?_eq_getElem ht]; rfl
      rw [hd] at h
      have hwf := wf.par _ hmem
      have hmap : (natsD V.parents[t]).map W.d = natsW V.parents[t] := by unfold natsD natsW; rw [List.map_map]; rfl
      rw [hmap]
      have hld : st.dropLast.length ≤ st.length := by rw [List.length_dropLast]; omega
      have vl := visit_len V.parents[t] f st.dropLast
      refine ones_for hpq _ _ _ _ (by omega) (by omega) fun z' => ?_
      refine ih z' _ _ h (by omega) (by omega) (visit_mem _ _ _ _ hwf.2 fun x hx => h3 x (List.dropLast_subset _ hx)) hD
theorem WAt.there {a : WA} {V : PW} (h : WAt K s a V) {x : Addr} (hx : x ∈ a.all) : s x ≠ none := by
  unfold WA.all at hx
  simp only [List.mem_cons] at hx
  rcases hx with rfl | rfl | rfl | rfl | rfl | hx
  · rw [h.w]; exact fun e => nomatch e
  · rw [h.p]; exact fun e => nomatch e
  · rw [h.b]; exact fun e => nomatch e
  · rw [h.k]; exact fun e => nomatch e
  · rw [h.c]; exact fun e => nomatch e
  · have hc := h.cs
    generalize V.cells = cl at hc
    generalize a.cs = cs at hc hx
    induction hc with
    | nil => cases hx
    | cons q t ih =>
      rcases List.mem_cons.mp hx with rfl | hx
      · rw [q]; exact fun e => nomatch e
      · exact ih hx
theorem keys_found (r : List Nat) : (r.map fun (n : Nat) => ((Sum.inl (n : Int) : L2.Key), W.d (.bool true))).map (fun kv => keyW kv.1) = (natsD r).map .d := by
  unfold natsD
  rw [List.map_map, List.map_map]
  rfl
theorem e_ones {a : WA} {V : PW} (hw : WAt K s a V) (wf : V.Wf) (kd : Nat) (hk : kd < V.parents.length) {r : List Nat} (hr : onesF V.parents (2 * V.parents.length + 2) [kd] [kd] = some r) (q : k (.d (.list (natsD r))) s) :
    df_PlainWorld_ones K [.v (.ref a.w), .d (.int (kd : Nat))] s k := by
  rw [df_PlainWorld_ones_eq]; unfold d_PlainWorld_ones_
  walk_at "dl"
  simp only [dDisp1]
  intro p hp
  walk_at "dl"
  refine ⟨put_eq, ?_⟩
  simp only [keyOf, put_put]
  simp only [dLstO]
  walk_at "dl"
  refine ⟨by decide, ?_⟩
  unfold newO
  intro q' hq
  have hpq : p ≠ q' := fun e => by rw [← e, put_eq] at hq; cases hq
  have hq2 : s q' = none := by rw [put_ne (Ne.symm hpq)] at hq; exact hq
  have hp2 : p ∉ a.all := fun m => hw.there m hp
  have hq3 : q' ∉ a.all := fun m => hw.there m hq2
  refine ⟨2 * V.parents.length + 2, ?_⟩
  have fw := wf.few
  have hin : ∀ x ∈ [kd], x < V.parents.length := fun x hx => by
    have e : x = kd := by simpa using hx
    rw [e]; exact hk
  refine ones_while (a := a) (V := V) (s := s) hpq hp2 hq3 hw wf r (2 * V.parents.length + 2) none [kd] [kd] hr (by simp only [List.length_cons, List.length_nil]; omega) (by simp only [List.length_cons, List.length_nil]; omega) hin (fun z st' => ?_)
  walk_at "dl"
  have hps : onesSt s p q' r st' p = some (foundK r) := by show put _ q' _ p = _; rw [put_ne hpq]; exact put_eq
  simp only [dListC, seqOf, hps, foundK, keys_found]
  unfold newL
  rw [datas_map]
  refine ⟨s, fun x c hx => ?_, q⟩
  show put _ q' _ x = _
  rw [put_ne (fun e => by rw [e, hq2] at hx; cases hx), put_ne (fun e => by rw [e, hp] at hx; cases hx)]
  exact hx
/-! ### kinds and objects are made -/
/-- all that is not the world's stays -/
def Frm (s s' : Hs) (a : WA) : Prop := ∀ x c, x ∉ a.all → s x = some c → s' x = some c
theorem natsW_snoc (ns : List Nat) (n : Nat) : natsW ns ++ [W.d (.int (n : Nat))] = natsW (ns ++ [n]) := by unfold natsW; rw [List.map_append]; rfl
theorem natsW_len (ns : List Nat) : (natsW ns).length = ns.length := by unfold natsW; rw [List.length_map]
theorem WA.ne (a : WA) (h : a.all.Nodup) : a.w ≠ a.p ∧ a.w ≠ a.b ∧ a.w ≠ a.k ∧ a.w ≠ a.c ∧ a.p ≠ a.b ∧ a.p ≠ a.k ∧ a.p ≠ a.c ∧ a.b ≠ a.k ∧ a.b ≠ a.c ∧ a.k ≠ a.c ∧ (∀ x ∈ a.cs, x ≠ a.w ∧ x ≠ a.p ∧ x ≠ a.b ∧ x ≠ a.k ∧ x ≠ a.c) ∧ a.cs.Nodup := by
  unfold WA.all at h
  simp only [List.nodup_cons, List.mem_cons, not_or] at h
  obtain ⟨⟨h1, h2, h3, h4, h5⟩, ⟨h6, h7, h8, h9⟩, ⟨h10, h11, h12⟩, ⟨h13, h14⟩, h15, h16⟩ := h
  exact ⟨h1, h2, h3, h4, h6, h7, h8, h10, h11, h13, fun x hx => ⟨fun e => h5 (e ▸ hx), fun e => h9 (e ▸ hx), fun e => h12 (e ▸ hx), fun e => h14 (e ▸ hx), fun e => h15 (e ▸ hx)⟩, h16⟩
theorem paired_put {f : List ((Nat × Nat) × PyData) → Cell} {p : Addr} {c : Cell} {cs : List Addr} {l : List (List ((Nat × Nat) × PyData))} (h : Paired (fun x e => s x = some (f e)) cs l) (hp : p ∉ cs) : Paired (fun x e => put s p c x = some (f e)) cs l := by
  induction h with
  | nil => exact .nil
  | cons q t ih => exact .cons ((put_ne fun e => hp (by rw [e]; exact List.mem_cons_self)).trans q) (ih fun m => hp (List.mem_cons_of_mem _ m))
def PW.addKind (V : PW) (ps : List Nat) (m : Nat) : PW := { V with parents := V.parents ++ [ps], brought := V.brought ++ [m] }
theorem wat_kind {a : WA} {V : PW} (hw : WAt K s a V) (ps : List Nat) (m : Nat) : WAt K (put (put s a.p (.lst (V.parents.map (fun ps => .d (.tuple (natsD ps))) ++ [.d (.tuple (natsD ps))]))) a.b (.lst (natsW V.brought ++ [.d (.int (m : Nat))]))) a (V.addKind ps m) := by
  obtain ⟨n1, n2, n3, n4, n5, n6, n7, n8, n9, n10, n11, n12⟩ := a.ne hw.nd
  refine ⟨?_, ?_, ?_, ?_, ?_, ?_, hw.nd⟩
  · rw [put_ne n2, put_ne n1]; exact hw.w
  · rw [put_ne n5, put_eq]; unfold PW.addKind; simp
  · rw [put_eq]; unfold PW.addKind; rw [natsW_snoc]
  · rw [put_ne (Ne.symm n8), put_ne (Ne.symm n6)]; exact hw.k
  · rw [put_ne (Ne.symm n9), put_ne (Ne.symm n7)]; exact hw.c
  · exact paired_put (s := put s a.p _) (paired_put hw.cs fun m => (n11 _ m).2.1 rfl) fun m => (n11 _ m).2.2.1 rfl
theorem e_new_kind {a : WA} {V : PW} (hw : WAt K s a V) (wf : V.Wf) (hb : V.brought.length = V.parents.length) (ps : List Nat) (m : Nat) (h1 : V.parents.length = 400 → k (.d .none) s)
    (h2 : V.parents.length ≠ 400 → ∀ s', WAt K s' a (V.addKind ps m) → Frm s s' a → k (.d (.int (V.parents.length : Nat))) s') :
    df_PlainWorld_new_kind K [.v (.ref a.w), .d (.tuple (natsD ps)), .d (.int (m : Nat))] s k := by
  rw [df_PlainWorld_new_kind_eq]; unfold d_PlainWorld_new_kind_
  walk_at "dl"
  rw [fld_p hw rfl]
  simp only [hw.p, List.length_map]
  obtain ⟨n1, n2, n3, n4, n5, n6, n7, n8, n9, n10, n11, n12⟩ := a.ne hw.nd
  have fw := wf.few
  by_cases h : V.parents.length = 400
  · have e : (((V.parents.length : Nat) : Int) == 400) = true := by simp [h]
    simp only [e, if_true]
    exact h1 h
  · have e : (((V.parents.length : Nat) : Int) == 400) = false := by rw [Bool.eq_false_iff]; simp; omega
    simp only [e, Bool.false_eq_true, if_false]
    simp only [dAppendT]
    rw [fld_p hw rfl]
    walk_at "dl"
    simp only [isL, ownL, hw.p, true_and, List.length_map]
    refine ⟨by omega, ?_⟩
    have hw1 : ∀ c, put s a.p c a.w = some (.ins (He.ga K "PlainWorld") (fldsW a)) := fun c => by rw [put_ne n1]; exact hw.w
    have hb1 : ∀ c, put s a.p c a.b = some (.lst (natsW V.brought)) := fun c => by rw [put_ne (Ne.symm n5)]; exact hw.b
    rw [dFld_go (x := .v (.ref a.b)) rfl (hw1 _) (by rfl)]
    simp only [hb1, true_and, natsW_len]
    refine ⟨by omega, ?_⟩
    have hw2 := wat_kind hw ps m
    rw [fld_b hw2 rfl]
    simp only [hw2.b, natsW_len]
    have e2 : (((V.addKind ps m).brought.length : Nat) : Int) - 1 = (V.parents.length : Nat) := by unfold PW.addKind; simp; omega
    rw [e2]
    refine h2 h _ hw2 fun x c hx hs => ?_
    rw [put_ne (fun e => hx (by rw [e]; simp [WA.all])), put_ne (fun e => hx (by rw [e]; simp [WA.all]))]
    exact hs
/-! ### what is read -/
theorem natsW_get {ns : List Nat} {i : Nat} (h : i < ns.length) : atI (natsW ns) (i : Int) = some (.d (.int (ns[i] : Nat))) := by
  rw [U.atI_nat]
  unfold natsW
  rw [List.getElem?_map, List.getElem?_eq_getElem h]
  rfl
theorem e_kind_of {a : WA} {V : PW} (hw : WAt K s a V) (o : Nat) (ho : o < V.kinds.length) (q : k (.d (.int (V.kinds[o] : Nat))) s) : df_PlainWorld_kind_of K [.v (.ref a.w), .d (.int (o : Nat))] s k := by
  rw [df_PlainWorld_kind_of_eq]; unfold d_PlainWorld_kind_of_
  walk_at "dl"
  rw [fld_k hw rfl, dIx_own hw.k, natsW_get ho]
  exact q
theorem putFW_le {f : Str} {w : W} : ∀ {fs : List (Str × W)} {n : Nat}, fs.length ≤ n → (putFW f w fs).length ≤ n + 1
  | [], n, h => by unfold putFW; simp
  | (g, x) :: r, n, h => by
    unfold putFW
    simp only [List.length_cons] at h
    split
    · simp only [List.length_cons]; omega
    · have := putFW_le (f := f) (w := w) (fs := r) (n := n - 1) (by omega)
      simp only [List.length_cons]; omega
theorem fld_new {D : DEnds} {C : Addr} {f : Str} {fs : List (Str × W)} {a0 : Addr} (h : s a0 = some (.ins C fs)) (hl : fs.length < 1000) (q : ∀ p, s p = none → D.nx [some (.v (.ref a0))] (put (put s p (.lst [])) a0 (.ins C (putFW f (.v (.ref p)) fs)))) :
    zFld C (dVar 0) (dLstO dNil) f D [some (.v (.ref a0))] s := by
  simp only [zFld, dLstO]
  walk_at "dl"
  refine ⟨by decide, ?_⟩
  unfold newO
  intro p hp
  exact ⟨a0, fs, rfl, by rw [put_ne (fun e => by rw [e, hp] at h; cases h)]; exact h, hl, q p hp⟩
theorem fresh_put {p x : Addr} {c : Cell} (h : put s p c x = none) : x ≠ p ∧ s x = none := by
  by_cases e : x = p
  · subst e; rw [put_eq] at h; cases h
  · rw [put_ne e] at h; exact ⟨e, h⟩
theorem e_init (a0 : Addr) (h0 : s a0 = some (.ins (He.ga K "PlainWorld") [])) (q : ∀ s' a, a.w = a0 → WAt K s' a {} → (∀ x c, x ≠ a0 → s x = some c → s' x = some c) → (∀ x ∈ a.all, x = a0 ∨ s x = none) → k (.d .none) s') : df_PlainWorld___init__ K [.v (.ref a0)] s k := by
  rw [df_PlainWorld___init___eq]; unfold d_PlainWorld___init___
  simp only [dfOf, startD, List.map_cons, List.map_nil, List.length_cons, List.length_nil, List.cons_append, List.nil_append, List.replicate, Nat.zero_add, Nat.sub_self, true_and, zSeq]
  refine fld_new h0 (by decide) fun p hp => ?_
  have l1 : ∀ f w, (putFW f w ([] : List (Str × W))).length ≤ 1 := fun f w => putFW_le (Nat.le_refl 0)
  refine fld_new put_eq (Nat.lt_of_le_of_lt (l1 _ _) (by decide)) fun b hb => ?_
  refine fld_new put_eq (Nat.lt_of_le_of_lt (putFW_le (l1 _ _)) (by decide)) fun o ho => ?_
  refine fld_new put_eq (Nat.lt_of_le_of_lt (putFW_le (putFW_le (l1 _ _))) (by decide)) fun c hc => ?_
  obtain ⟨b1, hb⟩ := fresh_put hb
  obtain ⟨b2, hb⟩ := fresh_put hb
  obtain ⟨o1, ho⟩ := fresh_put ho
  obtain ⟨o2, ho⟩ := fresh_put ho
  obtain ⟨_, ho⟩ := fresh_put ho
  obtain ⟨o3, ho⟩ := fresh_put ho
  obtain ⟨c1, hc⟩ := fresh_put hc
  obtain ⟨c2, hc⟩ := fresh_put hc
  obtain ⟨_, hc⟩ := fresh_put hc
  obtain ⟨c3, hc⟩ := fresh_put hc
  obtain ⟨_, hc⟩ := fresh_put hc
  obtain ⟨c4, hc⟩ := fresh_put hc
  have p1 : p ≠ a0 := fun e => by rw [← e, hp] at h0; cases h0
  refine q _ ⟨a0, p, b, o, c, []⟩ rfl ⟨put_eq, ?_, ?_, ?_, ?_, .nil, ?_⟩ (fun x cc hx hs => ?_) (fun x hx => ?_)
  · show put _ a0 _ p = _
    rw [put_ne p1, put_ne (Ne.symm c4), put_ne p1, put_ne (Ne.symm o3), put_ne p1, put_ne (Ne.symm b2), put_ne p1, put_eq]; rfl
  · show put _ a0 _ b = _
    rw [put_ne b1, put_ne (Ne.symm c3), put_ne b1, put_ne (Ne.symm o2), put_ne b1, put_eq]; rfl
  · show put _ a0 _ o = _
    rw [put_ne o1, put_ne (Ne.symm c2), put_ne o1, put_eq]; rfl
  · show put _ a0 _ c = _
    rw [put_ne c1, put_eq]; rfl
  · simp only [WA.all, List.nodup_cons, List.mem_cons, List.not_mem_nil, or_false, not_or, not_false_eq_true, List.nodup_nil, and_true]
    exact ⟨⟨Ne.symm p1, Ne.symm b1, Ne.symm o1, Ne.symm c1⟩, ⟨Ne.symm b2, Ne.symm o3, Ne.symm c4⟩, ⟨Ne.symm o2, Ne.symm c3⟩, Ne.symm c2⟩
  · have ne : ∀ y, s y = none → x ≠ y := fun y hy e => by rw [e, hy] at hs; cases hs
    rw [put_ne hx, put_ne (ne c hc), put_ne hx, put_ne (ne o ho), put_ne hx, put_ne (ne b hb), put_ne hx, put_ne (ne p hp)]
    exact hs
  · simp only [WA.all, List.mem_cons, List.not_mem_nil, or_false] at hx
    rcases hx with rfl | rfl | rfl | rfl | rfl
    · exact .inl rfl
    · exact .inr hp
    · exact .inr hb
    · exact .inr ho
    · exact .inr hc
/-! ### cells -/
def cellAt (l : List ((Nat × Nat) × PyData)) (kd f : Nat) : Option PyData := (l.find? fun e => decide (e.1 = (kd, f))).map (·.2)
def putC (l : List ((Nat × Nat) × PyData)) (kf : Nat × Nat) (v : PyData) : List ((Nat × Nat) × PyData) := if (l.any fun e => decide (e.1 = kf)) = true then l.map (fun e => if e.1 = kf then (e.1, v) else e) else l ++ [(kf, v)]
def key2 (kd f : Nat) : List L2.Key := [.inl (kd : Int), .inl (f : Int)]
theorem key2_iff {a b c d : Nat} : key2 a b = key2 c d ↔ (a, b) = (c, d) := by
  unfold key2
  simp
  omega
theorem valW_cells (l : List ((Nat × Nat) × PyData)) (kd f : Nat) : valW (cellsW l) (key2 kd f) = (cellAt l kd f).map .d := by
  induction l with
  | nil => rfl
  | cons e r ih =>
    obtain ⟨⟨a, b⟩, v⟩ := e
    unfold valW cellsW cellAt at ih ⊢
    rw [List.map_cons, List.find?_cons, List.find?_cons]
    by_cases h : (a, b) = (kd, f)
    · have h2 : key2 a b = key2 kd f := key2_iff.mpr h
      unfold key2 at h2
      simp only [h, decide_true, Option.map_some]
      have : decide (([Sum.inl (a : Int), Sum.inl (b : Int)] : List L2.Key) = key2 kd f) = true := decide_eq_true h2
      simp only [this, Option.map_some]
    · have h2 : ¬ key2 a b = key2 kd f := fun z => h (key2_iff.mp z)
      unfold key2 at h2
      simp only [h, decide_false]
      have : decide (([Sum.inl (a : Int), Sum.inl (b : Int)] : List L2.Key) = key2 kd f) = false := decide_eq_false h2
      simp only [this]
      exact ih
theorem putW_cells (l : List ((Nat × Nat) × PyData)) (kd f : Nat) (v : PyData) : putW (cellsW l) (key2 kd f) (.d v) = cellsW (putC l (kd, f) v) := by
  have ha : ((cellsW l).any fun kv => decide (kv.1 = key2 kd f)) = l.any fun e => decide (e.1 = (kd, f)) := by
    unfold cellsW
    rw [List.any_map]
    congr 1
    funext e
    obtain ⟨⟨a, b⟩, w⟩ := e
    show decide (key2 a b = key2 kd f) = _
    rw [Bool.eq_iff_iff]
    simp only [decide_eq_true_eq, key2_iff]
  unfold putW putC
  rw [ha]
  by_cases h : (l.any fun e => decide (e.1 = (kd, f))) = true
  · rw [if_pos h, if_pos h]
    unfold cellsW
    rw [List.map_map, List.map_map]
    congr 1
    funext e
    obtain ⟨⟨a, b⟩, w⟩ := e
    show (if key2 a b = key2 kd f then (key2 a b, W.d v) else (key2 a b, W.d w)) = _
    by_cases h2 : (a, b) = (kd, f)
    · rw [if_pos (key2_iff.mpr h2)]; simp [h2, key2]
      cases h2; exact ⟨rfl, rfl⟩
    · rw [if_neg (fun z => h2 (key2_iff.mp z))]; simp [h2, key2]
  · rw [if_neg h, if_neg h]
    unfold cellsW
    rw [List.map_append]
    rfl
theorem cs_at {cs : List Addr} {l : List (List ((Nat × Nat) × PyData))} (h : Paired (fun x e => s x = some (.dT (cellsW e))) cs l) : cs.length = l.length ∧ ∀ (o : Nat) (ho : o < l.length) (ho' : o < cs.length), s cs[o] = some (.dT (cellsW l[o])) := by
  induction h with
  | nil => exact ⟨rfl, fun o ho => absurd ho (Nat.not_lt_zero o)⟩
  | cons q t ih =>
    refine ⟨by simp [ih.1], fun o ho ho' => ?_⟩
    cases o with
    | zero => exact q
    | succ o => exact ih.2 o (by simpa using ho) (by simpa using ho')
theorem WAt.cell {a : WA} {V : PW} (hw : WAt K s a V) {o : Nat} (ho : o < V.cells.length) : ∃ x, atI (a.cs.map fun x => W.v (.ref x)) (o : Int) = some (.v (.ref x)) ∧ s x = some (.dT (cellsW V.cells[o])) ∧ a.cs[o]? = some x := by
  obtain ⟨h1, h2⟩ := cs_at hw.cs
  refine ⟨a.cs[o]'(by omega), ?_, h2 o ho (by omega), List.getElem?_eq_getElem _⟩
  rw [U.atI_nat, List.getElem?_map, List.getElem?_eq_getElem (by omega : o < a.cs.length)]
  rfl
theorem getD_cells {x : Addr} {l : List ((Nat × Nat) × PyData)} (h : s x = some (.dT (cellsW l))) (kd f : Nat) : U.getD s (.v (.ref x)) (.d (.tuple [.int (kd : Nat), .int (f : Nat)])) = some ((cellAt l kd f).map .d) := by
  unfold U.getD
  simp only [h, keysOf, keyOf, Option.map_some]
  exact congrArg some (valW_cells l kd f)
theorem e_has_cell {a : WA} {V : PW} (hw : WAt K s a V) (o kd f : Nat) (ho : o < V.cells.length) (q : k (.d (.bool (cellAt V.cells[o] kd f).isSome)) s) :
    df_PlainWorld_has_cell K [.v (.ref a.w), .d (.int (o : Nat)), .d (.int (kd : Nat)), .d (.int (f : Nat))] s k := by
  rw [df_PlainWorld_has_cell_eq]; unfold d_PlainWorld_has_cell_
  walk_at "dl"
  refine ⟨by decide, ?_⟩
  obtain ⟨x, h1, h2, _⟩ := hw.cell ho
  rw [fld_c hw rfl, dIx_own hw.c, h1]
  dsimp only [dIn, dInB]
  rw [getD_cells h2]
  simpa using q
theorem e_cell {a : WA} {V : PW} (hw : WAt K s a V) (o kd f : Nat) (ho : o < V.cells.length) {v : PyData} (hv : cellAt V.cells[o] kd f = some v) (q : k (.d v) s) :
    df_PlainWorld_cell K [.v (.ref a.w), .d (.int (o : Nat)), .d (.int (kd : Nat)), .d (.int (f : Nat))] s k := by
  rw [df_PlainWorld_cell_eq]; unfold d_PlainWorld_cell_
  walk_at "dl"
  obtain ⟨x, h1, h2, _⟩ := hw.cell ho
  rw [fld_c hw rfl, dIx_own hw.c, h1]
  dsimp only
  refine ⟨by decide, ?_⟩
  unfold dIx
  have hs : seqOf s (.v (.ref x)) = none := by unfold seqOf; simp only [h2]
  rw [hs]
  dsimp only
  rw [getD_cells h2, hv]
  exact q
theorem paired_set {x : Addr} {e' : List ((Nat × Nat) × PyData)} {cs : List Addr} {l : List (List ((Nat × Nat) × PyData))} (h : Paired (fun x e => s x = some (.dT (cellsW e))) cs l) : cs.Nodup → ∀ {o : Nat}, cs[o]? = some x →
    Paired (fun y e => put s x (.dT (cellsW e')) y = some (.dT (cellsW e))) cs (l.set o e') := by
  induction h with
  | nil => intro _ o e; exact nomatch e
  | @cons y e0 ps qs q t ih =>
    intro nd o e
    rw [List.nodup_cons] at nd
    cases o with
    | zero =>
      have e2 : y = x := Option.some.inj e
      subst e2
      exact .cons put_eq (paired_put (f := fun e => .dT (cellsW e)) t nd.1)
    | succ o =>
      have hm : x ∈ ps := List.mem_of_getElem? e
      exact .cons ((put_ne fun z => nd.1 (by rw [z]; exact hm)).trans q) (ih nd.2 e)
def PW.setCell (V : PW) (o kd f : Nat) (v : PyData) : PW := { V with cells := V.cells.set o (putC (V.cells.getD o []) (kd, f) v) }
theorem e_keep_cell {a : WA} {V : PW} (hw : WAt K s a V) (o kd f : Nat) (ho : o < V.cells.length) (hl : V.cells[o].length < 100000) (v : PyData) (q : ∀ s', WAt K s' a (V.setCell o kd f v) → Frm s s' a → k (.d .none) s') :
    df_PlainWorld_keep_cell K [.v (.ref a.w), .d (.int (o : Nat)), .d (.int (kd : Nat)), .d (.int (f : Nat)), .d v] s k := by
  rw [df_PlainWorld_keep_cell_eq]; unfold d_PlainWorld_keep_cell_
  walk_at "dl"
  simp only [hSub]
  walk_at "dl"
  obtain ⟨x, h1, h2, h3⟩ := hw.cell ho
  rw [fld_c hw rfl, dIx_own hw.c, h1]
  dsimp only
  refine ⟨by decide, ?_⟩
  have hlen : (cellsW V.cells[o]).length < 100000 := by unfold cellsW; rw [List.length_map]; exact hl
  simp only [setD, h2, keysOf, keyOf, hlen, if_true]
  have hput := putW_cells V.cells[o] kd f v
  unfold key2 at hput
  rw [hput]
  have hx : x ∈ a.cs := List.mem_of_getElem? h3
  obtain ⟨n1, n2, n3, n4, n5, n6, n7, n8, n9, n10, n11, n12⟩ := a.ne hw.nd
  obtain ⟨m1, m2, m3, m4, m5⟩ := n11 x hx
  have hg : V.cells.getD o [] = V.cells[o] := by rw [List.getD_eq_getElem?_getD, List.getElem?_eq_getElem ho]; rfl
  refine q _ ⟨?_, ?_, ?_, ?_, ?_, ?_, hw.nd⟩ fun y c hy hs => ?_
  · rw [put_ne (Ne.symm m1)]; exact hw.w
  · rw [put_ne (Ne.symm m2)]; exact hw.p
  · rw [put_ne (Ne.symm m3)]; exact hw.b
  · rw [put_ne (Ne.symm m4)]; exact hw.k
  · rw [put_ne (Ne.symm m5)]; exact hw.c
  · unfold PW.setCell
    rw [hg]
    exact paired_set hw.cs n12 h3
  · rw [put_ne (fun e => hy (by rw [e]; unfold WA.all; simp [hx]))]; exact hs
/-! ### is_kind, new_object -/
theorem meth_go {a : WA} {V : PW} {m : Str} {f : DF} {ar : DA} {i : Nat} {δ : DEnv} (hw : WAt K s a V) (hδ : δ[i]? = some (some (.v (.ref a.w)))) (hm : (fldsW a).lookup m = none) (h : ar δ s fun ws s2 => f (.v (.ref a.w) :: ws) s2 k) : dMeth (He.ga K "PlainWorld") m f (dVar i) ar δ s k := by
  unfold dMeth dVar
  rw [hδ]
  exact ⟨a.w, fldsW a, rfl, hw.w, hm, h⟩
theorem mem_nats (x : Nat) (r : List Nat) : memD (.int (x : Nat)) (natsD r) = decide (x ∈ r) := by
  unfold memD natsD
  rw [List.any_map]
  rw [Bool.eq_iff_iff, List.any_eq_true]
  simp only [decide_eq_true_eq, Function.comp]
  constructor
  · rintro ⟨y, hy, e⟩
    rw [eqv_int] at e
    have : y = x := by have := beq_iff_eq.mp e; omega
    rw [← this]; exact hy
  · intro h
    exact ⟨x, h, by rw [eqv_int]; simp⟩
theorem flat_nats (r : List Nat) : (natsD r).all flatD = true := by
  unfold natsD
  rw [List.all_map, List.all_eq_true]
  intro x _
  rfl
theorem e_is_kind {a : WA} {V : PW} (hw : WAt K s a V) (wf : V.Wf) (o kd : Nat) (ho : o < V.kinds.length) (hk : V.kinds[o] < V.parents.length) {r : List Nat} (hr : onesF V.parents (2 * V.parents.length + 2) [V.kinds[o]] [V.kinds[o]] = some r)
    (q : k (.d (.bool (decide (kd ∈ r)))) s) : df_PlainWorld_is_kind K [.v (.ref a.w), .d (.int (o : Nat)), .d (.int (kd : Nat))] s k := by
  rw [df_PlainWorld_is_kind_eq]; unfold d_PlainWorld_is_kind_
  walk_at "dl"
  refine meth_go hw rfl (by rfl) ?_
  walk_at "dl"
  rw [fld_k hw rfl, dIx_own hw.k, natsW_get ho]
  dsimp only
  refine e_ones hw wf _ hk hr ?_
  dsimp only [dIn, dInB, U.getD, itemsD, asD]
  refine ⟨.inl ⟨rfl, flat_nats r⟩, ?_⟩
  rw [mem_nats]
  simpa using q
theorem atI_last {α : Type} {xs : List α} (h : xs ≠ []) : atI xs (-1) = xs[xs.length - 1]? := by
  have hl : 0 < xs.length := List.length_pos_iff.mpr h
  unfold atI ixN
  rw [if_neg (by omega), if_pos (by omega)]
  show xs[((-1 : Int) + (xs.length : Nat)).toNat]? = _
  congr 1
  omega
def newC (one n : Nat) : List ((Nat × Nat) × PyData) := (List.range n).map fun f => ((one, f), .int 0)
def mergeC (l more : List ((Nat × Nat) × PyData)) : List ((Nat × Nat) × PyData) := more.foldl (fun acc e => putC acc e.1 e.2) l
theorem mergeW_cells (more : List ((Nat × Nat) × PyData)) : ∀ l, mergeW (cellsW l) (cellsW more) = cellsW (mergeC l more) := by
  induction more with
  | nil => intro l; rfl
  | cons e r ih =>
    intro l
    obtain ⟨⟨a, b⟩, v⟩ := e
    have := ih (putC l (a, b) v)
    rw [← putW_cells] at this
    exact this
theorem newC_snoc (one i : Nat) : putC (newC one i) (one, i) (.int 0) = newC one (i + 1) := by
  unfold putC newC
  have : (((List.range i).map fun f => ((one, f), PyData.int 0)).any fun e => decide (e.1 = (one, i))) = false := by
    rw [Bool.eq_false_iff]
    intro z
    rw [List.any_map, List.any_eq_true] at z
    obtain ⟨y, hy, e⟩ := z
    have e2 : y = i := by simpa using e
    rw [e2, List.mem_range] at hy
    omega
  rw [this, List.range_succ, List.map_append]
  rfl
theorem cellsW_len (l : List ((Nat × Nat) × PyData)) : (cellsW l).length = l.length := by unfold cellsW; rw [List.length_map]
theorem newC_len (one n : Nat) : (newC one n).length = n := by unfold newC; simp
/-- the new fields, laid -/
theorem dc_go {a0 a1 : Option W} {one : Nat} {D : Addr} (n : Nat) (hn : n ≤ 6) : ∀ (i : Nat) (s : Hs), i ≤ n → s D = some (.dT (cellsW (newC one i))) → k (.v (.ref D)) (put s D (.dT (cellsW (newC one n)))) →
    dcN (hName 3) (dTup (dCons (dVar 2) (dCons (dVar 3) dNil))) (dC (.int 0)) (fun _ => True) [a0, a1, some (.d (.int (one : Nat))), none] D k ((rngW 0 n).drop i) (cellsW (newC one i)) s := by
  have main : ∀ (m i : Nat) (s : Hs), i + m = n → s D = some (.dT (cellsW (newC one i))) → k (.v (.ref D)) (put s D (.dT (cellsW (newC one n)))) →
      dcN (hName 3) (dTup (dCons (dVar 2) (dCons (dVar 3) dNil))) (dC (.int 0)) (fun _ => True) [a0, a1, some (.d (.int (one : Nat))), none] D k ((rngW 0 n).drop i) (cellsW (newC one i)) s := by
    intro m
    induction m with
    | zero =>
      intro i s h1 h2 h3
      have e : i = n := by omega
      subst e
      have hl : (rngW 0 i).length = i := by unfold rngW; simp
      rw [List.drop_of_length_le (by omega)]
      rw [put_same h2] at h3
      exact ⟨True.intro, h2, h3⟩
    | succ m ih =>
      intro i s h1 h2 h3
      have hd : (rngW 0 n).drop i = .d (.int (i : Nat)) :: (rngW 0 n).drop (i + 1) := by
        have hl : i < (rngW 0 n).length := by unfold rngW; simp; omega
        rw [List.drop_eq_getElem_cons hl]
        congr 1
        unfold rngW
        simp
      rw [hd]
      refine ⟨True.intro, ?_⟩
      walk_at "dl"
      refine ⟨by decide, ?_⟩
      refine ⟨by rw [cellsW_len, newC_len]; omega, h2, ?_⟩
      simp only [keysOf, keyOf]
      have hput := putW_cells (newC one i) one i (.int 0)
      unfold key2 at hput
      rw [hput, newC_snoc]
      refine ih (i + 1) _ (by omega) put_eq ?_
      rw [put_put]
      exact h3
  intro i s h1 h2 h3
  exact main (n - i) i s (by omega) h2 h3
def PW.lastCell (V : PW) (more : List ((Nat × Nat) × PyData)) : PW := { V with cells := V.cells.set (V.cells.length - 1) (mergeC (V.cells.getD (V.cells.length - 1) []) more) }
abbrev nobjBody (K : PySem.W.Frag) : DS := zDrop (dUpd (dOp dIx (dFld (He.ga K "PlainWorld") "contents" (dVar 0)) (dNeg (dC (.int 1)))) (dDc (jRng1 (dOp dIx (dFld (He.ga K "PlainWorld") "brought" (dVar 0)) (dVar 2))) (hName 3) (dTup (dCons (dVar 2) (dCons (dVar 3) dNil))) (dC (.int 0)) [3]))
theorem nobj_step {D : DEnds} {a : WA} {V : PW} (hw : WAt K s a V) {a1 z : Option W} {one : Nat} (h1 : one < V.brought.length) (h2 : one < 400) (h3 : V.brought[one] ≤ 6) (hc : V.cells ≠ []) (hl : (V.cells.getD (V.cells.length - 1) []).length ≤ 90000)
    (h : ∀ s', WAt K s' a (V.lastCell (newC one V.brought[one])) → Frm s s' a → D.nx [some (.v (.ref a.w)), a1, some (.d (.int (one : Nat))), z] s') :
    nobjBody K D [some (.v (.ref a.w)), a1, some (.d (.int (one : Nat))), z] s := by
  have hpos : 0 < V.cells.length := List.length_pos_iff.mpr hc
  obtain ⟨c1, c2⟩ := cs_at hw.cs
  have ho : V.cells.length - 1 < V.cells.length := by omega
  have hcs : a.cs ≠ [] := fun e => by rw [e] at c1; simp at c1; omega
  obtain ⟨x, x1, x2, x3⟩ := hw.cell ho
  walk_at "dl"
  simp only [dUpd]
  walk_at "dl"
  have e0 : (0 : Int) - 1 = -1 := rfl
  rw [fld_c hw rfl, dIx_own hw.c, atI_last (by simpa using hcs), List.length_map, c1]
  rw [U.atI_nat] at x1
  rw [x1]
  dsimp only
  refine ⟨⟨x, _, rfl, x2⟩, ?_⟩
  simp only [dDc, jRng1]
  walk_at "dl"
  rw [fld_b hw rfl, dIx_own hw.b, natsW_get h1]
  dsimp only
  refine ⟨⟨by omega, by omega⟩, ?_⟩
  intro q hq
  have hxq : x ≠ q := fun e => by rw [e, hq] at x2; cases x2
  rw [Int.toNat_natCast]
  refine dc_go (one := one) V.brought[one] h3 0 (put s q (.dT [])) (Nat.zero_le _) put_eq ?_
  rw [put_put]
  have g1 : put s q (.dT (cellsW (newC one V.brought[one]))) x = some (.dT (cellsW V.cells[V.cells.length - 1])) := by rw [put_ne hxq]; exact x2
  have hg : V.cells.getD (V.cells.length - 1) [] = V.cells[V.cells.length - 1] := by rw [List.getD_eq_getElem?_getD, List.getElem?_eq_getElem ho]; rfl
  rw [hg] at hl
  refine ⟨x, q, _, _, rfl, rfl, hxq, g1, put_eq, by rw [cellsW_len, cellsW_len, newC_len]; omega, .inr ⟨one, V.brought[one], h2, h3, ?_⟩, ?_⟩
  · unfold cellsW newC
    rw [List.map_map, List.map_map]
    rfl
  · rw [mergeW_cells, put_comm (Ne.symm hxq), del_put (by rw [put_ne (Ne.symm hxq)]; exact hq)]
    have hx : x ∈ a.cs := List.mem_of_getElem? x3
    obtain ⟨n1, n2, n3, n4, n5, n6, n7, n8, n9, n10, n11, n12⟩ := a.ne hw.nd
    obtain ⟨m1, m2, m3, m4, m5⟩ := n11 x hx
    refine h _ ⟨?_, ?_, ?_, ?_, ?_, ?_, hw.nd⟩ fun y c hy hs => ?_
    · rw [put_ne (Ne.symm m1)]; exact hw.w
    · rw [put_ne (Ne.symm m2)]; exact hw.p
    · rw [put_ne (Ne.symm m3)]; exact hw.b
    · rw [put_ne (Ne.symm m4)]; exact hw.k
    · rw [put_ne (Ne.symm m5)]; exact hw.c
    · unfold PW.lastCell
      rw [hg]
      exact paired_set hw.cs n12 x3
    · rw [put_ne (fun e => hy (by rw [e]; unfold WA.all; simp [hx]))]; exact hs
theorem Frm.trans {s1 s2 s3 : Hs} {a : WA} (h : Frm s1 s2 a) (h' : Frm s2 s3 a) : Frm s1 s3 a := fun x c hx e => h' x c hx (h x c hx e)
def PW.fill (V : PW) (r : List Nat) : PW := r.foldl (fun V one => V.lastCell (newC one (V.brought.getD one 0))) V
theorem fill_cons (V : PW) (x : Nat) (r : List Nat) : V.fill (x :: r) = (V.lastCell (newC x (V.brought.getD x 0))).fill r := rfl
theorem fill_same (r : List Nat) : ∀ V : PW, (V.fill r).kinds = V.kinds ∧ (V.fill r).brought = V.brought ∧ (V.fill r).parents = V.parents ∧ (V.fill r).cells.length = V.cells.length := by
  induction r with
  | nil => intro V; exact ⟨rfl, rfl, rfl, rfl⟩
  | cons x r ih =>
    intro V
    rw [fill_cons]
    have := ih (V.lastCell (newC x (V.brought.getD x 0)))
    refine ⟨this.1, this.2.1, this.2.2.1, this.2.2.2.trans ?_⟩
    unfold PW.lastCell
    simp
theorem putC_len (l : List ((Nat × Nat) × PyData)) (kf : Nat × Nat) (v : PyData) : (putC l kf v).length ≤ l.length + 1 := by
  unfold putC
  split <;> simp
theorem mergeC_len (more : List ((Nat × Nat) × PyData)) : ∀ l, (mergeC l more).length ≤ l.length + more.length := by
  induction more with
  | nil => intro l; exact Nat.le_refl _
  | cons e r ih =>
    intro l
    have h1 := ih (putC l e.1 e.2)
    have h2 := putC_len l e.1 e.2
    show (mergeC (putC l e.1 e.2) r).length ≤ l.length + (r.length + 1)
    omega
theorem getD_set_last {l : List (List ((Nat × Nat) × PyData))} (h : l ≠ []) (x : List ((Nat × Nat) × PyData)) : (l.set (l.length - 1) x).getD (l.length - 1) [] = x := by
  have hl : 0 < l.length := List.length_pos_iff.mpr h
  rw [List.getD_eq_getElem?_getD, List.getElem?_set_self (by omega)]
  rfl
theorem nobj_for {D : DEnds} {a : WA} {a1 z : Option W} (r : List Nat) : ∀ (V : PW) (s : Hs) (z2 : Option W), WAt K s a V → (∀ x ∈ r, x < V.brought.length ∧ x < 400) → (∀ m ∈ V.brought, m ≤ 6) → V.cells ≠ [] → (V.cells.getD (V.cells.length - 1) []).length + 6 * r.length ≤ 90000 →
    (∀ s' z2, WAt K s' a (V.fill r) → Frm s s' a → D.nx [some (.v (.ref a.w)), a1, z2, z] s') →
    forN (hName 2) (nobjBody K) (fun _ => True) (natsW r) D [some (.v (.ref a.w)), a1, z2, z] s := by
  induction r with
  | nil => intro V s z2 hw _ _ _ _ h; exact ⟨True.intro, h s z2 hw fun _ _ _ e => e⟩
  | cons x r ih =>
    intro V s z2 hw h1 h2 h3 h4 h
    refine ⟨True.intro, ?_⟩
    show nobjBody K _ [some (.v (.ref a.w)), a1, some (.d (.int (x : Nat))), z] s
    obtain ⟨hx1, hx2⟩ := h1 x List.mem_cons_self
    have hb : V.brought.getD x 0 = V.brought[x] := by rw [List.getD_eq_getElem?_getD, List.getElem?_eq_getElem hx1]; rfl
    have hm : V.brought[x] ≤ 6 := h2 _ (List.getElem_mem hx1)
    simp only [List.length_cons] at h4
    refine nobj_step hw hx1 hx2 hm h3 (by omega) fun s' hw' fr => ?_
    refine ih (V.lastCell (newC x V.brought[x])) s' _ hw' (fun y hy => h1 y (List.mem_cons_of_mem _ hy)) h2 ?_ ?_ fun s2 z2 hw2 fr2 => ?_
    · unfold PW.lastCell
      intro e
      have := congrArg List.length e
      simp at this
      exact h3 this
    · unfold PW.lastCell
      dsimp only
      rw [List.length_set, getD_set_last h3]
      have m1 := mergeC_len (newC x V.brought[x]) (V.cells.getD (V.cells.length - 1) [])
      rw [newC_len] at m1
      omega
    · refine h s2 z2 ?_ (fr.trans fr2)
      rw [fill_cons, hb]
      exact hw2
theorem visit_mem1 (N : Nat) (ps : List Nat) : ∀ (f st : List Nat), (∀ x ∈ ps, x < N) → (∀ x ∈ f, x < N) → ∀ x ∈ (visit f st ps).1, x < N := by
  induction ps with
  | nil => intro f st _ h; exact h
  | cons y r ih =>
    intro f st h1 h2
    unfold visit
    split
    · exact ih f st (fun x hx => h1 x (List.mem_cons_of_mem _ hx)) h2
    · refine ih _ _ (fun x hx => h1 x (List.mem_cons_of_mem _ hx)) (fun x hx => ?_)
      rcases List.mem_append.mp hx with h | h
      · exact h2 x h
      · have : x = y := by simpa using h
        rw [this]; exact h1 y List.mem_cons_self
theorem ones_in {V : PW} (wf : V.Wf) (n : Nat) : ∀ (f st r : List Nat), onesF V.parents n f st = some r → (∀ x ∈ f, x < V.parents.length) → (∀ x ∈ r, x < V.parents.length) ∧ r.length ≤ f.length + 6 * n := by
  induction n with
  | zero => intro f st r h; exact nomatch h
  | succ n ih =>
    intro f st r h h2
    unfold onesF at h
    cases hl : st.getLast? with
    | none => rw [hl] at h; cases h; exact ⟨h2, by omega⟩
    | some t =>
      rw [hl] at h
      dsimp only at h
      have hp : (∀ x ∈ V.parents.getD t [], x < V.parents.length) ∧ (V.parents.getD t []).length ≤ 6 := by
        by_cases ht : t < V.parents.length
        · rw [List.getD_eq_getElem?_getD, List.getElem?_eq_getElem ht]
          have := wf.par _ (List.getElem_mem ht)
          exact ⟨this.2, this.1⟩
        · rw [List.getD_eq_getElem?_getD, List.getElem?_eq_none (by omega)]
          exact ⟨fun x hx => (nomatch hx), Nat.zero_le _⟩
      have := ih _ _ _ h (visit_mem1 _ _ _ _ hp.1 h2)
      have vl := (visit_len (V.parents.getD t []) f st.dropLast).1
      exact ⟨this.1, by omega⟩
def PW.addObj (V : PW) (kd : Nat) (r : List Nat) : PW := ({ V with kinds := V.kinds ++ [kd], cells := V.cells ++ [[]] } : PW).fill r
theorem e_new_object {a : WA} {V : PW} (hw : WAt K s a V) (wf : V.Wf) (hcl : V.cells.length = V.kinds.length) (hkl : V.kinds.length ≤ 2000) (kd : Nat) (hk : kd < V.parents.length) {r : List Nat} (hr : onesF V.parents (2 * V.parents.length + 2) [kd] [kd] = some r)
    (h1 : V.kinds.length = 2000 → k (.d .none) s) (h2 : V.kinds.length ≠ 2000 → ∀ s' q, s q = none → WAt K s' { a with cs := a.cs ++ [q] } (V.addObj kd r) → Frm s s' a → k (.d (.int (V.kinds.length : Nat))) s') :
    df_PlainWorld_new_object K [.v (.ref a.w), .d (.int (kd : Nat))] s k := by
  rw [df_PlainWorld_new_object_eq]; unfold d_PlainWorld_new_object_
  walk_at "dl"
  rw [fld_k hw rfl]
  simp only [hw.k, natsW_len]
  obtain ⟨n1, n2, n3, n4, n5, n6, n7, n8, n9, n10, n11, n12⟩ := a.ne hw.nd
  by_cases h : V.kinds.length = 2000
  · have e : (((V.kinds.length : Nat) : Int) == 2000) = true := by simp [h]
    simp only [e, if_true]
    exact h1 h
  · have e : (((V.kinds.length : Nat) : Int) == 2000) = false := by rw [Bool.eq_false_iff]; simp; omega
    simp only [e, Bool.false_eq_true, if_false]
    simp only [dAppendT]
    rw [fld_k hw rfl]
    walk_at "dl"
    simp only [isL, ownL, hw.k, true_and, natsW_len]
    refine ⟨by omega, ?_⟩
    have hw1 : ∀ c, put s a.k c a.w = some (.ins (He.ga K "PlainWorld") (fldsW a)) := fun c => by rw [put_ne n3]; exact hw.w
    have hc1 : ∀ c, put s a.k c a.c = some (.lst (a.cs.map fun x => .v (.ref x))) := fun c => by rw [put_ne (Ne.symm n10)]; exact hw.c
    rw [dFld_go (x := .v (.ref a.c)) rfl (hw1 _) (by rfl)]
    simp only [hc1, true_and, dNewT]
    intro q hq
    have hqk : q ≠ a.k := fun e => by rw [e, put_eq] at hq; cases hq
    have hqs : s q = none := by rw [put_ne hqk] at hq; exact hq
    have hqa : q ∉ a.all := fun m => hw.there m hqs
    have hcq : a.c ≠ q := fun e => hqa (by rw [← e]; simp [WA.all])
    have hc2 : ∀ c c', put (put s a.k c) q c' a.c = some (.lst (a.cs.map fun x => .v (.ref x))) := fun c c' => by rw [put_ne hcq]; exact hc1 c
    simp only [hc2, List.length_map]
    obtain ⟨c1, c2⟩ := cs_at hw.cs
    refine ⟨by omega, ?_⟩
    rw [natsW_snoc]
    -- the new object, its fields not laid yet
    have hw2 : WAt K (put (put (put s a.k (.lst (natsW (V.kinds ++ [kd])))) q (.dT [])) a.c (.lst (a.cs.map (fun x => .v (.ref x)) ++ [.v (.ref q)]))) { a with cs := a.cs ++ [q] } { V with kinds := V.kinds ++ [kd], cells := V.cells ++ [[]] } := by
      refine ⟨?_, ?_, ?_, ?_, ?_, ?_, ?_⟩
      · show put _ a.c _ a.w = _
        rw [put_ne n4, put_ne (fun e => hqa (by rw [← e]; simp [WA.all])), put_ne n3]; exact hw.w
      · show put _ a.c _ a.p = _
        rw [put_ne n7, put_ne (fun e => hqa (by rw [← e]; simp [WA.all])), put_ne n6]; exact hw.p
      · show put _ a.c _ a.b = _
        rw [put_ne n9, put_ne (fun e => hqa (by rw [← e]; simp [WA.all])), put_ne n8]; exact hw.b
      · show put _ a.c _ a.k = _
        rw [put_ne n10, put_ne (Ne.symm hqk), put_eq]
      · show put _ a.c _ a.c = _
        rw [put_eq, List.map_append]; rfl
      · have hq3 : q ∉ a.cs := fun m => hqa (by simp [WA.all, m])
        have p1 := paired_put (f := fun e => .dT (cellsW e)) (c := .lst (natsW (V.kinds ++ [kd]))) hw.cs (fun m => (n11 _ m).2.2.2.1 rfl)
        have p2 := paired_put (f := fun e => .dT (cellsW e)) (c := .dT []) p1 hq3
        have p3 := paired_put (f := fun e => .dT (cellsW e)) (c := .lst (a.cs.map (fun x => W.v (.ref x)) ++ [.v (.ref q)])) p2 (fun m => (n11 _ m).2.2.2.2 rfl)
        refine Paired.snoc p3 ?_
        show put _ a.c _ q = _
        rw [put_ne (Ne.symm hcq), put_eq]; rfl
      · have e : ({ a with cs := a.cs ++ [q] } : WA).all = a.all ++ [q] := by simp [WA.all]
        rw [e]
        have hne : ∀ x ∈ a.all, ∀ y ∈ [q], x ≠ y := fun x hx y hy e => by
          have e3 : y = q := by simpa using hy
          exact hqa (by rw [← e3, ← e]; exact hx)
        exact List.nodup_append.mpr ⟨hw.nd, by simp, hne⟩
    simp only [zFor, jSeq]
    refine meth_go hw2 rfl (by rfl) ?_
    walk_at "dl"
    refine e_ones hw2 ⟨wf.par, wf.few, wf.bro, wf.len⟩ kd hk hr ?_
    simp only [srcOf]
    have hmap : (natsD r).map W.d = natsW r := by unfold natsD natsW; rw [List.map_map]; rfl
    rw [hmap]
    have hkd : ∀ x ∈ [kd], x < V.parents.length := fun x hx => by
      have e4 : x = kd := by simpa using hx
      rw [e4]; exact hk
    have hin := ones_in wf _ _ _ _ hr hkd
    have fw := wf.few
    have bl := wf.len
    simp only [List.length_cons, List.length_nil] at hin
    refine nobj_for (a := { a with cs := a.cs ++ [q] }) r _ _ _ hw2 (fun x hx => ⟨by have := hin.1 x hx; show x < V.brought.length; omega, by have := hin.1 x hx; omega⟩) wf.bro (by simp) ?_ fun s' z2 hw3 fr => ?_
    · have e : (V.cells ++ [[]]).getD ((V.cells ++ [[]]).length - 1) [] = [] := by
        rw [List.getD_eq_getElem?_getD]
        simp
      show ((V.cells ++ [[]]).getD ((V.cells ++ [[]]).length - 1) []).length + _ ≤ _
      rw [e]
      simp only [List.length_nil]
      omega
    · have hsame := fill_same r ({ V with kinds := V.kinds ++ [kd], cells := V.cells ++ [[]] } : PW)
      walk_at "dl"
      rw [fld_k hw3 rfl]
      have hk3 := hw3.k
      rw [hsame.1] at hk3
      simp only [hk3, natsW_len, List.length_append, List.length_cons, List.length_nil]
      have e2 : (((V.kinds.length + (0 + 1) : Nat) : Int)) - 1 = (V.kinds.length : Nat) := by omega
      rw [e2]
      refine h2 h s' q hqs hw3 fun x c hx hs => ?_
      have hxq : x ≠ q := fun e => by rw [e, hqs] at hs; cases hs
      refine fr x c (fun m => ?_) ?_
      · have e : ({ a with cs := a.cs ++ [q] } : WA).all = a.all ++ [q] := by simp [WA.all]
        rw [e] at m
        rcases List.mem_append.mp m with m | m
        · exact hx m
        · exact hxq (by simpa using m)
      · rw [put_ne (fun e => hx (by rw [e]; simp [WA.all])), put_ne hxq, put_ne (fun e => hx (by rw [e]; simp [WA.all]))]
        exact hs
end
end G

set_option maxHeartbeats 400000
namespace G
open PySem PySem.Spec PyProof.Rows L2 U
local macro_rules | `(tactic| walk_at "dl") => `(tactic| simp only [dfOf, dfOfX, startD, List.map_cons, List.map_nil, List.length_cons, List.length_nil, List.cons_append, List.nil_append, List.replicate, Nat.zero_add, Nat.reduceAdd, Nat.reduceSub, true_and,
  zNext, zSeq, zRet, zDrop, zIf, zAsg, zPar, zAug, dVar, dC, dV, dOp, dNeg, dNil, dCons, dTest, dTru, dAnd, dOr, dNot, dYes, dAndV, dOrV, dNotV, dIf, dChain, dCB, dCall, dIsin, tkD, truD, dCmp, dLt, dLe, dGt, dGe, dMod, dDiv, dPow, dSub, dI2, hName, hTup, hCons, hNil, wipeD, dPart, dNoPart, dSl, lstOf, asD, seqOf,
  dEq, dNe, dIs, dIsNot, isNone, dLen, lenD, dAdd, dMul, dTup, dLst, newT, newL, datas, dIx_tup, dIx_list, atI_zero, dKGet, Option.map_some, dIAdd, d1, eqv_int, eqv_str, eqOk_int, eqOk_str,
  List.getElem?_cons_zero, List.getElem?_cons_succ, List.set_cons_zero, List.set_cons_succ, if_true, Bool.false_eq_true, if_false, reduceIte, Bool.not_true, Bool.not_false])
/-! ### registers -/
inductive Rv where
  | int (i : Int)
  | kind (n : Nat)
  | obj (n : Nat)
def Rv.d : Rv → PyData
  | .int i => .int i
  | .kind n => .tuple [.str "kind", .int (n : Nat)]
  | .obj n => .tuple [.str "object", .int (n : Nat)]
theorem Rv.ok (v : Rv) : RegOk v.d := by
  cases v with
  | int i => exact .int i
  | kind n => exact .kind n
  | obj n => exact .object n
theorem Rv.pair (v : Rv) : pairD v.d = (match v with | .int _ => false | _ => true) := by cases v <;> rfl
def Rv.kd? : Rv → Option Nat
  | .kind n => some n
  | _ => none
def Rv.ob? : Rv → Option Nat
  | .obj n => some n
  | _ => none
def natO : Option Nat → PyData
  | some n => .int (n : Nat)
  | none => .none
theorem num_kd (v : Rv) : numIn v.d "kind" = natO v.kd? := by
  cases v with
  | int i => rfl
  | kind n => show (if (("kind" : Str) == "kind") = true then PyData.int (n : Nat) else PyData.none) = _; rw [if_pos (by decide)]; rfl
  | obj n => show (if (("object" : Str) == "kind") = true then PyData.int (n : Nat) else PyData.none) = _; rw [if_neg (by decide)]; rfl
theorem num_ob (v : Rv) : numIn v.d "object" = natO v.ob? := by
  cases v with
  | int i => rfl
  | kind n => show (if (("kind" : Str) == "object") = true then PyData.int (n : Nat) else PyData.none) = _; rw [if_neg (by decide)]; rfl
  | obj n => show (if (("object" : Str) == "object") = true then PyData.int (n : Nat) else PyData.none) = _; rw [if_pos (by decide)]; rfl
def regsC (rs : List Rv) : Cell := .lst (rs.map fun v => .d v.d)
section
variable {K : PySem.W.Frag} {s : Hs} {k : DK} {a : WA} {V : PW} {r : Addr} {rs : List Rv}
theorem reg_at {s : Hs} {r : Addr} {rs : List Rv} {k : DK} (hr : s r = some (regsC rs)) {i : Nat} (hi : i < rs.length) : dIx (.v (.ref r)) (.d (.int (i : Nat))) s k = k (.d rs[i].d) s := by
  rw [dIx_own hr, U.atI_nat, List.getElem?_map, List.getElem?_eq_getElem hi]
  rfl
theorem e_num_kd (v : Rv) (q : k (.d (natO v.kd?)) s) : df_number_in K [.d v.d, .d (.str "kind")] s k := e_number_in _ _ v.ok (by rw [num_kd]; exact q)
theorem e_num_ob (v : Rv) (q : k (.d (natO v.ob?)) s) : df_number_in K [.d v.d, .d (.str "object")] s k := e_number_in _ _ v.ok (by rw [num_ob]; exact q)
/-- what a register holds is there -/
def Rv.In (V : PW) : Rv → Prop
  | .int _ => True
  | .kind n => n < V.parents.length
  | .obj n => n < V.kinds.length
def cellOf (V : PW) (y z : Rv) (f : Nat) : Option (Nat × Nat) := match y, z with
  | .obj o, .kind kd => if (cellAt (V.cells.getD o []) kd f).isSome = true then some (o, kd) else none
  | _, _ => none
def pairO : Option (Nat × Nat) → PyData
  | some p => .tuple [.int (p.1 : Nat), .int (p.2 : Nat)]
  | none => .none
theorem e_cell_of (hw : WAt K s a V) (hr : s r = some (regsC rs)) (hcl : V.cells.length = V.kinds.length) (y z f : Nat) (hy : y < rs.length) (hz : z < rs.length) (iy : rs[y].In V) (q : k (.d (pairO (cellOf V rs[y] rs[z] f))) s) :
    df_cell_of K [.v (.ref r), .v (.ref a.w), .d (.int (y : Nat)), .d (.int (z : Nat)), .d (.int (f : Nat))] s k := by
  rw [df_cell_of_eq]; unfold d_cell_of_
  walk_at "dl"
  rw [reg_at hr hy]
  refine e_num_ob _ ?_
  rw [reg_at hr hz]
  refine e_num_kd _ ?_
  revert q iy
  generalize rs[y] = vy
  generalize rs[z] = vz
  intro iy q
  cases vy with
  | int i => exact q
  | kind n => exact q
  | obj o =>
    cases vz with
    | int i => exact q
    | obj n => exact q
    | kind kd =>
      simp only [Rv.ob?, Rv.kd?, natO]
      simp only [isNone, Bool.false_eq_true, if_false]
      have ho : o < V.cells.length := by have : o < V.kinds.length := iy; omega
      refine meth_go hw rfl (by rfl) ?_
      walk_at "dl"
      refine e_has_cell hw o kd f ho ?_
      have hg : V.cells.getD o [] = V.cells[o] := by rw [List.getD_eq_getElem?_getD, List.getElem?_eq_getElem ho]; rfl
      unfold cellOf at q
      simp only [hg] at q
      cases hc : (cellAt V.cells[o] kd f).isSome with
      | true =>
        rw [hc] at q
        simp only [Bool.not_true, Bool.false_eq_true, if_false]
        exact ⟨by decide, q⟩
      | false =>
        rw [hc] at q
        simp only [Bool.not_false, if_true]
        exact q
def sumD? : Rv → Rv → Option Int
  | .int i, .int j => if (i + j).natAbs ≤ 1000000000000000000 then some (i + j) else none
  | _, _ => none
theorem e_sum_of (x y : Rv) (q : k (.d (match sumD? x y with | some i => .int i | none => .none)) s) : df_sum_of K [.d x.d, .d y.d] s k := by
  rw [df_sum_of_eq]; unfold d_sum_of_
  walk_at "dl"
  rw [e_is_pair, Rv.pair]
  cases x with
  | int i =>
    dsimp only
    simp only [Bool.false_eq_true, if_false]
    rw [e_is_pair, Rv.pair]
    cases y with
    | int j =>
      dsimp only
      simp only [Bool.false_eq_true, if_false, Rv.d, absD]
      unfold sumD? at q
      dsimp only at q
      by_cases h : (i + j).natAbs ≤ 1000000000000000000
      · rw [if_pos h] at q
        have h2 : ¬ (1000000000000000000 : Int) < (if i + j < 0 then -(i + j) else i + j) := by split <;> omega
        simp only [h2, decide_false, Bool.false_eq_true, if_false]
        exact q
      · rw [if_neg h] at q
        have h2 : (1000000000000000000 : Int) < (if i + j < 0 then -(i + j) else i + j) := by split <;> omega
        simp only [h2, decide_true, if_true]
        exact q
    | kind n => exact q
    | obj n => exact q
  | kind n => exact q
  | obj n => exact q
theorem e_kind_in (hw : WAt K s a V) (hr : s r = some (regsC rs)) (y : Nat) (hy : y < rs.length) (iy : rs[y].In V) (q : k (.d (match rs[y] with | .obj o => .tuple [.str "kind", .int ((V.kinds.getD o 0 : Nat) : Int)] | _ => .none)) s) :
    df_kind_in K [.v (.ref r), .v (.ref a.w), .d (.int (y : Nat))] s k := by
  rw [df_kind_in_eq]; unfold d_kind_in_
  walk_at "dl"
  rw [reg_at hr hy]
  refine e_num_ob _ ?_
  revert q iy
  generalize rs[y] = vy
  intro iy q
  cases vy with
  | int i => exact q
  | kind n => exact q
  | obj o =>
    simp only [Rv.ob?, natO, isNone, Bool.false_eq_true, if_false]
    have ho : o < V.kinds.length := iy
    refine meth_go hw rfl (by rfl) ?_
    walk_at "dl"
    refine e_kind_of hw o ho ?_
    have hg : V.kinds.getD o 0 = V.kinds[o] := by rw [List.getD_eq_getElem?_getD, List.getElem?_eq_getElem ho]; rfl
    dsimp only at q
    rw [hg] at q
    exact ⟨by decide, q⟩
theorem e_made_object (hw : WAt K s a V) (hr : s r = some (regsC rs)) (wf : V.Wf) (hcl : V.cells.length = V.kinds.length) (hkl : V.kinds.length ≤ 2000) (y : Nat) (hy : y < rs.length) (iy : rs[y].In V) (h0 : rs[y].kd? = none → k (.d .none) s)
    (h1 : ∀ kd, rs[y] = .kind kd → ∃ l, onesF V.parents (2 * V.parents.length + 2) [kd] [kd] = some l ∧ (V.kinds.length = 2000 → k (.d .none) s) ∧ (V.kinds.length ≠ 2000 → ∀ s' q, s q = none → WAt K s' { a with cs := a.cs ++ [q] } (V.addObj kd l) → Frm s s' a → k (.d (Rv.obj V.kinds.length).d) s')) :
    df_made_object K [.v (.ref r), .v (.ref a.w), .d (.int (y : Nat))] s k := by
  rw [df_made_object_eq]; unfold d_made_object_
  walk_at "dl"
  rw [reg_at hr hy]
  refine e_num_kd _ ?_
  revert h0 h1 iy
  generalize rs[y] = vy
  intro iy h0 h1
  cases vy with
  | int i => exact h0 rfl
  | obj n => exact h0 rfl
  | kind kd =>
    obtain ⟨l, hl, g1, g2⟩ := h1 kd rfl
    simp only [Rv.kd?, natO, isNone, Bool.false_eq_true, if_false]
    have hk : kd < V.parents.length := iy
    refine meth_go hw rfl (by rfl) ?_
    walk_at "dl"
    refine e_new_object hw wf hcl hkl kd hk hl (fun h => ?_) (fun h s' q hq hw' fr => ?_)
    · exact g1 h
    · exact ⟨by decide, g2 h s' q hq hw' fr⟩
/-! ### load -/
def numsOf (rs : List Rv) (ps : List Nat) : List (Option Nat) := ps.map fun p => (rs.getD p (.int 0)).kd?
def sortN (ns : List Nat) : List Nat := ns.mergeSort fun a b => decide (a ≤ b)
theorem sortN_perm (ns : List Nat) : (sortN ns).Perm ns := List.mergeSort_perm _ _
theorem sorted_unique {ns : List Nat} {zs : List Int} (hp : zs.Perm (ns.map fun n : Nat => (n : Int))) (hs : zs.Pairwise (· ≤ ·)) : zs = (sortN ns).map fun n : Nat => (n : Int) := by
  have p2 : ((sortN ns).map fun n : Nat => (n : Int)).Perm (ns.map fun n : Nat => (n : Int)) := (sortN_perm ns).map _
  refine List.Perm.eq_of_pairwise (le := (· ≤ ·)) (fun a b _ _ h1 h2 => Int.le_antisymm h1 h2) hs ?_ (hp.trans p2.symm)
  rw [List.pairwise_map]
  have := List.pairwise_mergeSort (le := fun a b : Nat => decide (a ≤ b)) (fun a b c h1 h2 => by simp at h1 h2 ⊢; omega) (fun a b => by simp; omega) ns
  refine this.imp fun h => ?_
  have : _ ≤ _ := of_decide_eq_true h
  omega
theorem none_mem (os : List (Option Nat)) : memD .none (os.map natO) = os.any Option.isNone := by
  unfold memD
  rw [List.any_map]
  congr 1
  funext o
  cases o <;> simp [natO, PyData.eqv]
theorem flat_nums (os : List (Option Nat)) : (os.map natO).all flatD = true := by
  rw [List.all_map, List.all_eq_true]
  intro o _
  cases o <;> rfl
theorem nums_some {os : List (Option Nat)} (h : os.any Option.isNone = false) : ∃ ks : List Nat, os = ks.map some := by
  induction os with
  | nil => exact ⟨[], rfl⟩
  | cons o r ih =>
    rw [List.any_cons, Bool.or_eq_false_iff] at h
    obtain ⟨ks, hk⟩ := ih h.2
    cases o with
    | none => exact absurd h.1 (by simp)
    | some n => exact ⟨n :: ks, by rw [hk]; rfl⟩
theorem ints_nats (ks : List Nat) : intsOf (natsD ks) = some (ks.map fun n : Nat => (n : Int)) := intsOf_map (fun n : Nat => (n : Int)) ks
theorem nodup_ints {ks : List Nat} : (ks.map fun n : Nat => (n : Int)).Nodup ↔ ks.Nodup := by
  constructor
  · intro h
    exact (List.pairwise_map.mp h).imp fun z e => z (by rw [e])
  · intro h
    exact List.pairwise_map.mpr (h.imp fun z e => z (by omega))
theorem e_loaded_kind (hw : WAt K s a V) (hr : s r = some (regsC rs)) (wf : V.Wf) (ps : List Nat) (b : Nat) (hps : ∀ p ∈ ps, p < rs.length) (hl6 : ps.length ≤ 6)
    (h0 : (∀ ks : List Nat, numsOf rs ps = ks.map some → ks.Nodup → V.parents.length = 400) → k (.d .none) s)
    (h1 : ∀ ks : List Nat, numsOf rs ps = ks.map some → ks.Nodup → V.parents.length ≠ 400 → ∀ s', WAt K s' a (V.addKind (sortN ks) b) → Frm s s' a → k (.d (Rv.kind V.parents.length).d) s') :
    df_loaded_kind K [.v (.ref r), .v (.ref a.w), .d (.tuple (natsD ps)), .d (.int (b : Nat))] s k := by
  rw [df_loaded_kind_eq]; unfold d_loaded_kind_
  simp only [dfOf, startD, List.map_cons, List.map_nil, List.length_cons, List.length_nil, List.cons_append, List.nil_append, List.replicate, Nat.zero_add, Nat.reduceAdd, Nat.reduceSub, true_and, zSeq, zAsg]
  refine dLc_at (xs := natsW ps) (fun w => match w with | .d (.int i) => natO ((rs.getD i.toNat (.int 0)).kd?) | _ => .none) (fun k' hk => ?_) ?_ (by rw [natsW_len]; omega) ?_
  · simp only [jSeq]
    walk_at "dl"
    simp only [srcOf]
    have hmap : (natsD ps).map W.d = natsW ps := by unfold natsD natsW; rw [List.map_map]; rfl
    rw [hmap]
    exact hk
  · intro w hwm D c k2 hD hk2
    unfold natsW at hwm
    obtain ⟨p, hp, rfl⟩ := List.mem_map.mp hwm
    walk_at "dl"
    have hp2 := hps p hp
    have hr2 : put s D c r = some (regsC rs) := by rw [put_ne (fun e => by rw [← e, hr] at hD; cases hD)]; exact hr
    rw [reg_at hr2 hp2]
    refine e_num_kd _ ?_
    have hg : rs.getD p (.int 0) = rs[p] := by rw [List.getD_eq_getElem?_getD, List.getElem?_eq_getElem hp2]; rfl
    rw [← hg]
    simpa using hk2
  · have e1 : (natsW ps).map (fun w => match w with | .d (.int i) => natO ((rs.getD i.toNat (.int 0)).kd?) | _ => PyData.none) = (numsOf rs ps).map natO := by
      unfold natsW numsOf
      rw [List.map_map, List.map_map]
      congr 1
    rw [e1]
    walk_at "dl"
    simp only [dIn, dInB, U.getD, itemsD, asD]
    refine ⟨.inl ⟨rfl, flat_nums _⟩, ?_⟩
    rw [none_mem]
    cases hn : (numsOf rs ps).any Option.isNone with
    | true =>
      simp only [Bool.false_eq_true, if_false, if_true]
      refine h0 fun ks hks => ?_
      rw [hks] at hn
      rw [List.any_map] at hn
      simp at hn
    | false =>
      obtain ⟨ks, hks⟩ := nums_some hn
      rw [hks]
      have e2 : (ks.map some).map natO = natsD ks := by unfold natsD; rw [List.map_map]; rfl
      rw [e2]
      simp only [Bool.false_eq_true, if_false, dLenSet]
      walk_at "dl"
      have hkl : ks.length = ps.length := by have := congrArg List.length hks; unfold numsOf at this; simpa using this.symm
      have hnl : (natsD ks).length = ks.length := by unfold natsD; simp
      simp only [ints_nats, List.length_map]
      refine ⟨by omega, fun nd => ?_, fun nd m hm => ?_⟩
      · have nd2 := nodup_ints.mp nd
        have hlt : ¬ ((ks.length : Nat) : Int) < ((natsD ks).length : Nat) := by rw [hnl]; omega
        simp only [hlt, decide_false, Bool.false_eq_true, if_false]
        refine meth_go hw rfl (by rfl) ?_
        walk_at "dl"
        simp only [dSorted]
        walk_at "dl"
        simp only [ints_nats]
        intro ns' hperm hsort
        have e3 := sorted_unique hperm hsort
        subst e3
        simp only [dTupC]
        walk_at "dl"
        have e4 : ((sortN ks).map fun n : Nat => (n : Int)).map PyData.int = natsD (sortN ks) := by unfold natsD; rw [List.map_map]; rfl
        rw [e4]
        refine e_new_kind hw wf wf.len (sortN ks) b (fun h => ?_) (fun h s' hw' fr => ?_)
        · exact h0 fun ks' hk' _ => h
        · exact ⟨by decide, h1 ks hks nd2 h s' hw' fr⟩
      · have hlt : ((m : Nat) : Int) < ((natsD ks).length : Nat) := by rw [hnl]; omega
        simp only [hlt, decide_true, if_true]
        refine h0 fun ks' hk' nd' => ?_
        have : ks' = ks := by
          have h3 := hk'.symm.trans hks
          have h4 := congrArg (fun l : List (Option Nat) => l.map fun o => o.getD 0) h3
          simpa [List.map_map, Function.comp_def] using h4
        subst this
        exact absurd (nodup_ints.mpr nd') nd
/-! ### rows -/
inductive Row where
  | set (x : Nat) (n : Int)
  | copy (x y : Nat)
  | add (x y z : Nat)
  | load (x : Nat) (ps : List Nat) (b : Nat)
  | make (x y : Nat)
  | kind (x y : Nat)
  | write (x y f z : Nat)
  | read (x y z f : Nat)
  | is_ (x y t : Nat)
  | less (x y t : Nat)
  | go (t : Nat)
  | show_ (x : Nat)
def nD (n : Nat) : PyData := .int (n : Int)
def Row.d : Row → PyData
  | .set x n => .tuple [.str "set", nD x, .int n]
  | .copy x y => .tuple [.str "copy", nD x, nD y]
  | .add x y z => .tuple [.str "add", nD x, nD y, nD z]
  | .load x ps b => .tuple [.str "load", nD x, .tuple (natsD ps), nD b]
  | .make x y => .tuple [.str "make", nD x, nD y]
  | .kind x y => .tuple [.str "kind", nD x, nD y]
  | .write x y f z => .tuple [.str "write", nD x, nD y, nD f, nD z]
  | .read x y z f => .tuple [.str "read", nD x, nD y, nD z, nD f]
  | .is_ x y t => .tuple [.str "is", nD x, nD y, nD t]
  | .less x y t => .tuple [.str "less", nD x, nD y, nD t]
  | .go t => .tuple [.str "go", nD t]
  | .show_ x => .tuple [.str "show", nD x]
theorem at1 {α : Type} (x y : α) (r : List α) : atI (x :: y :: r) 1 = some y := atI_one x y r
theorem at2 {α : Type} (x y z : α) (r : List α) : atI (x :: y :: z :: r) 2 = some z := by have := U.atI_nat (x :: y :: z :: r) 2; simpa using this
theorem at3 {α : Type} (x y z u : α) (r : List α) : atI (x :: y :: z :: u :: r) 3 = some u := by have := U.atI_nat (x :: y :: z :: u :: r) 3; simpa using this
theorem at4 {α : Type} (x y z u v : α) (r : List α) : atI (x :: y :: z :: u :: v :: r) 4 = some v := by have := U.atI_nat (x :: y :: z :: u :: v :: r) 4; simpa using this
theorem v_set (x : Nat) (n : Int) (w : W) (q : k (.d (.int n)) s) : df_value_of K [.d (Row.set x n).d, .v (.ref r), w] s k := by
  rw [df_value_of_eq]; unfold d_value_of_ Row.d
  walk_at "dl"
  simp (decide := true) only [if_true, at2]
  exact q
theorem v_copy (hr : s r = some (regsC rs)) (x y : Nat) (hy : y < rs.length) (w : W) (q : k (.d rs[y].d) s) : df_value_of K [.d (Row.copy x y).d, .v (.ref r), w] s k := by
  rw [df_value_of_eq]; unfold d_value_of_ Row.d
  walk_at "dl"
  simp (decide := true) only [if_true, if_false, at2, nD]
  rw [reg_at hr hy]
  exact q
theorem v_add (hr : s r = some (regsC rs)) (x y z : Nat) (hy : y < rs.length) (hz : z < rs.length) (w : W) (q : k (.d (match sumD? rs[y] rs[z] with | some i => .int i | none => .none)) s) : df_value_of K [.d (Row.add x y z).d, .v (.ref r), w] s k := by
  rw [df_value_of_eq]; unfold d_value_of_ Row.d
  walk_at "dl"
  simp (decide := true) only [if_true, if_false, at2, at3, nD]
  rw [reg_at hr hy, reg_at hr hz]
  exact e_sum_of _ _ q
theorem v_load (x : Nat) (ps : List Nat) (b : Nat) (q : df_loaded_kind K [.v (.ref r), .v (.ref a.w), .d (.tuple (natsD ps)), .d (.int (b : Nat))] s k) : df_value_of K [.d (Row.load x ps b).d, .v (.ref r), .v (.ref a.w)] s k := by
  rw [df_value_of_eq]; unfold d_value_of_ Row.d
  walk_at "dl"
  simp (decide := true) only [if_true, if_false, at2, at3, nD]
  exact q
theorem v_make (x y : Nat) (q : df_made_object K [.v (.ref r), .v (.ref a.w), .d (.int (y : Nat))] s k) : df_value_of K [.d (Row.make x y).d, .v (.ref r), .v (.ref a.w)] s k := by
  rw [df_value_of_eq]; unfold d_value_of_ Row.d
  walk_at "dl"
  simp (decide := true) only [if_true, if_false, at2, at3, nD]
  exact q
theorem v_kind (x y : Nat) (q : df_kind_in K [.v (.ref r), .v (.ref a.w), .d (.int (y : Nat))] s k) : df_value_of K [.d (Row.kind x y).d, .v (.ref r), .v (.ref a.w)] s k := by
  rw [df_value_of_eq]; unfold d_value_of_ Row.d
  walk_at "dl"
  simp (decide := true) only [if_true, if_false, at2, at3, nD]
  exact q
theorem cellOf_some {y z : Rv} {f : Nat} {p : Nat × Nat} (iy : y.In V) (hcl : V.cells.length = V.kinds.length) (h : cellOf V y z f = some p) : y = .obj p.1 ∧ z = .kind p.2 ∧ ∃ ho : p.1 < V.cells.length, (cellAt V.cells[p.1] p.2 f).isSome = true := by
  unfold cellOf at h
  split at h
  · rename_i o kd
    split at h
    · rename_i hc
      cases h
      have ho : o < V.cells.length := by have : o < V.kinds.length := iy; omega
      have hg : V.cells.getD o [] = V.cells[o] := by rw [List.getD_eq_getElem?_getD, List.getElem?_eq_getElem ho]; rfl
      rw [hg] at hc
      exact ⟨rfl, rfl, ho, hc⟩
    · cases h
  · cases h
theorem v_read (hw : WAt K s a V) (hr : s r = some (regsC rs)) (hcl : V.cells.length = V.kinds.length) (x y z f : Nat) (hy : y < rs.length) (hz : z < rs.length) (iy : rs[y].In V) (h0 : cellOf V rs[y] rs[z] f = none → k (.d .none) s)
    (h1 : ∀ p v, cellOf V rs[y] rs[z] f = some p → cellAt (V.cells.getD p.1 []) p.2 f = some v → k (.d v) s) : df_value_of K [.d (Row.read x y z f).d, .v (.ref r), .v (.ref a.w)] s k := by
  rw [df_value_of_eq]; unfold d_value_of_ Row.d
  walk_at "dl"
  simp (decide := true) only [if_true, if_false, at2, at3, at4, nD]
  refine e_cell_of hw hr hcl y z f hy hz iy ?_
  cases hc : cellOf V rs[y] rs[z] f with
  | none => exact h0 hc
  | some p =>
    obtain ⟨_, _, ho, hs⟩ := cellOf_some iy hcl hc
    simp only [pairO, isNone, Bool.false_eq_true, if_false]
    have hg : V.cells.getD p.1 [] = V.cells[p.1] := by rw [List.getD_eq_getElem?_getD, List.getElem?_eq_getElem ho]; rfl
    obtain ⟨v, hv⟩ := Option.isSome_iff_exists.mp hs
    refine meth_go hw rfl (by rfl) ?_
    walk_at "dl"
    simp only [at1, at4]
    exact e_cell hw p.1 p.2 f ho hv (h1 p v hc (by rw [hg]; exact hv))
theorem e_written (hw : WAt K s a V) (hr : s r = some (regsC rs)) (hra : r ∉ a.all) (hcl : V.cells.length = V.kinds.length) (x y f z : Nat) (hx : x < rs.length) (hy : y < rs.length) (hz : z < rs.length) (ix : rs[x].In V) (hfew : ∀ l ∈ V.cells, l.length < 100000)
    (h0 : cellOf V rs[x] rs[y] f = none → k (.d (.bool false)) s) (h1 : ∀ p, cellOf V rs[x] rs[y] f = some p → ∀ s', WAt K s' a (V.setCell p.1 p.2 f rs[z].d) → Frm s s' a → k (.d (.bool true)) s') :
    df_written K [.d (Row.write x y f z).d, .v (.ref r), .v (.ref a.w)] s k := by
  rw [df_written_eq]; unfold d_written_ Row.d
  walk_at "dl"
  simp only [at1, at2, at3, at4, nD]
  refine e_cell_of hw hr hcl x y f hx hy ix ?_
  cases hc : cellOf V rs[x] rs[y] f with
  | none =>
    simp only [pairO, isNone, Bool.not_true, Bool.false_eq_true, if_false]
    exact h0 hc
  | some p =>
    obtain ⟨_, _, ho, hs⟩ := cellOf_some ix hcl hc
    simp only [pairO, isNone, Bool.not_false, if_true]
    refine meth_go hw rfl (by rfl) ?_
    walk_at "dl"
    simp only [at1, at3, at4]
    rw [reg_at hr hz]
    refine e_keep_cell hw p.1 p.2 f ho (hfew _ (List.getElem_mem ho)) _ fun s' hw' fr => ?_
    exact h1 p hc s' hw' fr
def goneR (V : PW) (one other : Rv) (less : Bool) : Option Bool := if less = true then (match one, other with | .int i, .int j => some (decide (i < j)) | _, _ => none)
  else match one, other with
    | .obj o, .kind kd => some (decide (kd ∈ ones V.parents (V.kinds.getD o 0)))
    | _, _ => none
def boolO : Option Bool → PyData
  | some b => .bool b
  | none => .none
theorem e_less (hr : s r = some (regsC rs)) (x y t : Nat) (hx : x < rs.length) (hy : y < rs.length) (w : W) (q : k (.d (boolO (goneR V rs[x] rs[y] true))) s) : df_is_gone K [.d (Row.less x y t).d, .v (.ref r), w] s k := by
  rw [df_is_gone_eq]; unfold d_is_gone_ Row.d
  walk_at "dl"
  simp only [at1, at2, at3, nD]
  rw [reg_at hr hx, reg_at hr hy]
  simp (decide := true) only [if_true, if_false]
  rw [e_is_pair, Rv.pair]
  revert q
  generalize rs[x] = vx
  generalize rs[y] = vy
  intro q
  cases vx with
  | int i =>
    dsimp only
    simp only [Bool.false_eq_true, if_false]
    rw [e_is_pair, Rv.pair]
    cases vy with
    | int j => exact q
    | kind n => exact q
    | obj n => exact q
  | kind n => exact q
  | obj n => exact q
theorem e_isr (hw : WAt K s a V) (hr : s r = some (regsC rs)) (wf : V.Wf) (x y t : Nat) (hx : x < rs.length) (hy : y < rs.length) (ix : rs[x].In V) (hk : ∀ kd ∈ V.kinds, kd < V.parents.length ∧ (onesF V.parents (2 * V.parents.length + 2) [kd] [kd]).isSome = true)
    (q : k (.d (boolO (goneR V rs[x] rs[y] false))) s) : df_is_gone K [.d (Row.is_ x y t).d, .v (.ref r), .v (.ref a.w)] s k := by
  rw [df_is_gone_eq]; unfold d_is_gone_ Row.d
  walk_at "dl"
  simp only [at1, at2, at3, nD]
  rw [reg_at hr hx, reg_at hr hy]
  simp (decide := true) only [if_true, if_false]
  refine e_num_ob _ ?_
  refine e_num_kd _ ?_
  revert q ix
  generalize rs[x] = vx
  generalize rs[y] = vy
  intro ix q
  cases vx with
  | int i => exact q
  | kind n => exact q
  | obj o =>
    cases vy with
    | int j => exact q
    | obj n => exact q
    | kind kd =>
      simp only [Rv.ob?, Rv.kd?, natO, isNone, Bool.false_eq_true, if_false]
      have ho : o < V.kinds.length := ix
      obtain ⟨h1, h2⟩ := hk _ (List.getElem_mem ho)
      obtain ⟨l, hl⟩ := Option.isSome_iff_exists.mp h2
      refine meth_go hw rfl (by rfl) ?_
      walk_at "dl"
      refine e_is_kind hw wf o kd ho h1 hl ?_
      have hg : V.kinds.getD o 0 = V.kinds[o] := by rw [List.getD_eq_getElem?_getD, List.getElem?_eq_getElem ho]; rfl
      unfold goneR ones at q
      rw [if_neg Bool.false_ne_true] at q
      dsimp only at q
      rw [hg, hl] at q
      exact q
end
end G

set_option maxHeartbeats 400000
namespace G
open PySem PySem.Spec PyProof.Rows L2 U
/-! ### the walk up ends -/
theorem nodup_le (n : Nat) : ∀ f : List Nat, f.Nodup → (∀ x ∈ f, x < n) → f.length ≤ n := by
  induction n with
  | zero =>
    intro f _ h
    cases f with
    | nil => exact Nat.le_refl _
    | cons x r => exact absurd (h x List.mem_cons_self) (Nat.not_lt_zero x)
  | succ n ih =>
    intro f nd h
    have h1 : (f.erase n).length ≤ n := ih _ (nd.erase n) fun x hx => by
      have hx2 := List.mem_of_mem_erase hx
      have hne : x ≠ n := fun e => by
        rw [e] at hx
        exact (nd.mem_erase_iff.mp hx).1 rfl
      have := h x hx2
      omega
    have h2 : f.length ≤ (f.erase n).length + 1 := by
      by_cases hm : n ∈ f
      · rw [List.length_erase_of_mem hm]; omega
      · rw [List.erase_of_not_mem hm]; omega
    omega
/-- a visit: each new one is pushed and found -/
theorem visit_nd (N : Nat) (ps : List Nat) : ∀ (f st : List Nat), f.Nodup → (∀ x ∈ f, x < N) → (∀ x ∈ ps, x < N) →
    (visit f st ps).1.Nodup ∧ (∀ x ∈ (visit f st ps).1, x < N) ∧ (visit f st ps).2.length + f.length = st.length + (visit f st ps).1.length ∧ f.length ≤ (visit f st ps).1.length := by
  induction ps with
  | nil => intro f st h1 h2 _; exact ⟨h1, h2, rfl, Nat.le_refl _⟩
  | cons y r ih =>
    intro f st h1 h2 h3
    unfold visit
    split
    · exact ih f st h1 h2 fun x hx => h3 x (List.mem_cons_of_mem _ hx)
    · rename_i hy
      have nd : (f ++ [y]).Nodup := List.nodup_append.mpr ⟨h1, by simp, fun a ha b hb e => hy (by
        have e2 : b = y := by simpa using hb
        rw [← e2, ← e]; exact ha)⟩
      have inn : ∀ x ∈ f ++ [y], x < N := fun x hx => by
        rcases List.mem_append.mp hx with h | h
        · exact h2 x h
        · have e2 : x = y := by simpa using h
          rw [e2]; exact h3 y List.mem_cons_self
      have := ih (f ++ [y]) (st ++ [y]) nd inn fun x hx => h3 x (List.mem_cons_of_mem _ hx)
      refine ⟨this.1, this.2.1, ?_⟩
      have h4 := this.2.2
      simp only [List.length_append, List.length_cons, List.length_nil] at h4 ⊢
      omega
theorem ones_total {V : PW} (wf : V.Wf) (n : Nat) : ∀ (f st : List Nat), f.Nodup → (∀ x ∈ f, x < V.parents.length) → 2 * (V.parents.length - f.length) + st.length < n → ∃ r, onesF V.parents n f st = some r ∧ r.Nodup := by
  induction n with
  | zero => intro f st _ _ h; exact absurd h (Nat.not_lt_zero _)
  | succ n ih =>
    intro f st nd h2 h
    unfold onesF
    cases hl : st.getLast? with
    | none => exact ⟨f, rfl, nd⟩
    | some t =>
      dsimp only
      obtain ⟨_, _, g3⟩ := natsW_pop hl
      have hp : ∀ x ∈ V.parents.getD t [], x < V.parents.length := by
        by_cases ht : t < V.parents.length
        · rw [List.getD_eq_getElem?_getD, List.getElem?_eq_getElem ht]
          exact (wf.par _ (List.getElem_mem ht)).2
        · rw [List.getD_eq_getElem?_getD, List.getElem?_eq_none (by omega)]
          exact fun x hx => nomatch hx
      obtain ⟨v1, v2, v3, v4⟩ := visit_nd _ (V.parents.getD t []) f st.dropLast nd h2 hp
      have l1 := nodup_le _ _ v1 v2
      have l2 := nodup_le _ _ nd h2
      have hd : st.dropLast.length + 1 = st.length := by rw [List.length_dropLast]; omega
      exact ih _ _ v1 v2 (by omega)
theorem ones_some {V : PW} (wf : V.Wf) (kd : Nat) (h : kd < V.parents.length) : onesF V.parents (2 * V.parents.length + 2) [kd] [kd] = some (ones V.parents kd) ∧ (ones V.parents kd).Nodup := by
  obtain ⟨r, hr, nd⟩ := ones_total wf (2 * V.parents.length + 2) [kd] [kd] (by simp) (fun x hx => by
    have e : x = kd := by simpa using hx
    rw [e]; exact h) (by simp only [List.length_cons, List.length_nil]; omega)
  have e : ones V.parents kd = r := by unfold ones; rw [hr]; rfl
  rw [e]
  exact ⟨hr, nd⟩
end G

set_option maxHeartbeats 400000
namespace G
open PySem PySem.Spec PyProof.Rows L2 U
local macro_rules | `(tactic| walk_at "dl") => `(tactic| simp only [dfOf, dfOfX, startD, List.map_cons, List.map_nil, List.length_cons, List.length_nil, List.cons_append, List.nil_append, List.replicate, Nat.zero_add, Nat.reduceAdd, Nat.reduceSub, true_and,
  zNext, zSeq, zRet, zDrop, zIf, zAsg, zPar, zAug, dVar, dC, dV, dOp, dNeg, dNil, dCons, dTest, dTru, dAnd, dOr, dNot, dYes, dAndV, dOrV, dNotV, dIf, dChain, dCB, dCall, dIsin, tkD, truD, dCmp, dLt, dLe, dGt, dGe, dMod, dDiv, dPow, dSub, dI2, hName, hTup, hCons, hNil, wipeD, dPart, dNoPart, dSl, lstOf, asD, seqOf,
  dEq, dNe, dIs, dIsNot, isNone, dLen, lenD, dAdd, dMul, dTup, dLst, newT, newL, datas, dIx_tup, dIx_list, atI_zero, dKGet, Option.map_some, dIAdd, d1, eqv_int, eqv_str, eqOk_int, eqOk_str,
  List.getElem?_cons_zero, List.getElem?_cons_succ, List.set_cons_zero, List.set_cons_succ, if_true, Bool.false_eq_true, if_false, reduceIte, Bool.not_true, Bool.not_false])
/-! ### the run, as plain data -/
structure RS where
  regs : List Rv
  vals : List Rv := []
  V : PW := {}
def toRv : PyData → Rv
  | .int i => .int i
  | .tuple [.str z, .int n] => if z == "kind" then .kind n.toNat else .obj n.toNat
  | _ => .int 0
theorem toRv_d (v : Rv) : toRv v.d = v := by
  cases v with
  | int i => rfl
  | kind n => show (if (("kind" : Str) == "kind") = true then Rv.kind (n : Int).toNat else Rv.obj (n : Int).toNat) = _; rw [if_pos (by decide)]; rfl
  | obj n => show (if (("object" : Str) == "kind") = true then Rv.kind (n : Int).toNat else Rv.obj (n : Int).toNat) = _; rw [if_neg (by decide)]; rfl
def RS.put (S : RS) (x : Nat) (v : Rv) : RS := { S with regs := S.regs.set x v }
def RS.at (S : RS) (x : Nat) : Rv := S.regs.getD x (.int 0)
def ksOf (os : List (Option Nat)) : Option (List Nat) := if os.any Option.isNone = true then none else if (os.map fun o => o.getD 0).Nodup then some (os.map fun o => o.getD 0) else none
def stepR (S : RS) (at_ : Nat) : Row → Option (Nat × RS)
  | .set x n => some (at_ + 1, S.put x (.int n))
  | .copy x y => some (at_ + 1, S.put x (S.at y))
  | .add x y z => (sumD? (S.at y) (S.at z)).map fun i => (at_ + 1, S.put x (.int i))
  | .load x ps b => match ksOf (numsOf S.regs ps) with
    | some ks => if S.V.parents.length = 400 then none else some (at_ + 1, { S.put x (.kind S.V.parents.length) with V := S.V.addKind (sortN ks) b })
    | none => none
  | .make x y => match S.at y with
    | .kind kd => if S.V.kinds.length = 2000 then none else some (at_ + 1, { S.put x (.obj S.V.kinds.length) with V := S.V.addObj kd (ones S.V.parents kd) })
    | _ => none
  | .kind x y => match S.at y with
    | .obj o => some (at_ + 1, S.put x (.kind (S.V.kinds.getD o 0)))
    | _ => none
  | .write x y f z => (cellOf S.V (S.at x) (S.at y) f).map fun p => (at_ + 1, { S with V := S.V.setCell p.1 p.2 f (S.at z).d })
  | .read x y z f => match cellOf S.V (S.at y) (S.at z) f with
    | some p => some (at_ + 1, S.put x (toRv ((cellAt (S.V.cells.getD p.1 []) p.2 f).getD .none)))
    | none => none
  | .is_ x y t => (goneR S.V (S.at x) (S.at y) false).map fun b => (if b = true then t else at_ + 1, S)
  | .less x y t => (goneR S.V (S.at x) (S.at y) true).map fun b => (if b = true then t else at_ + 1, S)
  | .go t => some (t, S)
  | .show_ x => some (at_ + 1, { S with vals := S.vals ++ [S.at x] })
/-- what always holds of it -/
structure RS.Ok (S : RS) : Prop where
  len : S.regs.length = 10
  rin : ∀ v ∈ S.regs, v.In S.V
  wf : S.V.Wf
  cl : S.V.cells.length = S.V.kinds.length
  kl : S.V.kinds.length ≤ 2000
  ki : ∀ kd ∈ S.V.kinds, kd < S.V.parents.length
  ce : ∀ l ∈ S.V.cells, l.length ≤ 90000 ∧ ∀ e ∈ l, ∃ v : Rv, e.2 = v.d ∧ v.In S.V
/-- it stands in the cells s; the cells s0 are not its own -/
structure SAt (K : PySem.W.Frag) (s0 s : Hs) (r vl : Addr) (a : WA) (S : RS) : Prop where
  hr : s r = some (regsC S.regs)
  hv : s vl = some (regsC S.vals)
  hw : WAt K s a S.V
  ne : r ≠ vl
  ra : r ∉ a.all
  va : vl ∉ a.all
  base : U.Sub s0 s
  out : ∀ x ∈ r :: vl :: a.all, s0 x = none
/-- a row's registers are there, its jump too -/
def Row.Ok (many : Nat) : Row → Prop
  | .set x n => x < 10
  | .copy x y => x < 10 ∧ y < 10
  | .add x y z => x < 10 ∧ y < 10 ∧ z < 10
  | .load x ps b => x < 10 ∧ (∀ p ∈ ps, p < 10) ∧ ps.length ≤ 6 ∧ b ≤ 6
  | .make x y => x < 10 ∧ y < 10
  | .kind x y => x < 10 ∧ y < 10
  | .write x y f z => x < 10 ∧ y < 10 ∧ f < 6 ∧ z < 10
  | .read x y z f => x < 10 ∧ y < 10 ∧ z < 10 ∧ f < 6
  | .is_ x y t => x < 10 ∧ y < 10 ∧ t ≤ many
  | .less x y t => x < 10 ∧ y < 10 ∧ t ≤ many
  | .go t => t ≤ many
  | .show_ x => x < 10
section
variable {K : PySem.W.Frag} {s s0 : Hs} {k : DK} {a : WA} {r vl : Addr} {S : RS}
theorem at_get (h : S.Ok) {x : Nat} (hx : x < 10) : ∃ hx' : x < S.regs.length, S.at x = S.regs[x] := by
  have hl : x < S.regs.length := by rw [h.len]; exact hx
  exact ⟨hl, by unfold RS.at; rw [List.getD_eq_getElem?_getD, List.getElem?_eq_getElem hl]; rfl⟩
theorem nr_go (t at_ : Nat) (q : k (.d (.int (t : Nat))) s) : df_next_row K [.d (Row.go t).d, .d (.int (at_ : Nat)), .v (.ref r), .v (.ref vl), .v (.ref a.w)] s k := by
  rw [df_next_row_eq]; unfold d_next_row_ Row.d
  walk_at "dl"
  simp (decide := true) only [if_true, at1, nD]
  exact q
theorem nr_show (h : SAt K s0 s r vl a S) (ok : S.Ok) (x at_ : Nat) (hx : x < 10) (hl : S.vals.length < 100000) (q : ∀ s', SAt K s0 s' r vl a { S with vals := S.vals ++ [S.at x] } → k (.d (.int ((at_ + 1 : Nat) : Int))) s') :
    df_next_row K [.d (Row.show_ x).d, .d (.int (at_ : Nat)), .v (.ref r), .v (.ref vl), .v (.ref a.w)] s k := by
  obtain ⟨hx', hat⟩ := at_get ok hx
  rw [df_next_row_eq]; unfold d_next_row_ Row.d
  walk_at "dl"
  simp (decide := true) only [if_true, if_false, at1, nD]
  refine ⟨by decide, ?_⟩
  simp only [dIn, dInB, U.getD, itemsD, asD]
  refine ⟨.inl ⟨rfl, rfl⟩, ?_⟩
  have hm : memD (.str "show") [.str "is", .str "less"] = false := by unfold memD; simp only [List.any_cons, List.any_nil, eqv_str]; decide
  simp (decide := true) only [hm, if_true, if_false, dAppendT]
  walk_at "dl"
  have hv := h.hv
  unfold regsC at hv
  simp only [isL, ownL, hv, at1, true_and]
  rw [reg_at h.hr hx']
  simp only [hv, List.length_map]
  refine ⟨hl, ?_⟩
  have e : S.vals.map (fun v => W.d v.d) ++ [W.d S.regs[x].d] = (S.vals ++ [S.at x]).map fun v => W.d v.d := by rw [List.map_append, hat]; rfl
  rw [e]
  refine q _ ⟨?_, put_eq, ?_, h.ne, h.ra, h.va, ?_, h.out⟩
  · rw [put_ne h.ne]; exact h.hr
  · exact h.hw.frame fun y hy => put_ne fun e2 => h.va (by rw [← e2]; exact hy)
  · intro y c hy
    rw [put_ne (fun e2 => by have := h.out vl (by simp); rw [← e2, hy] at this; cases this)]
    exact h.base y c hy
/-- a row that sets a register -/
theorem n_val (w : Str) (x at_ : Nat) (rest : List PyData) (hw : (w == "go") = false ∧ (w == "is") = false ∧ (w == "less") = false ∧ (w == "show") = false ∧ (w == "write") = false)
    (q : ∀ k2 : DK, (∀ v s', ((v = W.d .none ∧ k (.d .none) s') ∨ ∃ (u : Rv) (rs : List Rv), v = .d u.d ∧ s' r = some (regsC rs) ∧ x < rs.length ∧ k (.d (.int ((at_ + 1 : Nat) : Int))) (U.put s' r (regsC (rs.set x u)))) → k2 v s') → df_value_of K [.d (.tuple (.str w :: nD x :: rest)), .v (.ref r), .v (.ref a.w)] s k2) :
    df_next_row K [.d (.tuple (.str w :: nD x :: rest)), .d (.int (at_ : Nat)), .v (.ref r), .v (.ref vl), .v (.ref a.w)] s k := by
  obtain ⟨h1, h2, h3, h4, h5⟩ := hw
  rw [df_next_row_eq]; unfold d_next_row_
  walk_at "dl"
  simp only [h1, Bool.false_eq_true, if_false]
  refine ⟨by decide, ?_⟩
  simp only [dIn, dInB, U.getD, itemsD, asD]
  refine ⟨.inl ⟨rfl, rfl⟩, ?_⟩
  have hc : ∀ x y : Str, (y == x) = false → (x == y) = false := fun x y h => by
    rw [beq_eq_false_iff_ne] at h ⊢
    exact Ne.symm h
  have hm : memD (.str w) [.str "is", .str "less"] = false := by
    unfold memD
    simp only [List.any_cons, List.any_nil, eqv_str, hc _ _ h2, hc _ _ h3, Bool.or_false]
  simp only [hm, h4, h5, Bool.false_eq_true, if_false]
  have hx : ∀ v s', ((v = W.d .none ∧ k (.d .none) s') ∨ ∃ (u : Rv) (rs : List Rv), v = .d u.d ∧ s' r = some (regsC rs) ∧ x < rs.length ∧ k (.d (.int ((at_ + 1 : Nat) : Int))) (U.put s' r (regsC (rs.set x u)))) →
      (if (match v with | W.d .none => true | W.v .non => true | _ => false) = true then k (.d .none) s' else hSub (dVar 2) (dOp dIx (dVar 0) (dC (.int 1))) v [some (.d (.tuple (.str w :: nD x :: rest))), some (.d (.int (at_ : Nat))), some (.v (.ref r)), some (.v (.ref vl)), some (.v (.ref a.w)), none, some v] s' fun δ' s2 => k (.d (.int ((at_ : Int) + 1))) s2) := by
    rintro v s' (⟨rfl, hk⟩ | ⟨u, rs, rfl, hr, hxl, hk⟩)
    · exact hk
    · have hn : (match W.d u.d with | W.d .none => true | W.v .non => true | _ => false) = false := by cases u <;> rfl
      rw [hn, if_neg Bool.false_ne_true]
      simp only [hSub]
      walk_at "dl"
      simp only [at1, nD, setD]
      unfold regsC at hr
      simp only [hr]
      have hi : ixN (rs.map fun v => W.d v.d).length (x : Int) = some x := by
        unfold ixN
        rw [List.length_map, if_pos (by omega), if_pos (by omega), Int.toNat_natCast]
      rw [hi]
      simp only [Option.map_some]
      have e : (rs.map fun v => W.d v.d).set x (W.d u.d) = (rs.set x u).map fun v => W.d v.d := by rw [List.map_set]
      rw [e]
      exact hk
  exact q _ fun v s' hh => hx v s' hh
theorem sat_put (h : SAt K s0 s r vl a S) (x : Nat) (u : Rv) : SAt K s0 (U.put s r (regsC (S.regs.set x u))) r vl a (S.put x u) := by
  refine ⟨put_eq, ?_, ?_, h.ne, h.ra, h.va, ?_, h.out⟩
  · rw [put_ne (Ne.symm h.ne)]; exact h.hv
  · exact h.hw.frame fun y hy => put_ne fun e2 => h.ra (by rw [← e2]; exact hy)
  · intro y c hy
    rw [put_ne (fun e2 => by have := h.out r (by simp); rw [← e2, hy] at this; cases this)]
    exact h.base y c hy
theorem nr_set (h : SAt K s0 s r vl a S) (ok : S.Ok) (x : Nat) (n : Int) (at_ : Nat) (hx : x < 10) (q : ∀ s', SAt K s0 s' r vl a (S.put x (.int n)) → k (.d (.int ((at_ + 1 : Nat) : Int))) s') :
    df_next_row K [.d (Row.set x n).d, .d (.int (at_ : Nat)), .v (.ref r), .v (.ref vl), .v (.ref a.w)] s k := by
  obtain ⟨hx', _⟩ := at_get ok hx
  exact n_val "set" x at_ [.int n] (by decide) fun k2 hk2 => v_set x n _ (hk2 _ _ (.inr ⟨.int n, S.regs, rfl, h.hr, hx', q _ (sat_put h x _)⟩))
theorem nr_copy (h : SAt K s0 s r vl a S) (ok : S.Ok) (x y at_ : Nat) (hx : x < 10) (hy : y < 10) (q : ∀ s', SAt K s0 s' r vl a (S.put x (S.at y)) → k (.d (.int ((at_ + 1 : Nat) : Int))) s') :
    df_next_row K [.d (Row.copy x y).d, .d (.int (at_ : Nat)), .v (.ref r), .v (.ref vl), .v (.ref a.w)] s k := by
  obtain ⟨hx', _⟩ := at_get ok hx
  obtain ⟨hy', ey⟩ := at_get ok hy
  refine n_val "copy" x at_ [nD y] (by decide) fun k2 hk2 => v_copy h.hr x y hy' _ (hk2 _ _ (.inr ⟨_, S.regs, rfl, h.hr, hx', ?_⟩))
  have := q _ (sat_put h x (S.at y))
  rw [ey] at this
  exact this
theorem nr_add (h : SAt K s0 s r vl a S) (ok : S.Ok) (x y z at_ : Nat) (hx : x < 10) (hy : y < 10) (hz : z < 10) (q0 : sumD? (S.at y) (S.at z) = none → k (.d .none) s) (q : ∀ i, sumD? (S.at y) (S.at z) = some i → ∀ s', SAt K s0 s' r vl a (S.put x (.int i)) → k (.d (.int ((at_ + 1 : Nat) : Int))) s') :
    df_next_row K [.d (Row.add x y z).d, .d (.int (at_ : Nat)), .v (.ref r), .v (.ref vl), .v (.ref a.w)] s k := by
  obtain ⟨hx', _⟩ := at_get ok hx
  obtain ⟨hy', ey⟩ := at_get ok hy
  obtain ⟨hz', ez⟩ := at_get ok hz
  refine n_val "add" x at_ [nD y, nD z] (by decide) fun k2 hk2 => v_add h.hr x y z hy' hz' _ (hk2 _ _ ?_)
  rw [ey, ez] at q0 q
  cases hs : sumD? S.regs[y] S.regs[z] with
  | none => exact .inl ⟨rfl, q0 hs⟩
  | some i => exact .inr ⟨.int i, S.regs, rfl, h.hr, hx', q i hs _ (sat_put h x _)⟩
theorem nr_kind (h : SAt K s0 s r vl a S) (ok : S.Ok) (x y at_ : Nat) (hx : x < 10) (hy : y < 10) (q0 : (S.at y).ob? = none → k (.d .none) s) (q : ∀ o, S.at y = .obj o → ∀ s', SAt K s0 s' r vl a (S.put x (.kind (S.V.kinds.getD o 0))) → k (.d (.int ((at_ + 1 : Nat) : Int))) s') :
    df_next_row K [.d (Row.kind x y).d, .d (.int (at_ : Nat)), .v (.ref r), .v (.ref vl), .v (.ref a.w)] s k := by
  obtain ⟨hx', _⟩ := at_get ok hx
  obtain ⟨hy', ey⟩ := at_get ok hy
  refine n_val "kind" x at_ [nD y] (by decide) fun k2 hk2 => v_kind x y (e_kind_in h.hw h.hr y hy' (ok.rin _ (List.getElem_mem hy')) (hk2 _ _ ?_))
  rw [ey] at q0 q
  cases hv : S.regs[y] with
  | int i => exact .inl ⟨rfl, q0 (by rw [hv]; rfl)⟩
  | kind i => exact .inl ⟨rfl, q0 (by rw [hv]; rfl)⟩
  | obj o => exact .inr ⟨.kind _, S.regs, rfl, h.hr, hx', q o hv _ (sat_put h x _)⟩
theorem nr_read (h : SAt K s0 s r vl a S) (ok : S.Ok) (x y z f at_ : Nat) (hx : x < 10) (hy : y < 10) (hz : z < 10) (q0 : cellOf S.V (S.at y) (S.at z) f = none → k (.d .none) s)
    (q : ∀ p, cellOf S.V (S.at y) (S.at z) f = some p → ∀ s', SAt K s0 s' r vl a (S.put x (toRv ((cellAt (S.V.cells.getD p.1 []) p.2 f).getD .none))) → k (.d (.int ((at_ + 1 : Nat) : Int))) s') :
    df_next_row K [.d (Row.read x y z f).d, .d (.int (at_ : Nat)), .v (.ref r), .v (.ref vl), .v (.ref a.w)] s k := by
  obtain ⟨hx', _⟩ := at_get ok hx
  obtain ⟨hy', ey⟩ := at_get ok hy
  obtain ⟨hz', ez⟩ := at_get ok hz
  rw [ey, ez] at q0 q
  refine n_val "read" x at_ [nD y, nD z, nD f] (by decide) fun k2 hk2 => v_read h.hw h.hr ok.cl x y z f hy' hz' (ok.rin _ (List.getElem_mem hy')) (fun hn => hk2 _ _ (.inl ⟨rfl, q0 hn⟩)) fun p v hp hc => hk2 _ _ ?_
  obtain ⟨_, _, ho, _⟩ := cellOf_some (ok.rin _ (List.getElem_mem hy')) ok.cl hp
  have hg : S.V.cells.getD p.1 [] = S.V.cells[p.1] := by rw [List.getD_eq_getElem?_getD, List.getElem?_eq_getElem ho]; rfl
  have hu : ∃ u : Rv, v = u.d := by
    rw [hg] at hc
    unfold cellAt at hc
    cases hf : S.V.cells[p.1].find? (fun e => decide (e.1 = (p.2, f))) with
    | none => rw [hf] at hc; cases hc
    | some e =>
      rw [hf] at hc
      cases hc
      obtain ⟨u, hu, _⟩ := (ok.ce _ (List.getElem_mem ho)).2 e (List.mem_of_find?_eq_some hf)
      exact ⟨u, hu⟩
  obtain ⟨u, rfl⟩ := hu
  refine .inr ⟨u, S.regs, rfl, h.hr, hx', ?_⟩
  have := q p hp _ (sat_put h x _)
  rw [hc] at this
  simp only [Option.getD_some, toRv_d] at this
  exact this
theorem sat_frm (h : SAt K s0 s r vl a S) {s' : Hs} {V' : PW} (hw : WAt K s' a V') (fr : Frm s s' a) : SAt K s0 s' r vl a { S with V := V' } :=
  ⟨fr _ _ h.ra h.hr, fr _ _ h.va h.hv, hw, h.ne, h.ra, h.va, fun y c hy => fr _ _ (fun m => by have := h.out y (by simp [m]); rw [hy] at this; cases this) (h.base y c hy), h.out⟩
theorem ksOf_some {os : List (Option Nat)} {ks : List Nat} (h : os = ks.map some) (nd : ks.Nodup) : ksOf os = some ks := by
  subst h
  have e1 : (ks.map some).any Option.isNone = false := by rw [List.any_map]; simp
  have e2 : (ks.map some).map (fun o : Option Nat => o.getD 0) = ks := by rw [List.map_map]; exact List.map_id ks
  unfold ksOf
  rw [e1, if_neg Bool.false_ne_true, e2, if_pos nd]
theorem ksOf_none {os : List (Option Nat)} (h : ∀ ks : List Nat, os = ks.map some → ¬ ks.Nodup) : ksOf os = none := by
  unfold ksOf
  cases hn : os.any Option.isNone with
  | true => rfl
  | false =>
    obtain ⟨ks, hk⟩ := nums_some hn
    have e2 : os.map (fun o : Option Nat => o.getD 0) = ks := by rw [hk, List.map_map]; exact List.map_id ks
    rw [if_neg Bool.false_ne_true, e2, if_neg (h ks hk)]
theorem nr_load (h : SAt K s0 s r vl a S) (ok : S.Ok) (x : Nat) (ps : List Nat) (b at_ : Nat) (hx : x < 10) (hps : ∀ p ∈ ps, p < 10) (hl : ps.length ≤ 6) (q0 : (ksOf (numsOf S.regs ps) = none ∨ S.V.parents.length = 400) → k (.d .none) s)
    (q : ∀ ks, ksOf (numsOf S.regs ps) = some ks → S.V.parents.length ≠ 400 → ∀ s', SAt K s0 s' r vl a { S.put x (.kind S.V.parents.length) with V := S.V.addKind (sortN ks) b } → k (.d (.int ((at_ + 1 : Nat) : Int))) s') :
    df_next_row K [.d (Row.load x ps b).d, .d (.int (at_ : Nat)), .v (.ref r), .v (.ref vl), .v (.ref a.w)] s k := by
  obtain ⟨hx', _⟩ := at_get ok hx
  refine n_val "load" x at_ [.tuple (natsD ps), nD b] (by decide) fun k2 hk2 => v_load x ps b (e_loaded_kind h.hw h.hr ok.wf ps b (fun p hp => by rw [ok.len]; exact hps p hp) hl (fun hh => hk2 _ _ (.inl ⟨rfl, q0 ?_⟩)) fun ks h1 h2 h3 s' hw' fr => hk2 _ _ (.inr ⟨.kind S.V.parents.length, S.regs, rfl, ?_, hx', ?_⟩))
  · by_cases hf : S.V.parents.length = 400
    · exact .inr hf
    · exact .inl (ksOf_none fun ks hk nd => hf (hh ks hk nd))
  · exact fr _ _ h.ra h.hr
  · exact q ks (ksOf_some h1 h2) h3 _ (sat_put (sat_frm h hw' fr) x _)
theorem nr_make (h : SAt K s0 s r vl a S) (ok : S.Ok) (x y at_ : Nat) (hx : x < 10) (hy : y < 10) (q0 : ((S.at y).kd? = none ∨ S.V.kinds.length = 2000) → k (.d .none) s)
    (q : ∀ kd, S.at y = .kind kd → S.V.kinds.length ≠ 2000 → ∀ s' cs, SAt K s0 s' r vl { a with cs := cs } { S.put x (.obj S.V.kinds.length) with V := S.V.addObj kd (ones S.V.parents kd) } → k (.d (.int ((at_ + 1 : Nat) : Int))) s') :
    df_next_row K [.d (Row.make x y).d, .d (.int (at_ : Nat)), .v (.ref r), .v (.ref vl), .v (.ref a.w)] s k := by
  obtain ⟨hx', _⟩ := at_get ok hx
  obtain ⟨hy', ey⟩ := at_get ok hy
  rw [ey] at q0 q
  have iy := ok.rin _ (List.getElem_mem hy')
  refine n_val "make" x at_ [nD y] (by decide) fun k2 hk2 => v_make x y (e_made_object h.hw h.hr ok.wf ok.cl ok.kl y hy' iy (fun hn => hk2 _ _ (.inl ⟨rfl, q0 (.inl hn)⟩)) fun kd hkd => ?_)
  have hlt : kd < S.V.parents.length := by rw [hkd] at iy; exact iy
  refine ⟨ones S.V.parents kd, (ones_some ok.wf kd hlt).1, fun hf => hk2 _ _ (.inl ⟨rfl, q0 (.inr hf)⟩), fun hf s' nq hq hw' fr => hk2 _ _ (.inr ⟨.obj S.V.kinds.length, S.regs, rfl, fr _ _ h.ra h.hr, hx', ?_⟩)⟩
  have hall : ({ a with cs := a.cs ++ [nq] } : WA).all = a.all ++ [nq] := by simp [WA.all]
  have hrn : r ≠ nq := fun e => by have := h.hr; rw [e, hq] at this; cases this
  have hvn : vl ≠ nq := fun e => by have := h.hv; rw [e, hq] at this; cases this
  have sat : SAt K s0 s' r vl { a with cs := a.cs ++ [nq] } { S with V := S.V.addObj kd (ones S.V.parents kd) } := by
    refine ⟨fr _ _ h.ra h.hr, fr _ _ h.va h.hv, hw', h.ne, ?_, ?_, fun y c hy => fr _ _ (fun m => by have := h.out y (by simp [m]); rw [hy] at this; cases this) (h.base y c hy), ?_⟩
    · rw [hall]
      intro m
      rcases List.mem_append.mp m with m | m
      · exact h.ra m
      · exact hrn (by simpa using m)
    · rw [hall]
      intro m
      rcases List.mem_append.mp m with m | m
      · exact h.va m
      · exact hvn (by simpa using m)
    · intro y hy
      rw [hall] at hy
      simp only [List.mem_cons, List.mem_append, List.not_mem_nil, or_false] at hy
      rcases hy with rfl | rfl | hy | rfl
      · exact h.out _ (by simp)
      · exact h.out _ (by simp)
      · exact h.out _ (by simp [hy])
      · cases e : s0 y with
        | none => rfl
        | some c => have := h.base y c e; rw [hq] at this; cases this
  exact q kd hkd hf _ _ (sat_put sat x _)
theorem nr_write (h : SAt K s0 s r vl a S) (ok : S.Ok) (x y f z at_ : Nat) (hx : x < 10) (hy : y < 10) (hz : z < 10) (q0 : cellOf S.V (S.at x) (S.at y) f = none → k (.d .none) s)
    (q : ∀ p, cellOf S.V (S.at x) (S.at y) f = some p → ∀ s', SAt K s0 s' r vl a { S with V := S.V.setCell p.1 p.2 f (S.at z).d } → k (.d (.int ((at_ + 1 : Nat) : Int))) s') :
    df_next_row K [.d (Row.write x y f z).d, .d (.int (at_ : Nat)), .v (.ref r), .v (.ref vl), .v (.ref a.w)] s k := by
  obtain ⟨hx', ex⟩ := at_get ok hx
  obtain ⟨hy', ey⟩ := at_get ok hy
  obtain ⟨hz', ez⟩ := at_get ok hz
  rw [ex, ey] at q0 q
  rw [ez] at q
  rw [df_next_row_eq]; unfold d_next_row_
  have e : (Row.write x y f z).d = .tuple [.str "write", nD x, nD y, nD f, nD z] := rfl
  walk_at "dl"
  rw [e]
  walk_at "dl"
  simp (decide := true) only [if_true, if_false]
  refine ⟨by decide, ?_⟩
  simp only [dIn, dInB, U.getD, itemsD, asD]
  refine ⟨.inl ⟨rfl, rfl⟩, ?_⟩
  have hm : memD (.str "write") [.str "is", .str "less"] = false := by unfold memD; simp only [List.any_cons, List.any_nil, eqv_str]; decide
  simp (decide := true) only [hm, if_true, if_false]
  rw [← e]
  refine e_written h.hw h.hr h.ra ok.cl x y f z hx' hy' hz' (ok.rin _ (List.getElem_mem hx')) (fun l hl => by have := (ok.ce l hl).1; omega) (fun hn => ?_) (fun p hp s' hw' fr => ?_)
  · exact q0 hn
  · exact q p hp s' (sat_frm h hw' fr)
theorem nr_less (h : SAt K s0 s r vl a S) (ok : S.Ok) (x y t at_ : Nat) (hx : x < 10) (hy : y < 10) (q0 : goneR S.V (S.at x) (S.at y) true = none → k (.d .none) s) (q : ∀ b, goneR S.V (S.at x) (S.at y) true = some b → k (.d (.int (((if b = true then t else at_ + 1) : Nat) : Int))) s) :
    df_next_row K [.d (Row.less x y t).d, .d (.int (at_ : Nat)), .v (.ref r), .v (.ref vl), .v (.ref a.w)] s k := by
  obtain ⟨hx', ex⟩ := at_get ok hx
  obtain ⟨hy', ey⟩ := at_get ok hy
  rw [ex, ey] at q0 q
  rw [df_next_row_eq]; unfold d_next_row_
  have e : (Row.less x y t).d = .tuple [.str "less", nD x, nD y, nD t] := rfl
  walk_at "dl"
  rw [e]
  walk_at "dl"
  simp (decide := true) only [if_true, if_false]
  refine ⟨by decide, ?_⟩
  simp only [dIn, dInB, U.getD, itemsD, asD]
  refine ⟨.inl ⟨rfl, rfl⟩, ?_⟩
  have hm : memD (.str "less") [.str "is", .str "less"] = true := by unfold memD; simp only [List.any_cons, List.any_nil, eqv_str]; decide
  simp (decide := true) only [hm, if_true, if_false]
  rw [← e]
  refine e_less (V := S.V) h.hr x y t hx' hy' _ ?_
  cases hg : goneR S.V S.regs[x] S.regs[y] true with
  | none => exact q0 hg
  | some b =>
    have := q b hg
    cases b with
    | true => simpa [boolO, at3, nD] using this
    | false => simpa [boolO, at3, nD] using this
theorem nr_is (h : SAt K s0 s r vl a S) (ok : S.Ok) (x y t at_ : Nat) (hx : x < 10) (hy : y < 10) (q0 : goneR S.V (S.at x) (S.at y) false = none → k (.d .none) s) (q : ∀ b, goneR S.V (S.at x) (S.at y) false = some b → k (.d (.int (((if b = true then t else at_ + 1) : Nat) : Int))) s) :
    df_next_row K [.d (Row.is_ x y t).d, .d (.int (at_ : Nat)), .v (.ref r), .v (.ref vl), .v (.ref a.w)] s k := by
  obtain ⟨hx', ex⟩ := at_get ok hx
  obtain ⟨hy', ey⟩ := at_get ok hy
  rw [ex, ey] at q0 q
  rw [df_next_row_eq]; unfold d_next_row_
  have e : (Row.is_ x y t).d = .tuple [.str "is", nD x, nD y, nD t] := rfl
  walk_at "dl"
  rw [e]
  walk_at "dl"
  simp (decide := true) only [if_true, if_false]
  refine ⟨by decide, ?_⟩
  simp only [dIn, dInB, U.getD, itemsD, asD]
  refine ⟨.inl ⟨rfl, rfl⟩, ?_⟩
  have hm : memD (.str "is") [.str "is", .str "less"] = true := by unfold memD; simp only [List.any_cons, List.any_nil, eqv_str]; decide
  simp (decide := true) only [hm, if_true, if_false]
  rw [← e]
  refine e_isr h.hw h.hr ok.wf x y t hx' hy' (ok.rin _ (List.getElem_mem hx')) (fun kd hkd => ⟨ok.ki kd hkd, by rw [(ones_some ok.wf kd (ok.ki kd hkd)).1]; rfl⟩) ?_
  cases hg : goneR S.V S.regs[x] S.regs[y] false with
  | none => exact q0 hg
  | some b =>
    have := q b hg
    cases b with
    | true => simpa [boolO, at3, nD] using this
    | false => simpa [boolO, at3, nD] using this
end
end G

set_option maxHeartbeats 400000
namespace G
open PySem PySem.Spec PyProof.Rows L2 U
/-! ### what always holds stays -/
theorem Rv.In.mono {V V' : PW} (h1 : V.parents.length ≤ V'.parents.length) (h2 : V.kinds.length ≤ V'.kinds.length) : ∀ {v : Rv}, v.In V → v.In V'
  | .int _, _ => True.intro
  | .kind _, h => Nat.lt_of_lt_of_le h h1
  | .obj _, h => Nat.lt_of_lt_of_le h h2
theorem mem_set_or {α : Type} {xs : List α} {i : Nat} {v x : α} (h : x ∈ xs.set i v) : x ∈ xs ∨ x = v := by
  rcases List.mem_or_eq_of_mem_set h with h | h
  · exact .inl h
  · exact .inr h
theorem ok_put {S : RS} (ok : S.Ok) (x : Nat) {v : Rv} (hv : v.In S.V) : (S.put x v).Ok :=
  ⟨by unfold RS.put; simp [ok.len], fun u hu => (mem_set_or hu).elim (ok.rin u) fun e => e ▸ hv, ok.wf, ok.cl, ok.kl, ok.ki, ok.ce⟩
theorem at_in {S : RS} (ok : S.Ok) (x : Nat) : (S.at x).In S.V := by
  unfold RS.at
  rw [List.getD_eq_getElem?_getD]
  cases h : S.regs[x]? with
  | none => exact True.intro
  | some v => exact ok.rin v (List.mem_of_getElem? h)
theorem ok_kind {S : RS} (ok : S.Ok) (ps : List Nat) (b : Nat) (h1 : ps.length ≤ 6) (h2 : ∀ p ∈ ps, p < S.V.parents.length) (hb : b ≤ 6) (hn : S.V.parents.length ≠ 400) : ({ S with V := S.V.addKind ps b } : RS).Ok := by
  have hl : (S.V.addKind ps b).parents.length = S.V.parents.length + 1 := by unfold PW.addKind; simp
  have fw := ok.wf.few
  have m1 : S.V.parents.length ≤ (S.V.addKind ps b).parents.length := by omega
  have m2 : S.V.kinds.length ≤ (S.V.addKind ps b).kinds.length := Nat.le_refl _
  refine ⟨ok.len, fun v hv => (ok.rin v hv).mono m1 m2, ⟨fun l hm => ?_, ?_, fun m hm => ?_, ?_⟩, ok.cl, ok.kl, fun kd hk => Nat.lt_of_lt_of_le (ok.ki kd hk) m1, fun l hm => ⟨(ok.ce l hm).1, fun e he => ?_⟩⟩
  · rw [hl]
    rcases List.mem_append.mp hm with hm | hm
    · have := ok.wf.par l hm
      exact ⟨this.1, fun x hx => Nat.lt_succ_of_lt (this.2 x hx)⟩
    · have e : l = ps := by simpa using hm
      rw [e]
      exact ⟨h1, fun x hx => Nat.lt_succ_of_lt (h2 x hx)⟩
  · show (S.V.addKind ps b).parents.length ≤ 400; omega
  · rcases List.mem_append.mp hm with hm | hm
    · exact ok.wf.bro m hm
    · have e : m = b := by simpa using hm
      rw [e]; exact hb
  · show (S.V.brought ++ [b]).length = (S.V.parents ++ [ps]).length
    have := ok.wf.len
    simp [this]
  · obtain ⟨v, h3, h4⟩ := (ok.ce l hm).2 e he
    exact ⟨v, h3, h4.mono m1 m2⟩
theorem putC_there {l : List ((Nat × Nat) × PyData)} {kd f : Nat} {v : PyData} (h : (cellAt l kd f).isSome = true) : putC l (kd, f) v = l.map (fun e => if e.1 = (kd, f) then (e.1, v) else e) := by
  unfold putC
  rw [if_pos]
  unfold cellAt at h
  cases hf : l.find? (fun e => decide (e.1 = (kd, f))) with
  | none => rw [hf] at h; exact absurd h (by simp)
  | some e => exact List.any_eq_true.mpr ⟨e, List.mem_of_find?_eq_some hf, List.find?_some (p := fun e : (Nat × Nat) × PyData => decide (e.1 = (kd, f))) hf⟩
theorem ok_write {S : RS} (ok : S.Ok) (o kd f : Nat) (v : Rv) (ho : o < S.V.cells.length) (hc : (cellAt S.V.cells[o] kd f).isSome = true) (hv : v.In S.V) : ({ S with V := S.V.setCell o kd f v.d } : RS).Ok := by
  have hg : S.V.cells.getD o [] = S.V.cells[o] := by rw [List.getD_eq_getElem?_getD, List.getElem?_eq_getElem ho]; rfl
  refine ⟨ok.len, fun u hu => (ok.rin u hu).mono (Nat.le_refl _) (Nat.le_refl _), ⟨ok.wf.par, ok.wf.few, ok.wf.bro, ok.wf.len⟩, ?_, ok.kl, ok.ki, fun l hm => ?_⟩
  · show (S.V.cells.set o _).length = _
    rw [List.length_set]; exact ok.cl
  · have hm2 : l ∈ S.V.cells.set o (putC (S.V.cells.getD o []) (kd, f) v.d) := hm
    rcases mem_set_or hm2 with hm3 | hm3
    · exact ⟨(ok.ce l hm3).1, fun e he => let ⟨u, h3, h4⟩ := (ok.ce l hm3).2 e he; ⟨u, h3, h4.mono (Nat.le_refl _) (Nat.le_refl _)⟩⟩
    · rw [hg, putC_there hc] at hm3
      obtain ⟨c1, c2⟩ := ok.ce _ (List.getElem_mem ho)
      rw [hm3]
      refine ⟨by rw [List.length_map]; exact c1, fun e he => ?_⟩
      obtain ⟨e', he', rfl⟩ := List.mem_map.mp he
      by_cases hk : e'.1 = (kd, f)
      · rw [if_pos hk]
        exact ⟨v, rfl, hv.mono (Nat.le_refl _) (Nat.le_refl _)⟩
      · rw [if_neg hk]
        obtain ⟨u, h3, h4⟩ := c2 e' he'
        exact ⟨u, h3, h4.mono (Nat.le_refl _) (Nat.le_refl _)⟩
theorem putC_mem {l : List ((Nat × Nat) × PyData)} {kf : Nat × Nat} {v : PyData} {e : (Nat × Nat) × PyData} (h : e ∈ putC l kf v) : e ∈ l ∨ e.2 = v := by
  unfold putC at h
  split at h
  · obtain ⟨e', he', rfl⟩ := List.mem_map.mp h
    by_cases hk : e'.1 = kf
    · rw [if_pos hk]; exact .inr rfl
    · rw [if_neg hk]; exact .inl he'
  · rcases List.mem_append.mp h with h | h
    · exact .inl h
    · have e2 : e = (kf, v) := by simpa using h
      rw [e2]; exact .inr rfl
theorem mergeC_mem (more : List ((Nat × Nat) × PyData)) (hm : ∀ e ∈ more, e.2 = .int 0) : ∀ (l : List ((Nat × Nat) × PyData)) (e : (Nat × Nat) × PyData), e ∈ mergeC l more → e ∈ l ∨ e.2 = .int 0 := by
  induction more with
  | nil => intro l e h; exact .inl h
  | cons x r ih =>
    intro l e h
    rcases ih (fun y hy => hm y (List.mem_cons_of_mem _ hy)) (putC l x.1 x.2) e h with h | h
    · rcases putC_mem h with h | h
      · exact .inl h
      · rw [hm x List.mem_cons_self] at h; exact .inr h
    · exact .inr h
/-- cells that hold what is right, the last one not too long -/
theorem fill_ok (P : PyData → Prop) (h0 : P (.int 0)) (r : List Nat) : ∀ V : PW, V.cells ≠ [] → (∀ m ∈ V.brought, m ≤ 6) → (∀ l ∈ V.cells, l.length ≤ 90000 ∧ ∀ e ∈ l, P e.2) → (V.cells.getD (V.cells.length - 1) []).length + 6 * r.length ≤ 90000 →
    ∀ l ∈ (V.fill r).cells, l.length ≤ 90000 ∧ ∀ e ∈ l, P e.2 := by
  induction r with
  | nil => intro V _ _ h _; exact h
  | cons x r ih =>
    intro V hne hb h hl
    rw [fill_cons]
    have hx : V.brought.getD x 0 ≤ 6 := by
      rw [List.getD_eq_getElem?_getD]
      cases hq : V.brought[x]? with
      | none => exact Nat.zero_le _
      | some m => exact hb m (List.mem_of_getElem? hq)
    have m1 := mergeC_len (newC x (V.brought.getD x 0)) (V.cells.getD (V.cells.length - 1) [])
    rw [newC_len] at m1
    simp only [List.length_cons] at hl
    have hlast : (V.lastCell (newC x (V.brought.getD x 0))).cells.length = V.cells.length := by unfold PW.lastCell; simp
    refine ih _ (fun e => hne (by have := congrArg List.length e; rw [hlast] at this; exact List.eq_nil_of_length_eq_zero this)) hb (fun l hm => ?_) ?_
    · have hm2 : l ∈ V.cells.set (V.cells.length - 1) (mergeC (V.cells.getD (V.cells.length - 1) []) (newC x (V.brought.getD x 0))) := hm
      rcases mem_set_or hm2 with hm3 | hm3
      · exact h l hm3
      · rw [hm3]
        refine ⟨by omega, fun e he => ?_⟩
        rcases mergeC_mem _ (fun y hy => by unfold newC at hy; obtain ⟨f, _, rfl⟩ := List.mem_map.mp hy; rfl) _ e he with q | q
        · have hpos := List.length_pos_iff.mpr hne
          have hg : V.cells.getD (V.cells.length - 1) [] = V.cells[V.cells.length - 1]'(by omega) := by rw [List.getD_eq_getElem?_getD, List.getElem?_eq_getElem (by omega)]; rfl
          rw [hg] at q
          exact (h _ (List.getElem_mem _)).2 e q
        · rw [q]; exact h0
    · rw [hlast]
      show ((V.cells.set (V.cells.length - 1) _).getD (V.cells.length - 1) []).length + _ ≤ _
      rw [getD_set_last hne]
      omega
theorem ok_obj {S : RS} (ok : S.Ok) (kd : Nat) (hk : kd < S.V.parents.length) (hn : S.V.kinds.length ≠ 2000) : ({ S with V := S.V.addObj kd (ones S.V.parents kd) } : RS).Ok := by
  obtain ⟨hr, nd⟩ := ones_some ok.wf kd hk
  have hin : ∀ x ∈ [kd], x < S.V.parents.length := fun x hx => by
    have e : x = kd := by simpa using hx
    rw [e]; exact hk
  have hmem := (ones_in ok.wf _ _ _ _ hr hin).1
  have hl := nodup_le _ _ nd hmem
  have fw := ok.wf.few
  obtain ⟨f1, f2, f3, f4⟩ := fill_same (ones S.V.parents kd) ({ S.V with kinds := S.V.kinds ++ [kd], cells := S.V.cells ++ [[]] } : PW)
  have hV : S.V.addObj kd (ones S.V.parents kd) = ({ S.V with kinds := S.V.kinds ++ [kd], cells := S.V.cells ++ [[]] } : PW).fill (ones S.V.parents kd) := rfl
  rw [← hV] at f1 f2 f3 f4
  have m1 : S.V.parents.length ≤ (S.V.addObj kd (ones S.V.parents kd)).parents.length := by rw [f3]; exact Nat.le_refl _
  have m2 : S.V.kinds.length ≤ (S.V.addObj kd (ones S.V.parents kd)).kinds.length := by rw [f1]; simp
  have kl := ok.kl
  refine ⟨ok.len, fun v hv => (ok.rin v hv).mono m1 m2, ⟨?_, ?_, ?_, ?_⟩, ?_, ?_, ?_, ?_⟩
  · show ∀ ps ∈ (S.V.addObj kd (ones S.V.parents kd)).parents, ps.length ≤ 6 ∧ ∀ x ∈ ps, x < (S.V.addObj kd (ones S.V.parents kd)).parents.length
    rw [f3]; exact ok.wf.par
  · show (S.V.addObj kd (ones S.V.parents kd)).parents.length ≤ 400
    rw [f3]; exact fw
  · show ∀ m ∈ (S.V.addObj kd (ones S.V.parents kd)).brought, m ≤ 6
    rw [f2]; exact ok.wf.bro
  · show (S.V.addObj kd (ones S.V.parents kd)).brought.length = (S.V.addObj kd (ones S.V.parents kd)).parents.length
    rw [f2, f3]; exact ok.wf.len
  · show (S.V.addObj kd (ones S.V.parents kd)).cells.length = (S.V.addObj kd (ones S.V.parents kd)).kinds.length
    rw [f4, f1]
    have := ok.cl
    simp [this]
  · show (S.V.addObj kd (ones S.V.parents kd)).kinds.length ≤ 2000
    rw [f1]
    simp
    omega
  · show ∀ k ∈ (S.V.addObj kd (ones S.V.parents kd)).kinds, k < (S.V.addObj kd (ones S.V.parents kd)).parents.length
    rw [f1, f3]
    intro k hk2
    rcases List.mem_append.mp hk2 with h | h
    · exact ok.ki k h
    · have e : k = kd := by simpa using h
      rw [e]; exact hk
  · refine fill_ok (fun x => ∃ v : Rv, x = v.d ∧ v.In (S.V.addObj kd (ones S.V.parents kd))) ⟨.int 0, rfl, True.intro⟩ _ _ (by simp) ok.wf.bro (fun l hm => ?_) ?_
    · rcases List.mem_append.mp hm with h | h
      · exact ⟨(ok.ce l h).1, fun e he => let ⟨v, h3, h4⟩ := (ok.ce l h).2 e he; ⟨v, h3, h4.mono m1 m2⟩⟩
      · have e : l = [] := by simpa using h
        rw [e]
        exact ⟨by simp, fun e he => nomatch he⟩
    · have e : (S.V.cells ++ [[]]).getD ((S.V.cells ++ [[]]).length - 1) [] = [] := by
        rw [List.getD_eq_getElem?_getD]
        simp
      show ((S.V.cells ++ [[]]).getD ((S.V.cells ++ [[]]).length - 1) []).length + _ ≤ _
      rw [e]
      simp only [List.length_nil]
      omega
theorem nums_in {S : RS} (ok : S.Ok) {ps : List Nat} {ks : List Nat} (h : ksOf (numsOf S.regs ps) = some ks) : ks.length = ps.length ∧ ∀ x ∈ ks, x < S.V.parents.length := by
  unfold ksOf at h
  cases hn : (numsOf S.regs ps).any Option.isNone with
  | true => rw [hn, if_pos rfl] at h; cases h
  | false =>
    rw [hn, if_neg Bool.false_ne_true] at h
    split at h
    · cases h
      refine ⟨by unfold numsOf; simp, fun x hx => ?_⟩
      obtain ⟨o, ho, rfl⟩ := List.mem_map.mp hx
      have hs : o.isNone = false := by
        cases hb : o.isNone with
        | false => rfl
        | true => exact absurd (List.any_eq_true.mpr ⟨o, ho, hb⟩) (by rw [hn]; simp)
      unfold numsOf at ho
      obtain ⟨p, _, rfl⟩ := List.mem_map.mp ho
      have hin := at_in ok p
      unfold RS.at at hin
      revert hs hin
      generalize S.regs.getD p (.int 0) = v
      intro hs hin
      cases v with
      | int i => exact absurd hs (by simp [Rv.kd?])
      | obj i => exact absurd hs (by simp [Rv.kd?])
      | kind n => exact hin
    · cases h
theorem step_ok {S S' : RS} (ok : S.Ok) {row : Row} {many at_ at' : Nat} (hr : row.Ok many) (ha : at_ < many) (h : stepR S at_ row = some (at', S')) : S'.Ok ∧ at' ≤ many := by
  cases row with
  | set x n => cases h; exact ⟨ok_put ok x True.intro, ha⟩
  | copy x y => cases h; exact ⟨ok_put ok x (at_in ok y), ha⟩
  | add x y z =>
    unfold stepR at h
    dsimp only at h
    cases hs : sumD? (S.at y) (S.at z) with
    | none => rw [hs] at h; cases h
    | some i => rw [hs] at h; cases h; exact ⟨ok_put ok x True.intro, ha⟩
  | load x ps b =>
    unfold stepR at h
    dsimp only at h
    cases hs : ksOf (numsOf S.regs ps) with
    | none => rw [hs] at h; cases h
    | some ks =>
      rw [hs] at h
      dsimp only at h
      split at h
      · cases h
      · rename_i hn
        cases h
        obtain ⟨h1, h2⟩ := nums_in ok hs
        obtain ⟨r1, r2, r3, r4⟩ := hr
        have k1 := ok_kind ok (sortN ks) b (by rw [(sortN_perm ks).length_eq]; omega) (fun p hp => h2 p ((sortN_perm ks).mem_iff.mp hp)) r4 hn
        exact ⟨ok_put k1 x (v := .kind S.V.parents.length) (by show _ < (S.V.parents ++ [_]).length; simp), ha⟩
  | make x y =>
    unfold stepR at h
    dsimp only at h
    have hin := at_in ok y
    cases hv : S.at y with
    | int i => rw [hv] at h; cases h
    | obj i => rw [hv] at h; cases h
    | kind kd =>
      rw [hv] at h hin
      dsimp only at h
      split at h
      · cases h
      · rename_i hn
        cases h
        have k1 := ok_obj ok kd hin hn
        refine ⟨ok_put k1 x (v := .obj S.V.kinds.length) ?_, ha⟩
        show S.V.kinds.length < (S.V.addObj kd (ones S.V.parents kd)).kinds.length
        have := (fill_same (ones S.V.parents kd) ({ S.V with kinds := S.V.kinds ++ [kd], cells := S.V.cells ++ [[]] } : PW)).1
        unfold PW.addObj
        rw [this]
        simp
  | kind x y =>
    unfold stepR at h
    dsimp only at h
    have hin := at_in ok y
    cases hv : S.at y with
    | int i => rw [hv] at h; cases h
    | kind i => rw [hv] at h; cases h
    | obj o =>
      rw [hv] at h hin
      cases h
      have ho : o < S.V.kinds.length := hin
      refine ⟨ok_put ok x (v := .kind _) ?_, ha⟩
      show S.V.kinds.getD o 0 < _
      rw [List.getD_eq_getElem?_getD, List.getElem?_eq_getElem ho]
      exact ok.ki _ (List.getElem_mem ho)
  | write x y f z =>
    unfold stepR at h
    dsimp only at h
    cases hc : cellOf S.V (S.at x) (S.at y) f with
    | none => rw [hc] at h; cases h
    | some p =>
      rw [hc] at h
      cases h
      obtain ⟨_, _, ho, hs⟩ := cellOf_some (at_in ok x) ok.cl hc
      exact ⟨ok_write ok p.1 p.2 f (S.at z) ho hs (at_in ok z), ha⟩
  | read x y z f =>
    unfold stepR at h
    dsimp only at h
    cases hc : cellOf S.V (S.at y) (S.at z) f with
    | none => rw [hc] at h; cases h
    | some p =>
      rw [hc] at h
      cases h
      obtain ⟨_, _, ho, hs⟩ := cellOf_some (at_in ok y) ok.cl hc
      refine ⟨ok_put ok x ?_, ha⟩
      have hg : S.V.cells.getD p.1 [] = S.V.cells[p.1] := by rw [List.getD_eq_getElem?_getD, List.getElem?_eq_getElem ho]; rfl
      rw [hg]
      unfold cellAt
      cases hf : S.V.cells[p.1].find? (fun e => decide (e.1 = (p.2, f))) with
      | none => exact True.intro
      | some e =>
        obtain ⟨u, hu, hi⟩ := (ok.ce _ (List.getElem_mem ho)).2 e (List.mem_of_find?_eq_some hf)
        show (toRv e.2).In S.V
        rw [hu, toRv_d]
        exact hi
  | is_ x y t =>
    unfold stepR at h
    dsimp only at h
    cases hg : goneR S.V (S.at x) (S.at y) false with
    | none => rw [hg] at h; cases h
    | some b =>
      rw [hg] at h
      cases h
      refine ⟨ok, ?_⟩
      have := hr.2.2
      split <;> omega
  | less x y t =>
    unfold stepR at h
    dsimp only at h
    cases hg : goneR S.V (S.at x) (S.at y) true with
    | none => rw [hg] at h; cases h
    | some b =>
      rw [hg] at h
      cases h
      refine ⟨ok, ?_⟩
      have := hr.2.2
      split <;> omega
  | go t => cases h; exact ⟨ok, hr⟩
  | show_ x => cases h; exact ⟨⟨ok.len, ok.rin, ok.wf, ok.cl, ok.kl, ok.ki, ok.ce⟩, ha⟩
section
variable {K : PySem.W.Frag} {s s0 : Hs} {k : DK} {a : WA} {r vl : Addr} {S : RS}
theorem e_next_row (h : SAt K s0 s r vl a S) (ok : S.Ok) {row : Row} {many : Nat} (hr : row.Ok many) (at_ : Nat) (hl : S.vals.length < 100000) (q0 : stepR S at_ row = none → k (.d .none) s)
    (q : ∀ at' S', stepR S at_ row = some (at', S') → ∀ s' cs, SAt K s0 s' r vl { a with cs := cs } S' → k (.d (.int (at' : Nat))) s') :
    df_next_row K [.d row.d, .d (.int (at_ : Nat)), .v (.ref r), .v (.ref vl), .v (.ref a.w)] s k := by
  cases row with
  | set x n => exact nr_set h ok x n at_ hr fun s' hs => q _ _ rfl s' a.cs hs
  | copy x y => exact nr_copy h ok x y at_ hr.1 hr.2 fun s' hs => q _ _ rfl s' a.cs hs
  | add x y z => exact nr_add h ok x y z at_ hr.1 hr.2.1 hr.2.2 (fun hn => q0 (by simp only [stepR, hn, Option.map_none])) fun i hi s' hs => q _ _ (by simp only [stepR, hi, Option.map_some]) s' a.cs hs
  | load x ps b =>
    refine nr_load h ok x ps b at_ hr.1 hr.2.1 hr.2.2.1 (fun hn => q0 ?_) fun ks hk hn s' hs => q _ _ ?_ s' a.cs hs
    · rcases hn with hn | hn
      · simp only [stepR, hn]
      · simp only [stepR, hn, if_true]; split <;> rfl
    · simp only [stepR, hk, hn, if_false]
  | make x y =>
    refine nr_make h ok x y at_ hr.1 hr.2 (fun hn => q0 ?_) fun kd hk hn s' cs hs => q _ _ ?_ s' cs hs
    · simp only [stepR]
      cases hv : S.at y with
      | int i => rfl
      | obj i => rfl
      | kind kd =>
        rcases hn with hn | hn
        · rw [hv] at hn; cases hn
        · simp only [hn, if_true]
    · simp only [stepR, hk, hn, if_false]
  | kind x y =>
    refine nr_kind h ok x y at_ hr.1 hr.2 (fun hn => q0 ?_) fun o ho s' hs => q _ _ ?_ s' a.cs hs
    · simp only [stepR]
      cases hv : S.at y with
      | int i => rfl
      | kind i => rfl
      | obj o => rw [hv] at hn; cases hn
    · simp only [stepR, ho]
  | write x y f z => exact nr_write h ok x y f z at_ hr.1 hr.2.1 hr.2.2.2 (fun hn => q0 (by simp only [stepR, hn, Option.map_none])) fun p hp s' hs => q _ _ (by simp only [stepR, hp, Option.map_some]) s' a.cs hs
  | read x y z f => exact nr_read h ok x y z f at_ hr.1 hr.2.1 hr.2.2.1 (fun hn => q0 (by simp only [stepR, hn])) fun p hp s' hs => q _ _ (by simp only [stepR, hp]) s' a.cs hs
  | is_ x y t => exact nr_is h ok x y t at_ hr.1 hr.2.1 (fun hn => q0 (by simp only [stepR, hn, Option.map_none])) fun b hb => q _ _ (by simp only [stepR, hb, Option.map_some]) s a.cs h
  | less x y t => exact nr_less h ok x y t at_ hr.1 hr.2.1 (fun hn => q0 (by simp only [stepR, hn, Option.map_none])) fun b hb => q _ _ (by simp only [stepR, hb, Option.map_some]) s a.cs h
  | go t => exact nr_go t at_ (q _ _ rfl s a.cs h)
  | show_ x => exact nr_show h ok x at_ hr hl fun s' hs => q _ _ rfl s' a.cs hs
end
end G

set_option maxHeartbeats 400000
namespace G
open PySem PySem.Spec PyProof.Rows L2 U
/-! ### run -/
/-- so many rows at most: where it stands, whether it faulted -/
def runR (rows : List Row) : Nat → RS → Nat → RS × Nat × Bool
  | 0, S, at_ => (S, at_, false)
  | n + 1, S, at_ => match rows[at_]? with
    | none => (S, at_, false)
    | some row => match stepR S at_ row with
      | none => (S, at_, true)
      | some q => runR rows n q.2 q.1
def rowsD (rows : List Row) : PyData := .tuple (rows.map Row.d)
def endD (rows : List Row) (q : RS × Nat × Bool) : PyData := .tuple [.list (q.1.vals.map Rv.d), if q.2.2 = true then .tuple [.str "fault", nD q.2.1] else if q.2.1 = rows.length then .tuple [.str "end"] else .tuple [.str "most", nD q.2.1]]
def S0 : RS := { regs := List.replicate 10 (.int 0) }
theorem ok_S0 : S0.Ok := ⟨rfl, fun v hv => by
    have e : v = .int 0 := by unfold S0 at hv; exact List.eq_of_mem_replicate hv
    rw [e]; exact True.intro, ⟨fun l h => (nomatch h), by decide, fun m h => (nomatch h), rfl⟩, rfl, by decide, fun l h => (nomatch h), fun l h => (nomatch h)⟩
end G

set_option maxHeartbeats 400000
namespace G
open PySem PySem.Spec PyProof.Rows L2 U
local macro_rules | `(tactic| walk_at "dl") => `(tactic| simp only [dfOf, dfOfX, startD, List.map_cons, List.map_nil, List.length_cons, List.length_nil, List.cons_append, List.nil_append, List.replicate, Nat.zero_add, Nat.reduceAdd, Nat.reduceSub, true_and,
  zNext, zSeq, zRet, zDrop, zIf, zAsg, zPar, zAug, dVar, dC, dV, dOp, dNeg, dNil, dCons, dTest, dTru, dAnd, dOr, dNot, dYes, dAndV, dOrV, dNotV, dIf, dChain, dCB, dCall, dIsin, tkD, truD, dCmp, dLt, dLe, dGt, dGe, dMod, dDiv, dPow, dSub, dI2, hName, hTup, hCons, hNil, wipeD, dPart, dNoPart, dSl, lstOf, asD, seqOf,
  dEq, dNe, dIs, dIsNot, isNone, dLen, lenD, dAdd, dMul, dTup, dLst, newT, newL, datas, dIx_tup, dIx_list, atI_zero, dKGet, Option.map_some, dIAdd, d1, eqv_int, eqv_str, eqOk_int, eqOk_str,
  List.getElem?_cons_zero, List.getElem?_cons_succ, List.set_cons_zero, List.set_cons_succ, if_true, Bool.false_eq_true, if_false, reduceIte, Bool.not_true, Bool.not_false])
section
variable {K : PySem.W.Frag} {s s0 : Hs} {k : DK} {a : WA} {r vl : Addr} {S : RS}
abbrev runCond : DT := dAnd (dTest (dOp dLt (dVar 5) (dCB dLen (dCons (dVar 0) dNil)))) (dTest (dOp dLt (dVar 6) (dVar 1)))
def runBody (K : PySem.W.Frag) : DS := zSeq (zAsg (dCall (df_next_row K) (dCons (dOp dIx (dVar 0) (dVar 5)) (dCons (dVar 5) (dCons (dVar 2) (dCons (dVar 3) (dCons (dVar 4) dNil)))))) (hName 7))
    (zSeq (zIf (dTest (dOp dIs (dVar 7) (dC .none))) (zRet (dTup (dCons (dVar 3) (dCons (dTup (dCons (dC (.str "fault")) (dCons (dVar 5) dNil))) dNil)))) zNext)
    (zSeq (zAsg (dVar 7) (hName 5))
    (zAug 6 dIAdd (dC (.int 1)))))
theorem datas_regs (l : List Rv) : datas (l.map fun v => W.d v.d) = some (l.map Rv.d) := by
  have := datas_map (l.map Rv.d)
  rw [List.map_map] at this
  exact this
/-- one turn -/
theorem run_step {D : DEnds} (h : SAt K s0 s r vl a S) (ok : S.Ok) (rows : List Row) (most : W) (at_ many : Nat) (z : Option W) (ha : at_ < rows.length) (hr : rows[at_].Ok rows.length) (hl : S.vals.length < 100000)
    (q0 : stepR S at_ rows[at_] = none → ∀ t, s t = none → D.rt (.v (.ref t)) (U.put s t (.tup [.v (.ref vl), .d (.tuple [.str "fault", nD at_])])))
    (q : ∀ at' S', stepR S at_ rows[at_] = some (at', S') → ∀ s' cs z', SAt K s0 s' r vl { a with cs := cs } S' → D.nx [some (.d (rowsD rows)), some most, some (.v (.ref r)), some (.v (.ref vl)), some (.v (.ref a.w)), some (.d (.int (at' : Nat))), some (.d (.int ((many + 1 : Nat) : Int))), z'] s') :
    runBody K D [some (.d (rowsD rows)), some most, some (.v (.ref r)), some (.v (.ref vl)), some (.v (.ref a.w)), some (.d (.int (at_ : Nat))), some (.d (.int (many : Nat))), z] s := by
  unfold runBody
  walk_at "dl"
  unfold rowsD
  rw [dIx_tup, U.atI_nat, List.getElem?_map, List.getElem?_eq_getElem ha]
  simp only [Option.map_some]
  refine e_next_row h ok hr at_ hl (fun hn => ?_) (fun at' S' hs s' cs hsat => ?_)
  · simp only [if_true]
    exact ⟨by decide, by decide, q0 hn⟩
  · simp only [Bool.false_eq_true, if_false]
    exact q at' S' hs s' cs _ hsat
theorem step_vals {S S' : RS} {row : Row} {at_ at' : Nat} (h : stepR S at_ row = some (at', S')) : S'.vals.length ≤ S.vals.length + 1 := by
  cases row <;> simp only [stepR, Option.map_eq_some_iff, Option.some.injEq, Prod.mk.injEq] at h
  all_goals (repeat' (split at h))
  all_goals first
    | (obtain ⟨_, rfl⟩ := h; first | exact Nat.le_succ _ | (simp; done) | (simp [RS.put]; done))
    | (obtain ⟨_, _, _, rfl⟩ := h; first | exact Nat.le_succ _ | (simp [RS.put]; done))
    | (simp only [Option.some.injEq, Prod.mk.injEq] at h; obtain ⟨_, rfl⟩ := h; exact Nat.le_succ _)
    | cases h
theorem run_while {D : DEnds} (rows : List Row) (hrows : ∀ row ∈ rows, row.Ok rows.length) (most : Nat) (n : Nat) : ∀ (s : Hs) (cs : List Addr) (S : RS) (at_ many : Nat) (z : Option W), SAt K s0 s r vl { a with cs := cs } S → S.Ok → many + n = most → S.vals.length + n < 90000 → at_ ≤ rows.length →
    (∀ s' cs' S' at', runR rows n S at_ = (S', at', true) → SAt K s0 s' r vl { a with cs := cs' } S' → ∀ t, s' t = none → D.rt (.v (.ref t)) (U.put s' t (.tup [.v (.ref vl), .d (.tuple [.str "fault", nD at'])]))) →
    (∀ s' cs' S' at' many' z', runR rows n S at_ = (S', at', false) → SAt K s0 s' r vl { a with cs := cs' } S' → D.nx [some (.d (rowsD rows)), some (.d (.int (most : Nat))), some (.v (.ref r)), some (.v (.ref vl)), some (.v (.ref a.w)), some (.d (.int (at' : Nat))), some (.d (.int (many' : Nat))), z'] s') →
    whileN runCond (runBody K) (n + 1) D [some (.d (rowsD rows)), some (.d (.int (most : Nat))), some (.v (.ref r)), some (.v (.ref vl)), some (.v (.ref a.w)), some (.d (.int (at_ : Nat))), some (.d (.int (many : Nat))), z] s := by
  induction n with
  | zero =>
    intro s cs S at_ many z h ok hm hv ha q0 q1
    show runCond _ _ _
    walk_at "dl"
    unfold rowsD
    have e2 : ¬ ((many : Nat) : Int) < (most : Nat) := by omega
    simp only [e2, decide_false, List.length_map, Bool.false_eq_true, if_false]
    by_cases hl : ((at_ : Nat) : Int) < (rows.length : Nat)
    · simp only [hl, decide_true, if_true]; exact q1 s cs S at_ many z rfl h
    · simp only [hl, decide_false, Bool.false_eq_true, if_false]; exact q1 s cs S at_ many z rfl h
  | succ n ih =>
    intro s cs S at_ many z h ok hm hv ha q0 q1
    show runCond _ _ _
    walk_at "dl"
    have e2 : ((many : Nat) : Int) < (most : Nat) := by omega
    by_cases hl : at_ < rows.length
    · have e1 : ((at_ : Nat) : Int) < (rows.length : Nat) := by omega
      unfold rowsD
      simp only [List.length_map, e1, e2, decide_true, if_true]
      have hget : rows[at_]? = some rows[at_] := List.getElem?_eq_getElem hl
      have hrow := hrows _ (List.getElem_mem hl)
      refine run_step h ok rows _ at_ many z hl hrow (by omega) (fun hn => ?_) (fun at' S' hs s' cs' z' hsat => ?_)
      · exact q0 s cs S at_ (by simp only [runR, hget, hn]) h
      · have hk := step_ok ok hrow hl hs
        have hvl : S'.vals.length ≤ S.vals.length + 1 := step_vals hs
        refine ih s' cs' S' at' (many + 1) z' hsat hk.1 (by omega) (by omega) hk.2 (fun s2 c2 S2 a2 e => ?_) (fun s2 c2 S2 a2 m2 z2 e => ?_)
        · exact q0 s2 c2 S2 a2 (by simp only [runR, hget, hs]; exact e)
        · exact q1 s2 c2 S2 a2 m2 z2 (by simp only [runR, hget, hs]; exact e)
    · have e1 : ¬ ((at_ : Nat) : Int) < (rows.length : Nat) := by omega
      unfold rowsD
      simp only [List.length_map, e1, decide_false, Bool.false_eq_true, if_false]
      exact q1 s cs S at_ many z (by simp only [runR, List.getElem?_eq_none (Nat.le_of_not_lt hl)]) h
end
end G

set_option maxHeartbeats 400000
namespace G
open PySem PySem.Spec PyProof.Rows L2 U
local macro_rules | `(tactic| walk_at "dl") => `(tactic| simp only [dfOf, dfOfX, startD, List.map_cons, List.map_nil, List.length_cons, List.length_nil, List.cons_append, List.nil_append, List.replicate, Nat.zero_add, Nat.reduceAdd, Nat.reduceSub, true_and,
  zNext, zSeq, zRet, zDrop, zIf, zAsg, zPar, zAug, dVar, dC, dV, dOp, dNeg, dNil, dCons, dTest, dTru, dAnd, dOr, dNot, dYes, dAndV, dOrV, dNotV, dIf, dChain, dCB, dCall, dIsin, tkD, truD, dCmp, dLt, dLe, dGt, dGe, dMod, dDiv, dPow, dSub, dI2, hName, hTup, hCons, hNil, wipeD, dPart, dNoPart, dSl, lstOf, asD, seqOf,
  dEq, dNe, dIs, dIsNot, isNone, dLen, lenD, dAdd, dMul, dTup, dLst, newT, newL, datas, dIx_tup, dIx_list, atI_zero, dKGet, Option.map_some, dIAdd, d1, eqv_int, eqv_str, eqOk_int, eqOk_str,
  List.getElem?_cons_zero, List.getElem?_cons_succ, List.set_cons_zero, List.set_cons_succ, if_true, Bool.false_eq_true, if_false, reduceIte, Bool.not_true, Bool.not_false])
section
variable {K : PySem.W.Frag} {s : Hs} {k : DK}
/-- how it ends -/
def endT (rows : List Row) (q : RS × Nat × Bool) : PyData := if q.2.2 = true then .tuple [.str "fault", nD q.2.1] else if q.2.1 = rows.length then .tuple [.str "end"] else .tuple [.str "most", nD q.2.1]
/-- run hands back a tuple of a new list and of how it ends -/
theorem e_run (rows : List Row) (hrows : ∀ row ∈ rows, row.Ok rows.length) (hp : progD (rowsD rows) = true) (most : Nat) (hm : most ≤ 20000)
    (q : ∀ s' t l, s t = none → s l = none → t ≠ l → s' t = some (.tup [.v (.ref l), .d (endT rows (runR rows most S0 0))]) → s' l = some (regsC (runR rows most S0 0).1.vals) → (∀ y, y ≠ t → y ≠ l → s' y = s y) → k (.v (.ref t)) s') : df_run K [.d (rowsD rows), .d (.int (most : Nat))] s k := by
  rw [df_run_eq]; unfold d_run_
  walk_at "dl"
  refine e_check_program _ (fun rs e r hr xs e2 => ?_) hp ?_
  · unfold rowsD at e
    cases e
    obtain ⟨row, _, rfl⟩ := List.mem_map.mp hr
    cases row <;> (cases e2; simp)
  · refine e_check_number _ _ _ (by simp [withinD]; omega) ?_
    refine ⟨by decide, ?_⟩
    simp only [dMulO]
    refine ⟨⟨by decide, by decide, by decide⟩, fun r hr => ?_⟩
    simp only [dLstO]
    walk_at "dl"
    refine ⟨by decide, ?_⟩
    unfold newO
    intro vl hvl
    simp only [dMake]
    walk_at "dl"
    intro wa hwa
    obtain ⟨n1, hvl2⟩ := fresh_put hvl
    obtain ⟨n2, hwa2⟩ := fresh_put hwa
    obtain ⟨n3, hwa3⟩ := fresh_put hwa2
    refine e_init wa put_eq fun s' a ha hwat hfr hall => ⟨rfl, ?_⟩
    subst ha
    have hra : r ≠ a.w := fun e => n3 e.symm
    have hva : vl ≠ a.w := fun e => n2 e.symm
    have sat : SAt K s s' r vl { a with cs := a.cs } S0 := by
      refine ⟨?_, ?_, hwat, Ne.symm n1, ?_, ?_, ?_, ?_⟩
      · exact hfr _ _ hra (by rw [put_ne hra, put_ne (Ne.symm n1), put_eq]; rfl)
      · exact hfr _ _ hva (by rw [put_ne hva, put_eq]; rfl)
      · intro m
        rcases hall _ m with h | h
        · exact hra h
        · rw [put_ne hra, put_ne (Ne.symm n1), put_eq] at h; cases h
      · intro m
        rcases hall _ m with h | h
        · exact hva h
        · rw [put_ne hva, put_eq] at h; cases h
      · intro y c hy
        have y1 : y ≠ a.w := fun e => by rw [e, hwa3] at hy; cases hy
        have y2 : y ≠ vl := fun e => by rw [e, hvl2] at hy; cases hy
        have y3 : y ≠ r := fun e => by rw [e, hr] at hy; cases hy
        exact hfr _ _ y1 (by rw [put_ne y1, put_ne y2, put_ne y3]; exact hy)
      · intro y hy
        rcases List.mem_cons.mp hy with h | hy
        · rw [h]; exact hr
        · rcases List.mem_cons.mp hy with h | hy
          · rw [h]; exact hvl2
          · rcases hall _ hy with h | h
            · rw [h]; exact hwa3
            · exact (fresh_put (fresh_put (fresh_put h).2).2).2
    have key : ∀ (s2 : Hs) (cs2 : List Addr) (S2 : RS) (e : PyData) (t : Addr), SAt K s s2 r vl { a with cs := cs2 } S2 → s2 t = none → (runR rows most S0 0).1 = S2 → endT rows (runR rows most S0 0) = e →
        ∃ s'', U.Sub s'' (U.put s2 t (.tup [.v (.ref vl), .d e])) ∧ k (.v (.ref t)) s'' := fun s2 cs2 S2 e t h2 ht e1 e2 => by
      have hst : s t = none := by
        cases hy : s t with
        | none => rfl
        | some c => have := h2.base t c hy; rw [ht] at this; cases this
      have htl : t ≠ vl := fun z => by rw [z, h2.hv] at ht; cases ht
      refine ⟨fun y => if y = t then some (.tup [.v (.ref vl), .d e]) else if y = vl then some (regsC S2.vals) else s y, fun y c hy => ?_, ?_⟩
      · unfold U.put
        dsimp only at hy ⊢
        by_cases y1 : y = t
        · rw [if_pos y1] at hy ⊢; exact hy
        · rw [if_neg y1] at hy ⊢
          by_cases y2 : y = vl
          · rw [if_pos y2] at hy; rw [y2, h2.hv]; exact hy
          · rw [if_neg y2] at hy; exact h2.base y c hy
      · refine q _ t vl hst hvl2 htl ?_ ?_ fun y y1 y2 => ?_
        · rw [if_pos rfl, e2]
        · rw [if_neg (Ne.symm htl), if_pos rfl, e1]
        · rw [if_neg y1, if_neg y2]
    refine ⟨most + 1, run_while rows hrows most most s' a.cs S0 0 0 none sat ok_S0 (by omega) (by show 0 + most < 90000; omega) (Nat.zero_le _) (fun s2 cs2 S2 at2 e h2 => ?_) (fun s2 cs2 S2 at2 m2 z2 e h2 => ?_)⟩
    · refine fun t ht => key s2 cs2 S2 _ t h2 ht (by rw [e]) ?_
      rw [e]
      rfl
    · walk_at "dl"
      unfold rowsD
      simp only [List.length_map]
      by_cases hl : at2 = rows.length
      · have hb : (((at2 : Nat) : Int) == ((rows.length : Nat) : Int)) = true := by rw [hl]; simp
        simp only [hb, if_true]
        refine ⟨by decide, by decide, fun t ht => key s2 cs2 S2 _ t h2 ht (by rw [e]) ?_⟩
        rw [e]
        unfold endT
        rw [if_neg Bool.false_ne_true, if_pos hl]
      · have hb : (((at2 : Nat) : Int) == ((rows.length : Nat) : Int)) = false := by rw [Bool.eq_false_iff]; simp; omega
        simp only [hb, Bool.false_eq_true, if_false]
        refine ⟨by decide, by decide, fun t ht => key s2 cs2 S2 _ t h2 ht (by rw [e]) ?_⟩
        rw [e]
        unfold endT
        rw [if_neg Bool.false_ne_true, if_neg hl]
        rfl
end
end G

set_option maxHeartbeats 400000
namespace G
open PySem PySem.Spec PyProof.Rows L2 U
theorem intD_int (i : Int) : U.intD (.int i) = some (.int i) := rfl
theorem intD_bool (b : Bool) : U.intD (.bool b) = some (.int (if b = true then 1 else 0)) := by cases b <;> rfl
theorem absD_int (i : Int) : U.absD (.int i) = some (.int (if i < 0 then -i else i)) := rfl
theorem ix3_1 {α : Type} (x y z : α) : atI [x, y, z] 1 = some y := atI_one x y [z]
theorem ix3_2 {α : Type} (x y z : α) : atI [x, y, z] 2 = some z := at2 x y z []
local macro_rules | `(tactic| walk_at "dl") => `(tactic| simp only [dfOf, dfOfX, startD, List.map_cons, List.map_nil, List.length_cons, List.length_nil, List.cons_append, List.nil_append, List.replicate, Nat.zero_add, Nat.reduceAdd, Nat.reduceSub, true_and,
  zNext, zSeq, zRet, zDrop, zIf, zAsg, zPar, zAug, dVar, dC, dV, dOp, dNeg, dNil, dCons, dTest, dTru, dAnd, dOr, dNot, dYes, dAndV, dOrV, dNotV, dIf, dChain, dCB, dCall, dIsin, tkD, truD, dCmp, dLt, dLe, dGt, dGe, dMod, dDiv, dPow, dSub, dI2, hName, hTup, hCons, hNil, wipeD, dPart, dNoPart, dSl, lstOf, asD, seqOf,
  dEq, dNe, dIs, dIsNot, isNone, dLen, lenD, dAdd, dMul, dTup, dLst, newT, newL, datas, dIx_tup, dIx_list, atI_zero, dKGet, intD_int, intD_bool, absD_int, Option.map_some, dIAdd, d1, eqv_int, eqv_str, eqOk_int, eqOk_str,
  List.getElem?_cons_zero, List.getElem?_cons_succ, List.set_cons_zero, List.set_cons_succ, if_true, Bool.false_eq_true, if_false, reduceIte, Bool.not_true, Bool.not_false])
theorem dEq_int {i j : Int} {s : Hs} {k : DK} : dEq (.d (.int i)) (.d (.int j)) s k = k (.d (.bool (i == j))) s := by
  unfold dEq
  simp only [asD, eqOk_int, eqv_int, true_and]
theorem dNe_int {i j : Int} {s : Hs} {k : DK} : dNe (.d (.int i)) (.d (.int j)) s k = k (.d (.bool (!(i == j)))) s := by
  unfold dNe
  simp only [asD, eqOk_int, eqv_int, true_and]
theorem dEq_val {x y : PyData} {s : Hs} {k : DK} (b : Bool) (h1 : eqOk x y = true) (h2 : PyData.eqv x y = b) (q : k (.d (.bool b)) s) : dEq (.d x) (.d y) s k := by
  unfold dEq
  simp only [asD, h1, h2, true_and]
  exact q
theorem dNe_val {x y : PyData} {s : Hs} {k : DK} (b : Bool) (h1 : eqOk x y = true) (h2 : PyData.eqv x y = b) (q : k (.d (.bool (!b))) s) : dNe (.d x) (.d y) s k := by
  unfold dNe
  simp only [asD, h1, h2, true_and]
  exact q
/-! ### the pool of draws -/
def intsC (ns : List Int) : Cell := .lst (ns.map fun i => W.d (.int i))
/-- the pool at p, its great numbers at c, at most n draws made -/
def PoolAt (s : Hs) (p c : Addr) (n : Nat) : Prop := ∃ (seed : Int) (cnt : Nat) (cells : List Int), 0 ≤ seed ∧ seed < 2147483647 ∧ cnt ≤ n ∧ p ≠ c ∧ s p = some (.lst [.d (.int seed), .d (.int (cnt : Nat)), .v (.ref c)]) ∧ s c = some (intsC cells)
/-- all but the pool stands -/
def Pfr (s s' : Hs) (p c : Addr) : Prop := ∀ y, y ≠ p → y ≠ c → s' y = s y
theorem Pfr.refl (s : Hs) (p c : Addr) : Pfr s s p c := fun _ _ _ => rfl
theorem Pfr.trans {s s1 s2 : Hs} {p c : Addr} (h : Pfr s s1 p c) (h' : Pfr s1 s2 p c) : Pfr s s2 p c := fun y h1 h2 => (h' y h1 h2).trans (h y h1 h2)
theorem PoolAt.mono {s : Hs} {p c : Addr} {n m : Nat} (h : PoolAt s p c n) (hm : n ≤ m) : PoolAt s p c m := by
  obtain ⟨seed, cnt, cells, h1, h2, h3, h4⟩ := h
  exact ⟨seed, cnt, cells, h1, h2, by omega, h4⟩
theorem PoolAt.put {s : Hs} {p c x : Addr} {n : Nat} (h : PoolAt s p c n) (hp : x ≠ p) (hc : x ≠ c) (y : Cell) : PoolAt (U.put s x y) p c n := by
  obtain ⟨seed, cnt, cells, h1, h2, h3, h4, h5, h6⟩ := h
  exact ⟨seed, cnt, cells, h1, h2, h3, h4, by rw [put_ne (Ne.symm hp)]; exact h5, by rw [put_ne (Ne.symm hc)]; exact h6⟩
theorem PoolAt.ne {s : Hs} {p c x : Addr} {n : Nat} (h : PoolAt s p c n) (hx : s x = none) : x ≠ p ∧ x ≠ c := by
  obtain ⟨seed, cnt, cells, h1, h2, h3, h4, h5, h6⟩ := h
  exact ⟨fun e => (by rw [e, h5] at hx; cases hx), fun e => (by rw [e, h6] at hx; cases hx)⟩
theorem log2_lt {i : Int} {n : Nat} (h0 : 0 ≤ i) (hn : n ≠ 0) (h : i < 2 ^ n) : i.natAbs.log2 < n := by
  by_cases h1 : i.natAbs = 0
  · rw [h1]; simp; omega
  · rw [Nat.log2_lt h1]
    have : ((i.natAbs : Nat) : Int) < ((2 ^ n : Nat) : Int) := by rw [Int.natAbs_of_nonneg h0]; simpa using h
    exact_mod_cast this
theorem mulW_of {i j : Int} (h1 : 0 ≤ i) (h2 : i < 2 ^ 100) (h3 : 0 ≤ j) (h4 : j < 2 ^ 100) : CMulW i j := by
  have a := log2_lt (n := 100) h1 (by decide) h2
  have b := log2_lt (n := 100) h3 (by decide) h4
  unfold CMulW
  omega
theorem mulW_abs {i j : Int} (h1 : i.natAbs < 2 ^ 100) (h2 : j.natAbs < 2 ^ 100) : CMulW i j := by
  have l : ∀ n : Nat, n < 2 ^ 100 → n.log2 < 100 := fun n h => by
    by_cases h0 : n = 0
    · subst h0; decide
    · exact (Nat.log2_lt h0).mpr h
  have a := l _ h1
  have b := l _ h2
  unfold CMulW
  omega
theorem divW_of {i j : Int} (h1 : 0 < j) (h2 : j < 2 ^ 100) : CDivW i j := by
  have b := log2_lt (n := 100) (by omega) (by decide) h2
  exact ⟨h1, by omega⟩
theorem ixN_zero {n : Nat} (h : 0 < n) : ixN n 0 = some 0 := by unfold ixN; rw [if_pos (by omega), if_pos (by omega)]; rfl
theorem ixN_one {n : Nat} (h : 1 < n) : ixN n 1 = some 1 := by unfold ixN; rw [if_pos (by omega), if_pos (by omega)]; rfl
section
variable {K : PySem.W.Frag} {s : Hs} {k : DK}
theorem setD_own {p : Addr} {ws : List W} {i : Int} {j : Nat} {w : W} (h : s p = some (.lst ws)) (hj : ixN ws.length i = some j) : setD s (.v (.ref p)) (.d (.int i)) w = some (U.put s p (.lst (ws.set j w))) := by
  unfold setD
  simp only [h, hj]
  rfl
theorem lenD_own {p : Addr} {ws : List W} (h : s p = some (.lst ws)) : lenD s (.v (.ref p)) = some ws.length := by
  unfold lenD seqOf
  simp only [h]
theorem e_draw {p c : Addr} {n : Nat} (h : PoolAt s p c n) (hn : n < 1000000) (m : Int) (hm : 0 < m) (hm2 : m ≤ 1000000000)
    (q : ∀ s' d, 0 ≤ d → d < m → PoolAt s' p c (n + 1) → Pfr s s' p c → k (.d (.int d)) s') : df__law_draw K [.v (.ref p), .d (.int m)] s k := by
  obtain ⟨seed, cnt, cells, h1, h2, h3, hpc, hp, hc⟩ := h
  have fr1 : ∀ x : Cell, Pfr s (U.put s p x) p c := fun x y a b => put_ne a
  have hdw : ∀ i, CDiv i m ∨ CDivW i m := fun i => .inr (divW_of hm (by omega))
  have dm : ∀ i : Int, 0 ≤ i % m ∧ i % m < m := fun i => ⟨Int.emod_nonneg _ (by omega), Int.emod_lt_of_pos _ hm⟩
  rw [df__law_draw_eq]; unfold d__law_draw_
  walk_at "dl"
  simp only [dIx_own hp, ix3_1]
  simp only [hSub]
  walk_at "dl"
  have hj : ixN [W.d (.int seed), .d (.int (cnt : Nat)), .v (.ref c)].length 1 = some 1 := ixN_one (by simp)
  simp only [setD_own hp hj]
  simp only [List.set_cons_succ, List.set_cons_zero]
  generalize hs1 : U.put s p (.lst [.d (.int seed), .d (.int ((cnt : Int) + 1)), .v (.ref c)]) = s1
  have hp1 : s1 p = some (.lst [.d (.int seed), .d (.int ((cnt : Int) + 1)), .v (.ref c)]) := by rw [← hs1]; exact put_eq
  have hc1 : s1 c = some (intsC cells) := by rw [← hs1, put_ne (Ne.symm hpc)]; exact hc
  have f1 : Pfr s s1 p c := by rw [← hs1]; exact fr1 _
  simp only [dIx_own hp1, ix3_2]
  walk_at "dl"
  have ec : ((cnt : Int) + 1) = ((cnt + 1 : Nat) : Int) := by omega
  cases cells with
  | cons x r =>
    have hc1' : s1 c = some (.lst (W.d (.int x) :: r.map fun i => .d (.int i))) := hc1
    have e1 : (0 : Int) < (((r.map fun i => W.d (.int i)).length + 1 : Nat) : Int) := by omega
    simp only [hc1', List.length_cons, e1, decide_true, if_true, dIx_own hc1', atI_zero, intD_int]
    refine ⟨hm, hdw x, ?_⟩
    simp only [hSub]
    walk_at "dl"
    simp only [setD_own hc1' (ixN_zero (by simp))]
    simp only [List.set_cons_zero]
    generalize hs2 : U.put s1 c (.lst (W.d (.int (x / m)) :: r.map fun i => W.d (.int i))) = s2
    have hp2 : s2 p = some (.lst [.d (.int seed), .d (.int ((cnt : Int) + 1)), .v (.ref c)]) := by rw [← hs2, put_ne hpc]; exact hp1
    have hc2 : s2 c = some (.lst (W.d (.int (x / m)) :: r.map fun i => W.d (.int i))) := by rw [← hs2]; exact put_eq
    have f2 : Pfr s s2 p c := f1.trans (fun y a b => by rw [← hs2]; exact put_ne b)
    simp only [dIx_own hc2, atI_zero]
    try walk_at "dl"
    by_cases hz : ((x / m) == 0) = true
    · simp only [hz, if_true, dPopAt]
      walk_at "dl"
      simp only [isL, ownL, hc2, true_and]
      refine ⟨⟨by decide, by decide⟩, ?_⟩
      show k (.d (.int (x % m))) _
      refine q _ _ (dm x).1 (dm x).2 ⟨seed, cnt + 1, r, h1, h2, by omega, hpc, ?_, ?_⟩ (f2.trans fun y a b => put_ne b)
      · rw [put_ne hpc, ← ec]; exact hp2
      · exact put_eq
    · rw [Bool.not_eq_true] at hz
      simp only [hz, Bool.false_eq_true, if_false]
      refine q _ _ (dm x).1 (dm x).2 ⟨seed, cnt + 1, (x / m) :: r, h1, h2, by omega, hpc, ?_, ?_⟩ f2
      · rw [← ec]; exact hp2
      · exact hc2
  | nil =>
    have hc1' : s1 c = some (.lst []) := hc1
    have e1 : ¬ (0 : Int) < ((0 : Nat) : Int) := by decide
    simp only [hc1', List.length_nil, e1, decide_false, Bool.false_eq_true, if_false, dIx_own hp1, atI_zero, ix3_1, intD_int]
    have hcn : (cnt : Int) < 1000000 := by omega
    refine ⟨mulW_of (by decide) (by decide) (by omega) (by omega), mulW_of (by omega) (by omega) (by decide) (by decide), by decide, .inr (divW_of (by decide) (by decide)), ?_⟩
    generalize hx1 : (seed + 7919 * ((cnt : Int) + 1)) * 48271 % 2147483647 = x1
    have b1 : 0 ≤ x1 ∧ x1 < 2147483647 := by rw [← hx1]; exact ⟨Int.emod_nonneg _ (by decide), Int.emod_lt_of_pos _ (by decide)⟩
    refine ⟨mulW_of (by omega) (by omega) (by omega) (by omega), by decide, .inr (divW_of (by decide) (by decide)), ?_⟩
    generalize hx2 : x1 * (x1 / 1009 + 69621) % 2147483647 = x2
    have b2 : 0 ≤ x2 ∧ x2 < 2147483647 := by rw [← hx2]; exact ⟨Int.emod_nonneg _ (by decide), Int.emod_lt_of_pos _ (by decide)⟩
    refine ⟨mulW_of (by omega) (by omega) (by omega) (by omega), by decide, .inr (divW_of (by decide) (by decide)), hm, ?_⟩
    refine q _ _ (dm _).1 (dm _).2 ⟨seed, cnt + 1, [], h1, h2, by omega, hpc, ?_, hc1'⟩ f1
    rw [← ec]; exact hp1
theorem e_some {p c : Addr} {n : Nat} (h : PoolAt s p c n) (hn : n < 1000000) (xs : List PyData) (h0 : 0 < xs.length) (hl : xs.length ≤ 1000000)
    (q : ∀ s' i (hi : i < xs.length), PoolAt s' p c (n + 1) → Pfr s s' p c → k (.d xs[i]) s') : df__law_some K [.v (.ref p), .d (.list xs)] s k := by
  rw [df__law_some_eq]; unfold d__law_some_
  walk_at "dl"
  simp only [List.length_map]
  refine e_draw h hn _ (by omega) (by omega) fun s' d h1 h2 hp hf => ?_
  obtain ⟨i, rfl⟩ := Int.eq_ofNat_of_zero_le h1
  have hi : i < xs.length := by omega
  rw [dIx_list, U.atI_nat, List.getElem?_eq_getElem hi]
  exact q s' i hi hp hf
theorem cutD_map {α β : Type} (f : α → β) (xs : List α) (lo hi : Option Int) : U.cutD (xs.map f) lo hi = (U.cutD xs lo hi).map f := by
  unfold U.cutD
  rw [List.length_map, List.map_take, List.map_drop]
theorem datas_ints (ns : List Int) : datas (ns.map fun i => W.d (.int i)) = some (ns.map .int) := by
  have := datas_map (ns.map PyData.int)
  rw [List.map_map] at this
  exact this
theorem dSum_ints (ns : List Int) : dSum [.d (.list (ns.map .int))] s k = k (.d (.int ns.sum)) s := by
  unfold dSum dL1
  simp only [lstOf, intsOf_ints]
theorem pool_for {D : DEnds} (ns : List Int) : ∀ (seed : Int) (a : W) (z : Option W), 0 ≤ seed → seed < 2147483647 → (∀ seed z, 0 ≤ seed → seed < 2147483647 → D.nx [some a, some (.d (.int seed)), z] s) →
    forN (hName 2) (zAsg (dOp dMod (dCB (d1 U.intD) (dCons (dOp dAdd (dOp dAdd (dOp dMul (dVar 1) (dC (.int 48271))) (dOp dMod (dCB (d1 U.intD) (dCons (dVar 2) dNil)) (dC (.int 2147483629)))) (dC (.int 11))) dNil)) (dC (.int 2147483647))) (hName 1)) (fun _ => True)
      (ns.map fun i => .d (.int i)) D [some a, some (.d (.int seed)), z] s := by
  induction ns with
  | nil => intro seed a z h0 h1 q; exact ⟨True.intro, q seed z h0 h1⟩
  | cons x r ih =>
    intro seed a z h0 h1 q
    refine ⟨True.intro, ?_⟩
    walk_at "dl"
    refine ⟨mulW_of (by omega) (by omega) (by decide) (by decide), by decide, by decide, ?_⟩
    exact ih _ a _ (Int.emod_nonneg _ (by decide)) (Int.emod_lt_of_pos _ (by decide)) q
theorem pool_cells (p : W → Bool) (g : Int → Int) (l : List Int) : ∃ cells : List Int, ((l.map fun i => W.d (.int i)).filter p).map (fun w => match unD w with | .int i => .d (.int (g i)) | _ => w) = cells.map fun i => W.d (.int i) := by
  induction l with
  | nil => exact ⟨[], rfl⟩
  | cons i r ih =>
    obtain ⟨cells, ih⟩ := ih
    by_cases h : p (.d (.int i)) = true
    · exact ⟨g i :: cells, by rw [List.map_cons, List.filter_cons_of_pos h, List.map_cons, List.map_cons, ih]; rfl⟩
    · exact ⟨cells, by rw [List.map_cons, List.filter_cons_of_neg h, ih]⟩
theorem e_pool (a : Addr) (ns : List Int) (hl : ns.length ≤ 63)
    (q : ∀ s' p c, PoolAt s' p c 0 → (∀ y, s y ≠ none → s' y = s y) → k (.v (.ref p)) s') : df__law_pool K [.s K a ns] s k := by
  rw [df__law_pool_eq]; unfold d__law_pool_
  walk_at "dl"
  simp only [dSlK]
  walk_at "dl"
  refine ⟨a, ns, rfl, ?_⟩
  simp only [dSum_ints, intD_int]
  refine ⟨by decide, ?_⟩
  simp only [dLenK]
  walk_at "dl"
  refine ⟨a, ns, rfl, ?_⟩
  have hm1 : 0 ≤ (U.cutD ns none (some 1)).sum % 1000003 := Int.emod_nonneg _ (by decide)
  have hm2 : (U.cutD ns none (some 1)).sum % 1000003 < 1000003 := Int.emod_lt_of_pos _ (by decide)
  generalize (U.cutD ns none (some 1)).sum % 1000003 = x0 at hm1 hm2 ⊢
  simp only [zFor, jSeq, dSlK]
  walk_at "dl"
  refine ⟨a, ns, rfl, ?_⟩
  simp only [srcOf, List.map_map, Function.comp_def]
  refine pool_for _ _ _ _ (by omega) (by omega) fun seed z hs0 hs1 => ?_
  walk_at "dl"
  simp only [dLstO]
  walk_at "dl"
  simp only [dLcO, jSeq, dSlK]
  walk_at "dl"
  refine ⟨a, ns, rfl, ?_⟩
  simp only [srcOf, List.map_map, Function.comp_def]
  intro c hc
  refine lcN_if (p := fun w => match unD w with | .int i => decide ((1000000000000000000 : Int) ≤ (if i < 0 then -i else i)) | _ => false) (f := fun w => match unD w with | .int i => .d (.int (if i < 0 then -i else i)) | _ => w) ?_ ?_ put_eq ?_
  · intro x hx s k P hk
    obtain ⟨i, _, rfl⟩ := List.mem_map.mp hx
    walk_at "dl"
    refine ⟨⟨by decide, by decide, by decide⟩, ?_⟩
    exact hk
  · simp only [List.length_nil, List.length_map, Nat.zero_add]
    unfold U.cutD
    simp only [List.length_take, List.length_drop]
    omega
  · refine ⟨by decide, ?_⟩
    obtain ⟨cells, e⟩ := pool_cells (fun w => match unD w with | .int i => decide ((1000000000000000000 : Int) ≤ (if i < 0 then -i else i)) | _ => false) (fun i => if i < 0 then -i else i) (U.cutD ns none (some 63))
    rw [List.nil_append, put_put]
    unfold newO
    intro p hp
    rw [e] at hp ⊢
    obtain ⟨n1, hp1⟩ := fresh_put hp
    refine q _ p c ⟨seed, 0, cells, hs0, hs1, Nat.le_refl 0, n1, put_eq, ?_⟩ (fun y hy => ?_)
    · rw [put_ne (Ne.symm n1)]; exact put_eq
    · rw [put_ne (fun e => by rw [e] at hy; exact hy hp1), put_ne (fun e => by rw [e] at hy; exact hy hc)]
theorem erase_map {α β : Type} (f : α → β) : ∀ (l : List α) (i : Nat), (l.map f).eraseIdx i = (l.eraseIdx i).map f
  | [], _ => rfl
  | _ :: _, 0 => rfl
  | x :: r, i + 1 => congrArg (f x :: ·) (erase_map f r i)
theorem erase_perm {α : Type} : ∀ (l : List α) (i : Nat) (h : i < l.length), ([l[i]] ++ l.eraseIdx i).Perm l
  | x :: r, 0, _ => .refl _
  | x :: r, i + 1, h => by
    have h' : i < r.length := by simpa using h
    exact (List.Perm.swap x r[i] _).trans ((erase_perm r i h').cons x)
def mixBody (K : PySem.W.Frag) : DS := zDrop (dAppendT (dVar 3) (dPopAt (dVar 2) (dCall (df__law_draw K) (dCons (dVar 0) (dCons (dCB dLen (dCons (dVar 2) dNil)) dNil)))))
theorem mixed_for {D : DEnds} {p c L M : Addr} (th : Option W) (hLM : L ≠ M) (hLp : L ≠ p) (hLc : L ≠ c) (hMp : M ≠ p) (hMc : M ≠ c) (items : List W) : ∀ (l m : List PyData) (s : Hs) (n : Nat) (z : Option W), items.length = l.length → PoolAt s p c n → n + items.length < 1000000 →
    s L = some (.lst (l.map .d)) → s M = some (.lst (m.map .d)) → m.length + l.length ≤ 10000 →
    (∀ (s' : Hs) (m' : List PyData) (z' : Option W), m'.Perm (m ++ l) → PoolAt s' p c (n + items.length) → s' M = some (.lst (m'.map .d)) → (∀ y, y ≠ p → y ≠ c → y ≠ L → y ≠ M → s' y = s y) → D.nx [some (.v (.ref p)), th, some (.v (.ref L)), some (.v (.ref M)), z'] s') →
    forN (hName 4) (mixBody K) (fun _ => True) items D [some (.v (.ref p)), th, some (.v (.ref L)), some (.v (.ref M)), z] s := by
  induction items with
  | nil =>
    intro l m s n z hl hp hn hL hM hs q
    have : l = [] := List.eq_nil_of_length_eq_zero hl.symm
    subst this
    exact ⟨True.intro, q s m z (by rw [List.append_nil]) hp hM (fun _ _ _ _ _ => rfl)⟩
  | cons x r ih =>
    intro l m s n z hl hp hn hL hM hs q
    refine ⟨True.intro, ?_⟩
    simp only [List.length_cons] at hl hn
    unfold mixBody
    walk_at "dl"
    simp only [dAppendT]
    walk_at "dl"
    simp only [isL, hM, true_and, dPopAt]
    walk_at "dl"
    simp only [isL, hL, true_and, List.length_map]
    refine e_draw hp (by omega) _ (by omega) (by omega) fun s1 d h1 h2 hp1 hf1 => ?_
    obtain ⟨i, rfl⟩ := Int.eq_ofNat_of_zero_le h1
    have hi : i < l.length := by omega
    have hL1 : s1 L = some (.lst (l.map .d)) := by rw [hf1 L hLp hLc]; exact hL
    have hM1 : s1 M = some (.lst (m.map .d)) := by rw [hf1 M hMp hMc]; exact hM
    simp only [ownL, hL1]
    refine ⟨⟨by omega, by omega⟩, ?_⟩
    rw [Int.toNat_natCast, List.getElem?_map, List.getElem?_eq_getElem hi]
    simp only [Option.map_some]
    rw [put_ne (Ne.symm hLM), hM1]
    refine ⟨by simp; omega, ?_⟩
    have e1 : (l.map W.d).eraseIdx i = (l.eraseIdx i).map W.d := erase_map _ _ _
    have e2 : m.map W.d ++ [W.d l[i]] = (m ++ [l[i]]).map W.d := by rw [List.map_append]; rfl
    rw [e1, e2]
    refine ih (l.eraseIdx i) (m ++ [l[i]]) _ (n + 1) _ ?_ ((hp1.put hLp hLc _).put hMp hMc _) (by omega) ?_ put_eq ?_ fun s' m' z' hm' hp' hM' hf' => ?_
    · rw [List.length_eraseIdx_of_lt hi]; omega
    · rw [put_ne hLM]; exact put_eq
    · rw [List.length_append, List.length_eraseIdx_of_lt hi]; simp; omega
    · refine q s' m' z' (hm'.trans ?_) (by rw [List.length_cons]; rw [show n + (r.length + 1) = n + 1 + r.length by omega]; exact hp') hM' fun y a1 a2 a3 a4 => ?_
      · rw [List.append_assoc]
        refine List.Perm.append_left m ?_
        exact erase_perm l i hi
      · rw [hf' y a1 a2 a3 a4, put_ne a4, put_ne a3]; exact hf1 y a1 a2
theorem e_mixed {p c : Addr} {n : Nat} (h : PoolAt s p c n) (xs : List PyData) (hn : n + xs.length < 1000000) (hl : xs.length ≤ 1000)
    (q : ∀ (s' : Hs) (ys : List PyData), ys.Perm xs → PoolAt s' p c (n + xs.length) → Pfr s s' p c → k (.d (.list ys)) s') : df__law_mixed K [.v (.ref p), .d (.list xs)] s k := by
  rw [df__law_mixed_eq]; unfold d__law_mixed_
  walk_at "dl"
  simp only [dListO, seqOf]
  unfold newO
  intro L hL
  simp only [dLstO]
  walk_at "dl"
  refine ⟨by decide, ?_⟩
  unfold newO
  intro M hM
  obtain ⟨nML, hM0⟩ := fresh_put hM
  obtain ⟨hLp, hLc⟩ := h.ne hL
  obtain ⟨hMp, hMc⟩ := h.ne hM0
  simp only [zFor, jRng1]
  walk_at "dl"
  simp only [List.length_map]
  refine ⟨⟨by omega, by omega⟩, ?_⟩
  have hr : (rngW 0 ((xs.length : Nat) : Int).toNat).length = xs.length := by unfold rngW; simp
  refine mixed_for (p := p) (c := c) _ (Ne.symm nML) hLp hLc hMp hMc _ xs [] _ n none hr ((h.put hLp hLc _).put hMp hMc _) (by omega) ?_ put_eq (by simp; omega) fun s' m' z' hm' hp' hM' hf' => ?_
  · rw [put_ne (Ne.symm nML)]; exact put_eq
  · walk_at "dl"
    simp only [dFrz]
    walk_at "dl"
    simp only [hM', datas_map]
    rw [hr] at hp'
    refine ⟨U.del (U.del s' M) L, fun y c hy => ?_, q _ m' (by rw [List.nil_append] at hm'; exact hm') ?_ fun y a1 a2 => ?_⟩
    · unfold U.del at hy ⊢
      by_cases e1 : y = L
      · rw [if_pos e1] at hy; cases hy
      · rw [if_neg e1] at hy; exact hy
    · obtain ⟨seed, cnt, cells, g1, g2, g3, g4, g5, g6⟩ := hp'
      refine ⟨seed, cnt, cells, g1, g2, g3, g4, ?_, ?_⟩
      · unfold U.del; rw [if_neg (Ne.symm hLp), if_neg (Ne.symm hMp)]; exact g5
      · unfold U.del; rw [if_neg (Ne.symm hLc), if_neg (Ne.symm hMc)]; exact g6
    · unfold U.del
      by_cases e1 : y = L
      · rw [if_pos e1, e1]; exact hL.symm
      · rw [if_neg e1]
        by_cases e2 : y = M
        · rw [if_pos e2, e2]; exact hM0.symm
        · rw [if_neg e2, hf' y a1 a2 e1 e2, put_ne e2, put_ne e1]
end
end G

set_option maxHeartbeats 400000
namespace G
open PySem PySem.Spec PyProof.Rows L2 U
/-! ### rows that are a program -/
def Row.ok2 (many : Nat) : Row → Bool
  | .set x n => decide (x < 10) && decide (-1000000000 ≤ n) && decide (n ≤ 1000000000)
  | .copy x y => decide (x < 10) && decide (y < 10)
  | .add x y z => decide (x < 10) && decide (y < 10) && decide (z < 10)
  | .load x ps b => decide (x < 10) && (ps.all fun p => decide (p < 10)) && decide (ps.length ≤ 6) && decide (b ≤ 6)
  | .make x y => decide (x < 10) && decide (y < 10)
  | .kind x y => decide (x < 10) && decide (y < 10)
  | .write x y f z => decide (x < 10) && decide (y < 10) && decide (f < 6) && decide (z < 10)
  | .read x y z f => decide (x < 10) && decide (y < 10) && decide (z < 10) && decide (f < 6)
  | .is_ x y t => decide (x < 10) && decide (y < 10) && decide (t ≤ many)
  | .less x y t => decide (x < 10) && decide (y < 10) && decide (t ≤ many)
  | .go t => decide (t ≤ many)
  | .show_ x => decide (x < 10)
theorem ok2_Ok {many : Nat} {row : Row} (h : row.ok2 many = true) : row.Ok many := by
  cases row <;> simp only [Row.ok2, Bool.and_eq_true, decide_eq_true_eq, List.all_eq_true] at h <;> simp only [Row.Ok]
  case set x n => exact h.1.1
  case load x ps b => exact ⟨h.1.1.1, h.1.1.2, h.1.2, h.2⟩
  all_goals (first | exact h | exact ⟨h.1.1, h.1.2, h.2⟩ | exact ⟨h.1.1.1, h.1.1.2, h.1.2, h.2⟩)
theorem partD_x (y : PyData) (m : Int) : partD "x" y m = withinD y 0 9 := by unfold partD; rw [if_pos (by decide)]
theorem partD_n (y : PyData) (m : Int) : partD "n" y m = withinD y (-1000000000) 1000000000 := by unfold partD; rw [if_neg (by decide), if_pos (by decide)]
theorem partD_p (y : PyData) (m : Int) : partD "p" y m = regsD y := by unfold partD; rw [if_neg (by decide), if_neg (by decide), if_pos (by decide)]
theorem partD_t (y : PyData) (m : Int) : partD "t" y m = withinD y 0 m := by unfold partD; rw [if_neg (by decide), if_neg (by decide), if_neg (by decide), if_pos (by decide)]
theorem partD_b (y : PyData) (m : Int) : partD "b" y m = withinD y 0 6 := by unfold partD; rw [if_neg (by decide), if_neg (by decide), if_neg (by decide), if_neg (by decide), if_pos (by decide)]
theorem partD_f (y : PyData) (m : Int) : partD "f" y m = withinD y 0 5 := by unfold partD; rw [if_neg (by decide), if_neg (by decide), if_neg (by decide), if_neg (by decide), if_neg (by decide)]
theorem within_nD (n m : Nat) : withinD (nD n) 0 (m : Int) = decide (n ≤ m) := by
  show (decide ((0 : Int) ≤ (n : Int)) && decide ((n : Int) ≤ (m : Int))) = _
  rw [Bool.eq_iff_iff]; simp
theorem within_9 (n : Nat) : withinD (nD n) 0 9 = decide (n < 10) := by have := within_nD n 9; rw [show ((9 : Nat) : Int) = 9 from rfl] at this; rw [this, Bool.eq_iff_iff]; simp; omega
theorem within_6 (n : Nat) : withinD (nD n) 0 6 = decide (n ≤ 6) := within_nD n 6
theorem within_5 (n : Nat) : withinD (nD n) 0 5 = decide (n < 6) := by have := within_nD n 5; rw [show ((5 : Nat) : Int) = 5 from rfl] at this; rw [this, Bool.eq_iff_iff]; simp; omega
theorem regsD_nats (ps : List Nat) : regsD (.tuple (natsD ps)) = (decide (ps.length ≤ 6) && ps.all fun p => decide (p < 10)) := by
  unfold regsD natsD
  simp only [List.length_map, List.all_map]
  congr 1
  congr 1
  funext p
  exact within_9 p
theorem rowD_of {w : Str} {form : Str} {ss : List Str} {xs : List PyData} {many : Int} (h : kv_FORMS.lookup w = some (.str form)) (hs : signsS form = ss) (hl : form.length = ss.length) : rowD (.tuple (.str w :: xs)) many = (xs.length == ss.length && partsD ss xs many) := by
  unfold rowD
  simp only [h, hs, hl]
theorem ok2_rowD {many : Nat} {row : Row} (h : row.ok2 many = true) : rowD row.d (many : Int) = true := by
  cases row <;> simp only [Row.ok2] at h <;> unfold Row.d
  case set x n => rw [rowD_of (form := "xn") (ss := ["x", "n"]) (by rfl) (by decide) (by decide)]; simp only [partsD, List.zip_cons_cons, List.zip_nil_right, List.all_cons, List.all_nil, partD_x, partD_n, within_9, List.length_cons, List.length_nil, BEq.rfl, Bool.true_and, Bool.and_true]; simpa [withinD, Bool.and_assoc] using h
  case copy x y => rw [rowD_of (form := "xx") (ss := ["x", "x"]) (by rfl) (by decide) (by decide)]; simpa [partsD, partD_x, within_9] using h
  case add x y z => rw [rowD_of (form := "xxx") (ss := ["x", "x", "x"]) (by rfl) (by decide) (by decide)]; simpa [partsD, partD_x, within_9, Bool.and_assoc] using h
  case load x ps b =>
    rw [rowD_of (form := "xpb") (ss := ["x", "p", "b"]) (by rfl) (by decide) (by decide)]
    simp only [Bool.and_eq_true, decide_eq_true_eq] at h
    simp only [partsD, List.zip_cons_cons, List.zip_nil_right, List.all_cons, List.all_nil, partD_x, partD_p, partD_b, within_9, within_6, regsD_nats, h.1.1.1, h.1.1.2, h.1.2, h.2, decide_true, Bool.and_true, List.length_cons, List.length_nil, BEq.rfl]
  case make x y => rw [rowD_of (form := "xx") (ss := ["x", "x"]) (by rfl) (by decide) (by decide)]; simpa [partsD, partD_x, within_9] using h
  case kind x y => rw [rowD_of (form := "xx") (ss := ["x", "x"]) (by rfl) (by decide) (by decide)]; simpa [partsD, partD_x, within_9] using h
  case write x y f z => rw [rowD_of (form := "xxfx") (ss := ["x", "x", "f", "x"]) (by rfl) (by decide) (by decide)]; simpa [partsD, partD_x, partD_f, within_9, within_5, Bool.and_assoc] using h
  case read x y z f => rw [rowD_of (form := "xxxf") (ss := ["x", "x", "x", "f"]) (by rfl) (by decide) (by decide)]; simpa [partsD, partD_x, partD_f, within_9, within_5, Bool.and_assoc] using h
  case is_ x y t => rw [rowD_of (form := "xxt") (ss := ["x", "x", "t"]) (by rfl) (by decide) (by decide)]; simpa [partsD, partD_x, partD_t, within_9, within_nD, Bool.and_assoc] using h
  case less x y t => rw [rowD_of (form := "xxt") (ss := ["x", "x", "t"]) (by rfl) (by decide) (by decide)]; simpa [partsD, partD_x, partD_t, within_9, within_nD, Bool.and_assoc] using h
  case go t => rw [rowD_of (form := "t") (ss := ["t"]) (by rfl) (by decide) (by decide)]; simpa [partsD, partD_t, within_nD] using h
  case show_ x => rw [rowD_of (form := "x") (ss := ["x"]) (by rfl) (by decide) (by decide)]; simpa [partsD, partD_x, within_9] using h
theorem firstBad_none {many : Int} : ∀ {xs : List PyData} {i : Nat}, (∀ x ∈ xs, rowD x many = true) → firstBad many xs i = none
  | [], _, _ => rfl
  | x :: r, i, h => by
    unfold firstBad
    rw [if_pos (h x List.mem_cons_self)]
    exact firstBad_none fun y hy => h y (List.mem_cons_of_mem _ hy)
/-- they are rows of a program of so many rows -/
def okRows (rows : List Row) : Bool := decide (rows.length ≤ 60) && rows.all fun r => r.ok2 rows.length
theorem progD_rows {rows : List Row} (h : okRows rows = true) : progD (rowsD rows) = true := by
  simp only [okRows, Bool.and_eq_true, decide_eq_true_eq, List.all_eq_true] at h
  unfold progD rowsD badD
  simp only [List.length_map, h.1, if_true]
  rw [firstBad_none fun x hx => by
    obtain ⟨row, hr, rfl⟩ := List.mem_map.mp hx
    exact ok2_rowD (h.2 row hr)]
  rfl
theorem okRows_Ok {rows : List Row} (h : okRows rows = true) : ∀ row ∈ rows, row.Ok rows.length := by
  simp only [okRows, Bool.and_eq_true, decide_eq_true_eq, List.all_eq_true] at h
  exact fun row hr => ok2_Ok (h.2 row hr)
/-! ### what is shown, and how it ends -/
def outR (rows : List Row) (n : Nat) : List Rv × Nat × Bool := ((runR rows n S0 0).1.vals, (runR rows n S0 0).2.1, (runR rows n S0 0).2.2)
def endP (many : Nat) (q : List Rv × Nat × Bool) : PyData := .tuple [.list (q.1.map Rv.d), if q.2.2 = true then .tuple [.str "fault", nD q.2.1] else if q.2.1 = many then .tuple [.str "end"] else .tuple [.str "most", nD q.2.1]]
/-! ### computed -/
instance decRv : DecidableEq Rv
  | .int i, .int j => if h : i = j then .isTrue (by rw [h]) else .isFalse fun e => h (by cases e; rfl)
  | .kind i, .kind j => if h : i = j then .isTrue (by rw [h]) else .isFalse fun e => h (by cases e; rfl)
  | .obj i, .obj j => if h : i = j then .isTrue (by rw [h]) else .isFalse fun e => h (by cases e; rfl)
  | .int _, .kind _ => .isFalse fun e => nomatch e
  | .int _, .obj _ => .isFalse fun e => nomatch e
  | .kind _, .int _ => .isFalse fun e => nomatch e
  | .kind _, .obj _ => .isFalse fun e => nomatch e
  | .obj _, .int _ => .isFalse fun e => nomatch e
  | .obj _, .kind _ => .isFalse fun e => nomatch e
def insN (x : Nat) : List Nat → List Nat
  | [] => [x]
  | y :: r => if x ≤ y then x :: y :: r else y :: insN x r
def isortN : List Nat → List Nat
  | [] => []
  | x :: r => insN x (isortN r)
theorem insN_perm (x : Nat) : ∀ r : List Nat, (insN x r).Perm (x :: r)
  | [] => .refl _
  | y :: r => by
    unfold insN
    split
    · exact .refl _
    · exact ((insN_perm x r).cons y).trans (.swap x y r)
theorem isortN_perm : ∀ r : List Nat, (isortN r).Perm r
  | [] => .refl _
  | x :: r => (insN_perm x _).trans ((isortN_perm r).cons x)
theorem insN_sorted (x : Nat) : ∀ r : List Nat, r.Pairwise (· ≤ ·) → (insN x r).Pairwise (· ≤ ·)
  | [], _ => List.pairwise_singleton _ _
  | y :: r, h => by
    unfold insN
    split
    · rename_i hxy
      refine List.pairwise_cons.mpr ⟨fun z hz => ?_, h⟩
      rcases List.mem_cons.mp hz with rfl | hz
      · exact hxy
      · exact Nat.le_trans hxy ((List.pairwise_cons.mp h).1 z hz)
    · rename_i hxy
      refine List.pairwise_cons.mpr ⟨fun z hz => ?_, insN_sorted x r (List.pairwise_cons.mp h).2⟩
      rcases List.mem_cons.mp ((insN_perm x r).mem_iff.mp hz) with rfl | hz
      · omega
      · exact (List.pairwise_cons.mp h).1 z hz
theorem isortN_sorted : ∀ r : List Nat, (isortN r).Pairwise (· ≤ ·)
  | [] => .nil
  | x :: r => insN_sorted x _ (isortN_sorted r)
theorem map_inj_cast {a b : List Nat} (h : (a.map fun n : Nat => (n : Int)) = b.map fun n : Nat => (n : Int)) : a = b := by
  have := congrArg (List.map Int.toNat) h
  simpa [List.map_map, Function.comp_def] using this
theorem sortN_isort (ns : List Nat) : sortN ns = isortN ns := by
  have h := sorted_unique (ns := ns) (zs := (isortN ns).map fun n : Nat => (n : Int)) ((isortN_perm ns).map _) (List.pairwise_map.mpr ((isortN_sorted ns).imp fun h => by omega))
  exact (map_inj_cast h).symm
theorem sortN_of_perm {a b : List Nat} (h : a.Perm b) : sortN a = sortN b := by
  have := sorted_unique (ns := b) (zs := (sortN a).map fun n : Nat => (n : Int)) (((sortN_perm a).trans h).map _) (by
    rw [sortN_isort]; exact List.pairwise_map.mpr ((isortN_sorted a).imp fun h => by omega))
  exact map_inj_cast this
def stepC (S : RS) (at_ : Nat) (row : Row) : Option (Nat × RS) := match row with
  | .load x ps b => match ksOf (numsOf S.regs ps) with
    | some ks => if S.V.parents.length = 400 then none else some (at_ + 1, { S.put x (.kind S.V.parents.length) with V := S.V.addKind (isortN ks) b })
    | none => none
  | row => stepR S at_ row
theorem stepC_eq (S : RS) (at_ : Nat) (row : Row) : stepR S at_ row = stepC S at_ row := by
  cases row <;> first | rfl | (simp only [stepR, stepC, sortN_isort] <;> rfl)
def runC (rows : List Row) : Nat → RS → Nat → RS × Nat × Bool
  | 0, S, at_ => (S, at_, false)
  | n + 1, S, at_ => match rows[at_]? with
    | none => (S, at_, false)
    | some row => match stepC S at_ row with
      | none => (S, at_, true)
      | some q => runC rows n q.2 q.1
theorem runC_eq (rows : List Row) : ∀ (n : Nat) (S : RS) (at_ : Nat), runR rows n S at_ = runC rows n S at_
  | 0, _, _ => rfl
  | n + 1, S, at_ => by
    unfold runR runC
    cases rows[at_]? with
    | none => rfl
    | some row =>
      simp only [stepC_eq]
      cases stepC S at_ row with
      | none => rfl
      | some q => exact runC_eq rows n q.2 q.1
def outC (rows : List Row) (n : Nat) : List Rv × Nat × Bool := ((runC rows n S0 0).1.vals, (runC rows n S0 0).2.1, (runC rows n S0 0).2.2)
theorem outC_eq (rows : List Row) (n : Nat) : outR rows n = outC rows n := by unfold outR outC; rw [runC_eq]
/-- parents in any order -/
theorem step_perm {ps qs : List Nat} (h : ps.Perm qs) (S : RS) (at_ x b : Nat) : stepR S at_ (.load x ps b) = stepR S at_ (.load x qs b) := by
  have hp : (numsOf S.regs ps).Perm (numsOf S.regs qs) := h.map _
  have ha : (numsOf S.regs ps).any Option.isNone = (numsOf S.regs qs).any Option.isNone := hp.any_eq
  have hm : ((numsOf S.regs ps).map fun o => o.getD 0).Perm ((numsOf S.regs qs).map fun o => o.getD 0) := hp.map _
  have hn := hm.nodup_iff
  simp only [stepR]
  unfold ksOf
  rw [ha]
  by_cases h1 : (numsOf S.regs qs).any Option.isNone = true
  · simp only [h1, if_true]
  · simp only [h1, if_false, Bool.false_eq_true]
    by_cases h2 : ((numsOf S.regs qs).map fun o => o.getD 0).Nodup
    · have h3 := hn.mpr h2
      simp only [h2, h3, if_true, sortN_of_perm hm]
    · rw [if_neg h2, if_neg (fun z => h2 (hn.mp z))]
theorem run_congr {rows rows' : List Row} (hl : rows.length = rows'.length) (h : ∀ (i : Nat) (a b : Row), rows[i]? = some a → rows'[i]? = some b → ∀ S at_, stepR S at_ a = stepR S at_ b) :
    ∀ (n : Nat) (S : RS) (at_ : Nat), runR rows n S at_ = runR rows' n S at_
  | 0, _, _ => rfl
  | n + 1, S, at_ => by
    unfold runR
    cases e : rows[at_]? with
    | none =>
      have : rows'[at_]? = none := by rw [List.getElem?_eq_none_iff] at e ⊢; omega
      rw [this]
    | some a =>
      have hlt : at_ < rows'.length := by have := (List.getElem?_eq_some_iff.mp e).1; omega
      have e' : rows'[at_]? = some rows'[at_] := List.getElem?_eq_getElem hlt
      rw [e']
      simp only [h at_ a _ e e']
      cases stepR S at_ rows'[at_] with
      | none => rfl
      | some q => exact run_congr hl h n q.2 q.1
end G

set_option maxHeartbeats 400000
namespace G
open PySem PySem.Spec PyProof.Rows L2 U
/-- a block, one statement at a time -/
def zLater (u : DS) (D : DEnds) (δ : DEnv) (s : Hs) : Prop := u D δ s
theorem zSeq_later (t u : DS) (D : DEnds) (δ : DEnv) (s : Hs) : zSeq t u D δ s = t { D with nx := zLater u D } δ s := rfl
theorem dTupC_list {xs : List PyData} {s : Hs} {k : DK} : dTupC [.d (.list xs)] s k = k (.d (.tuple xs)) s := by
  unfold dTupC
  simp only [lstOf]
local macro_rules | `(tactic| walk_at "dl") => `(tactic| simp only [dfOf, dfOfX, startD, List.map_cons, List.map_nil, List.length_cons, List.length_nil, List.cons_append, List.nil_append, List.replicate, Nat.zero_add, Nat.reduceAdd, Nat.reduceSub, true_and,
  zNext, zSeq_later, zRet, zDrop, zIf, zAsg, zPar, zAug, dVar, dC, dV, dOp, dNeg, dNil, dCons, dTest, dTru, dAnd, dOr, dNot, dYes, dAndV, dOrV, dNotV, dIf, dChain, dCB, dCall, dIsin, tkD, truD, dCmp, dLt, dLe, dGt, dGe, dMod, dDiv, dPow, dSub, dI2, hName, hTup, hCons, hNil, wipeD, dPart, dNoPart, dSl, lstOf, asD, seqOf,
  dEq_int, dNe_int, dIs, dIsNot, isNone, dLen, lenD, dAdd, dMul, dTup, dLst, newT, newL, datas, dIx_tup, dIx_list, atI_zero, dKGet, dTupC_list, intD_int, intD_bool, absD_int, Option.map_some, dIAdd, d1, eqv_int, eqv_str, eqOk_int, eqOk_str,
  List.getElem?_cons_zero, List.getElem?_cons_succ, List.set_cons_zero, List.set_cons_succ, if_true, Bool.false_eq_true, if_false, reduceIte, Bool.not_true, Bool.not_false])
local macro_rules | `(tactic| walk_at "nums") => `(tactic| (repeat ((with_reducible refine And.intro ?hnum ?_); case hnum => first | decide | exact mulW_abs (by decide) (by decide) | exact ⟨by decide, by decide, by decide⟩)))
local macro_rules | `(tactic| walk_at "go") => `(tactic| (rw [zLater]; walk_at "dl"; walk_at "nums"))
section
variable {K : PySem.W.Frag} {s : Hs} {k : DK}
theorem dEq_same {x : PyData} (h : SeqAt.shaped x = true) (q : k (.d (.bool true)) s) : dEq (.d x) (.d x) s k := by
  unfold dEq
  simp only [asD]
  refine ⟨by unfold eqOk; rw [h]; simp, ?_⟩
  rw [SeqAt.eqv_refl x (SeqAt.canLay_of_shaped h)]
  exact q
theorem depth_Rv (v : Rv) : v.d.depth ≤ 1 ∧ v.d.canLay0 = true := by
  cases v <;> simp only [Rv.d, PyData.depth, PyData.depthAll, PyData.canLay0, PyData.canLayAll0, Bool.and_true] <;> refine ⟨by decide, ?_⟩ <;> first | rfl | decide +kernel
theorem depth_Rvs (vs : List Rv) : PyData.depthAll (vs.map Rv.d) ≤ 1 ∧ PyData.canLayAll0 (vs.map Rv.d) = true := by
  induction vs with
  | nil => exact ⟨by decide, by simp only [List.map_nil, PyData.canLayAll0]⟩
  | cons v r ih =>
    obtain ⟨a, b⟩ := depth_Rv v
    simp only [List.map_cons, PyData.depthAll, PyData.canLayAll0]
    exact ⟨Nat.max_le.mpr ⟨a, ih.1⟩, by rw [b, ih.2]; rfl⟩
theorem shaped_pair {vs : List Rv} {x : PyData} (h1 : x.depth ≤ 1) (h2 : x.canLay0 = true) : SeqAt.shaped (.tuple [.list (vs.map Rv.d), x]) = true := by
  obtain ⟨a, b⟩ := depth_Rvs vs
  unfold SeqAt.shaped
  rw [Bool.and_eq_true, decide_eq_true_eq]
  constructor
  · simp only [PyData.canLay0, PyData.canLayAll0, b, h2, Bool.and_true]
  · simp only [PyData.depth, PyData.depthAll]
    omega
theorem endP_shaped (m : Nat) (q : List Rv × Nat × Bool) : SeqAt.shaped (endP m q) = true := by
  unfold endP
  split
  · exact shaped_pair (by simp only [nD, PyData.depth, PyData.depthAll]; omega) (by simp only [nD, PyData.canLay0, PyData.canLayAll0, Bool.and_true]; decide +kernel)
  · split
    · exact shaped_pair (by simp only [nD, PyData.depth, PyData.depthAll]; omega) (by simp only [nD, PyData.canLay0, PyData.canLayAll0, Bool.and_true]; decide +kernel)
    · exact shaped_pair (by simp only [nD, PyData.depth, PyData.depthAll]; omega) (by simp only [nD, PyData.canLay0, PyData.canLayAll0, Bool.and_true]; decide +kernel)
end
end G

set_option maxHeartbeats 400000
namespace G
open PySem PySem.Spec PyProof.Rows L2 U
local macro_rules | `(tactic| walk_at "dl") => `(tactic| simp only [dfOf, dfOfX, startD, List.map_cons, List.map_nil, List.length_cons, List.length_nil, List.cons_append, List.nil_append, List.replicate, Nat.zero_add, Nat.reduceAdd, Nat.reduceSub, true_and,
  zNext, zSeq_later, zRet, zDrop, zIf, zAsg, zPar, zAug, dVar, dC, dV, dOp, dNeg, dNil, dCons, dTest, dTru, dAnd, dOr, dNot, dYes, dAndV, dOrV, dNotV, dIf, dChain, dCB, dCall, dIsin, tkD, truD, dCmp, dLt, dLe, dGt, dGe, dMod, dDiv, dPow, dSub, dI2, hName, hTup, hCons, hNil, wipeD, dPart, dNoPart, dSl, lstOf, asD, seqOf,
  dEq_int, dNe_int, dIs, dIsNot, isNone, dLen, lenD, dAdd, dMul, dTup, dLst, newT, newL, datas, dIx_tup, dIx_list, atI_zero, dKGet, dTupC_list, intD_int, intD_bool, absD_int, Option.map_some, dIAdd, d1, eqv_int, eqv_str, eqOk_int, eqOk_str,
  List.getElem?_cons_zero, List.getElem?_cons_succ, List.set_cons_zero, List.set_cons_succ, if_true, Bool.false_eq_true, if_false, reduceIte, Bool.not_true, Bool.not_false])
local macro_rules | `(tactic| walk_at "nums") => `(tactic| (repeat ((with_reducible refine And.intro ?hnum ?_); case hnum => first | decide | exact mulW_abs (by decide) (by decide) | exact ⟨by decide, by decide, by decide⟩)))
local macro_rules | `(tactic| walk_at "go") => `(tactic| (rw [zLater]; walk_at "dl"; walk_at "nums"))
section
variable {K : PySem.W.Frag} {s : Hs} {k : DK}
/-! ### the law's own machine: a dict of its parts -/
structure LS where
  at_ : Nat := 0
  fault : Bool := false
  held : List Rv := List.replicate 10 (.int 0)
  shown : List Rv := []
  parents : List (List Nat) := []
  brought : List Nat := []
  above : List (List Nat) := []
  kinds : List Nat := []
  cells : List (List ((Nat × Nat) × PyData)) := []
structure LA where
  st : Addr
  h : Addr
  v : Addr
  p : Addr
  b : Addr
  a : Addr
  k : Addr
  c : Addr
  as : List Addr
  cs : List Addr
def LA.all (a : LA) : List Addr := a.st :: a.h :: a.v :: a.p :: a.b :: a.a :: a.k :: a.c :: (a.as ++ a.cs)
def stW (at_ : Nat) (fault : Bool) (a : LA) : List (Key × W) := [(.inr "at", .d (nD at_)), (.inr "fault", .d (.bool fault)), (.inr "held", .v (.ref a.h)), (.inr "shown", .v (.ref a.v)), (.inr "parents", .v (.ref a.p)), (.inr "brought", .v (.ref a.b)), (.inr "above", .v (.ref a.a)), (.inr "kinds", .v (.ref a.k)), (.inr "cells", .v (.ref a.c))]
structure LAt (s : Hs) (a : LA) (L : LS) : Prop where
  hst : s a.st = some (.dK (stW L.at_ L.fault a))
  hh : s a.h = some (regsC L.held)
  hv : s a.v = some (regsC L.shown)
  hp : s a.p = some (.lst (L.parents.map fun ps => .d (.tuple (natsD ps))))
  hb : s a.b = some (.lst (natsW L.brought))
  ha : s a.a = some (.lst (a.as.map fun x => .v (.ref x)))
  hk : s a.k = some (.lst (natsW L.kinds))
  hc : s a.c = some (.lst (a.cs.map fun x => .v (.ref x)))
  has : Paired (fun x l => s x = some (foundK l)) a.as L.above
  hcs : Paired (fun x l => s x = some (.dT (cellsW l))) a.cs L.cells
  nd : a.all.Nodup
/-- what is not its own stands -/
def LFr (s s' : Hs) (a : LA) : Prop := ∀ y c, y ∉ a.all → s y = some c → s' y = some c
theorem LFr.refl (s : Hs) (a : LA) : LFr s s a := fun _ _ _ h => h
theorem LFr.trans {s s1 s2 : Hs} {a : LA} (h : LFr s s1 a) (h' : LFr s1 s2 a) : LFr s s2 a := fun y c hy e => h' y c hy (h y c hy e)
theorem paired_frame {α β : Type} {f : β → Cell} {xs : List Addr} {ys : List β} {s s' : Hs} (h : Paired (fun x l => s x = some (f l)) xs ys) (e : ∀ x ∈ xs, s' x = s x) : Paired (fun x l => s' x = some (f l)) xs ys := by
  induction h with
  | nil => exact .nil
  | @cons a b as bs h t ih => exact .cons (by rw [e a List.mem_cons_self]; exact h) (ih fun x hx => e x (List.mem_cons_of_mem _ hx))
theorem LAt.frame {s s' : Hs} {a : LA} {L : LS} (h : LAt s a L) (e : ∀ x ∈ a.all, s' x = s x) : LAt s' a L := by
  have m : ∀ x, x ∈ a.as ∨ x ∈ a.cs → x ∈ a.all := fun x hx => by
    simp only [LA.all, List.mem_cons, List.mem_append]
    exact .inr (.inr (.inr (.inr (.inr (.inr (.inr (.inr hx)))))))
  refine ⟨?_, ?_, ?_, ?_, ?_, ?_, ?_, ?_, paired_frame (α := Nat) h.has fun x hx => e x (m x (.inl hx)), paired_frame (α := Nat) h.hcs fun x hx => e x (m x (.inr hx)), h.nd⟩
  · rw [e _ (by simp [LA.all])]; exact h.hst
  · rw [e _ (by simp [LA.all])]; exact h.hh
  · rw [e _ (by simp [LA.all])]; exact h.hv
  · rw [e _ (by simp [LA.all])]; exact h.hp
  · rw [e _ (by simp [LA.all])]; exact h.hb
  · rw [e _ (by simp [LA.all])]; exact h.ha
  · rw [e _ (by simp [LA.all])]; exact h.hk
  · rw [e _ (by simp [LA.all])]; exact h.hc
theorem dIx_key {p : Addr} {kvs : List (Key × W)} {z : Str} {w : W} (h : s p = some (.dK kvs)) (hv : valW kvs (.inr z) = some w) : dIx (.v (.ref p)) (.d (.str z)) s k = k w s := by
  unfold dIx seqOf
  simp only [h, U.getD, keyOf, Option.map_some, hv]
section
variable {a : LA} {L : LS}
theorem st_at (h : LAt s a L) : dIx (.v (.ref a.st)) (.d (.str "at")) s k = k (.d (.int (L.at_ : Nat))) s := dIx_key h.hst rfl
theorem st_fault (h : LAt s a L) : dIx (.v (.ref a.st)) (.d (.str "fault")) s k = k (.d (.bool L.fault)) s := dIx_key h.hst rfl
theorem st_held (h : LAt s a L) : dIx (.v (.ref a.st)) (.d (.str "held")) s k = k (.v (.ref a.h)) s := dIx_key h.hst rfl
theorem st_shown (h : LAt s a L) : dIx (.v (.ref a.st)) (.d (.str "shown")) s k = k (.v (.ref a.v)) s := dIx_key h.hst rfl
theorem st_parents (h : LAt s a L) : dIx (.v (.ref a.st)) (.d (.str "parents")) s k = k (.v (.ref a.p)) s := dIx_key h.hst rfl
theorem st_brought (h : LAt s a L) : dIx (.v (.ref a.st)) (.d (.str "brought")) s k = k (.v (.ref a.b)) s := dIx_key h.hst rfl
theorem st_above (h : LAt s a L) : dIx (.v (.ref a.st)) (.d (.str "above")) s k = k (.v (.ref a.a)) s := dIx_key h.hst rfl
theorem st_kinds (h : LAt s a L) : dIx (.v (.ref a.st)) (.d (.str "kinds")) s k = k (.v (.ref a.k)) s := dIx_key h.hst rfl
theorem st_cells (h : LAt s a L) : dIx (.v (.ref a.st)) (.d (.str "cells")) s k = k (.v (.ref a.c)) s := dIx_key h.hst rfl
end
/-! ### the sort of a value -/
def sortR : Rv → Str
  | .int _ => "integer"
  | .kind _ => "kind"
  | .obj _ => "object"
theorem e_sort (v : Rv) (q : k (.d (.str (sortR v))) s) : df__law_sort K [.d v.d] s k := by
  rw [df__law_sort_eq]; unfold d__law_sort_
  walk_at "dl"
  cases v with
  | int i => simp only [Rv.d, tkP, isTk, Bool.false_eq_true, if_false]; exact q
  | kind n =>
    simp only [Rv.d, tkP, isTk, if_true]
    walk_at "dl"
    exact q
  | obj n =>
    simp only [Rv.d, tkP, isTk, if_true]
    walk_at "dl"
    exact q
/-! ### a new kind -/
def mergeN (l m : List Nat) : List Nat := m.foldl (fun acc x => if x ∈ acc then acc else acc ++ [x]) l
theorem mergeN_mem (m : List Nat) : ∀ (l : List Nat) (x : Nat), x ∈ mergeN l m ↔ x ∈ l ∨ x ∈ m := by
  induction m with
  | nil => intro l x; simp [mergeN]
  | cons y r ih =>
    intro l x
    show x ∈ mergeN (if y ∈ l then l else l ++ [y]) r ↔ _
    rw [ih]
    by_cases h : y ∈ l
    · rw [if_pos h]
      constructor
      · rintro (a | a)
        · exact .inl a
        · exact .inr (List.mem_cons_of_mem _ a)
      · rintro (a | a)
        · exact .inl a
        · rcases List.mem_cons.mp a with rfl | a
          · exact .inl h
          · exact .inr a
    · rw [if_neg h]
      simp only [List.mem_append, List.mem_cons, List.not_mem_nil, or_false]
      exact or_assoc
theorem mergeN_len (m : List Nat) : ∀ l : List Nat, (mergeN l m).length ≤ l.length + m.length := by
  induction m with
  | nil => intro l; exact Nat.le_refl _
  | cons y r ih =>
    intro l
    show (mergeN (if y ∈ l then l else l ++ [y]) r).length ≤ _
    have := ih (if y ∈ l then l else l ++ [y])
    have h2 : (if y ∈ l then l else l ++ [y]).length ≤ l.length + 1 := by split <;> simp
    simp only [List.length_cons]
    omega
def fnd (l : List Nat) : List (Key × W) := l.map fun (n : Nat) => ((Sum.inl (n : Int) : L2.Key), W.d (.bool true))
theorem putW_there (found : List Nat) (x : Nat) (h : x ∈ found) : putW (fnd found) (Sum.inl (x : Int)) (.d (.bool true)) = fnd found := by
  unfold putW
  have : ((fnd found).any fun kv => decide (kv.1 = Sum.inl (x : Int))) = true := by
    unfold fnd
    rw [List.any_map, List.any_eq_true]
    exact ⟨x, h, by simp⟩
  rw [if_pos this]
  unfold fnd
  rw [List.map_map]
  refine List.map_congr_left fun y _ => ?_
  simp only [Function.comp_def]
  split <;> rfl
theorem merge_found (m : List Nat) : ∀ l : List Nat, mergeKW (fnd l) (fnd m) = fnd (mergeN l m) := by
  induction m with
  | nil => intro l; rfl
  | cons y r ih =>
    intro l
    show mergeKW (putW (fnd l) (Sum.inl (y : Int)) (.d (.bool true))) (fnd r) = fnd (mergeN (if y ∈ l then l else l ++ [y]) r)
    by_cases h : y ∈ l
    · rw [putW_there l y h, if_pos h]; exact ih l
    · have := putW_found l y h
      unfold fnd at ih ⊢
      rw [this, if_neg h]
      exact ih (l ++ [y])
/-- all that a new kind is -/
def newAbove (above : List (List Nat)) (n : Nat) (ps : List Nat) : List Nat := ps.foldl (fun acc p => mergeN acc (above.getD p [])) [n]
def LS.addKind (L : LS) (ps : List Nat) (m : Nat) : LS := { L with parents := L.parents ++ [ps], brought := L.brought ++ [m], above := L.above ++ [newAbove L.above L.parents.length ps] }
theorem as_at {a : LA} {L : LS} (h : LAt s a L) {i : Nat} (hi : i < L.above.length) : ∃ x, atI (a.as.map fun x => W.v (.ref x)) (i : Int) = some (.v (.ref x)) ∧ s x = some (foundK L.above[i]) ∧ a.as[i]? = some x ∧ x ∈ a.all := by
  have hl := Paired.length h.has
  have key : ∀ {xs : List Addr} {ys : List (List Nat)}, Paired (fun x l => s x = some (foundK l)) xs ys → ∀ (i : Nat) (hi : i < ys.length), ∃ x, xs[i]? = some x ∧ s x = some (foundK ys[i]) := by
    intro xs ys p
    induction p with
    | nil => intro i hi; exact absurd hi (Nat.not_lt_zero i)
    | @cons x y xs ys h t ih =>
      intro i hi
      cases i with
      | zero => exact ⟨x, rfl, h⟩
      | succ i => exact ih i (by simpa using hi)
  obtain ⟨x, h1, h2⟩ := key h.has i hi
  refine ⟨x, ?_, h2, h1, ?_⟩
  · rw [U.atI_nat, List.getElem?_map, h1]; rfl
  · simp only [LA.all, List.mem_cons, List.mem_append]
    exact .inr (.inr (.inr (.inr (.inr (.inr (.inr (.inr (.inl (List.mem_of_getElem? h1)))))))))
theorem nk_for {D : DEnds} {a : LA} {L : LS} {w1 w2 w3 : Option W} {x : Addr} (hx : x ∉ a.all) (ps : List Nat) : ∀ (acc : List Nat) (z : Option W) (s : Hs), LAt s a L → (∀ p ∈ ps, p < L.above.length) → (∀ l ∈ L.above, l.length ≤ 400) → s x = some (.dK (fnd acc)) → acc.length + 400 * ps.length ≤ 90000 →
    (∀ s' z, LAt s' a L → s' x = some (.dK (fnd (ps.foldl (fun acc p => mergeN acc (L.above.getD p [])) acc))) → (∀ y, y ≠ x → s' y = s y) → D.nx [some (.v (.ref a.st)), w1, w2, w3, some (.v (.ref x)), z] s') →
    forN (hName 5) (zDrop (dUpdK (dVar 4) (dOp dIx (dOp dIx (dVar 0) (dC (.str "above"))) (dVar 5)))) (fun _ => True) (natsW ps) D [some (.v (.ref a.st)), w1, w2, w3, some (.v (.ref x)), z] s := by
  induction ps with
  | nil => intro acc z s h _ _ hs _ q; exact ⟨True.intro, q s z h hs fun _ _ => rfl⟩
  | cons p r ih =>
    intro acc z s h hp hab hs hl q
    refine ⟨True.intro, ?_⟩
    walk_at "dl"
    simp only [dUpdK]
    walk_at "dl"
    refine ⟨⟨x, _, rfl, hs⟩, ?_⟩
    rw [st_above h]
    have hpl := hp p List.mem_cons_self
    obtain ⟨y, e1, e2, _, e4⟩ := as_at h hpl
    rw [dIx_own h.ha, e1]
    dsimp only
    have hxy : x ≠ y := fun e => hx (by rw [e]; exact e4)
    have hll : L.above[p].length ≤ 400 := hab _ (List.getElem_mem hpl)
    refine ⟨x, y, fnd acc, fnd L.above[p], rfl, rfl, hxy, hs, e2, by unfold fnd; simp only [List.length_map]; simp only [List.length_cons] at hl; omega, ?_⟩
    rw [merge_found]
    have hg : L.above.getD p [] = L.above[p] := by rw [List.getD_eq_getElem?_getD, List.getElem?_eq_getElem hpl]; rfl
    refine ih (mergeN acc L.above[p]) _ _ (h.frame fun w hw => put_ne fun e => hx (by rw [← e]; exact hw)) (fun p' hp' => hp p' (List.mem_cons_of_mem _ hp')) hab put_eq ?_ fun s' z' h' hs' hf' => ?_
    · have := mergeN_len L.above[p] acc
      simp only [List.length_cons] at hl
      omega
    · refine q s' z' h' ?_ fun y hy => (hf' y hy).trans (put_ne hy)
      show s' x = some (.dK (fnd (r.foldl _ (mergeN acc (L.above.getD p [])))))
      rw [hg]
      exact hs'
end
end G

set_option maxHeartbeats 400000
namespace G
open PySem PySem.Spec PyProof.Rows L2 U
local macro_rules | `(tactic| walk_at "dl") => `(tactic| simp only [dfOf, dfOfX, startD, List.map_cons, List.map_nil, List.length_cons, List.length_nil, List.cons_append, List.nil_append, List.replicate, Nat.zero_add, Nat.reduceAdd, Nat.reduceSub, true_and,
  zNext, zSeq_later, zRet, zDrop, zIf, zAsg, zPar, zAug, dVar, dC, dV, dOp, dNeg, dNil, dCons, dTest, dTru, dAnd, dOr, dNot, dYes, dAndV, dOrV, dNotV, dIf, dChain, dCB, dCall, dIsin, tkD, truD, dCmp, dLt, dLe, dGt, dGe, dMod, dDiv, dPow, dSub, dI2, hName, hTup, hCons, hNil, wipeD, dPart, dNoPart, dSl, lstOf, asD, seqOf,
  dEq_int, dNe_int, dIs, dIsNot, isNone, dLen, lenD, dAdd, dMul, dTup, dLst, newT, newL, datas, dIx_tup, dIx_list, atI_zero, dKGet, dTupC_list, intD_int, intD_bool, absD_int, Option.map_some, dIAdd, d1, eqv_int, eqv_str, eqOk_int, eqOk_str,
  List.getElem?_cons_zero, List.getElem?_cons_succ, List.set_cons_zero, List.set_cons_succ, if_true, Bool.false_eq_true, if_false, reduceIte, Bool.not_true, Bool.not_false])
local macro_rules | `(tactic| walk_at "nums") => `(tactic| (repeat ((with_reducible refine And.intro ?hnum ?_); case hnum => first | decide | exact mulW_abs (by decide) (by decide) | exact ⟨by decide, by decide, by decide⟩)))
local macro_rules | `(tactic| walk_at "go") => `(tactic| (rw [zLater]; walk_at "dl"; walk_at "nums"))
section
variable {K : PySem.W.Frag} {s : Hs} {k : DK}
theorem nd_ne {l : List Addr} (h : l.Nodup) {i j : Nat} {x y : Addr} (hij : i ≠ j) (hi : l[i]? = some x) (hj : l[j]? = some y) : x ≠ y := fun e => by
  obtain ⟨h1, e1⟩ := List.getElem?_eq_some_iff.mp hi
  obtain ⟨h2, e2⟩ := List.getElem?_eq_some_iff.mp hj
  exact hij ((List.getElem_inj h).mp (by rw [e1, e2]; exact e))
theorem rest_ne {a : LA} (h : a.all.Nodup) {x : Addr} (hx : x ∈ a.as ∨ x ∈ a.cs) {i : Nat} {y : Addr} (hi : i < 8) (hy : a.all[i]? = some y) : x ≠ y := by
  have hm : x ∈ a.as ++ a.cs := List.mem_append.mpr hx
  obtain ⟨j, hj, e⟩ := List.getElem_of_mem hm
  have h8 : a.all[j + 8]? = some x := by
    show (a.as ++ a.cs)[j]? = some x
    rw [List.getElem?_eq_getElem hj, e]
  exact nd_ne h (by omega) h8 hy
theorem mem_fix {a : LA} {i : Nat} {y : Addr} (hy : a.all[i]? = some y) (_ : i < 8) : y ∈ a.all := List.mem_of_getElem? hy
theorem nd_as {a : LA} (h : a.all.Nodup) {x : Addr} (hx : x ∉ a.all) : ({ a with as := a.as ++ [x] } : LA).all.Nodup := by
  have p : ({ a with as := a.as ++ [x] } : LA).all.Perm (x :: a.all) := by
    simp only [LA.all, List.append_assoc, List.cons_append, List.nil_append]
    have q : (a.as ++ x :: a.cs).Perm (x :: (a.as ++ a.cs)) := List.perm_middle
    exact ((q.cons _ |>.cons _ |>.cons _ |>.cons _ |>.cons _ |>.cons _ |>.cons _ |>.cons _)).trans (List.perm_middle (l₁ := [a.st, a.h, a.v, a.p, a.b, a.a, a.k, a.c]))
  exact p.nodup_iff.mpr (List.nodup_cons.mpr ⟨hx, h⟩)
theorem nd_cs {a : LA} (h : a.all.Nodup) {x : Addr} (hx : x ∉ a.all) : ({ a with cs := a.cs ++ [x] } : LA).all.Nodup := by
  have p : ({ a with cs := a.cs ++ [x] } : LA).all.Perm (x :: a.all) := by
    simp only [LA.all]
    rw [← List.append_assoc]
    have q : ((a.as ++ a.cs) ++ [x]).Perm (x :: (a.as ++ a.cs)) := List.perm_append_singleton _ _
    exact ((q.cons _ |>.cons _ |>.cons _ |>.cons _ |>.cons _ |>.cons _ |>.cons _ |>.cons _)).trans (List.perm_middle (l₁ := [a.st, a.h, a.v, a.p, a.b, a.a, a.k, a.c]))
  exact p.nodup_iff.mpr (List.nodup_cons.mpr ⟨hx, h⟩)
theorem lat_st {a : LA} {L : LS} (h : LAt s a L) (n : Nat) (f : Bool) : LAt (U.put s a.st (.dK (stW n f a))) a { L with at_ := n, fault := f } := ⟨put_eq, (put_ne (nd_ne h.nd (i := 1) (j := 0) (by decide) rfl rfl)).trans h.hh, (put_ne (nd_ne h.nd (i := 2) (j := 0) (by decide) rfl rfl)).trans h.hv, (put_ne (nd_ne h.nd (i := 3) (j := 0) (by decide) rfl rfl)).trans h.hp, (put_ne (nd_ne h.nd (i := 4) (j := 0) (by decide) rfl rfl)).trans h.hb, (put_ne (nd_ne h.nd (i := 5) (j := 0) (by decide) rfl rfl)).trans h.ha, (put_ne (nd_ne h.nd (i := 6) (j := 0) (by decide) rfl rfl)).trans h.hk, (put_ne (nd_ne h.nd (i := 7) (j := 0) (by decide) rfl rfl)).trans h.hc, paired_frame (α := Nat) h.has fun x hx => put_ne (rest_ne h.nd (.inl hx) (i := 0) (by decide) rfl), paired_frame (α := Nat) h.hcs fun x hx => put_ne (rest_ne h.nd (.inr hx) (i := 0) (by decide) rfl), h.nd⟩
theorem lat_h {a : LA} {L : LS} (h : LAt s a L) (r : List Rv) : LAt (U.put s a.h (regsC r)) a { L with held := r } := ⟨(put_ne (nd_ne h.nd (i := 0) (j := 1) (by decide) rfl rfl)).trans h.hst, put_eq, (put_ne (nd_ne h.nd (i := 2) (j := 1) (by decide) rfl rfl)).trans h.hv, (put_ne (nd_ne h.nd (i := 3) (j := 1) (by decide) rfl rfl)).trans h.hp, (put_ne (nd_ne h.nd (i := 4) (j := 1) (by decide) rfl rfl)).trans h.hb, (put_ne (nd_ne h.nd (i := 5) (j := 1) (by decide) rfl rfl)).trans h.ha, (put_ne (nd_ne h.nd (i := 6) (j := 1) (by decide) rfl rfl)).trans h.hk, (put_ne (nd_ne h.nd (i := 7) (j := 1) (by decide) rfl rfl)).trans h.hc, paired_frame (α := Nat) h.has fun x hx => put_ne (rest_ne h.nd (.inl hx) (i := 1) (by decide) rfl), paired_frame (α := Nat) h.hcs fun x hx => put_ne (rest_ne h.nd (.inr hx) (i := 1) (by decide) rfl), h.nd⟩
theorem lat_v {a : LA} {L : LS} (h : LAt s a L) (r : List Rv) : LAt (U.put s a.v (regsC r)) a { L with shown := r } := ⟨(put_ne (nd_ne h.nd (i := 0) (j := 2) (by decide) rfl rfl)).trans h.hst, (put_ne (nd_ne h.nd (i := 1) (j := 2) (by decide) rfl rfl)).trans h.hh, put_eq, (put_ne (nd_ne h.nd (i := 3) (j := 2) (by decide) rfl rfl)).trans h.hp, (put_ne (nd_ne h.nd (i := 4) (j := 2) (by decide) rfl rfl)).trans h.hb, (put_ne (nd_ne h.nd (i := 5) (j := 2) (by decide) rfl rfl)).trans h.ha, (put_ne (nd_ne h.nd (i := 6) (j := 2) (by decide) rfl rfl)).trans h.hk, (put_ne (nd_ne h.nd (i := 7) (j := 2) (by decide) rfl rfl)).trans h.hc, paired_frame (α := Nat) h.has fun x hx => put_ne (rest_ne h.nd (.inl hx) (i := 2) (by decide) rfl), paired_frame (α := Nat) h.hcs fun x hx => put_ne (rest_ne h.nd (.inr hx) (i := 2) (by decide) rfl), h.nd⟩
theorem lat_p {a : LA} {L : LS} (h : LAt s a L) (r : List (List Nat)) : LAt (U.put s a.p (.lst (r.map fun ps => .d (.tuple (natsD ps))))) a { L with parents := r } := ⟨(put_ne (nd_ne h.nd (i := 0) (j := 3) (by decide) rfl rfl)).trans h.hst, (put_ne (nd_ne h.nd (i := 1) (j := 3) (by decide) rfl rfl)).trans h.hh, (put_ne (nd_ne h.nd (i := 2) (j := 3) (by decide) rfl rfl)).trans h.hv, put_eq, (put_ne (nd_ne h.nd (i := 4) (j := 3) (by decide) rfl rfl)).trans h.hb, (put_ne (nd_ne h.nd (i := 5) (j := 3) (by decide) rfl rfl)).trans h.ha, (put_ne (nd_ne h.nd (i := 6) (j := 3) (by decide) rfl rfl)).trans h.hk, (put_ne (nd_ne h.nd (i := 7) (j := 3) (by decide) rfl rfl)).trans h.hc, paired_frame (α := Nat) h.has fun x hx => put_ne (rest_ne h.nd (.inl hx) (i := 3) (by decide) rfl), paired_frame (α := Nat) h.hcs fun x hx => put_ne (rest_ne h.nd (.inr hx) (i := 3) (by decide) rfl), h.nd⟩
theorem lat_b {a : LA} {L : LS} (h : LAt s a L) (r : List Nat) : LAt (U.put s a.b (.lst (natsW r))) a { L with brought := r } := ⟨(put_ne (nd_ne h.nd (i := 0) (j := 4) (by decide) rfl rfl)).trans h.hst, (put_ne (nd_ne h.nd (i := 1) (j := 4) (by decide) rfl rfl)).trans h.hh, (put_ne (nd_ne h.nd (i := 2) (j := 4) (by decide) rfl rfl)).trans h.hv, (put_ne (nd_ne h.nd (i := 3) (j := 4) (by decide) rfl rfl)).trans h.hp, put_eq, (put_ne (nd_ne h.nd (i := 5) (j := 4) (by decide) rfl rfl)).trans h.ha, (put_ne (nd_ne h.nd (i := 6) (j := 4) (by decide) rfl rfl)).trans h.hk, (put_ne (nd_ne h.nd (i := 7) (j := 4) (by decide) rfl rfl)).trans h.hc, paired_frame (α := Nat) h.has fun x hx => put_ne (rest_ne h.nd (.inl hx) (i := 4) (by decide) rfl), paired_frame (α := Nat) h.hcs fun x hx => put_ne (rest_ne h.nd (.inr hx) (i := 4) (by decide) rfl), h.nd⟩
theorem lat_k {a : LA} {L : LS} (h : LAt s a L) (r : List Nat) : LAt (U.put s a.k (.lst (natsW r))) a { L with kinds := r } := ⟨(put_ne (nd_ne h.nd (i := 0) (j := 6) (by decide) rfl rfl)).trans h.hst, (put_ne (nd_ne h.nd (i := 1) (j := 6) (by decide) rfl rfl)).trans h.hh, (put_ne (nd_ne h.nd (i := 2) (j := 6) (by decide) rfl rfl)).trans h.hv, (put_ne (nd_ne h.nd (i := 3) (j := 6) (by decide) rfl rfl)).trans h.hp, (put_ne (nd_ne h.nd (i := 4) (j := 6) (by decide) rfl rfl)).trans h.hb, (put_ne (nd_ne h.nd (i := 5) (j := 6) (by decide) rfl rfl)).trans h.ha, put_eq, (put_ne (nd_ne h.nd (i := 7) (j := 6) (by decide) rfl rfl)).trans h.hc, paired_frame (α := Nat) h.has fun x hx => put_ne (rest_ne h.nd (.inl hx) (i := 6) (by decide) rfl), paired_frame (α := Nat) h.hcs fun x hx => put_ne (rest_ne h.nd (.inr hx) (i := 6) (by decide) rfl), h.nd⟩
theorem lat_a {a : LA} {L : LS} (h : LAt s a L) {x : Addr} (hx : x ∉ a.all) {l : List Nat} (hc : s x = some (foundK l)) : LAt (U.put s a.a (.lst ((a.as ++ [x]).map fun x => .v (.ref x)))) { a with as := a.as ++ [x] } { L with above := L.above ++ [l] } := by
  have hnd : ({ a with as := a.as ++ [x] } : LA).all.Nodup := nd_as h.nd hx
  exact ⟨(put_ne (nd_ne h.nd (i := 0) (j := 5) (by decide) rfl rfl)).trans h.hst, (put_ne (nd_ne h.nd (i := 1) (j := 5) (by decide) rfl rfl)).trans h.hh, (put_ne (nd_ne h.nd (i := 2) (j := 5) (by decide) rfl rfl)).trans h.hv, (put_ne (nd_ne h.nd (i := 3) (j := 5) (by decide) rfl rfl)).trans h.hp, (put_ne (nd_ne h.nd (i := 4) (j := 5) (by decide) rfl rfl)).trans h.hb, put_eq, (put_ne (nd_ne h.nd (i := 6) (j := 5) (by decide) rfl rfl)).trans h.hk, (put_ne (nd_ne h.nd (i := 7) (j := 5) (by decide) rfl rfl)).trans h.hc, Paired.snoc (paired_frame (α := Nat) h.has fun x hx => put_ne (rest_ne h.nd (.inl hx) (i := 5) (by decide) rfl)) ((put_ne (fun e => hx (by rw [e]; exact mem_fix (i := 5) rfl (by decide)))).trans hc), (paired_frame (α := Nat) h.hcs fun x hx => put_ne (rest_ne h.nd (.inr hx) (i := 5) (by decide) rfl)), hnd⟩
theorem lat_c {a : LA} {L : LS} (h : LAt s a L) {x : Addr} (hx : x ∉ a.all) {l : List ((Nat × Nat) × PyData)} (hc : s x = some (.dT (cellsW l))) : LAt (U.put s a.c (.lst ((a.cs ++ [x]).map fun x => .v (.ref x)))) { a with cs := a.cs ++ [x] } { L with cells := L.cells ++ [l] } := by
  have hnd : ({ a with cs := a.cs ++ [x] } : LA).all.Nodup := nd_cs h.nd hx
  exact ⟨(put_ne (nd_ne h.nd (i := 0) (j := 7) (by decide) rfl rfl)).trans h.hst, (put_ne (nd_ne h.nd (i := 1) (j := 7) (by decide) rfl rfl)).trans h.hh, (put_ne (nd_ne h.nd (i := 2) (j := 7) (by decide) rfl rfl)).trans h.hv, (put_ne (nd_ne h.nd (i := 3) (j := 7) (by decide) rfl rfl)).trans h.hp, (put_ne (nd_ne h.nd (i := 4) (j := 7) (by decide) rfl rfl)).trans h.hb, (put_ne (nd_ne h.nd (i := 5) (j := 7) (by decide) rfl rfl)).trans h.ha, (put_ne (nd_ne h.nd (i := 6) (j := 7) (by decide) rfl rfl)).trans h.hk, put_eq, (paired_frame (α := Nat) h.has fun x hx => put_ne (rest_ne h.nd (.inl hx) (i := 7) (by decide) rfl)), Paired.snoc (paired_frame (α := Nat) h.hcs fun x hx => put_ne (rest_ne h.nd (.inr hx) (i := 7) (by decide) rfl)) ((put_ne (fun e => hx (by rw [e]; exact mem_fix (i := 7) rfl (by decide)))).trans hc), hnd⟩
/-- from one state of it to another -/
structure LTo (s : Hs) (a : LA) (s' : Hs) (a' : LA) : Prop where
  fix : ∃ as cs, a' = { a with as := as, cs := cs }
  fr : LFr s s' a
  gr : ∀ y ∈ a'.all, y ∈ a.all ∨ s y = none
theorem LTo.refl (s : Hs) (a : LA) : LTo s a s a := ⟨⟨a.as, a.cs, rfl⟩, LFr.refl s a, fun y h => .inl h⟩
theorem LTo.trans {s s1 s2 : Hs} {a a1 a2 : LA} (h : LTo s a s1 a1) (h' : LTo s1 a1 s2 a2) : LTo s a s2 a2 := by
  obtain ⟨as, cs, rfl⟩ := h.fix
  obtain ⟨as', cs', rfl⟩ := h'.fix
  refine ⟨⟨as', cs', rfl⟩, fun y c hy e => h'.fr y c (fun z => ?_) (h.fr y c hy e), fun y hy => ?_⟩
  · rcases h.gr y z with z | z
    · exact hy z
    · rw [z] at e; cases e
  · rcases h'.gr y hy with z | z
    · exact h.gr y z
    · by_cases hm : y ∈ a.all
      · exact .inl hm
      · refine .inr ?_
        cases e : s y with
        | none => rfl
        | some c => rw [h.fr y c hm e] at z; cases z
theorem LTo.put {s : Hs} {a : LA} {y : Addr} (hy : y ∈ a.all) (c : Cell) : LTo s a (U.put s y c) a :=
  ⟨⟨a.as, a.cs, rfl⟩, fun z d hz e => by rw [put_ne (fun e2 => hz (by rw [e2]; exact hy))]; exact e, fun z hz => .inl hz⟩
/-- what always holds of it -/
structure LS.Ok (L : LS) : Prop where
  len : L.parents.length ≤ 400
  al : L.above.length = L.parents.length
  bl : L.brought.length = L.parents.length
  ab : ∀ (i : Nat) (h : i < L.above.length), L.above[i].Nodup ∧ ∀ x ∈ L.above[i], x ≤ i
theorem LS.Ok.few {L : LS} (ok : L.Ok) : ∀ l ∈ L.above, l.length ≤ 400 := fun l hl => by
  obtain ⟨i, hi, e⟩ := List.getElem_of_mem hl
  obtain ⟨n1, n2⟩ := ok.ab i hi
  rw [e] at n1 n2
  have := nodup_le (i + 1) l n1 fun x hx => Nat.lt_succ_of_le (n2 x hx)
  have := ok.len
  have := ok.al
  omega
theorem LAt.there {a : LA} {L : LS} (h : LAt s a L) {y : Addr} (hy : y ∈ a.all) : s y ≠ none := by
  have key : ∀ {β : Type} {f : β → Cell} {xs : List Addr} {ys : List β}, Paired (fun x l => s x = some (f l)) xs ys → ∀ x ∈ xs, s x ≠ none := by
    intro β f xs ys p
    induction p with
    | nil => intro x hx; exact absurd hx List.not_mem_nil
    | cons h t ih =>
      intro x hx
      rcases List.mem_cons.mp hx with rfl | hx
      · rw [h]; exact fun z => nomatch z
      · exact ih x hx
  simp only [LA.all, List.mem_cons, List.mem_append] at hy
  rcases hy with rfl | rfl | rfl | rfl | rfl | rfl | rfl | rfl | hy | hy
  · rw [h.hst]; exact fun z => nomatch z
  · rw [h.hh]; exact fun z => nomatch z
  · rw [h.hv]; exact fun z => nomatch z
  · rw [h.hp]; exact fun z => nomatch z
  · rw [h.hb]; exact fun z => nomatch z
  · rw [h.ha]; exact fun z => nomatch z
  · rw [h.hk]; exact fun z => nomatch z
  · rw [h.hc]; exact fun z => nomatch z
  · exact key h.has y hy
  · exact key h.hcs y hy
theorem LAt.fresh {a : LA} {L : LS} (h : LAt s a L) {x : Addr} (hx : s x = none) : x ∉ a.all := fun hm => h.there hm hx
theorem LAt.off {a : LA} {L : LS} (h : LAt s a L) {x : Addr} (hx : x ∉ a.all) (c : Cell) : LAt (U.put s x c) a L := h.frame fun y hy => put_ne fun e => hx (by rw [← e]; exact hy)
theorem LTo.off {a : LA} {x : Addr} (hx : s x = none) (c : Cell) : LTo s a (U.put s x c) a :=
  ⟨⟨a.as, a.cs, rfl⟩, fun z d _ e => by rw [put_ne (fun e2 => by rw [e2, hx] at e; cases e)]; exact e, fun z hz => .inl hz⟩
theorem mem_p {a : LA} : a.p ∈ a.all := mem_fix (i := 3) rfl (by decide)
theorem mem_b {a : LA} : a.b ∈ a.all := mem_fix (i := 4) rfl (by decide)
theorem mem_a {a : LA} : a.a ∈ a.all := mem_fix (i := 5) rfl (by decide)
theorem mem_k {a : LA} : a.k ∈ a.all := mem_fix (i := 6) rfl (by decide)
theorem mem_c {a : LA} : a.c ∈ a.all := mem_fix (i := 7) rfl (by decide)
theorem mem_st {a : LA} : a.st ∈ a.all := mem_fix (i := 0) rfl (by decide)
theorem mem_h {a : LA} : a.h ∈ a.all := mem_fix (i := 1) rfl (by decide)
theorem mem_v {a : LA} : a.v ∈ a.all := mem_fix (i := 2) rfl (by decide)
/-- the new dict has joined -/
theorem LTo.join_a {a : LA} {x : Addr} (hx : s x = none) {s' : Hs} (h : LTo s a s' a) (c : Cell) : LTo s a (U.put s' a.a c) { a with as := a.as ++ [x] } :=
  ⟨⟨_, _, rfl⟩, fun y d hy e => by rw [put_ne (fun e2 => hy (by rw [e2]; exact mem_a))]; exact h.fr y d hy e, fun y hy => by
    simp only [LA.all, List.mem_cons, List.mem_append, List.not_mem_nil, or_false] at hy ⊢
    rcases hy with hy | hy | hy | hy | hy | hy | hy | hy | (hy | hy) | hy
    all_goals first
      | (subst hy; exact .inr hx)
      | (refine .inl ?_; simp only [hy, true_or, or_true])⟩
theorem LTo.join_c {a : LA} {x : Addr} (hx : s x = none) {s' : Hs} (h : LTo s a s' a) (c : Cell) : LTo s a (U.put s' a.c c) { a with cs := a.cs ++ [x] } :=
  ⟨⟨_, _, rfl⟩, fun y d hy e => by rw [put_ne (fun e2 => hy (by rw [e2]; exact mem_c))]; exact h.fr y d hy e, fun y hy => by
    simp only [LA.all, List.mem_cons, List.mem_append, List.not_mem_nil, or_false] at hy ⊢
    rcases hy with hy | hy | hy | hy | hy | hy | hy | hy | hy | (hy | hy)
    all_goals first
      | (subst hy; exact .inr hx)
      | (refine .inl ?_; simp only [hy, true_or, or_true])⟩
theorem foundK_eq (l : List Nat) : foundK l = .dK (fnd l) := rfl
theorem e_law_new_kind {a : LA} {L : LS} (h : LAt s a L) (ok : L.Ok) (ps : List Nat) (m : Nat) (hps : ∀ p ∈ ps, p < L.above.length) (h6 : ps.length ≤ 6) (h0 : L.parents.length = 400 → k (.d .none) s)
    (h1 : L.parents.length ≠ 400 → ∀ s' a', LAt s' a' (L.addKind ps m) → LTo s a s' a' → k (.d (Rv.kind L.parents.length).d) s') :
    df__law_new_kind K [.v (.ref a.st), .d (.tuple (natsD ps)), .d (.int (m : Nat))] s k := by
  rw [df__law_new_kind_eq]; unfold d__law_new_kind_
  walk_at "dl"
  rw [st_parents h]
  simp only [h.hp, List.length_map]
  by_cases hn : L.parents.length = 400
  · have e : (((L.parents.length : Nat) : Int) == 400) = true := by rw [hn]; rfl
    simp only [e, if_true]
    exact ⟨s, U.Sub.refl s, h0 hn⟩
  · have e : (((L.parents.length : Nat) : Int) == 400) = false := by rw [beq_eq_false_iff_ne]; omega
    simp only [e, Bool.false_eq_true, if_false]
    walk_at "go"
    rw [st_parents h]
    simp only [h.hp, List.length_map]
    walk_at "go"
    simp only [dDisp1]
    walk_at "dl"
    intro x hx
    refine ⟨put_eq, ?_⟩
    simp only [keyOf, put_put]
    have hxa : x ∉ a.all := h.fresh hx
    have e1 : (Cell.dK [(Sum.inl ((L.parents.length : Nat) : Int), W.d (.bool true))]) = .dK (fnd [L.parents.length]) := rfl
    rw [e1]
    have a0 := h.off hxa (.dK (fnd [L.parents.length]))
    walk_at "go"
    simp only [zFor, jSeq]
    walk_at "dl"
    simp only [srcOf]
    have hmap : (natsD ps).map W.d = natsW ps := by unfold natsD natsW; rw [List.map_map]; rfl
    rw [hmap]
    refine nk_for hxa ps [L.parents.length] none _ a0 hps ok.few put_eq (by simp only [List.length_cons, List.length_nil]; omega) fun s1 z l1 hx1 hf1 => ?_
    dsimp only
    have t1 : LTo s a s1 a := ⟨⟨_, _, rfl⟩, fun y d hy e => by
      have hyx : y ≠ x := fun e2 => by rw [e2, hx] at e; cases e
      rw [hf1 y hyx, put_ne hyx]; exact e, fun z hz => .inl hz⟩
    walk_at "go"
    simp only [dAppendT]
    walk_at "dl"
    rw [st_parents l1]
    have ok1 := ok.len
    have ok2 := ok.bl
    have ok3 := ok.al
    simp only [isL, l1.hp, true_and, ownL]
    simp only [List.length_map]
    refine ⟨by omega, ?_⟩
    have e2 : L.parents.map (fun ps => W.d (.tuple (natsD ps))) ++ [W.d (.tuple (natsD ps))] = (L.parents ++ [ps]).map fun ps => W.d (.tuple (natsD ps)) := by rw [List.map_append]; rfl
    rw [e2]
    have l2 := lat_p l1 (L.parents ++ [ps])
    walk_at "go"
    simp only [dAppendT]
    walk_at "dl"
    rw [st_brought l2]
    simp only [isL, l2.hb, true_and, ownL]
    rw [natsW_len, natsW_snoc]
    refine ⟨by omega, ?_⟩
    have l3 := lat_b l2 (L.brought ++ [m])
    walk_at "go"
    simp only [dAppendT]
    walk_at "dl"
    rw [st_above l3]
    simp only [isL, l3.ha, true_and, ownL]
    simp only [List.length_map]
    have hlas : a.as.length = L.above.length := Paired.length h.has
    refine ⟨by omega, ?_⟩
    have e3 : a.as.map (fun x => W.v (.ref x)) ++ [W.v (.ref x)] = (a.as ++ [x]).map fun x => W.v (.ref x) := by rw [List.map_append]; rfl
    rw [e3]
    have hx3 : U.put (U.put s1 a.p (.lst ((L.parents ++ [ps]).map fun ps => W.d (.tuple (natsD ps))))) a.b (.lst (natsW (L.brought ++ [m]))) x = some (foundK (newAbove L.above L.parents.length ps)) := by
      rw [put_ne (fun e => hxa (by rw [e]; exact mem_b)), put_ne (fun e => hxa (by rw [e]; exact mem_p)), hx1]
      rfl
    have l4 := lat_a l3 hxa hx3
    walk_at "go"
    exact ⟨_, U.Sub.refl _, h1 hn _ _ l4 (LTo.join_a hx ((t1.trans (LTo.put mem_p _)).trans (LTo.put mem_b _)) _)⟩
end
end G

set_option maxHeartbeats 400000
namespace G
open PySem PySem.Spec PyProof.Rows L2 U
local macro_rules | `(tactic| walk_at "dl") => `(tactic| simp only [dfOf, dfOfX, startD, List.map_cons, List.map_nil, List.length_cons, List.length_nil, List.cons_append, List.nil_append, List.replicate, Nat.zero_add, Nat.reduceAdd, Nat.reduceSub, true_and,
  zNext, zSeq_later, zRet, zDrop, zIf, zAsg, zPar, zAug, dVar, dC, dV, dOp, dNeg, dNil, dCons, dTest, dTru, dAnd, dOr, dNot, dYes, dAndV, dOrV, dNotV, dIf, dChain, dCB, dCall, dIsin, tkD, truD, dCmp, dLt, dLe, dGt, dGe, dMod, dDiv, dPow, dSub, dI2, hName, hTup, hCons, hNil, wipeD, dPart, dNoPart, dSl, lstOf, asD, seqOf,
  dEq_int, dNe_int, dIs, dIsNot, isNone, dLen, lenD, dAdd, dMul, dTup, dLst, newT, newL, datas, dIx_tup, dIx_list, atI_zero, dKGet, dTupC_list, intD_int, intD_bool, absD_int, Option.map_some, dIAdd, d1, eqv_int, eqv_str, eqOk_int, eqOk_str,
  List.getElem?_cons_zero, List.getElem?_cons_succ, List.set_cons_zero, List.set_cons_succ, if_true, Bool.false_eq_true, if_false, reduceIte, Bool.not_true, Bool.not_false])
local macro_rules | `(tactic| walk_at "nums") => `(tactic| (repeat ((with_reducible refine And.intro ?hnum ?_); case hnum => first | decide | exact mulW_abs (by decide) (by decide) | exact ⟨by decide, by decide, by decide⟩)))
local macro_rules | `(tactic| walk_at "go") => `(tactic| (rw [zLater]; walk_at "dl"; walk_at "nums"))
section
variable {K : PySem.W.Frag} {s : Hs} {k : DK}
def sortP : PyData → Str
  | .tuple (.str z :: _) => z
  | _ => "integer"
theorem sortP_d (v : Rv) : sortP v.d = sortR v := by cases v <;> rfl
def sndP : PyData → PyData
  | .tuple [_, y] => y
  | _ => .none
theorem sort_kind (v : Rv) : (sortR v == "kind") = v.kd?.isSome := by
  cases v with
  | int i => exact (by decide : (("integer" : Str) == "kind") = false)
  | kind i => exact (by decide : (("kind" : Str) == "kind") = true)
  | obj i => exact (by decide : (("object" : Str) == "kind") = false)
theorem sort_obj (v : Rv) : (sortR v == "object") = v.ob?.isSome := by
  cases v with
  | int i => exact (by decide : (("integer" : Str) == "object") = false)
  | kind i => exact (by decide : (("kind" : Str) == "object") = false)
  | obj i => exact (by decide : (("object" : Str) == "object") = true)
def isI : Rv → Bool
  | .int _ => true
  | _ => false
theorem sort_int (v : Rv) : (sortR v == "integer") = isI v := by
  cases v with
  | int i => exact (by decide : (("integer" : Str) == "integer") = true)
  | kind i => exact (by decide : (("kind" : Str) == "integer") = false)
  | obj i => exact (by decide : (("object" : Str) == "integer") = false)
/-- sort(v) != word -/
theorem ne_sort {v : Rv} {w : Str} (q : k (.d (.bool (!(sortR v == w)))) s) : df__law_sort K [.d v.d] s fun x s1 => dNe x (.d (.str w)) s1 k :=
  e_sort v (dNe_val _ rfl (eqv_str _ _) q)
theorem eq_sort {v : Rv} {w : Str} (q : k (.d (.bool (sortR v == w))) s) : df__law_sort K [.d v.d] s fun x s1 => dEq x (.d (.str w)) s1 k :=
  e_sort v (dEq_val _ rfl (eqv_str _ _) q)
def valsOf (rs : List Rv) (ps : List Nat) : List Rv := ps.map fun p => rs.getD p (.int 0)
theorem numsOf_vals (rs : List Rv) (ps : List Nat) : numsOf rs ps = (valsOf rs ps).map Rv.kd? := by unfold numsOf valsOf; rw [List.map_map]; rfl
theorem vals_kinds {vs : List Rv} (h : vs.all (fun v => v.kd?.isSome) = true) : ∃ ks : List Nat, vs = ks.map Rv.kind := by
  induction vs with
  | nil => exact ⟨[], rfl⟩
  | cons v r ih =>
    rw [List.all_cons, Bool.and_eq_true] at h
    obtain ⟨ks, e⟩ := ih h.2
    cases v with
    | kind n => exact ⟨n :: ks, by rw [List.map_cons, e]⟩
    | int i => exact absurd h.1 Bool.false_ne_true
    | obj i => exact absurd h.1 Bool.false_ne_true
theorem reg_at2 {r : Addr} {rs : List Rv} (hr : s r = some (regsC rs)) {i : Nat} (hi : i < rs.length) : dIx (.v (.ref r)) (.d (.int (i : Nat))) s k = k (.d (rs.getD i (.int 0)).d) s := by
  rw [reg_at hr hi, List.getD_eq_getElem?_getD, List.getElem?_eq_getElem hi]
  rfl
theorem e_law_loaded {a : LA} {L : LS} (h : LAt s a L) (ok : L.Ok) (hin : ∀ v ∈ L.held, ∀ n, v = .kind n → n < L.parents.length) (ps : List Nat) (m : Nat) (hps : ∀ p ∈ ps, p < L.held.length) (h6 : ps.length ≤ 6)
    (h0 : (∀ ks : List Nat, numsOf L.held ps = ks.map some → ks.Nodup → L.parents.length = 400) → k (.d .none) s)
    (h1 : ∀ ks : List Nat, numsOf L.held ps = ks.map some → ks.Nodup → L.parents.length ≠ 400 → ∀ s' a', LAt s' a' (L.addKind (sortN ks) m) → LTo s a s' a' → k (.d (Rv.kind L.parents.length).d) s') :
    df__law_loaded K [.v (.ref a.st), .d (.tuple (natsD ps)), .d (.int (m : Nat))] s k := by
  rw [df__law_loaded_eq]; unfold d__law_loaded_
  walk_at "dl"
  refine dLc_at (xs := natsW ps) (fun w => match w with | .d (.int i) => (L.held.getD i.toNat (.int 0)).d | _ => .none) (fun k' hk => ?_) ?_ (by rw [natsW_len]; omega) ?_
  · simp only [jSeq]
    walk_at "dl"
    simp only [srcOf]
    have hmap : (natsD ps).map W.d = natsW ps := by unfold natsD natsW; rw [List.map_map]; rfl
    rw [hmap]
    exact hk
  · intro w hwm D c k2 hD hk2
    unfold natsW at hwm
    obtain ⟨p, hp, rfl⟩ := List.mem_map.mp hwm
    walk_at "dl"
    have h' := h.off (h.fresh hD) c
    rw [st_held h', reg_at2 h'.hh (hps p hp)]
    simpa using hk2
  · have e1 : (natsW ps).map (fun w => match w with | .d (.int i) => (L.held.getD i.toNat (.int 0)).d | _ => PyData.none) = (valsOf L.held ps).map Rv.d := by
      unfold natsW valsOf
      rw [List.map_map, List.map_map]
      rfl
    rw [e1]
    generalize hvs : valsOf L.held ps = vs
    have hvl : vs.length = ps.length := by rw [← hvs]; unfold valsOf; rw [List.length_map]
    walk_at "go"
    refine dLc_yes (xs := (vs.map Rv.d).map .d) (fun w => .bool (sortP (unD w) == "kind")) (fun k' hk => by simpa [jSeq, dVar, srcOf] using hk) (d_of_mem fun x hx s k hk => ?_) (by simp; omega) ?_
    · obtain ⟨v, hv, rfl⟩ := List.mem_map.mp hx
      walk_at "dl"
      refine e_sort v ?_
      refine dEq_val _ rfl (eqv_str _ _) ?_
      rw [← sortP_d]
      exact hk
    · simp only [List.map_map, Function.comp_def, unD]
      unfold dAll dL1
      simp only [lstOf, boolsOf_map]
      have e2 : ((vs.map fun x => sortP x.d == "kind").all id) = vs.all (fun v => v.kd?.isSome) := by
        rw [List.all_map]
        congr 1
        funext v
        show (sortP v.d == "kind") = _
        rw [sortP_d, sort_kind]
      rw [e2]
      cases hall : vs.all (fun v => v.kd?.isSome) with
      | false =>
        simp only [Bool.not_false, if_true]
        refine h0 fun ks hks _ => ?_
        rw [numsOf_vals, hvs] at hks
        have : vs.all (fun v => v.kd?.isSome) = true := by
          rw [List.all_eq_true]
          intro v hv
          have : v.kd? ∈ ks.map some := by rw [← hks]; exact List.mem_map_of_mem hv
          obtain ⟨n, _, e⟩ := List.mem_map.mp this
          rw [← e]
          rfl
        rw [this] at hall
        cases hall
      | true =>
        simp only [Bool.not_true, Bool.false_eq_true, if_false]
        obtain ⟨ks, rfl⟩ := vals_kinds hall
        have hks : numsOf L.held ps = ks.map some := by rw [numsOf_vals, hvs, List.map_map]; rfl
        rw [List.length_map] at hvl
        walk_at "go"
        refine dLc_yes (xs := ((ks.map Rv.kind).map Rv.d).map .d) (fun w => sndP (unD w)) (fun k' hk => by simpa [jSeq, dVar, srcOf] using hk) (d_of_mem fun x hx s k hk => ?_) (by simp; omega) ?_
        · obtain ⟨v, hv, rfl⟩ := List.mem_map.mp hx
          obtain ⟨n, _, rfl⟩ := List.mem_map.mp hv
          walk_at "dl"
          unfold Rv.d
          rw [dIx_tup, atI_one]
          exact hk
        · have e3 : (((ks.map Rv.kind).map Rv.d).map W.d).map (fun w => sndP (unD w)) = natsD ks := by
            unfold natsD
            simp only [List.map_map]
            rfl
          rw [e3]
          simp only [dSorted]
          walk_at "dl"
          simp only [ints_nats]
          intro ns' hperm hsort
          have e4 := sorted_unique hperm hsort
          subst e4
          have e5 : ((sortN ks).map fun n : Nat => (n : Int)).map PyData.int = natsD (sortN ks) := by unfold natsD; rw [List.map_map]; rfl
          rw [e5]
          walk_at "go"
          simp only [dLenSet]
          walk_at "dl"
          have hsl : (sortN ks).length = ks.length := (sortN_perm ks).length_eq
          have hnl : (natsD (sortN ks)).length = ks.length := by unfold natsD; rw [List.length_map, hsl]
          simp only [ints_nats, List.length_map]
          have ndiff : (sortN ks).Nodup ↔ ks.Nodup := (sortN_perm ks).nodup_iff
          refine ⟨by omega, fun nd => ?_, fun nd m' hm => ?_⟩
          · have nd2 : ks.Nodup := ndiff.mp (nodup_ints.mp nd)
            have hlt : ¬ (((sortN ks).length : Nat) : Int) < ((natsD (sortN ks)).length : Nat) := by rw [hnl, hsl]; omega
            simp only [hlt, decide_false, Bool.false_eq_true, if_false]
            walk_at "go"
            have hkin : ∀ p ∈ sortN ks, p < L.above.length := fun p hp => by
              have hp2 := (sortN_perm ks).mem_iff.mp hp
              have : Rv.kind p ∈ valsOf L.held ps := by rw [hvs]; exact List.mem_map_of_mem hp2
              unfold valsOf at this
              obtain ⟨i, hi, e⟩ := List.mem_map.mp this
              have hil := hps i hi
              rw [List.getD_eq_getElem?_getD, List.getElem?_eq_getElem hil] at e
              rw [ok.al]
              exact hin _ (List.getElem_mem hil) p e
            refine e_law_new_kind h ok (sortN ks) m hkin (by omega) (fun h4 => h0 fun ks' hk' _ => h4) (fun h4 s' a' l' t' => h1 ks hks nd2 h4 s' a' l' t')
          · have hlt : ((m' : Nat) : Int) < ((natsD (sortN ks)).length : Nat) := by rw [hnl]; omega
            simp only [hlt, decide_true, if_true]
            refine h0 fun ks' hk' nd' => ?_
            have : ks' = ks := by
              have h3 := hk'.symm.trans hks
              have h4 := congrArg (fun l : List (Option Nat) => l.map fun o => o.getD 0) h3
              simpa [List.map_map, Function.comp_def] using h4
            subst this
            exact absurd (nodup_ints.mpr (ndiff.mpr nd')) nd
/-! ### a new object -/
def fieldsC (one : Nat) : Nat → Nat → List ((Nat × Nat) × PyData) → List ((Nat × Nat) × PyData)
  | _, 0, acc => acc
  | i, m + 1, acc => fieldsC one (i + 1) m (putC acc (one, i) (.int 0))
def objC (brought : List Nat) : List Nat → List ((Nat × Nat) × PyData) → List ((Nat × Nat) × PyData)
  | [], acc => acc
  | one :: r, acc => objC brought r (fieldsC one 0 (brought.getD one 0) acc)
def LS.addObj (L : LS) (kd : Nat) : LS := { L with kinds := L.kinds ++ [kd], cells := L.cells ++ [objC L.brought (L.above.getD kd []) []] }
theorem fieldsC_len (one : Nat) (m : Nat) : ∀ (i : Nat) (acc : List ((Nat × Nat) × PyData)), (fieldsC one i m acc).length ≤ acc.length + m := by
  induction m with
  | zero => intro i acc; exact Nat.le_refl _
  | succ m ih =>
    intro i acc
    have h1 := ih (i + 1) (putC acc (one, i) (.int 0))
    have h2 := putC_len acc (one, i) (.int 0)
    show (fieldsC one (i + 1) m (putC acc (one, i) (.int 0))).length ≤ _
    omega
theorem keyW_nats (l : List Nat) : ((fnd l).map fun kv => keyW kv.1) = natsW l := by
  unfold fnd natsW
  rw [List.map_map]
  rfl
theorem mi_for {D : DEnds} {w0 w1 : Option W} {x : Addr} {one : Nat} (m : Nat) : ∀ (i : Nat) (acc : List ((Nat × Nat) × PyData)) (s : Hs) (z : Option W), s x = some (.dT (cellsW acc)) → acc.length + m < 100000 →
    (∀ z, D.nx [w0, w1, some (.v (.ref x)), some (.d (.int (one : Nat))), z] (U.put s x (.dT (cellsW (fieldsC one i m acc))))) →
    forN (hName 4) (zAsg (dC (.int 0)) (hSub (dVar 2) (dTup (dCons (dVar 3) (dCons (dVar 4) dNil))))) (fun _ => True) ((List.range m).map fun j => W.d (.int (0 + ((i + j : Nat) : Int)))) D [w0, w1, some (.v (.ref x)), some (.d (.int (one : Nat))), z] s := by
  induction m with
  | zero =>
    intro i acc s z hs _ q
    have := q z
    rw [show fieldsC one i 0 acc = acc from rfl, put_same hs] at this
    exact ⟨True.intro, this⟩
  | succ m ih =>
    intro i acc s z hs hl q
    rw [List.range_succ_eq_map, List.map_cons, List.map_map]
    refine ⟨True.intro, ?_⟩
    walk_at "dl"
    simp only [hSub]
    walk_at "dl"
    refine ⟨by decide, ?_⟩
    have hl2 : (cellsW acc).length < 100000 := by rw [cellsW_len]; omega
    simp only [setD, hs, keysOf, keyOf, Option.map_some, hl2, if_true]
    have e0 : (0 : Int) + ((i + 0 : Nat) : Int) = (i : Int) := by omega
    rw [e0]
    have e1 := putW_cells acc one i (.int 0)
    unfold key2 at e1
    rw [e1]
    have hp := putC_len acc (one, i) (.int 0)
    have e2 : (fun j => W.d (.int (0 + ((i + j : Nat) : Int)))) ∘ Nat.succ = fun j => W.d (.int (0 + ((i + 1 + j : Nat) : Int))) := by
      funext j
      simp only [Function.comp_def]
      rw [show i + j.succ = i + 1 + j by omega]
    rw [e2]
    refine ih (i + 1) (putC acc (one, i) (.int 0)) _ _ put_eq (by omega) fun z' => ?_
    rw [put_put]
    exact q z'
theorem mo_for {D : DEnds} {w1 : Option W} {x qa : Addr} {o : HO} {a : LA} {n : Nat} {f : Bool} {brought : List Nat} (hqx : qa ≠ x) (hsx : a.st ≠ x) (hbx : a.b ≠ x) (h6 : ∀ m ∈ brought, m ≤ 6) (l : List Nat) : ∀ (acc : List ((Nat × Nat) × PyData)) (s : Hs) (z3 z4 : Option W),
    (∀ one ∈ l, one < brought.length) → s x = some (.dT (cellsW acc)) → s qa = some (.lock o) → s a.st = some (.dK (stW n f a)) → s a.b = some (.lst (natsW brought)) → acc.length + 6 * l.length ≤ 90000 →
    (∀ z3 z4, D.nx [some (.v (.ref a.st)), w1, some (.v (.ref x)), z3, z4] (U.put s x (.dT (cellsW (objC brought l acc))))) →
    forN (hName 3) (zFor (jRng1 (dOp dIx (dOp dIx (dVar 0) (dC (.str "brought"))) (dVar 3))) (hName 4) (zAsg (dC (.int 0)) (hSub (dVar 2) (dTup (dCons (dVar 3) (dCons (dVar 4) dNil)))))) (fun s' => s' qa = some (.lock o)) (natsW l) D [some (.v (.ref a.st)), w1, some (.v (.ref x)), z3, z4] s := by
  induction l with
  | nil =>
    intro acc s z3 z4 _ hx hq hst hb _ q
    have := q z3 z4
    rw [show objC brought [] acc = acc from rfl, put_same hx] at this
    exact ⟨hq, this⟩
  | cons one r ih =>
    intro acc s z3 z4 hin hx hq hst hb hl q
    refine ⟨hq, ?_⟩
    have ho := hin one List.mem_cons_self
    walk_at "dl"
    simp only [zFor, jRng1]
    walk_at "dl"
    rw [dIx_key hst (show valW (stW n f a) (.inr "brought") = some (.v (.ref a.b)) from rfl), dIx_own hb, natsW_get ho]
    have hm6 := h6 _ (List.getElem_mem ho)
    have hg : brought.getD one 0 = brought[one] := by rw [List.getD_eq_getElem?_getD, List.getElem?_eq_getElem ho]; rfl
    refine ⟨by omega, ?_⟩
    have er : rngW 0 ((brought[one] : Nat) : Int).toNat = (List.range brought[one]).map fun j => W.d (.int (0 + ((0 + j : Nat) : Int))) := by
      unfold rngW
      rw [Int.toNat_natCast]
      refine List.map_congr_left fun j _ => ?_
      rw [Nat.zero_add]
    rw [er]
    simp only [List.length_cons] at hl
    refine mi_for brought[one] 0 acc s _ hx (by omega) fun z' => ?_
    dsimp only
    have hfl := fieldsC_len one brought[one] 0 acc
    refine ih (fieldsC one 0 brought[one] acc) _ _ _ (fun y hy => hin y (List.mem_cons_of_mem _ hy)) put_eq ?_ ?_ ?_ (by omega) fun z3' z4' => ?_
    · rw [put_ne hqx]; exact hq
    · rw [put_ne hsx]; exact hst
    · rw [put_ne hbx]; exact hb
    · rw [put_put]
      have := q z3' z4'
      rw [show objC brought (one :: r) acc = objC brought r (fieldsC one 0 (brought.getD one 0) acc) from rfl, hg] at this
      exact this
theorem e_law_made {a : LA} {L : LS} (h : LAt s a L) (ok : L.Ok) (h6 : ∀ m ∈ L.brought, m ≤ 6) (v : Rv) (hv : ∀ n, v = .kind n → n < L.parents.length) (hk2 : L.kinds.length ≤ 2000) (hcl : L.cells.length = L.kinds.length)
    (h0 : (∀ kd, v = .kind kd → L.kinds.length = 2000) → k (.d .none) s)
    (h1 : ∀ kd, v = .kind kd → L.kinds.length ≠ 2000 → ∀ s' a', LAt s' a' (L.addObj kd) → LTo s a s' a' → k (.d (Rv.obj L.kinds.length).d) s') :
    df__law_made K [.v (.ref a.st), .d v.d] s k := by
  rw [df__law_made_eq]; unfold d__law_made_
  walk_at "dl"
  refine ne_sort ?_
  rw [sort_kind]
  walk_at "dl"
  cases v with
  | int i =>
    simp only [Rv.kd?, Option.isSome_none, Bool.not_false, if_true]
    exact ⟨s, U.Sub.refl s, h0 fun kd e => nomatch e⟩
  | obj i =>
    simp only [Rv.kd?, Option.isSome_none, Bool.not_false, if_true]
    exact ⟨s, U.Sub.refl s, h0 fun kd e => nomatch e⟩
  | kind kd =>
    simp only [Rv.kd?, Option.isSome_some, Bool.not_true, Bool.false_eq_true, if_false]
    rw [st_kinds h]
    simp only [h.hk, natsW_len]
    by_cases hn : L.kinds.length = 2000
    · have e : (((L.kinds.length : Nat) : Int) == 2000) = true := by rw [hn]; rfl
      simp only [e, if_true]
      exact ⟨s, U.Sub.refl s, h0 fun _ _ => hn⟩
    · have e : (((L.kinds.length : Nat) : Int) == 2000) = false := by rw [beq_eq_false_iff_ne]; omega
      simp only [e, Bool.false_eq_true, if_false]
      rw [zLater]
      walk_at "dl"
      simp only [dNewT]
      intro x hx
      have hxa : x ∉ a.all := h.fresh hx
      have hkd : kd < L.above.length := by rw [ok.al]; exact hv kd rfl
      obtain ⟨qa, e1, e2, e3, e4⟩ := as_at h hkd
      have hqx : qa ≠ x := fun e => hxa (by rw [← e]; exact e4)
      have ne8 : ∀ {i : Nat} {y : Addr}, i < 8 → a.all[i]? = some y → qa ≠ y := fun hi hy => rest_ne h.nd (.inl (List.mem_of_getElem? e3)) hi hy
      have a0 := h.off hxa (.dT [])
      rw [zLater]
      walk_at "dl"
      refine ⟨qa, fnd L.above[kd], (put_ne hqx).trans e2, fun o => ?_⟩
      walk_at "dl"
      have f1 : ∀ {i : Nat} {y : Addr} (c : Cell), i < 8 → a.all[i]? = some y → s y = some c → U.put (U.put s x (.dT [])) qa (.lock o) y = some c := fun c hi hy hs => by
        rw [put_ne (Ne.symm (ne8 hi hy)), put_ne (fun e => hxa (by rw [← e]; exact mem_fix hy hi))]
        exact hs
      have hst1 := f1 _ (i := 0) (by decide) rfl h.hst
      have ha1 := f1 _ (i := 5) (by decide) rfl h.ha
      have hb1 := f1 _ (i := 4) (by decide) rfl h.hb
      rw [dIx_key hst1 (show valW (stW L.at_ L.fault a) (.inr "above") = some (.v (.ref a.a)) from rfl)]
      unfold Rv.d
      rw [dIx_tup, atI_one]
      dsimp only
      rw [dIx_own ha1, e1]
      refine ⟨rfl, put_eq, ?_⟩
      rw [keyW_nats]
      have hab := ok.ab kd hkd
      have hlen := ok.few _ (List.getElem_mem hkd)
      refine mo_for hqx (fun e => hxa (by rw [← e]; exact mem_st)) (fun e => hxa (by rw [← e]; exact mem_b)) h6 L.above[kd] [] _ none none (fun one ho => ?_) ?_ put_eq hst1 hb1 (by simp only [List.length_nil]; omega) fun z3 z4 => ?_
      · have := hab.2 one ho
        have := ok.bl
        have := ok.al
        omega
      · rw [put_ne (Ne.symm hqx)]; exact put_eq
      have eg : L.above.getD kd [] = L.above[kd] := by rw [List.getD_eq_getElem?_getD, List.getElem?_eq_getElem hkd]; rfl
      refine ⟨(put_ne hqx).trans put_eq, ?_⟩
      have est : U.put (U.put (U.put (U.put s x (.dT [])) qa (.lock o)) x (.dT (cellsW (objC L.brought L.above[kd] [])))) qa (.dK (fnd L.above[kd])) = U.put s x (.dT (cellsW (objC L.brought L.above[kd] []))) := by
        funext y
        by_cases y1 : y = qa
        · subst y1
          rw [put_eq, put_ne hqx]
          exact e2.symm
        · rw [put_ne y1]
          by_cases y2 : y = x
          · subst y2; rw [put_eq, put_eq]
          · rw [put_ne y2, put_ne y1, put_ne y2, put_ne y2]
      rw [est]
      dsimp only
      have l1 := h.off hxa (.dT (cellsW (objC L.brought L.above[kd] [])))
      walk_at "go"
      simp only [dAppendT]
      walk_at "dl"
      rw [st_kinds l1]
      simp only [isL, l1.hk, true_and, ownL]
      rw [atI_one]
      dsimp only
      rw [natsW_len, natsW_snoc]
      refine ⟨by omega, ?_⟩
      have l2 := lat_k l1 (L.kinds ++ [kd])
      walk_at "go"
      simp only [dAppendT]
      walk_at "dl"
      rw [st_cells l2]
      simp only [isL, l2.hc, true_and, ownL]
      simp only [List.length_map]
      have hlcs : a.cs.length = L.cells.length := Paired.length h.hcs
      refine ⟨by omega, ?_⟩
      have e5 : a.cs.map (fun x => W.v (.ref x)) ++ [W.v (.ref x)] = (a.cs ++ [x]).map fun x => W.v (.ref x) := by rw [List.map_append]; rfl
      rw [e5]
      have hx2 : U.put (U.put s x (.dT (cellsW (objC L.brought L.above[kd] [])))) a.k (.lst (natsW (L.kinds ++ [kd]))) x = some (.dT (cellsW (objC L.brought (L.above.getD kd []) []))) := by
        rw [put_ne (fun e => hxa (by rw [e]; exact mem_k)), put_eq, eg]
      have l3 := lat_c l2 hxa hx2
      walk_at "go"
      rw [st_kinds l3]
      simp only [l3.hk, natsW_len]
      walk_at "nums"
      have e6 : (((L.kinds ++ [kd]).length : Nat) : Int) - 1 = ((L.kinds.length : Nat) : Int) := by rw [List.length_append]; simp
      rw [e6]
      exact ⟨_, U.Sub.refl _, h1 kd rfl hn _ _ l3 (LTo.join_c hx ((LTo.off hx _).trans (LTo.put mem_k _)) _)⟩
end
end G

set_option maxHeartbeats 400000
namespace G
open PySem PySem.Spec PyProof.Rows L2 U
theorem dEq_str {a b : Str} {s : Hs} {k : DK} : dEq (.d (.str a)) (.d (.str b)) s k = k (.d (.bool (a == b))) s := by
  unfold dEq
  simp only [asD, eqOk_str, eqv_str, true_and]
theorem dNe_str {a b : Str} {s : Hs} {k : DK} : dNe (.d (.str a)) (.d (.str b)) s k = k (.d (.bool (!(a == b)))) s := by
  unfold dNe
  simp only [asD, eqOk_str, eqv_str, true_and]
local macro_rules | `(tactic| walk_at "dl") => `(tactic| simp only [dfOf, dfOfX, startD, List.map_cons, List.map_nil, List.length_cons, List.length_nil, List.cons_append, List.nil_append, List.replicate, Nat.zero_add, Nat.reduceAdd, Nat.reduceSub, true_and,
  zNext, zSeq_later, zRet, zDrop, zIf, zAsg, zPar, zAug, dVar, dC, dV, dOp, dNeg, dNil, dCons, dTest, dTru, dAnd, dOr, dNot, dYes, dAndV, dOrV, dNotV, dIf, dChain, dCB, dCall, dIsin, tkD, truD, dCmp, dLt, dLe, dGt, dGe, dMod, dDiv, dPow, dSub, dI2, hName, hTup, hCons, hNil, wipeD, dPart, dNoPart, dSl, lstOf, asD, seqOf,
  dEq_int, dNe_int, dEq_str, dNe_str, dIs, dIsNot, isNone, dLen, lenD, dAdd, dMul, dTup, dLst, newT, newL, datas, dIx_tup, dIx_list, atI_zero, atI_one, at2, at3, at4, dKGet, dTupC_list, intD_int, intD_bool, absD_int, Option.map_some, dIAdd, d1, eqv_int, eqv_str, eqOk_int, eqOk_str,
  List.getElem?_cons_zero, List.getElem?_cons_succ, List.set_cons_zero, List.set_cons_succ, if_true, Bool.false_eq_true, if_false, reduceIte, Bool.not_true, Bool.not_false])
local macro_rules | `(tactic| walk_at "nums") => `(tactic| (repeat ((with_reducible refine And.intro ?hnum ?_); case hnum => first | decide | exact mulW_abs (by decide) (by decide) | exact ⟨by decide, by decide, by decide⟩)))
local macro_rules | `(tactic| walk_at "go") => `(tactic| (rw [zLater]; walk_at "dl"; walk_at "nums"))
section
variable {K : PySem.W.Frag} {s : Hs} {k : DK}
theorem sort_call (v : Rv) {P : W → Hs → Prop} (q : P (.d (.str (sortR v))) s) : df__law_sort K [.d v.d] s P := e_sort v q
/-! ### a field -/
def cellOfL (cells : List (List ((Nat × Nat) × PyData))) (one other : Rv) (f : Nat) : Option (Nat × Nat) := match one, other with
  | .obj o, .kind kd => if (cellAt (cells.getD o []) kd f).isSome = true then some (o, kd) else none
  | _, _ => none
def spotP (f : Nat) : Option (Nat × Nat) → PyData
  | some p => .tuple [nD p.1, .tuple [nD p.2, nD f]]
  | none => .none
theorem lcs_at {a : LA} {L : LS} (h : LAt s a L) {o : Nat} (ho : o < L.cells.length) : ∃ x, atI (a.cs.map fun x => W.v (.ref x)) (o : Int) = some (.v (.ref x)) ∧ s x = some (.dT (cellsW (L.cells.getD o []))) ∧ a.cs[o]? = some x ∧ x ∈ a.all := by
  have key : ∀ {xs : List Addr} {ys : List (List ((Nat × Nat) × PyData))}, Paired (fun x l => s x = some (.dT (cellsW l))) xs ys → ∀ (i : Nat) (hi : i < ys.length), ∃ x, xs[i]? = some x ∧ s x = some (.dT (cellsW ys[i])) := by
    intro xs ys p
    induction p with
    | nil => intro i hi; exact absurd hi (Nat.not_lt_zero i)
    | @cons x y xs ys h t ih =>
      intro i hi
      cases i with
      | zero => exact ⟨x, rfl, h⟩
      | succ i => exact ih i (by simpa using hi)
  obtain ⟨x, h1, h2⟩ := key h.hcs o ho
  refine ⟨x, ?_, ?_, h1, ?_⟩
  · rw [U.atI_nat, List.getElem?_map, h1]; rfl
  · rw [List.getD_eq_getElem?_getD, List.getElem?_eq_getElem ho]; exact h2
  · simp only [LA.all, List.mem_cons, List.mem_append]
    exact .inr (.inr (.inr (.inr (.inr (.inr (.inr (.inr (.inr (List.mem_of_getElem? h1)))))))))
theorem e_law_spot {a : LA} {L : LS} (h : LAt s a L) (one other : Rv) (f : Nat) (ho : ∀ o, one = .obj o → o < L.cells.length) (q : k (.d (spotP f (cellOfL L.cells one other f))) s) : df__law_spot K [.v (.ref a.st), .d one.d, .d other.d, .d (.int (f : Nat))] s k := by
  rw [df__law_spot_eq]; unfold d__law_spot_
  walk_at "dl"
  refine sort_call one ?_
  walk_at "dl"
  rw [sort_obj]
  cases one with
  | int i => simp only [Rv.ob?, Option.isSome_none, Bool.not_false, if_true]; exact q
  | kind i => simp only [Rv.ob?, Option.isSome_none, Bool.not_false, if_true]; exact q
  | obj o =>
    simp only [Rv.ob?, Option.isSome_some, Bool.not_true, Bool.false_eq_true, if_false]
    refine sort_call other ?_
    walk_at "dl"
    rw [sort_kind]
    cases other with
    | int i => simp only [Rv.kd?, Option.isSome_none, Bool.not_false, if_true]; exact q
    | obj i => simp only [Rv.kd?, Option.isSome_none, Bool.not_false, if_true]; exact q
    | kind kd =>
      simp only [Rv.kd?, Option.isSome_some, Bool.not_true, Bool.false_eq_true, if_false]
      walk_at "go"
      simp only [Rv.d]
      walk_at "dl"
      walk_at "nums"
      walk_at "go"
      rw [st_cells h]
      obtain ⟨x, e1, e2, _, _⟩ := lcs_at h (ho o rfl)
      rw [dIx_own h.hc, e1]
      dsimp only
      simp only [dIn, dInB, getD_cells e2]
      simp only [cellOfL] at q
      cases hc : cellAt (L.cells.getD o []) kd f with
      | none =>
        simp only [hc, Option.isSome_none, Bool.false_eq_true, if_false] at q
        simp only [Option.map_none, Option.isSome_none, Bool.false_eq_true, if_false]
        exact q
      | some v =>
        simp only [hc, Option.isSome_some, if_true] at q
        simp only [Option.map_some, Option.isSome_some, Bool.false_eq_true, if_false, if_true]
        walk_at "nums"
        exact q
/-! ### what a row gives -/
def LS.at (L : LS) (x : Nat) : Rv := L.held.getD x (.int 0)
def LS.put (L : LS) (x : Nat) (v : Rv) : LS := { L with held := L.held.set x v }
def valueL (L : LS) : Row → Option (Rv × LS)
  | .set _ n => some (.int n, L)
  | .copy _ y => some (L.at y, L)
  | .add _ y z => (sumD? (L.at y) (L.at z)).map fun i => (.int i, L)
  | .load _ ps b => match ksOf (numsOf L.held ps) with
    | some ks => if L.parents.length = 400 then none else some (.kind L.parents.length, L.addKind (sortN ks) b)
    | none => none
  | .make _ y => match L.at y with
    | .kind kd => if L.kinds.length = 2000 then none else some (.obj L.kinds.length, L.addObj kd)
    | _ => none
  | .kind _ y => match L.at y with
    | .obj o => some (.kind (L.kinds.getD o 0), L)
    | _ => none
  | .read _ y z f => match cellOfL L.cells (L.at y) (L.at z) f with
    | some p => some (toRv ((cellAt (L.cells.getD p.1 []) p.2 f).getD .none), L)
    | none => none
  | _ => none
/-- what always holds, more -/
structure LS.Ok2 (L : LS) : Prop extends LS.Ok L where
  hl : L.held.length = 10
  hk : ∀ v ∈ L.held, ∀ n, v = .kind n → n < L.parents.length
  ho : ∀ v ∈ L.held, ∀ n, v = .obj n → n < L.kinds.length
  b6 : ∀ m ∈ L.brought, m ≤ 6
  k2 : L.kinds.length ≤ 2000
  cl : L.cells.length = L.kinds.length
  ki : ∀ kd ∈ L.kinds, kd < L.parents.length
  ce : ∀ l ∈ L.cells, ∀ e ∈ l, ∃ v : Rv, e.2 = v.d
theorem LS.at_mem {L : LS} (ok : L.Ok2) {x : Nat} (hx : x < 10) : L.at x ∈ L.held := by
  have hl : x < L.held.length := by rw [ok.hl]; exact hx
  unfold LS.at
  rw [List.getD_eq_getElem?_getD, List.getElem?_eq_getElem hl]
  exact List.getElem_mem hl
theorem ksOf_some1 {os : List (Option Nat)} {ks : List Nat} (h : os = ks.map some) (nd : ks.Nodup) : ksOf os = some ks := by
  subst h
  unfold ksOf
  have e : (ks.map some).any Option.isNone = false := by rw [List.any_map]; simp
  have e2 : (ks.map some).map (fun o => o.getD 0) = ks := by rw [List.map_map]; simp [Function.comp_def]
  rw [e, if_neg Bool.false_ne_true, e2, if_pos nd]
theorem ksOf_of {os : List (Option Nat)} {ks : List Nat} (h : ksOf os = some ks) : os = ks.map some ∧ ks.Nodup := by
  unfold ksOf at h
  split at h
  · cases h
  · rename_i hn
    rw [Bool.not_eq_true] at hn
    obtain ⟨ks', rfl⟩ := nums_some hn
    have e2 : (ks'.map some).map (fun o => o.getD 0) = ks' := by rw [List.map_map]; simp [Function.comp_def]
    rw [e2] at h
    split at h
    · rename_i nd
      cases h
      exact ⟨rfl, nd⟩
    · cases h
theorem toRv_cell {L : LS} (ok : L.Ok2) {o kd f : Nat} {v : PyData} (ho : o < L.cells.length) (h : cellAt (L.cells.getD o []) kd f = some v) : (toRv v).d = v := by
  unfold cellAt at h
  cases e : (L.cells.getD o []).find? fun e => decide (e.1 = (kd, f)) with
  | none => rw [e] at h; cases h
  | some p =>
    rw [e] at h
    cases h
    have hm := List.mem_of_find?_eq_some e
    have hm2 : L.cells.getD o [] ∈ L.cells := by rw [List.getD_eq_getElem?_getD, List.getElem?_eq_getElem ho]; exact List.getElem_mem ho
    obtain ⟨u, hu⟩ := ok.ce _ hm2 p hm
    show (toRv p.2).d = p.2
    rw [hu, toRv_d]
end
end G

set_option maxHeartbeats 400000
namespace G
open PySem PySem.Spec PyProof.Rows L2 U
theorem sumD_int1 {i j : Int} (h : (i + j).natAbs ≤ 1000000000000000000) : sumD? (.int i) (.int j) = some (i + j) := if_pos h
theorem sumD_none1 {i j : Int} (h : ¬ (i + j).natAbs ≤ 1000000000000000000) : sumD? (.int i) (.int j) = none := if_neg h
local macro_rules | `(tactic| walk_at "dl") => `(tactic| simp only [dfOf, dfOfX, startD, List.map_cons, List.map_nil, List.length_cons, List.length_nil, List.cons_append, List.nil_append, List.replicate, Nat.zero_add, Nat.reduceAdd, Nat.reduceSub, true_and,
  zNext, zSeq_later, zRet, zDrop, zIf, zAsg, zPar, zAug, dVar, dC, dV, dOp, dNeg, dNil, dCons, dTest, dTru, dAnd, dOr, dNot, dYes, dAndV, dOrV, dNotV, dIf, dChain, dCB, dCall, dIsin, tkD, truD, dCmp, dLt, dLe, dGt, dGe, dMod, dDiv, dPow, dSub, dI2, hName, hTup, hCons, hNil, wipeD, dPart, dNoPart, dSl, lstOf, asD, seqOf,
  dEq_int, dNe_int, dEq_str, dNe_str, dIs, dIsNot, isNone, dLen, lenD, dAdd, dMul, dTup, dLst, newT, newL, datas, dIx_tup, dIx_list, atI_zero, atI_one, at2, at3, at4, dKGet, dTupC_list, intD_int, intD_bool, absD_int, Option.map_some, dIAdd, d1, eqv_int, eqv_str, eqOk_int, eqOk_str,
  List.getElem?_cons_zero, List.getElem?_cons_succ, List.set_cons_zero, List.set_cons_succ, if_true, Bool.false_eq_true, if_false, reduceIte, Bool.not_true, Bool.not_false])
local macro_rules | `(tactic| walk_at "nums") => `(tactic| (repeat ((with_reducible refine And.intro ?hnum ?_); case hnum => first | decide | exact mulW_abs (by decide) (by decide) | exact ⟨by decide, by decide, by decide⟩)))
local macro_rules | `(tactic| walk_at "go") => `(tactic| (rw [zLater]; walk_at "dl"; walk_at "nums"))
section
variable {K : PySem.W.Frag} {s : Hs} {k : DK}
def isVal : Row → Bool
  | .set _ _ | .copy _ _ | .add _ _ _ | .load _ _ _ | .make _ _ | .kind _ _ | .read _ _ _ _ => true
  | _ => false
theorem held_at {a : LA} {L : LS} (h : LAt s a L) (ok : L.Ok2) {x : Nat} (hx : x < 10) : dIx (.v (.ref a.h)) (.d (.int (x : Nat))) s k = k (.d (L.at x).d) s := reg_at2 h.hh (by rw [ok.hl]; exact hx)
theorem e_law_value {a : LA} {L : LS} (h : LAt s a L) (ok : L.Ok2) {row : Row} {many : Nat} (hr : row.Ok many) (hv : isVal row = true) (q0 : valueL L row = none → k (.d .none) s)
    (q1 : ∀ u L1, valueL L row = some (u, L1) → ∀ s' a', LAt s' a' L1 → LTo s a s' a' → k (.d u.d) s') : df__law_value K [.v (.ref a.st), .d row.d] s k := by
  rw [df__law_value_eq]; unfold d__law_value_
  walk_at "dl"
  rw [st_held h]
  have here : ∀ u, valueL L row = some (u, L) → k (.d u.d) s := fun u e => q1 u L e s a h (LTo.refl s a)
  cases row with
  | set x n =>
    simp only [Row.d, nD]
    walk_at "go"
    rw [if_pos (by decide)]
    exact here _ rfl
  | copy x y =>
    simp only [Row.d, nD]
    walk_at "go"
    rw [if_neg (by decide)]
    walk_at "go"
    rw [if_pos (by decide), held_at h ok hr.2]
    exact here _ rfl
  | load x ps b =>
    simp only [Row.d, nD]
    walk_at "go"
    rw [if_neg (by decide)]
    walk_at "go"
    rw [if_neg (by decide)]
    walk_at "go"
    rw [if_pos (by decide)]
    refine e_law_loaded h ok.toOk (fun v hv n e => ok.hk v hv n e) ps b (fun p hp => by rw [ok.hl]; exact hr.2.1 p hp) hr.2.2.1 (fun h4 => q0 ?_) (fun ks hks nd hn s' a' l' t' => q1 _ _ ?_ s' a' l' t')
    · simp only [valueL]
      cases hk : ksOf (numsOf L.held ps) with
      | none => rfl
      | some ks =>
        obtain ⟨e1, e2⟩ := ksOf_of hk
        simp only [h4 ks e1 e2, if_true]
    · simp only [valueL, ksOf_some1 hks nd, hn, if_false]
  | make x y =>
    simp only [Row.d, nD]
    walk_at "go"
    rw [if_neg (by decide)]
    walk_at "go"
    rw [if_neg (by decide)]
    walk_at "go"
    rw [if_neg (by decide)]
    walk_at "go"
    rw [if_pos (by decide), held_at h ok hr.2]
    refine e_law_made h ok.toOk ok.b6 _ (fun n e => ok.hk _ (LS.at_mem ok hr.2) n e) ok.k2 ok.cl (fun h4 => q0 ?_) (fun kd e hn s' a' l' t' => q1 _ _ ?_ s' a' l' t')
    · simp only [valueL]
      cases hv : L.at y with
      | int i => rfl
      | obj i => rfl
      | kind kd => simp only [h4 kd hv, if_true]
    · simp only [valueL, e, hn, if_false]
  | kind x y =>
    simp only [Row.d, nD]
    walk_at "go"
    rw [if_neg (by decide)]
    walk_at "go"
    rw [if_neg (by decide)]
    walk_at "go"
    rw [if_neg (by decide)]
    walk_at "go"
    rw [if_neg (by decide)]
    walk_at "go"
    rw [if_pos (by decide), held_at h ok hr.2]
    rw [zLater]
    walk_at "dl"
    refine sort_call _ ?_
    walk_at "dl"
    rw [sort_obj]
    cases hv : L.at y with
    | int i =>
      simp only [Rv.ob?, Option.isSome_none, Bool.false_eq_true, if_false]
      exact q0 (by simp only [valueL, hv])
    | kind i =>
      simp only [Rv.ob?, Option.isSome_none, Bool.false_eq_true, if_false]
      exact q0 (by simp only [valueL, hv])
    | obj o =>
      simp only [Rv.ob?, Option.isSome_some, if_true]
      rw [st_kinds h]
      simp only [Rv.d]
      walk_at "dl"
      have ho : o < L.kinds.length := ok.ho _ (LS.at_mem ok hr.2) o hv
      rw [dIx_own h.hk, natsW_get ho]
      dsimp only
      walk_at "dl"
      walk_at "nums"
      have := here (.kind (L.kinds.getD o 0)) (by simp only [valueL, hv])
      rw [List.getD_eq_getElem?_getD, List.getElem?_eq_getElem ho] at this
      exact this
  | add x y z =>
    simp only [Row.d, nD]
    iterate 5
      walk_at "go"
      rw [if_neg (by decide)]
    walk_at "go"
    rw [if_pos (by decide), held_at h ok hr.2.1, held_at h ok hr.2.2]
    rw [zLater]
    walk_at "dl"
    refine sort_call _ ?_
    walk_at "dl"
    rw [sort_int]
    cases hy : L.at y with
    | kind i =>
      simp only [isI, Bool.not_false, if_true]
      exact q0 (by simp only [valueL, hy, sumD?, Option.map_none])
    | obj i =>
      simp only [isI, Bool.not_false, if_true]
      exact q0 (by simp only [valueL, hy, sumD?, Option.map_none])
    | int i =>
      simp only [isI, Bool.not_true, Bool.false_eq_true, if_false]
      refine sort_call _ ?_
      walk_at "dl"
      rw [sort_int]
      cases hz : L.at z with
      | kind j =>
        simp only [isI, Bool.not_false, if_true]
        exact q0 (by simp only [valueL, hy, hz, sumD?, Option.map_none])
      | obj j =>
        simp only [isI, Bool.not_false, if_true]
        exact q0 (by simp only [valueL, hy, hz, sumD?, Option.map_none])
      | int j =>
        simp only [isI, Bool.not_true, Bool.false_eq_true, if_false, Rv.d]
        try walk_at "dl"
        refine ⟨⟨by decide, by decide, by decide⟩, ?_⟩
        have e18 : (10 : Int) ^ Int.toNat 18 = 1000000000000000000 := by decide
        rw [e18]
        by_cases hs : (i + j).natAbs ≤ 1000000000000000000
        · have e : ¬ (1000000000000000000 : Int) < (if i + j < 0 then -(i + j) else i + j) := by split <;> omega
          rw [if_neg (by rw [decide_eq_false e]; exact Bool.false_ne_true)]
          walk_at "go"
          exact here (.int (i + j)) (by simp only [valueL, hy, hz]; rw [sumD_int1 hs]; rfl)
        · have e : (1000000000000000000 : Int) < (if i + j < 0 then -(i + j) else i + j) := by split <;> omega
          rw [if_pos (decide_eq_true e)]
          exact q0 (by simp only [valueL, hy, hz]; rw [sumD_none1 hs]; rfl)
  | read x y z f =>
    simp only [Row.d, nD]
    iterate 6
      walk_at "go"
      rw [if_neg (by decide)]
    walk_at "go"
    rw [held_at h ok hr.2.1, held_at h ok hr.2.2.1]
    have hob : ∀ o, L.at y = .obj o → o < L.cells.length := fun o e => by rw [ok.cl]; exact ok.ho _ (LS.at_mem ok hr.2.1) o e
    refine e_law_spot h _ _ f hob ?_
    cases hc : cellOfL L.cells (L.at y) (L.at z) f with
    | none =>
      simp only [spotP]
      walk_at "go"
      exact q0 (by simp only [valueL, hc])
    | some p =>
      simp only [spotP, nD]
      walk_at "go"
      have hp : L.at y = .obj p.1 ∧ (cellAt (L.cells.getD p.1 []) p.2 f).isSome = true := by
        unfold cellOfL at hc
        split at hc
        · rename_i o kd e1 e2
          split at hc
          · rename_i hs
            cases hc
            exact ⟨e1, hs⟩
          · cases hc
        · cases hc
      obtain ⟨v, hv2⟩ := Option.isSome_iff_exists.mp hp.2
      rw [st_cells h]
      obtain ⟨w, e1, e2, _, _⟩ := lcs_at h (hob _ hp.1)
      rw [dIx_own h.hc, e1]
      dsimp only
      have hg := getD_cells e2 p.2 f
      rw [hv2] at hg
      have : dIx (.v (.ref w)) (.d (.tuple [.int (p.2 : Nat), .int (f : Nat)])) s k = k (.d v) s := by
        unfold dIx seqOf
        simp only [e2, hg, Option.map_some]
      rw [this]
      have r := here (toRv ((cellAt (L.cells.getD p.1 []) p.2 f).getD .none)) (by simp only [valueL, hc])
      rw [hv2, Option.getD_some, toRv_cell ok (hob _ hp.1) hv2] at r
      exact r
  | write x y f z => cases hv
  | is_ x y t => cases hv
  | less x y t => cases hv
  | go t => cases hv
  | show_ x => cases hv
end
end G

set_option maxHeartbeats 400000
namespace G
open PySem PySem.Spec PyProof.Rows L2 U
local macro_rules | `(tactic| walk_at "dl") => `(tactic| simp only [dfOf, dfOfX, startD, List.map_cons, List.map_nil, List.length_cons, List.length_nil, List.cons_append, List.nil_append, List.replicate, Nat.zero_add, Nat.reduceAdd, Nat.reduceSub, true_and,
  zNext, zSeq_later, zRet, zDrop, zIf, zAsg, zPar, zAug, dVar, dC, dV, dOp, dNeg, dNil, dCons, dTest, dTru, dAnd, dOr, dNot, dYes, dAndV, dOrV, dNotV, dIf, dChain, dCB, dCall, dIsin, tkD, truD, dCmp, dLt, dLe, dGt, dGe, dMod, dDiv, dPow, dSub, dI2, hName, hTup, hCons, hNil, wipeD, dPart, dNoPart, dSl, lstOf, asD, seqOf,
  dEq_int, dNe_int, dEq_str, dNe_str, dIs, dIsNot, isNone, dLen, lenD, dAdd, dMul, dTup, dLst, newT, newL, datas, dIx_tup, dIx_list, atI_zero, atI_one, at2, at3, at4, dKGet, dTupC_list, intD_int, intD_bool, absD_int, Option.map_some, dIAdd, d1, eqv_int, eqv_str, eqOk_int, eqOk_str,
  List.getElem?_cons_zero, List.getElem?_cons_succ, List.set_cons_zero, List.set_cons_succ, if_true, Bool.false_eq_true, if_false, reduceIte, Bool.not_true, Bool.not_false])
local macro_rules | `(tactic| walk_at "nums") => `(tactic| (repeat ((with_reducible refine And.intro ?hnum ?_); case hnum => first | decide | exact mulW_abs (by decide) (by decide) | exact ⟨by decide, by decide, by decide⟩)))
local macro_rules | `(tactic| walk_at "go") => `(tactic| (rw [zLater]; walk_at "dl"; walk_at "nums"))
section
variable {K : PySem.W.Frag} {s : Hs} {k : DK}
def goesL (L : LS) : Row → Option Bool
  | .is_ x y _ => match L.at x, L.at y with
    | .obj o, .kind kd => some (decide (kd ∈ L.above.getD (L.kinds.getD o 0) []))
    | _, _ => none
  | .less x y _ => match L.at x, L.at y with
    | .int i, .int j => some (decide (i < j))
    | _, _ => none
  | _ => none
theorem e_goes_less {a : LA} {L : LS} (h : LAt s a L) (ok : L.Ok2) (x y t : Nat) (hx : x < 10) (hy : y < 10) (q : k (.d (boolO (goesL L (.less x y t)))) s) : df__law_goes K [.v (.ref a.st), .d (Row.less x y t).d] s k := by
  rw [df__law_goes_eq]; unfold d__law_goes_
  simp only [Row.d, nD]
  walk_at "dl"
  rw [st_held h, held_at h ok hx, st_held h, held_at h ok hy]
  walk_at "go"
  rw [if_pos (by decide)]
  refine sort_call _ ?_
  walk_at "dl"
  rw [sort_int]
  cases hx2 : L.at x with
  | kind i =>
    simp only [isI, Bool.not_false, if_true]
    simp only [goesL, hx2] at q
    exact q
  | obj i =>
    simp only [isI, Bool.not_false, if_true]
    simp only [goesL, hx2] at q
    exact q
  | int i =>
    simp only [isI, Bool.not_true, Bool.false_eq_true, if_false]
    refine sort_call _ ?_
    walk_at "dl"
    rw [sort_int]
    cases hy2 : L.at y with
    | kind j =>
      simp only [isI, Bool.not_false, if_true]
      simp only [goesL, hx2, hy2] at q
      exact q
    | obj j =>
      simp only [isI, Bool.not_false, if_true]
      simp only [goesL, hx2, hy2] at q
      exact q
    | int j =>
      simp only [isI, Bool.not_true, Bool.false_eq_true, if_false, Rv.d]
      walk_at "go"
      simp only [goesL, hx2, hy2] at q
      exact q
theorem e_goes_is {a : LA} {L : LS} (h : LAt s a L) (ok : L.Ok2) (x y t : Nat) (hx : x < 10) (hy : y < 10) (q : k (.d (boolO (goesL L (.is_ x y t)))) s) : df__law_goes K [.v (.ref a.st), .d (Row.is_ x y t).d] s k := by
  rw [df__law_goes_eq]; unfold d__law_goes_
  simp only [Row.d, nD]
  walk_at "dl"
  rw [st_held h, held_at h ok hx, st_held h, held_at h ok hy]
  walk_at "go"
  rw [if_neg (by decide)]
  rw [zLater]
  walk_at "dl"
  refine sort_call _ ?_
  walk_at "dl"
  rw [sort_obj]
  cases hx2 : L.at x with
  | kind i =>
    simp only [Rv.ob?, Option.isSome_none, Bool.not_false, if_true]
    simp only [goesL, hx2] at q
    exact q
  | int i =>
    simp only [Rv.ob?, Option.isSome_none, Bool.not_false, if_true]
    simp only [goesL, hx2] at q
    exact q
  | obj o =>
    simp only [Rv.ob?, Option.isSome_some, Bool.not_true, Bool.false_eq_true, if_false]
    refine sort_call _ ?_
    walk_at "dl"
    rw [sort_kind]
    cases hy2 : L.at y with
    | int j =>
      simp only [Rv.kd?, Option.isSome_none, Bool.not_false, if_true]
      simp only [goesL, hx2, hy2] at q
      exact q
    | obj j =>
      simp only [Rv.kd?, Option.isSome_none, Bool.not_false, if_true]
      simp only [goesL, hx2, hy2] at q
      exact q
    | kind kd =>
      simp only [Rv.kd?, Option.isSome_some, Bool.not_true, Bool.false_eq_true, if_false, Rv.d]
      walk_at "go"
      have ho : o < L.kinds.length := ok.ho _ (LS.at_mem ok hx) o hx2
      rw [st_above h, st_kinds h]
      rw [dIx_own h.hk, natsW_get ho]
      dsimp only
      have hkd : L.kinds[o] < L.above.length := by rw [ok.al]; exact ok.ki _ (List.getElem_mem ho)
      obtain ⟨w, e1, e2, _, _⟩ := as_at h hkd
      rw [dIx_own h.ha, e1]
      dsimp only
      simp only [dIn, dInB, U.getD, e2, foundK, keyOf, Option.map_some, valW_found, Bool.false_eq_true, if_false]
      simp only [goesL, hx2, hy2, boolO] at q
      have g1 : L.kinds.getD o 0 = L.kinds[o] := by rw [List.getD_eq_getElem?_getD, List.getElem?_eq_getElem ho]; rfl
      have g2 : L.above.getD L.kinds[o] [] = L.above[L.kinds[o]] := by rw [List.getD_eq_getElem?_getD, List.getElem?_eq_getElem hkd]; rfl
      rw [g1, g2] at q
      exact q
/-! ### a step -/
def LS.setCell (L : LS) (o kd f : Nat) (v : PyData) : LS := { L with cells := L.cells.set o (putC (L.cells.getD o []) (kd, f) v) }
def regOf : Row → Nat
  | .set x _ | .copy x _ | .add x _ _ | .load x _ _ | .make x _ | .kind x _ | .read x _ _ _ => x
  | _ => 0
def stepL (L : LS) (row : Row) : Option (Nat × LS) := match row with
  | .go t => some (t, L)
  | .is_ x y t => (goesL L (.is_ x y t)).map fun b => (if b = true then t else L.at_ + 1, L)
  | .less x y t => (goesL L (.less x y t)).map fun b => (if b = true then t else L.at_ + 1, L)
  | .show_ x => some (L.at_ + 1, { L with shown := L.shown ++ [L.at x] })
  | .write x y f z => (cellOfL L.cells (L.at x) (L.at y) f).map fun p => (L.at_ + 1, L.setCell p.1 p.2 f (L.at z).d)
  | row => (valueL L row).map fun p => (L.at_ + 1, p.2.put (regOf row) p.1)
def finL (L : LS) : Option Nat → LS
  | some n => { L with at_ := n }
  | none => { L with fault := true }
def stepLS (L : LS) (row : Row) : LS := match stepL L row with
  | some p => finL p.2 (some p.1)
  | none => finL L none
theorem lat_cell {a : LA} {L : LS} (h : LAt s a L) {o : Nat} {x : Addr} (hx : a.cs[o]? = some x) (l : List ((Nat × Nat) × PyData)) : LAt (U.put s x (.dT (cellsW l))) a { L with cells := L.cells.set o l } := by
  have hm : x ∈ a.cs := List.mem_of_getElem? hx
  have ne : ∀ {i : Nat} {y : Addr} {c : Cell}, i < 8 → a.all[i]? = some y → s y = some c → U.put s x (.dT (cellsW l)) y = some c := fun hi hy hs => (put_ne (Ne.symm (rest_ne h.nd (.inr hm) hi hy))).trans hs
  have nd2 : (a.as ++ a.cs).Nodup := by
    have := h.nd
    unfold LA.all at this
    simp only [List.nodup_cons] at this
    exact this.2.2.2.2.2.2.2.2
  have nd3 := List.nodup_append.mp nd2
  refine ⟨ne (i := 0) (by decide) rfl h.hst, ne (i := 1) (by decide) rfl h.hh, ne (i := 2) (by decide) rfl h.hv, ne (i := 3) (by decide) rfl h.hp, ne (i := 4) (by decide) rfl h.hb, ne (i := 5) (by decide) rfl h.ha, ne (i := 6) (by decide) rfl h.hk, ne (i := 7) (by decide) rfl h.hc,
    paired_frame (α := Nat) h.has fun y hy => put_ne (nd3.2.2 y hy x hm), paired_set h.hcs nd3.2.1 hx, h.nd⟩
theorem mem_cs {a : LA} {o : Nat} {x : Addr} (hx : a.cs[o]? = some x) : x ∈ a.all := by
  simp only [LA.all, List.mem_cons, List.mem_append]
  exact .inr (.inr (.inr (.inr (.inr (.inr (.inr (.inr (.inr (List.mem_of_getElem? hx)))))))))
theorem put_at_ (n m : Nat) (f : Bool) (a : LA) : putW (stW n f a) (.inr "at") (.d (.int (m : Nat))) = stW m f a := rfl
theorem put_fault (n : Nat) (f : Bool) (a : LA) : putW (stW n f a) (.inr "fault") (.d (.bool true)) = stW n true a := rfl
theorem step_tail {P : DK} {N : DEnv → Hs → Prop} {a : LA} {L : LS} {w0 w2 w3 w5 w6 w7 : Option W} (h : LAt s a L) (o : Option Nat) (q : ∀ s', LAt s' a (finL L o) → LTo s a s' a → P (.d (.bool true)) s') :
    zLater (zSeq (zIf (dTest (dOp dIs (dVar 4) (dC .none))) (zAsg (dC (.bool true)) (hSub (dVar 1) (dC (.str "fault")))) (zAsg (dVar 4) (hSub (dVar 1) (dC (.str "at"))))) (zRet (dC (.bool true)))) { nx := N, rt := P } [w0, some (.v (.ref a.st)), w2, w3, some (.d (natO o)), w5, w6, w7] s := by
  cases o with
  | none =>
    simp only [natO]
    walk_at "go"
    simp only [hSub]
    walk_at "dl"
    have hl : (stW L.at_ L.fault a).length < 100000 := by show 9 < 100000; decide
    simp only [setD, h.hst, keyOf, hl, if_true, put_fault]
    walk_at "go"
    exact q _ (lat_st h L.at_ true) (LTo.put mem_st _)
  | some n =>
    simp only [natO]
    walk_at "go"
    simp only [hSub]
    walk_at "dl"
    have hl : (stW L.at_ L.fault a).length < 100000 := by show 9 < 100000; decide
    simp only [setD, h.hst, keyOf, hl, if_true, put_at_]
    walk_at "go"
    exact q _ (lat_st h n L.fault) (LTo.put mem_st _)
end
end G

set_option maxHeartbeats 400000
namespace G
open PySem PySem.Spec PyProof.Rows L2 U
local macro_rules | `(tactic| walk_at "dl") => `(tactic| simp only [dfOf, dfOfX, startD, List.map_cons, List.map_nil, List.length_cons, List.length_nil, List.cons_append, List.nil_append, List.replicate, Nat.zero_add, Nat.reduceAdd, Nat.reduceSub, true_and,
  zNext, zSeq_later, zRet, zDrop, zIf, zAsg, zPar, zAug, dVar, dC, dV, dOp, dNeg, dNil, dCons, dTest, dTru, dAnd, dOr, dNot, dYes, dAndV, dOrV, dNotV, dIf, dChain, dCB, dCall, dIsin, tkD, truD, dCmp, dLt, dLe, dGt, dGe, dMod, dDiv, dPow, dSub, dI2, hName, hTup, hCons, hNil, wipeD, dPart, dNoPart, dSl, lstOf, asD, seqOf,
  dEq_int, dNe_int, dEq_str, dNe_str, dIs, dIsNot, isNone, dLen, lenD, dAdd, dMul, dTup, dLst, newT, newL, datas, dIx_tup, dIx_list, atI_zero, atI_one, at2, at3, at4, dKGet, dTupC_list, intD_int, intD_bool, absD_int, Option.map_some, dIAdd, d1, eqv_int, eqv_str, eqOk_int, eqOk_str,
  List.getElem?_cons_zero, List.getElem?_cons_succ, List.set_cons_zero, List.set_cons_succ, if_true, Bool.false_eq_true, if_false, reduceIte, Bool.not_true, Bool.not_false])
local macro_rules | `(tactic| walk_at "nums") => `(tactic| (repeat ((with_reducible refine And.intro ?hnum ?_); case hnum => first | decide | exact mulW_abs (by decide) (by decide) | exact ⟨by decide, by decide, by decide⟩)))
local macro_rules | `(tactic| walk_at "go") => `(tactic| (rw [zLater]; walk_at "dl"; walk_at "nums"))
section
variable {K : PySem.W.Frag} {s : Hs} {k : DK}
theorem in_isless {w : Str} (q : k (.d (.bool ("is" == w || "less" == w))) s) : dIn (.d (.str w)) (.d (.list [.str "is", .str "less"])) s k := by
  simp only [dIn, dInB, U.getD, itemsD, asD]
  refine ⟨.inl ⟨rfl, rfl⟩, ?_⟩
  have hm : memD (.str w) [.str "is", .str "less"] = ("is" == w || "less" == w) := by
    unfold memD
    simp only [List.any_cons, List.any_nil, eqv_str, Bool.or_false]
  simp only [hm, Bool.false_eq_true, if_false]
  exact q
/-- what stands behind the looks at the row -/
abbrev tailS : DS := zSeq (zIf (dTest (dOp dIs (dVar 4) (dC .none))) (zAsg (dC (.bool true)) (hSub (dVar 1) (dC (.str "fault")))) (zAsg (dVar 4) (hSub (dVar 1) (dC (.str "at"))))) (zRet (dC (.bool true)))
abbrev mainS (K : PySem.W.Frag) : DS := zIf (dTest (dOp dEq (dOp dIx (dVar 2) (dC (.int 0))) (dC (.str "go")))) (zAsg (dOp dIx (dVar 2) (dC (.int 1))) (hName 4)) (zIf (dTest (dOp dIn (dOp dIx (dVar 2) (dC (.int 0))) (dLst (dCons (dC (.str "is")) (dCons (dC (.str "less")) dNil))))) (zSeq (zAsg (dCall (df__law_goes K) (dCons (dVar 1) (dCons (dVar 2) dNil))) (hName 5))
    (zAsg (dIf (dTest (dOp dIs (dVar 5) (dC .none))) (dC .none) (dIf (dTru (dVar 5)) (dOp dIx (dVar 2) (dC (.int 3))) (dVar 4))) (hName 4))) (zIf (dTest (dOp dEq (dOp dIx (dVar 2) (dC (.int 0))) (dC (.str "show")))) (zDrop (dAppendT (dOp dIx (dVar 1) (dC (.str "shown"))) (dOp dIx (dVar 3) (dOp dIx (dVar 2) (dC (.int 1)))))) (zIf (dTest (dOp dEq (dOp dIx (dVar 2) (dC (.int 0))) (dC (.str "write")))) (zSeq (zAsg (dCall (df__law_spot K) (dCons (dVar 1) (dCons (dOp dIx (dVar 3) (dOp dIx (dVar 2) (dC (.int 1)))) (dCons (dOp dIx (dVar 3) (dOp dIx (dVar 2) (dC (.int 2)))) (dCons (dOp dIx (dVar 2) (dC (.int 3))) dNil))))) (hName 6))
    (zIf (dTest (dOp dIs (dVar 6) (dC .none))) (zAsg (dC .none) (hName 4)) (zAsg (dOp dIx (dVar 3) (dOp dIx (dVar 2) (dC (.int 4)))) (hSub (dOp dIx (dOp dIx (dVar 1) (dC (.str "cells"))) (dOp dIx (dVar 6) (dC (.int 0)))) (dOp dIx (dVar 6) (dC (.int 1))))))) (zSeq (zAsg (dCall (df__law_value K) (dCons (dVar 1) (dCons (dVar 2) dNil))) (hName 7))
    (zIf (dTest (dOp dIs (dVar 7) (dC .none))) (zAsg (dC .none) (hName 4)) (zAsg (dVar 7) (hSub (dVar 3) (dOp dIx (dVar 2) (dC (.int 1))))))))))
variable {N : DEnv → Hs → Prop} {P : DK} {a : LA} {L : LS} {w0 : Option W}
abbrev envS (w0 : Option W) (a : LA) (L : LS) (row : Row) : DEnv := [w0, some (.v (.ref a.st)), some (.d row.d), some (.v (.ref a.h)), some (.d (.int ((L.at_ + 1 : Nat) : Int))), none, none, none]
theorem fin_none (h : LAt s a L) {row : Row} (hn : stepL L row = none) (q : ∀ s' a', LAt s' a' (stepLS L row) → LTo s a s' a' → P (.d (.bool true)) s') {w2 w3 w5 w6 w7 : Option W} : zLater tailS { nx := N, rt := P } [w0, some (.v (.ref a.st)), w2, w3, some (.d .none), w5, w6, w7] s := by
  refine step_tail h none fun s' h' t' => q s' a ?_ t'
  unfold stepLS
  rw [hn]
  exact h'
theorem fin_some {s1 : Hs} {a1 : LA} {L1 : LS} {n : Nat} (h : LAt s1 a1 L1) (t : LTo s a s1 a1) {row : Row} (hn : stepL L row = some (n, L1)) (q : ∀ s' a', LAt s' a' (stepLS L row) → LTo s a s' a' → P (.d (.bool true)) s') {w2 w3 w5 w6 w7 : Option W} :
    zLater tailS { nx := N, rt := P } [w0, some (.v (.ref a.st)), w2, w3, some (.d (.int (n : Nat))), w5, w6, w7] s1 := by
  have hst : a1.st = a.st := by obtain ⟨as, cs, rfl⟩ := t.fix; rfl
  rw [← hst]
  refine step_tail h (some n) fun s' h' t' => q s' a1 ?_ (t.trans t')
  unfold stepLS
  rw [hn]
  exact h'
theorem st_go (h : LAt s a L) (t : Nat) (q : ∀ s' a', LAt s' a' (stepLS L (.go t)) → LTo s a s' a' → P (.d (.bool true)) s') : mainS K { nx := zLater tailS { nx := N, rt := P }, rt := P } (envS w0 a L (.go t)) s := by
  unfold envS mainS
  simp only [Row.d, nD]
  walk_at "dl"
  rw [if_pos (by decide)]
  exact fin_some h (LTo.refl s a) rfl q
theorem st_show (h : LAt s a L) (ok : L.Ok2) (x : Nat) (hx : x < 10) (hs : L.shown.length < 100000) (q : ∀ s' a', LAt s' a' (stepLS L (.show_ x)) → LTo s a s' a' → P (.d (.bool true)) s') : mainS K { nx := zLater tailS { nx := N, rt := P }, rt := P } (envS w0 a L (.show_ x)) s := by
  unfold envS mainS
  simp only [Row.d, nD]
  walk_at "dl"
  rw [if_neg (by decide)]
  walk_at "nums"
  refine in_isless ?_
  walk_at "dl"
  rw [if_neg (by decide), if_pos (by decide)]
  simp only [dAppendT]
  walk_at "dl"
  rw [st_shown h]
  have hv := h.hv
  unfold regsC at hv
  simp only [isL, hv, true_and, ownL]
  rw [held_at h ok hx]
  simp only [hv, List.length_map]
  refine ⟨hs, ?_⟩
  have e : L.shown.map (fun v => W.d v.d) ++ [W.d (L.at x).d] = (L.shown ++ [L.at x]).map fun v => W.d v.d := by rw [List.map_append]; rfl
  rw [e]
  exact fin_some (lat_v h (L.shown ++ [L.at x])) (LTo.put mem_v _) rfl q
theorem st_goes (h : LAt s a L) (row : Row) (w : Str) (x y t : Nat) (hd : row.d = .tuple [.str w, nD x, nD y, nD t]) (hw : (w == "go") = false ∧ ("is" == w || "less" == w) = true)
    (hg : ∀ k2 : DK, k2 (.d (boolO (goesL L row))) s → df__law_goes K [.v (.ref a.st), .d row.d] s k2) (hs : stepL L row = (goesL L row).map fun b => (if b = true then t else L.at_ + 1, L))
    (q : ∀ s' a', LAt s' a' (stepLS L row) → LTo s a s' a' → P (.d (.bool true)) s') : mainS K { nx := zLater tailS { nx := N, rt := P }, rt := P } (envS w0 a L row) s := by
  rw [hd] at hg
  unfold envS mainS
  rw [hd]
  simp only [nD] at hg ⊢
  walk_at "dl"
  simp only [hw.1, Bool.false_eq_true, if_false]
  walk_at "nums"
  refine in_isless ?_
  walk_at "dl"
  simp only [hw.2, if_true]
  refine hg _ ?_
  cases hb : goesL L row with
  | none =>
    simp only [boolO]
    walk_at "go"
    rw [hb] at hs
    exact fin_none h hs q
  | some b =>
    simp only [boolO]
    walk_at "go"
    rw [hb] at hs
    cases b with
    | true =>
      walk_at "dl"
      exact fin_some h (LTo.refl s a) hs q
    | false =>
      walk_at "dl"
      exact fin_some h (LTo.refl s a) hs q
theorem st_write (h : LAt s a L) (ok : L.Ok2) (x y f z : Nat) (hx : x < 10) (hy : y < 10) (hz : z < 10) (hfew : ∀ l ∈ L.cells, l.length < 100000) (q : ∀ s' a', LAt s' a' (stepLS L (.write x y f z)) → LTo s a s' a' → P (.d (.bool true)) s') : mainS K { nx := zLater tailS { nx := N, rt := P }, rt := P } (envS w0 a L (.write x y f z)) s := by
  unfold envS mainS
  simp only [Row.d, nD]
  walk_at "dl"
  rw [if_neg (by decide)]
  walk_at "nums"
  refine in_isless ?_
  walk_at "dl"
  rw [if_neg (by decide), if_neg (by decide), if_pos (by decide)]
  rw [held_at h ok hx, held_at h ok hy]
  have hob : ∀ o, L.at x = .obj o → o < L.cells.length := fun o e => by rw [ok.cl]; exact ok.ho _ (LS.at_mem ok hx) o e
  refine e_law_spot h _ _ f hob ?_
  cases hc : cellOfL L.cells (L.at x) (L.at y) f with
  | none =>
    simp only [spotP]
    walk_at "go"
    exact fin_none h (by simp only [stepL, hc, Option.map_none]) q
  | some p =>
    simp only [spotP, nD]
    walk_at "go"
    have hp : L.at x = .obj p.1 := by
      unfold cellOfL at hc
      split at hc
      · rename_i o kd e1 e2
        split at hc
        · cases hc; exact e1
        · cases hc
      · cases hc
    rw [held_at h ok hz]
    simp only [hSub]
    walk_at "dl"
    rw [st_cells h]
    have ho := hob _ hp
    obtain ⟨w, e1, e2, e3, _⟩ := lcs_at h ho
    rw [dIx_own h.hc, e1]
    dsimp only
    have hm : L.cells.getD p.1 [] ∈ L.cells := by rw [List.getD_eq_getElem?_getD, List.getElem?_eq_getElem ho]; exact List.getElem_mem ho
    have hl2 : (cellsW (L.cells.getD p.1 [])).length < 100000 := by rw [cellsW_len]; exact hfew _ hm
    simp only [setD, e2, keysOf, keyOf, Option.map_some, hl2, if_true]
    have e5 := putW_cells (L.cells.getD p.1 []) p.2 f (L.at z).d
    unfold key2 at e5
    rw [e5]
    exact fin_some (lat_cell h e3 _) (LTo.put (mem_cs e3) _) (by simp only [stepL, hc, Option.map_some]; rfl) q
theorem st_val (h : LAt s a L) (ok : L.Ok2) (row : Row) {many : Nat} (hr : row.Ok many) (hv : isVal row = true) (w : Str) (rest : List PyData) (hd : row.d = .tuple (.str w :: nD (regOf row) :: rest)) (hx : regOf row < 10)
    (hw : (w == "go") = false ∧ ("is" == w || "less" == w) = false ∧ (w == "show") = false ∧ (w == "write") = false) (hs : stepL L row = (valueL L row).map fun p => (L.at_ + 1, p.2.put (regOf row) p.1))
    (hl : ∀ u L1, valueL L row = some (u, L1) → L1.held = L.held)
    (q : ∀ s' a', LAt s' a' (stepLS L row) → LTo s a s' a' → P (.d (.bool true)) s') : mainS K { nx := zLater tailS { nx := N, rt := P }, rt := P } (envS w0 a L row) s := by
  unfold envS mainS
  rw [hd]
  simp only [nD]
  walk_at "dl"
  simp only [hw.1, Bool.false_eq_true, if_false]
  walk_at "nums"
  refine in_isless ?_
  walk_at "dl"
  simp only [hw.2.1, hw.2.2.1, hw.2.2.2, Bool.false_eq_true, if_false]
  have hd2 : (PyData.tuple (.str w :: .int ((regOf row : Nat) : Int) :: rest)) = row.d := hd.symm
  rw [hd2]
  refine e_law_value h ok hr hv (fun hn => ?_) (fun u L1 e s' a' l' t' => ?_)
  · walk_at "go"
    exact fin_none h (by rw [hs, hn]; rfl) q
  · have hnone : isNone (W.d u.d) = false := by cases u <;> rfl
    rw [zLater]
    walk_at "dl"
    show (if isNone (W.d u.d) = true then _ else _)
    rw [if_neg (by rw [hnone]; exact Bool.false_ne_true)]
    simp only [hSub]
    walk_at "dl"
    rw [hd]
    simp only [nD]
    walk_at "dl"
    have hah : a'.h = a.h := by obtain ⟨as, cs, rfl⟩ := t'.fix; rfl
    have hh := l'.hh
    rw [hah] at hh
    unfold regsC at hh
    have hlen : L1.held.length = 10 := by rw [hl u L1 e]; exact ok.hl
    have hix : ixN (L1.held.map fun v => W.d v.d).length ((regOf row : Nat) : Int) = some (regOf row) := by
      unfold ixN
      rw [List.length_map, if_pos (by omega), if_pos (by omega), Int.toNat_natCast]
    simp only [setD, hh, hix, Option.map_some]
    have e2 : (L1.held.map fun v => W.d v.d).set (regOf row) (W.d u.d) = (L1.held.set (regOf row) u).map fun v => W.d v.d := by rw [List.map_set]
    rw [e2]
    have l2 := lat_h l' (L1.held.set (regOf row) u)
    rw [hah] at l2
    have t2 : LTo s a (U.put s' a.h (regsC (L1.held.set (regOf row) u))) a' := t'.trans (by have := LTo.put (s := s') (mem_h (a := a')) (regsC (L1.held.set (regOf row) u)); rw [hah] at this; exact this)
    exact fin_some l2 t2 (by rw [hs, e]; rfl) q
end
end G

set_option maxHeartbeats 400000
namespace G
open PySem PySem.Spec PyProof.Rows L2 U
local macro_rules | `(tactic| walk_at "dl") => `(tactic| simp only [dfOf, dfOfX, startD, List.map_cons, List.map_nil, List.length_cons, List.length_nil, List.cons_append, List.nil_append, List.replicate, Nat.zero_add, Nat.reduceAdd, Nat.reduceSub, true_and,
  zNext, zSeq_later, zRet, zDrop, zIf, zAsg, zPar, zAug, dVar, dC, dV, dOp, dNeg, dNil, dCons, dTest, dTru, dAnd, dOr, dNot, dYes, dAndV, dOrV, dNotV, dIf, dChain, dCB, dCall, dIsin, tkD, truD, dCmp, dLt, dLe, dGt, dGe, dMod, dDiv, dPow, dSub, dI2, hName, hTup, hCons, hNil, wipeD, dPart, dNoPart, dSl, lstOf, asD, seqOf,
  dEq_int, dNe_int, dEq_str, dNe_str, dIs, dIsNot, isNone, dLen, lenD, dAdd, dMul, dTup, dLst, newT, newL, datas, dIx_tup, dIx_list, atI_zero, atI_one, at2, at3, at4, dKGet, dTupC_list, intD_int, intD_bool, absD_int, Option.map_some, dIAdd, d1, eqv_int, eqv_str, eqOk_int, eqOk_str,
  List.getElem?_cons_zero, List.getElem?_cons_succ, List.set_cons_zero, List.set_cons_succ, if_true, Bool.false_eq_true, if_false, reduceIte, Bool.not_true, Bool.not_false])
local macro_rules | `(tactic| walk_at "nums") => `(tactic| (repeat ((with_reducible refine And.intro ?hnum ?_); case hnum => first | decide | exact mulW_abs (by decide) (by decide) | exact ⟨by decide, by decide, by decide⟩)))
local macro_rules | `(tactic| walk_at "go") => `(tactic| (rw [zLater]; walk_at "dl"; walk_at "nums"))
/-! ### forebears, as what is reached -/
inductive Reach (P : List (List Nat)) : Nat → Nat → Prop
  | refl (k : Nat) : Reach P k k
  | step {k p x : Nat} : p ∈ P.getD k [] → Reach P p x → Reach P k x
theorem visit_spec (ps : List Nat) : ∀ (f st : List Nat), (∀ x ∈ f, x ∈ (visit f st ps).1) ∧ (∀ x ∈ ps, x ∈ (visit f st ps).1) ∧ (∀ x ∈ st, x ∈ (visit f st ps).2) ∧ (∀ x ∈ (visit f st ps).1, x ∈ f ∨ (x ∈ ps ∧ x ∈ (visit f st ps).2)) ∧ (∀ x ∈ (visit f st ps).2, x ∈ st ∨ x ∈ (visit f st ps).1) := by
  induction ps with
  | nil => intro f st; exact ⟨fun x h => h, fun x h => absurd h List.not_mem_nil, fun x h => h, fun x h => .inl h, fun x h => .inl h⟩
  | cons y r ih =>
    intro f st
    unfold visit
    by_cases hy : y ∈ f
    · rw [if_pos hy]
      obtain ⟨a, b, c, d, e⟩ := ih f st
      refine ⟨a, fun x hx => ?_, c, fun x hx => ?_, e⟩
      · rcases List.mem_cons.mp hx with rfl | hx
        · exact a _ hy
        · exact b x hx
      · rcases d x hx with h | h
        · exact .inl h
        · exact .inr ⟨List.mem_cons_of_mem _ h.1, h.2⟩
    · rw [if_neg hy]
      obtain ⟨a, b, c, d, e⟩ := ih (f ++ [y]) (st ++ [y])
      refine ⟨fun x hx => a x (List.mem_append_left _ hx), fun x hx => ?_, fun x hx => c x (List.mem_append_left _ hx), fun x hx => ?_, fun x hx => ?_⟩
      · rcases List.mem_cons.mp hx with rfl | hx
        · exact a _ (by simp)
        · exact b x hx
      · rcases d x hx with h | h
        · rcases List.mem_append.mp h with h | h
          · exact .inl h
          · have : x = y := by simpa using h
            subst this
            exact .inr ⟨List.mem_cons_self, c _ (by simp)⟩
        · exact .inr ⟨List.mem_cons_of_mem _ h.1, h.2⟩
      · rcases e x hx with h | h
        · rcases List.mem_append.mp h with h | h
          · exact .inl h
          · have : x = y := by simpa using h
            subst this
            exact .inr (a _ (by simp))
        · exact .inr h
theorem onesF_mem (P : List (List Nat)) (n : Nat) : ∀ (f st r : List Nat), onesF P n f st = some r → (∀ y ∈ st, y ∈ f) → (∀ y ∈ f, y ∈ st ∨ ∀ p ∈ P.getD y [], p ∈ f) →
    (∀ x ∈ f, x ∈ r) ∧ (∀ y ∈ r, ∀ p ∈ P.getD y [], p ∈ r) ∧ ∀ x ∈ r, ∃ t ∈ f, Reach P t x := by
  induction n with
  | zero => intro f st r h; exact nomatch h
  | succ n ih =>
    intro f st r h h1 h2
    unfold onesF at h
    cases hl : st.getLast? with
    | none =>
      rw [hl] at h
      cases h
      have hst : st = [] := List.getLast?_eq_none_iff.mp hl
      refine ⟨fun x hx => hx, fun y hy p hp => ?_, fun x hx => ⟨x, hx, .refl x⟩⟩
      rcases h2 y hy with h | h
      · rw [hst] at h; exact absurd h List.not_mem_nil
      · exact h p hp
    | some t =>
      rw [hl] at h
      dsimp only at h
      have hst := getLast_concat hl
      obtain ⟨a, b, c, d, e⟩ := visit_spec (P.getD t []) f st.dropLast
      have ht : t ∈ st := by rw [hst]; simp
      have hd : ∀ y ∈ st.dropLast, y ∈ st := fun y hy => by rw [hst]; exact List.mem_append_left _ hy
      have q1 : ∀ y ∈ (visit f st.dropLast (P.getD t [])).2, y ∈ (visit f st.dropLast (P.getD t [])).1 := fun y hy => by
        rcases e y hy with h | h
        · exact a y (h1 y (hd y h))
        · exact h
      have q2 : ∀ y ∈ (visit f st.dropLast (P.getD t [])).1, y ∈ (visit f st.dropLast (P.getD t [])).2 ∨ ∀ p ∈ P.getD y [], p ∈ (visit f st.dropLast (P.getD t [])).1 := fun y hy => by
        rcases d y hy with h | ⟨_, h⟩
        · rcases h2 y h with h3 | h3
          · rw [hst] at h3
            rcases List.mem_append.mp h3 with h3 | h3
            · exact .inl (c y h3)
            · have : y = t := by simpa using h3
              subst this
              exact .inr b
          · exact .inr fun p hp => a p (h3 p hp)
        · exact .inl h
      obtain ⟨r1, r2, r3⟩ := ih _ _ r h q1 q2
      refine ⟨fun x hx => r1 x (a x hx), r2, fun x hx => ?_⟩
      obtain ⟨y, hy, hr⟩ := r3 x hx
      rcases d y hy with h | ⟨h, _⟩
      · exact ⟨y, h, hr⟩
      · exact ⟨t, h1 t ht, .step h hr⟩
theorem ones_mem {V : PW} (wf : V.Wf) {kd : Nat} (h : kd < V.parents.length) (x : Nat) : x ∈ ones V.parents kd ↔ Reach V.parents kd x := by
  obtain ⟨h1, _⟩ := ones_some wf kd h
  obtain ⟨a, b, c⟩ := onesF_mem V.parents _ [kd] [kd] _ h1 (fun y hy => hy) (fun y hy => .inl hy)
  constructor
  · intro hx
    obtain ⟨t, ht, hr⟩ := c x hx
    have : t = kd := by simpa using ht
    rw [← this]; exact hr
  · intro hr
    have key : ∀ {k x : Nat}, Reach V.parents k x → k ∈ ones V.parents kd → x ∈ ones V.parents kd := by
      intro k x hr
      induction hr with
      | refl k => exact fun h => h
      | step hp _ ih => exact fun h => ih (b _ h _ hp)
    exact key hr (a kd (by simp))
theorem reach_old {P : List (List Nat)} {ps : List Nat} (hP : ∀ l ∈ P, ∀ x ∈ l, x < P.length) {i x : Nat} (hi : i < P.length) : Reach (P ++ [ps]) i x ↔ Reach P i x := by
  have g : ∀ k, k < P.length → (P ++ [ps]).getD k [] = P.getD k [] := fun k hk => by
    rw [List.getD_eq_getElem?_getD, List.getD_eq_getElem?_getD, List.getElem?_append_left hk]
  have m : ∀ k, k < P.length → ∀ p ∈ P.getD k [], p < P.length := fun k hk p hp => by
    rw [List.getD_eq_getElem?_getD, List.getElem?_eq_getElem hk] at hp
    exact hP _ (List.getElem_mem hk) p hp
  constructor
  · intro h
    induction h with
    | refl k => exact .refl k
    | @step k p x hp _ ih =>
      rw [g k hi] at hp
      exact .step hp (ih (m k hi p hp))
  · intro h
    induction h with
    | refl k => exact .refl k
    | @step k p x hp _ ih => exact .step (by rw [g k hi]; exact hp) (ih (m k hi p hp))
theorem reach_new {P : List (List Nat)} {ps : List Nat} (hP : ∀ l ∈ P, ∀ x ∈ l, x < P.length) (hps : ∀ p ∈ ps, p < P.length) (x : Nat) : Reach (P ++ [ps]) P.length x ↔ x = P.length ∨ ∃ p ∈ ps, Reach P p x := by
  have g : (P ++ [ps]).getD P.length [] = ps := by
    rw [List.getD_eq_getElem?_getD, List.getElem?_append_right (Nat.le_refl _), Nat.sub_self]
    rfl
  constructor
  · intro h
    cases h with
    | refl => exact .inl rfl
    | step hp hr =>
      rw [g] at hp
      exact .inr ⟨_, hp, (reach_old hP (hps _ hp)).mp hr⟩
  · rintro (rfl | ⟨p, hp, hr⟩)
    · exact .refl _
    · exact .step (by rw [g]; exact hp) ((reach_old hP (hps p hp)).mpr hr)
/-! ### fields -/
theorem cellAt_put (l : List ((Nat × Nat) × PyData)) (a f : Nat) (v : PyData) (a' f' : Nat) : cellAt (putC l (a, f) v) a' f' = if (a', f') = (a, f) then some v else cellAt l a' f' := by
  unfold putC cellAt
  by_cases h : (l.any fun e => decide (e.1 = (a, f))) = true
  · rw [if_pos h]
    induction l with
    | nil => cases h
    | cons e r ih =>
      by_cases he : e.1 = (a, f)
      · by_cases hk : (a', f') = (a, f)
        · simp [he, hk]
        · have h1 : ¬ (a, f) = (a', f') := fun z => hk z.symm
          simp only [List.map_cons, he, if_true, List.find?_cons, h1, decide_false, if_neg hk]
          by_cases hr : (r.any fun e => decide (e.1 = (a, f))) = true
          · have := ih hr
            rw [if_neg hk] at this
            exact this
          · have hm : r.map (fun e => if e.1 = (a, f) then (e.1, v) else e) = r := by
              have : ∀ e ∈ r, (if e.1 = (a, f) then (e.1, v) else e) = e := fun e hm => by
                rw [if_neg]
                intro z
                exact hr (List.any_eq_true.mpr ⟨e, hm, by simp [z]⟩)
              rw [List.map_congr_left this, List.map_id']
            rw [hm]
      · have hr : (r.any fun e => decide (e.1 = (a, f))) = true := by simpa [he] using h
        have := ih hr
        simp only [List.map_cons, he, if_false, List.find?_cons]
        by_cases hq : e.1 = (a', f')
        · have hk : ¬ (a', f') = (a, f) := fun z => he (hq.trans z)
          simp [hq, hk]
        · simp only [hq, decide_false]
          exact this
  · rw [if_neg h]
    rw [List.find?_append]
    by_cases hk : (a', f') = (a, f)
    · have hn : l.find? (fun e => decide (e.1 = (a', f'))) = none := by
        rw [List.find?_eq_none]
        intro e he z
        rw [hk] at z
        exact h (List.any_eq_true.mpr ⟨e, he, z⟩)
      rw [hn, if_pos hk]
      simp [hk]
    · rw [if_neg hk]
      have h1 : ¬ (a, f) = (a', f') := fun z => hk z.symm
      cases hf : l.find? (fun e => decide (e.1 = (a', f'))) with
      | some e => rfl
      | none => simp [h1]
theorem cellAt_fields (one : Nat) (m : Nat) : ∀ (i : Nat) (acc : List ((Nat × Nat) × PyData)) (a f : Nat), cellAt (fieldsC one i m acc) a f = if a = one ∧ i ≤ f ∧ f < i + m then some (.int 0) else cellAt acc a f := by
  induction m with
  | zero =>
    intro i acc a f
    rw [if_neg (by omega)]
    rfl
  | succ m ih =>
    intro i acc a f
    show cellAt (fieldsC one (i + 1) m (putC acc (one, i) (.int 0))) a f = _
    rw [ih, cellAt_put]
    by_cases h : a = one ∧ i + 1 ≤ f ∧ f < i + 1 + m
    · rw [if_pos h, if_pos (by omega)]
    · rw [if_neg h]
      by_cases h2 : (a, f) = (one, i)
      · rw [if_pos h2, if_pos (by cases h2; omega)]
      · rw [if_neg h2, if_neg]
        rintro ⟨h3, h4, h5⟩
        rcases Nat.lt_or_ge i f with h6 | h6
        · exact h ⟨h3, h6, by omega⟩
        · exact h2 (by rw [h3, show f = i by omega])
theorem cellAt_obj (br : List Nat) (r : List Nat) : ∀ (acc : List ((Nat × Nat) × PyData)) (a f : Nat), cellAt (objC br r acc) a f = if a ∈ r ∧ f < br.getD a 0 then some (.int 0) else cellAt acc a f := by
  induction r with
  | nil => intro acc a f; simp [objC]
  | cons one r ih =>
    intro acc a f
    show cellAt (objC br r (fieldsC one 0 (br.getD one 0) acc)) a f = _
    rw [ih, cellAt_fields]
    by_cases h : a ∈ r ∧ f < br.getD a 0
    · rw [if_pos h, if_pos ⟨List.mem_cons_of_mem _ h.1, h.2⟩]
    · rw [if_neg h]
      by_cases h2 : a = one ∧ 0 ≤ f ∧ f < 0 + br.getD one 0
      · obtain ⟨h3, _, h5⟩ := h2
        rw [if_pos ⟨h3, Nat.zero_le f, h5⟩, if_pos ⟨by rw [h3]; exact List.mem_cons_self, by rw [h3]; omega⟩]
      · rw [if_neg h2, if_neg]
        rintro ⟨h3, h4⟩
        rcases List.mem_cons.mp h3 with h5 | h5
        · exact h2 ⟨h5, Nat.zero_le f, by rw [← h5]; omega⟩
        · exact h ⟨h5, h4⟩
theorem merge_fields (one : Nat) (m : Nat) : ∀ (i : Nat) (acc : List ((Nat × Nat) × PyData)), mergeC acc ((List.range m).map fun j => ((one, i + j), .int 0)) = fieldsC one i m acc := by
  induction m with
  | zero => intro i acc; rfl
  | succ m ih =>
    intro i acc
    rw [List.range_succ_eq_map, List.map_cons, List.map_map]
    show mergeC (putC acc (one, i + 0) (.int 0)) _ = fieldsC one (i + 1) m (putC acc (one, i) (.int 0))
    rw [← ih (i + 1)]
    have : ((fun j => ((one, i + j), PyData.int 0)) ∘ Nat.succ) = fun j => ((one, i + 1 + j), PyData.int 0) := by
      funext j
      simp only [Function.comp_def]
      rw [show i + j.succ = i + 1 + j by omega]
    rw [this]
    rfl
theorem merge_new (one m : Nat) (acc : List ((Nat × Nat) × PyData)) : mergeC acc (newC one m) = fieldsC one 0 m acc := by
  rw [← merge_fields one m 0 acc]
  unfold newC
  congr 1
  refine List.map_congr_left fun j _ => ?_
  rw [Nat.zero_add]
theorem fill_cells (r : List Nat) : ∀ (V : PW) (cs : List (List ((Nat × Nat) × PyData))) (l : List ((Nat × Nat) × PyData)), V.cells = cs ++ [l] → (V.fill r).cells = cs ++ [objC V.brought r l] := by
  induction r with
  | nil => intro V cs l h; exact h
  | cons one r ih =>
    intro V cs l h
    rw [fill_cons]
    have hl : V.cells.length - 1 = cs.length := by rw [h]; simp
    have hg : V.cells.getD (V.cells.length - 1) [] = l := by
      rw [hl, h, List.getD_eq_getElem?_getD, List.getElem?_append_right (Nat.le_refl _), Nat.sub_self]
      rfl
    have e : (V.lastCell (newC one (V.brought.getD one 0))).cells = cs ++ [fieldsC one 0 (V.brought.getD one 0) l] := by
      show V.cells.set (V.cells.length - 1) (mergeC (V.cells.getD (V.cells.length - 1) []) _) = _
      rw [hg, merge_new, hl, h, List.set_append_right _ _ (Nat.le_refl _), Nat.sub_self]
      rfl
    exact ih _ cs _ e
theorem addObj_cells (V : PW) (kd : Nat) (r : List Nat) : (V.addObj kd r).cells = V.cells ++ [objC V.brought r []] := by
  unfold PW.addObj
  exact fill_cells r _ V.cells [] rfl
end G

set_option maxHeartbeats 400000
namespace G
open PySem PySem.Spec PyProof.Rows L2 U
local macro_rules | `(tactic| walk_at "dl") => `(tactic| simp only [dfOf, dfOfX, startD, List.map_cons, List.map_nil, List.length_cons, List.length_nil, List.cons_append, List.nil_append, List.replicate, Nat.zero_add, Nat.reduceAdd, Nat.reduceSub, true_and,
  zNext, zSeq_later, zRet, zDrop, zIf, zAsg, zPar, zAug, dVar, dC, dV, dOp, dNeg, dNil, dCons, dTest, dTru, dAnd, dOr, dNot, dYes, dAndV, dOrV, dNotV, dIf, dChain, dCB, dCall, dIsin, tkD, truD, dCmp, dLt, dLe, dGt, dGe, dMod, dDiv, dPow, dSub, dI2, hName, hTup, hCons, hNil, wipeD, dPart, dNoPart, dSl, lstOf, asD, seqOf,
  dEq_int, dNe_int, dEq_str, dNe_str, dIs, dIsNot, isNone, dLen, lenD, dAdd, dMul, dTup, dLst, newT, newL, datas, dIx_tup, dIx_list, atI_zero, atI_one, at2, at3, at4, dKGet, dTupC_list, intD_int, intD_bool, absD_int, Option.map_some, dIAdd, d1, eqv_int, eqv_str, eqOk_int, eqOk_str,
  List.getElem?_cons_zero, List.getElem?_cons_succ, List.set_cons_zero, List.set_cons_succ, if_true, Bool.false_eq_true, if_false, reduceIte, Bool.not_true, Bool.not_false])
local macro_rules | `(tactic| walk_at "nums") => `(tactic| (repeat ((with_reducible refine And.intro ?hnum ?_); case hnum => first | decide | exact mulW_abs (by decide) (by decide) | exact ⟨by decide, by decide, by decide⟩)))
local macro_rules | `(tactic| walk_at "go") => `(tactic| (rw [zLater]; walk_at "dl"; walk_at "nums"))
/-! ### the law's machine and the program's run -/
structure Rel (L : LS) (S : RS) : Prop where
  hh : L.held = S.regs
  sh : L.shown = S.vals
  pa : L.parents = S.V.parents
  br : L.brought = S.V.brought
  ki : L.kinds = S.V.kinds
  al : L.above.length = L.parents.length
  ab : ∀ (i : Nat) (h : i < L.above.length), L.above[i].Nodup ∧ (∀ x ∈ L.above[i], x ≤ i) ∧ ∀ x, x ∈ L.above[i] ↔ Reach L.parents i x
  cl : L.cells.length = S.V.cells.length
  ca : ∀ o kd f, cellAt (L.cells.getD o []) kd f = cellAt (S.V.cells.getD o []) kd f
  ce : ∀ l ∈ L.cells, l.length ≤ 90000 ∧ ∀ e ∈ l, ∃ v : Rv, e.2 = v.d
theorem Rel.ok2 {L : LS} {S : RS} (r : Rel L S) (ok : S.Ok) : L.Ok2 where
  len := by rw [r.pa]; exact ok.wf.few
  al := r.al
  bl := by rw [r.br, r.pa]; exact ok.wf.len
  ab := fun i h => ⟨(r.ab i h).1, (r.ab i h).2.1⟩
  hl := by rw [r.hh]; exact ok.len
  hk := fun v hv n e => by
    rw [r.hh] at hv
    have := ok.rin v hv
    rw [e] at this
    rw [r.pa]; exact this
  ho := fun v hv n e => by
    rw [r.hh] at hv
    have := ok.rin v hv
    rw [e] at this
    rw [r.ki]; exact this
  b6 := by rw [r.br]; exact ok.wf.bro
  k2 := by rw [r.ki]; exact ok.kl
  cl := by rw [r.cl, r.ki]; exact ok.cl
  ki := by rw [r.ki, r.pa]; exact ok.ki
  ce := fun l hl => (r.ce l hl).2
theorem rel_at {L : LS} {S : RS} (r : Rel L S) (x : Nat) : L.at x = S.at x := by unfold LS.at RS.at; rw [r.hh]
theorem rel_cell {L : LS} {S : RS} (r : Rel L S) (one other : Rv) (f : Nat) : cellOfL L.cells one other f = cellOf S.V one other f := by
  unfold cellOfL cellOf
  cases one <;> cases other <;> first | rfl | (simp only [r.ca])
theorem rel_put {L : LS} {S : RS} (r : Rel L S) (x : Nat) (v : Rv) : Rel (L.put x v) (S.put x v) :=
  ⟨by show L.held.set x v = S.regs.set x v; rw [r.hh], r.sh, r.pa, r.br, r.ki, r.al, r.ab, r.cl, r.ca, r.ce⟩
theorem mergeN_nodup (m : List Nat) : ∀ l : List Nat, l.Nodup → (mergeN l m).Nodup := by
  induction m with
  | nil => intro l h; exact h
  | cons y r ih =>
    intro l h
    show (mergeN (if y ∈ l then l else l ++ [y]) r).Nodup
    refine ih _ ?_
    by_cases hy : y ∈ l
    · rw [if_pos hy]; exact h
    · rw [if_neg hy]
      exact (List.perm_append_singleton y l).nodup_iff.mpr (List.nodup_cons.mpr ⟨hy, h⟩)
theorem newAbove_spec (above : List (List Nat)) (ps : List Nat) : ∀ acc : List Nat, acc.Nodup → (ps.foldl (fun acc p => mergeN acc (above.getD p [])) acc).Nodup ∧ ∀ x, x ∈ ps.foldl (fun acc p => mergeN acc (above.getD p [])) acc ↔ x ∈ acc ∨ ∃ p ∈ ps, x ∈ above.getD p [] := by
  induction ps with
  | nil => intro acc h; exact ⟨h, fun x => ⟨.inl, fun z => z.elim id fun ⟨p, hp, _⟩ => absurd hp List.not_mem_nil⟩⟩
  | cons p r ih =>
    intro acc h
    obtain ⟨a, b⟩ := ih (mergeN acc (above.getD p [])) (mergeN_nodup _ _ h)
    refine ⟨a, fun x => ?_⟩
    rw [List.foldl_cons, b, mergeN_mem]
    constructor
    · rintro ((h | h) | ⟨q, hq, h⟩)
      · exact .inl h
      · exact .inr ⟨p, List.mem_cons_self, h⟩
      · exact .inr ⟨q, List.mem_cons_of_mem _ hq, h⟩
    · rintro (h | ⟨q, hq, h⟩)
      · exact .inl (.inl h)
      · rcases List.mem_cons.mp hq with rfl | hq
        · exact .inl (.inr h)
        · exact .inr ⟨q, hq, h⟩
theorem rel_kind {L : LS} {S : RS} (r : Rel L S) (ok : S.Ok) (ps : List Nat) (b : Nat) (hps : ∀ p ∈ ps, p < L.parents.length) : Rel (L.addKind ps b) { S with V := S.V.addKind ps b } := by
  have hP : ∀ l ∈ L.parents, ∀ x ∈ l, x < L.parents.length := fun l hl x hx => by rw [r.pa] at hl ⊢; exact (ok.wf.par l hl).2 x hx
  refine ⟨r.hh, r.sh, ?_, ?_, r.ki, ?_, fun i h => ?_, r.cl, r.ca, r.ce⟩
  · show L.parents ++ [ps] = S.V.parents ++ [ps]; rw [r.pa]
  · show L.brought ++ [b] = S.V.brought ++ [b]; rw [r.br]
  · show (L.above ++ [_]).length = (L.parents ++ [ps]).length
    simp [r.al]
  · have hlen : (L.addKind ps b).above.length = L.above.length + 1 := by show (L.above ++ [_]).length = _; simp
    rw [hlen] at h
    by_cases hi : i < L.above.length
    · have e : (L.addKind ps b).above[i]'(by rw [hlen]; exact h) = L.above[i] := List.getElem_append_left hi
      obtain ⟨a1, a2, a3⟩ := r.ab i hi
      rw [e]
      refine ⟨a1, a2, fun x => (a3 x).trans ?_⟩
      exact (reach_old hP (by rw [← r.al]; exact hi)).symm
    · have hi2 : i = L.above.length := by omega
      subst hi2
      have e : (L.addKind ps b).above[L.above.length]'(by rw [hlen]; exact h) = newAbove L.above L.parents.length ps := by
        have e0 : (L.above ++ [newAbove L.above L.parents.length ps])[L.above.length]? = some (newAbove L.above L.parents.length ps) := by simp
        exact Option.some.inj ((List.getElem?_eq_getElem _).symm.trans e0)
      rw [e]
      obtain ⟨a, c⟩ := newAbove_spec L.above ps [L.parents.length] (by simp)
      have inner : ∀ p ∈ ps, ∀ x, x ∈ L.above.getD p [] ↔ Reach L.parents p x := fun p hp x => by
        have hpl : p < L.above.length := by rw [r.al]; exact hps p hp
        rw [List.getD_eq_getElem?_getD, List.getElem?_eq_getElem hpl]
        exact (r.ab p hpl).2.2 x
      have mem : ∀ x, x ∈ newAbove L.above L.parents.length ps ↔ x = L.parents.length ∨ ∃ p ∈ ps, Reach L.parents p x := fun x => by
        unfold newAbove
        rw [c]
        constructor
        · rintro (h | ⟨p, hp, h⟩)
          · exact .inl (by simpa using h)
          · exact .inr ⟨p, hp, (inner p hp x).mp h⟩
        · rintro (h | ⟨p, hp, h⟩)
          · exact .inl (by simp [h])
          · exact .inr ⟨p, hp, (inner p hp x).mpr h⟩
      refine ⟨a, fun x hx => ?_, fun x => (mem x).trans (by rw [r.al]; exact (reach_new hP hps x).symm)⟩
      rcases (mem x).mp hx with h | ⟨p, hp, h⟩
      · rw [h, r.al]; exact Nat.le_refl _
      · have hpl : p < L.above.length := by rw [r.al]; exact hps p hp
        have := (r.ab p hpl).2.1 x (((r.ab p hpl).2.2 x).mpr h)
        omega
theorem objC_len (br : List Nat) (hb : ∀ m ∈ br, m ≤ 6) (r : List Nat) : ∀ acc : List ((Nat × Nat) × PyData), (objC br r acc).length ≤ acc.length + 6 * r.length := by
  induction r with
  | nil => intro acc; exact Nat.le_refl _
  | cons one r ih =>
    intro acc
    have h1 := ih (fieldsC one 0 (br.getD one 0) acc)
    have h2 := fieldsC_len one (br.getD one 0) 0 acc
    have h3 : br.getD one 0 ≤ 6 := by
      rw [List.getD_eq_getElem?_getD]
      cases e : br[one]? with
      | none => exact Nat.zero_le _
      | some m => exact hb m (List.mem_of_getElem? e)
    show (objC br r (fieldsC one 0 (br.getD one 0) acc)).length ≤ _
    simp only [List.length_cons]
    omega
theorem fieldsC_val (one : Nat) (P : PyData → Prop) (h0 : P (.int 0)) (m : Nat) : ∀ (i : Nat) (acc : List ((Nat × Nat) × PyData)), (∀ e ∈ acc, P e.2) → ∀ e ∈ fieldsC one i m acc, P e.2 := by
  induction m with
  | zero => intro i acc h; exact h
  | succ m ih =>
    intro i acc h
    refine ih (i + 1) (putC acc (one, i) (.int 0)) fun e he => ?_
    rcases putC_mem he with z | z
    · exact h e z
    · rw [z]; exact h0
theorem objC_val (br : List Nat) (P : PyData → Prop) (h0 : P (.int 0)) (r : List Nat) : ∀ acc : List ((Nat × Nat) × PyData), (∀ e ∈ acc, P e.2) → ∀ e ∈ objC br r acc, P e.2 := by
  induction r with
  | nil => intro acc h; exact h
  | cons one r ih => intro acc h; exact ih _ (fieldsC_val one P h0 _ _ _ h)
theorem getD_snoc {α : Type} (l : List α) (x d : α) (o : Nat) : (l ++ [x]).getD o d = if o < l.length then l.getD o d else if o = l.length then x else d := by
  rw [List.getD_eq_getElem?_getD]
  by_cases h : o < l.length
  · rw [if_pos h, List.getElem?_append_left h, List.getD_eq_getElem?_getD]
  · rw [if_neg h, List.getElem?_append_right (by omega)]
    by_cases h2 : o = l.length
    · rw [if_pos h2, h2, Nat.sub_self]; rfl
    · rw [if_neg h2]
      have : ([x] : List α)[o - l.length]? = none := by rw [List.getElem?_eq_none_iff]; simp; omega
      rw [this]; rfl
theorem getD_set_ne {α : Type} {l : List α} {o o' : Nat} {x d : α} (h : ¬ o = o') : (l.set o x).getD o' d = l.getD o' d := by
  rw [List.getD_eq_getElem?_getD, List.getElem?_set_ne h, List.getD_eq_getElem?_getD]
theorem rel_obj {L : LS} {S : RS} (r : Rel L S) (ok : S.Ok) (kd : Nat) (hk : kd < L.parents.length) : Rel (L.addObj kd) { S with V := S.V.addObj kd (ones S.V.parents kd) } := by
  obtain ⟨f1, f2, f3, f4⟩ := fill_same (ones S.V.parents kd) ({ S.V with kinds := S.V.kinds ++ [kd], cells := S.V.cells ++ [[]] } : PW)
  have hc := addObj_cells S.V kd (ones S.V.parents kd)
  have hka : kd < L.above.length := by rw [r.al]; exact hk
  have hg : L.above.getD kd [] = L.above[kd] := by rw [List.getD_eq_getElem?_getD, List.getElem?_eq_getElem hka]; rfl
  obtain ⟨a1, a2, a3⟩ := r.ab kd hka
  have ok2 := r.ok2 ok
  refine ⟨r.hh, r.sh, ?_, ?_, ?_, r.al, r.ab, ?_, fun o a f => ?_, fun l hl => ?_⟩
  · exact r.pa.trans f3.symm
  · exact r.br.trans f2.symm
  · show L.kinds ++ [kd] = _
    rw [r.ki]; exact f1.symm
  · show (L.cells ++ [_]).length = (S.V.addObj kd _).cells.length
    rw [hc]
    simp [r.cl]
  · show cellAt ((L.cells ++ [_]).getD o []) a f = cellAt ((S.V.addObj kd _).cells.getD o []) a f
    rw [hc, getD_snoc, getD_snoc, r.cl]
    by_cases h : o < S.V.cells.length
    · rw [if_pos h, if_pos h]; exact r.ca o a f
    · rw [if_neg h, if_neg h]
      by_cases h2 : o = S.V.cells.length
      · rw [if_pos h2, if_pos h2, cellAt_obj, cellAt_obj, hg, r.br]
        have e : (a ∈ L.above[kd]) ↔ (a ∈ ones S.V.parents kd) := (a3 a).trans (by rw [r.pa]; exact (ones_mem ok.wf (by rw [← r.pa]; exact hk) a).symm)
        by_cases h3 : a ∈ L.above[kd] ∧ f < S.V.brought.getD a 0
        · rw [if_pos h3, if_pos ⟨e.mp h3.1, h3.2⟩]
        · rw [if_neg h3, if_neg (fun z => h3 ⟨e.mpr z.1, z.2⟩)]
      · rw [if_neg h2, if_neg h2]
  · rcases List.mem_append.mp hl with h | h
    · exact r.ce l h
    · have : l = objC L.brought (L.above.getD kd []) [] := by simpa using h
      rw [this, hg]
      have hb : L.above[kd].length ≤ 400 := ok2.few _ (List.getElem_mem hka)
      refine ⟨?_, objC_val L.brought (fun x => ∃ v : Rv, x = v.d) ⟨.int 0, rfl⟩ _ _ (fun e he => absurd he List.not_mem_nil)⟩
      have := objC_len L.brought ok2.b6 L.above[kd] []
      simp only [List.length_nil] at this
      omega
theorem rel_write {L : LS} {S : RS} (r : Rel L S) (o kd f : Nat) (v : Rv) (ho : o < L.cells.length) (hc : (cellAt (L.cells.getD o []) kd f).isSome = true) : Rel (L.setCell o kd f v.d) { S with V := S.V.setCell o kd f v.d } := by
  have hm : L.cells.getD o [] ∈ L.cells := by rw [List.getD_eq_getElem?_getD, List.getElem?_eq_getElem ho]; exact List.getElem_mem ho
  refine ⟨r.hh, r.sh, r.pa, r.br, r.ki, r.al, r.ab, ?_, fun o' a f' => ?_, fun l hl => ?_⟩
  · show (L.cells.set o _).length = (S.V.cells.set o _).length
    rw [List.length_set, List.length_set]; exact r.cl
  · show cellAt ((L.cells.set o (putC (L.cells.getD o []) (kd, f) v.d)).getD o' []) a f' = cellAt ((S.V.cells.set o (putC (S.V.cells.getD o []) (kd, f) v.d)).getD o' []) a f'
    by_cases h : o = o'
    · subst h
      have e1 : (L.cells.set o (putC (L.cells.getD o []) (kd, f) v.d)).getD o [] = putC (L.cells.getD o []) (kd, f) v.d := by
        rw [List.getD_eq_getElem?_getD, List.getElem?_set_self ho]; rfl
      have e2 : (S.V.cells.set o (putC (S.V.cells.getD o []) (kd, f) v.d)).getD o [] = putC (S.V.cells.getD o []) (kd, f) v.d := by
        rw [List.getD_eq_getElem?_getD, List.getElem?_set_self (by rw [← r.cl]; exact ho)]; rfl
      rw [e1, e2, cellAt_put, cellAt_put, r.ca]
    · rw [getD_set_ne h, getD_set_ne h]
      exact r.ca o' a f'
  · rcases mem_set_or hl with h | h
    · exact r.ce l h
    · rw [h]
      obtain ⟨c1, c2⟩ := r.ce _ hm
      refine ⟨?_, fun e he => ?_⟩
      · rw [putC_there hc, List.length_map]; exact c1
      · rcases putC_mem he with z | z
        · exact c2 e z
        · exact ⟨v, z⟩
theorem rel_goes {L : LS} {S : RS} (r : Rel L S) (ok : S.Ok) (x y t : Nat) : goesL L (.is_ x y t) = goneR S.V (S.at x) (S.at y) false := by
  unfold goesL goneR
  dsimp only
  rw [if_neg Bool.false_ne_true, rel_at r, rel_at r]
  have hin := at_in ok x
  cases hx : S.at x with
  | int i => rfl
  | kind i => rfl
  | obj o =>
    rw [hx] at hin
    cases hy : S.at y with
    | int i => rfl
    | obj i => rfl
    | kind kd =>
      have ho : o < S.V.kinds.length := hin
      have hg : S.V.kinds.getD o 0 = S.V.kinds[o] := by rw [List.getD_eq_getElem?_getD, List.getElem?_eq_getElem ho]; rfl
      have hkd : S.V.kinds[o] < S.V.parents.length := ok.ki _ (List.getElem_mem ho)
      have hka : S.V.kinds[o] < L.above.length := by rw [r.al, r.pa]; exact hkd
      dsimp only
      rw [r.ki, hg]
      have h2 : L.above.getD S.V.kinds[o] [] = L.above[S.V.kinds[o]] := by rw [List.getD_eq_getElem?_getD, List.getElem?_eq_getElem hka]; rfl
      rw [h2]
      have e : (kd ∈ L.above[S.V.kinds[o]]) ↔ (kd ∈ ones S.V.parents S.V.kinds[o]) := ((r.ab _ hka).2.2 kd).trans (by rw [r.pa]; exact (ones_mem ok.wf hkd kd).symm)
      rw [decide_eq_decide.mpr e]
theorem rel_less {L : LS} {S : RS} (r : Rel L S) (x y t : Nat) : goesL L (.less x y t) = goneR S.V (S.at x) (S.at y) true := by
  unfold goesL goneR
  dsimp only
  rw [if_pos rfl, rel_at r, rel_at r]
  all_goals (cases S.at x <;> cases S.at y <;> rfl)
/-- a row on both -/
theorem rel_step {L : LS} {S : RS} (r : Rel L S) (ok : S.Ok) {row : Row} {many : Nat} (hr : row.Ok many) :
    (stepL L row = none ∧ stepR S L.at_ row = none) ∨ ∃ n L' S', stepL L row = some (n, L') ∧ stepR S L.at_ row = some (n, S') ∧ Rel L' S' := by
  cases row with
  | set x n => exact .inr ⟨_, _, _, rfl, rfl, rel_put r x _⟩
  | copy x y => exact .inr ⟨_, _, _, rfl, by simp only [stepR]; rw [← rel_at r], rel_put r x _⟩
  | add x y z =>
    simp only [stepL, valueL, stepR, rel_at r]
    cases h : sumD? (S.at y) (S.at z) with
    | none => exact .inl ⟨rfl, rfl⟩
    | some i => exact .inr ⟨_, _, _, rfl, rfl, rel_put r x _⟩
  | load x ps b =>
    simp only [stepL, valueL, stepR, r.hh, r.pa]
    cases h : ksOf (numsOf S.regs ps) with
    | none => exact .inl ⟨rfl, rfl⟩
    | some ks =>
      dsimp only
      by_cases hn : S.V.parents.length = 400
      · rw [if_pos hn, if_pos hn]; exact .inl ⟨rfl, rfl⟩
      · rw [if_neg hn, if_neg hn]
        obtain ⟨_, h2⟩ := nums_in ok h
        have rk := rel_kind r ok (sortN ks) b (fun p hp => by rw [r.pa]; exact h2 p ((sortN_perm ks).mem_iff.mp hp))
        exact .inr ⟨_, _, _, rfl, rfl, rel_put rk x _⟩
  | make x y =>
    have hin := at_in ok y
    simp only [stepL, valueL, stepR, rel_at r, r.ki]
    cases h : S.at y with
    | int i => exact .inl ⟨rfl, rfl⟩
    | obj i => exact .inl ⟨rfl, rfl⟩
    | kind kd =>
      rw [h] at hin
      dsimp only
      by_cases hn : S.V.kinds.length = 2000
      · rw [if_pos hn, if_pos hn]; exact .inl ⟨rfl, rfl⟩
      · rw [if_neg hn, if_neg hn]
        have ro := rel_obj r ok kd (by rw [r.pa]; exact hin)
        exact .inr ⟨_, _, _, rfl, rfl, rel_put ro x _⟩
  | kind x y =>
    simp only [stepL, valueL, stepR, rel_at r, r.ki]
    cases h : S.at y with
    | int i => exact .inl ⟨rfl, rfl⟩
    | kind i => exact .inl ⟨rfl, rfl⟩
    | obj o => exact .inr ⟨_, _, _, rfl, rfl, rel_put r x _⟩
  | write x y f z =>
    simp only [stepL, stepR, rel_cell r, rel_at r]
    cases h : cellOf S.V (S.at x) (S.at y) f with
    | none => exact .inl ⟨rfl, rfl⟩
    | some p =>
      obtain ⟨_, _, ho, hs⟩ := cellOf_some (at_in ok x) ok.cl h
      have hg : S.V.cells.getD p.1 [] = S.V.cells[p.1] := by rw [List.getD_eq_getElem?_getD, List.getElem?_eq_getElem ho]; rfl
      exact .inr ⟨_, _, _, rfl, rfl, rel_write r p.1 p.2 f (S.at z) (by rw [r.cl]; exact ho) (by rw [r.ca, hg]; exact hs)⟩
  | read x y z f =>
    simp only [stepL, valueL, stepR, rel_cell r, rel_at r, r.ca]
    cases h : cellOf S.V (S.at y) (S.at z) f with
    | none => exact .inl ⟨rfl, rfl⟩
    | some p => exact .inr ⟨_, _, _, rfl, rfl, rel_put r x _⟩
  | is_ x y t =>
    simp only [stepL, stepR, rel_goes r ok]
    cases h : goneR S.V (S.at x) (S.at y) false with
    | none => exact .inl ⟨rfl, rfl⟩
    | some b => exact .inr ⟨_, _, _, rfl, rfl, r⟩
  | less x y t =>
    simp only [stepL, stepR, rel_less r]
    cases h : goneR S.V (S.at x) (S.at y) true with
    | none => exact .inl ⟨rfl, rfl⟩
    | some b => exact .inr ⟨_, _, _, rfl, rfl, r⟩
  | go t => exact .inr ⟨_, _, _, rfl, rfl, r⟩
  | show_ x => exact .inr ⟨_, _, _, rfl, rfl, ⟨r.hh, by show L.shown ++ [L.at x] = S.vals ++ [S.at x]; rw [r.sh, rel_at r], r.pa, r.br, r.ki, r.al, r.ab, r.cl, r.ca, r.ce⟩⟩
theorem rel_0 : Rel {} S0 :=
  ⟨rfl, rfl, rfl, rfl, rfl, rfl, fun i h => absurd h (Nat.not_lt_zero i), rfl, fun _ _ _ => rfl, fun l h => absurd h List.not_mem_nil⟩
end G

set_option maxHeartbeats 400000
namespace G
open PySem PySem.Spec PyProof.Rows L2 U
local macro_rules | `(tactic| walk_at "dl") => `(tactic| simp only [dfOf, dfOfX, startD, List.map_cons, List.map_nil, List.length_cons, List.length_nil, List.cons_append, List.nil_append, List.replicate, Nat.zero_add, Nat.reduceAdd, Nat.reduceSub, true_and,
  zNext, zSeq_later, zRet, zDrop, zIf, zAsg, zPar, zAug, dVar, dC, dV, dOp, dNeg, dNil, dCons, dTest, dTru, dAnd, dOr, dNot, dYes, dAndV, dOrV, dNotV, dIf, dChain, dCB, dCall, dIsin, tkD, truD, dCmp, dLt, dLe, dGt, dGe, dMod, dDiv, dPow, dSub, dI2, hName, hTup, hCons, hNil, wipeD, dPart, dNoPart, dSl, lstOf, asD, seqOf,
  dEq_int, dNe_int, dEq_str, dNe_str, dIs, dIsNot, isNone, dLen, lenD, dAdd, dMul, dTup, dLst, newT, newL, datas, dIx_tup, dIx_list, atI_zero, atI_one, at2, at3, at4, dKGet, dTupC_list, intD_int, intD_bool, absD_int, Option.map_some, dIAdd, d1, eqv_int, eqv_str, eqOk_int, eqOk_str,
  List.getElem?_cons_zero, List.getElem?_cons_succ, List.set_cons_zero, List.set_cons_succ, if_true, Bool.false_eq_true, if_false, reduceIte, Bool.not_true, Bool.not_false])
local macro_rules | `(tactic| walk_at "nums") => `(tactic| (repeat ((with_reducible refine And.intro ?hnum ?_); case hnum => first | decide | exact mulW_abs (by decide) (by decide) | exact ⟨by decide, by decide, by decide⟩)))
local macro_rules | `(tactic| walk_at "go") => `(tactic| (rw [zLater]; walk_at "dl"; walk_at "nums"))
section
variable {K : PySem.W.Frag} {s : Hs} {k : DK}
theorem e_law_step {a : LA} {L : LS} {S : RS} {mx : Nat} (h : LAt s a L) (r : Rel L S) (ok : S.Ok) (rows : List Row) (hat : L.at_ < rows.length) (hf : L.fault = false) (hr : rows[L.at_].Ok mx) (hs : L.shown.length < 100000)
    (q : ∀ s' a', LAt s' a' (stepLS L rows[L.at_]) → LTo s a s' a' → k (.d (.bool true)) s') : df__law_step K [.d (rowsD rows), .v (.ref a.st)] s k := by
  rw [df__law_step_eq]; unfold d__law_step_
  walk_at "dl"
  rw [st_fault h, hf]
  walk_at "dl"
  rw [st_at h]
  unfold rowsD
  walk_at "dl"
  simp only [List.length_map]
  have e1 : (((L.at_ : Nat) : Int) == ((rows.length : Nat) : Int)) = false := by rw [beq_eq_false_iff_ne]; omega
  simp only [e1, Bool.false_eq_true, if_false]
  walk_at "go"
  rw [st_at h, dIx_tup, U.atI_nat, List.getElem?_map, List.getElem?_eq_getElem hat]
  simp only [Option.map_some]
  walk_at "go"
  rw [st_held h]
  walk_at "go"
  rw [st_at h]
  walk_at "dl"
  have ok2 := r.ok2 ok
  have e2 : ((L.at_ : Nat) : Int) + 1 = ((L.at_ + 1 : Nat) : Int) := by omega
  rw [e2]
  rw [zLater, zSeq_later]
  have q2 : ∀ s' a', LAt s' a' (stepLS L rows[L.at_]) → LTo s a s' a' → (fun w s' => ∃ s'', U.Sub s'' s' ∧ k w s'') (W.d (.bool true)) s' := fun s' a' l t => ⟨s', U.Sub.refl s', q s' a' l t⟩
  have hheld : ∀ u L1 row, valueL L row = some (u, L1) → L1.held = L.held := fun u L1 row e => by
    cases row <;> simp only [valueL, Option.map_eq_some_iff, Option.some.injEq, Prod.mk.injEq] at e
    all_goals (repeat' (split at e))
    all_goals first
      | (cases e; done)
      | (simp only [Option.some.injEq, Prod.mk.injEq] at e; obtain ⟨_, rfl⟩ := e; rfl)
      | (obtain ⟨_, rfl⟩ := e; rfl)
      | (obtain ⟨_, _, _, rfl⟩ := e; rfl)
  generalize rows[L.at_] = row at hr q2
  cases row with
  | go t => exact st_go h t q2
  | show_ x => exact st_show h ok2 x hr hs q2
  | is_ x y t => exact st_goes h (.is_ x y t) "is" x y t rfl (by decide) (fun k2 hk2 => e_goes_is h ok2 x y t hr.1 hr.2.1 hk2) rfl q2
  | less x y t => exact st_goes h (.less x y t) "less" x y t rfl (by decide) (fun k2 hk2 => e_goes_less h ok2 x y t hr.1 hr.2.1 hk2) rfl q2
  | write x y f z => exact st_write h ok2 x y f z hr.1 hr.2.1 hr.2.2.2 (fun l hl => by have := (r.ce l hl).1; omega) q2
  | set x n => exact st_val h ok2 (.set x n) hr rfl "set" _ rfl hr (by decide) rfl (fun u L1 e => hheld u L1 _ e) q2
  | copy x y => exact st_val h ok2 (.copy x y) hr rfl "copy" _ rfl hr.1 (by decide) rfl (fun u L1 e => hheld u L1 _ e) q2
  | add x y z => exact st_val h ok2 (.add x y z) hr rfl "add" _ rfl hr.1 (by decide) rfl (fun u L1 e => hheld u L1 _ e) q2
  | load x ps b => exact st_val h ok2 (.load x ps b) hr rfl "load" _ rfl hr.1 (by decide) rfl (fun u L1 e => hheld u L1 _ e) q2
  | make x y => exact st_val h ok2 (.make x y) hr rfl "make" _ rfl hr.1 (by decide) rfl (fun u L1 e => hheld u L1 _ e) q2
  | kind x y => exact st_val h ok2 (.kind x y) hr rfl "kind" _ rfl hr.1 (by decide) rfl (fun u L1 e => hheld u L1 _ e) q2
  | read x y z f => exact st_val h ok2 (.read x y z f) hr rfl "read" _ rfl hr.1 (by decide) rfl (fun u L1 e => hheld u L1 _ e) q2
/-! ### the begin -/
theorem dp_c {z : Str} {x : PyData} {r : List (DE × DE)} {δ : DEnv} {k : List (Key × W) → Hs → Prop} (q : dPairs r δ s fun ps s3 => k ((.inr z, .d x) :: ps) s3) : dPairs ((dC (.str z), dC x) :: r) δ s k := q
theorem dp_new {z : Str} {r : List (DE × DE)} {δ : DEnv} {k : List (Key × W) → Hs → Prop} (q : ∀ p, s p = none → dPairs r δ (U.put s p (.lst [])) fun ps s3 => k ((.inr z, .v (.ref p)) :: ps) s3) : dPairs ((dC (.str z), dLstO dNil) :: r) δ s k := by
  show dLstO dNil δ s fun y s2 => dPairs r δ s2 fun ps s3 => k ((.inr z, y) :: ps) s3
  unfold dLstO dNil newO
  exact ⟨by decide, q⟩
theorem dp_mul {z : Str} {r : List (DE × DE)} {δ : DEnv} {k : List (Key × W) → Hs → Prop} (q : ∀ p, s p = none → dPairs r δ (U.put s p (regsC (List.replicate 10 (.int 0)))) fun ps s3 => k ((.inr z, .v (.ref p)) :: ps) s3) :
    dPairs ((dC (.str z), dOp dMulO (dLst (dCons (dC (.int 0)) dNil)) (dC (.int 10))) :: r) δ s k := by
  show dOp dMulO (dLst (dCons (dC (.int 0)) dNil)) (dC (.int 10)) δ s fun y s2 => dPairs r δ s2 fun ps s3 => k ((.inr z, y) :: ps) s3
  have q2 : ∀ p, s p = none → (fun y s2 => dPairs r δ s2 fun ps s3 => k ((.inr z, y) :: ps) s3 : DK) (.v (.ref p)) (U.put s p (regsC (List.replicate 10 (.int 0)))) := q
  generalize (fun y s2 => dPairs r δ s2 fun ps s3 => k ((.inr z, y) :: ps) s3 : DK) = k2 at q2 ⊢
  walk_at "dl"
  simp only [dMulO]
  exact ⟨by decide, ⟨by decide, by decide, by decide⟩, q2⟩
theorem e_begun (q : ∀ s' a, LAt s' a {} → (∀ y ∈ a.all, s y = none) → (∀ y c, s y = some c → s' y = some c) → k (.v (.ref a.st)) s') : df__law_begun K [] s k := by
  rw [df__law_begun_eq]; unfold d__law_begun_
  refine ⟨rfl, ?_⟩
  show dDisp _ _ s k
  intro st hst
  refine dp_c (dp_c (dp_mul fun h hh => dp_new fun v hv => dp_new fun p hp => dp_new fun b hb => dp_new fun a ha => dp_new fun kk hk => dp_new fun c hc => ?_))
  obtain ⟨h1, _⟩ := fresh_put hh
  obtain ⟨v1, hv⟩ := fresh_put hv
  obtain ⟨v2, hv⟩ := fresh_put hv
  obtain ⟨p1, hp⟩ := fresh_put hp
  obtain ⟨p2, hp⟩ := fresh_put hp
  obtain ⟨p3, hp⟩ := fresh_put hp
  obtain ⟨b1, hb⟩ := fresh_put hb
  obtain ⟨b2, hb⟩ := fresh_put hb
  obtain ⟨b3, hb⟩ := fresh_put hb
  obtain ⟨b4, hb⟩ := fresh_put hb
  obtain ⟨a1, ha⟩ := fresh_put ha
  obtain ⟨a2, ha⟩ := fresh_put ha
  obtain ⟨a3, ha⟩ := fresh_put ha
  obtain ⟨a4, ha⟩ := fresh_put ha
  obtain ⟨a5, ha⟩ := fresh_put ha
  obtain ⟨k1, hk⟩ := fresh_put hk
  obtain ⟨k2, hk⟩ := fresh_put hk
  obtain ⟨k3, hk⟩ := fresh_put hk
  obtain ⟨k4, hk⟩ := fresh_put hk
  obtain ⟨k5, hk⟩ := fresh_put hk
  obtain ⟨k6, hk⟩ := fresh_put hk
  obtain ⟨c1, hc⟩ := fresh_put hc
  obtain ⟨c2, hc⟩ := fresh_put hc
  obtain ⟨c3, hc⟩ := fresh_put hc
  obtain ⟨c4, hc⟩ := fresh_put hc
  obtain ⟨c5, hc⟩ := fresh_put hc
  obtain ⟨c6, hc⟩ := fresh_put hc
  obtain ⟨c7, hc⟩ := fresh_put hc
  refine ⟨?_, by show 9 ≤ 15; decide, ?_⟩
  · rw [put_ne (Ne.symm ‹c ≠ st›), put_ne (Ne.symm k6), put_ne (Ne.symm a5), put_ne (Ne.symm b4), put_ne (Ne.symm p3), put_ne (Ne.symm v2), put_ne (Ne.symm h1), put_eq]
  refine q _ ⟨st, h, v, p, b, a, kk, c, [], []⟩ ⟨?_, ?_, ?_, ?_, ?_, ?_, ?_, ?_, .nil, .nil, ?_⟩ (fun y hy => ?_) (fun y d hd => ?_)
  · rw [put_eq]; rfl
  · show U.put _ st _ h = _
    rw [put_ne h1, put_ne (Ne.symm c6), put_ne (Ne.symm k5), put_ne (Ne.symm a4), put_ne (Ne.symm b3), put_ne (Ne.symm p2), put_ne (Ne.symm v1), put_eq]
  · show U.put _ st _ v = _
    rw [put_ne v2, put_ne (Ne.symm c5), put_ne (Ne.symm k4), put_ne (Ne.symm a3), put_ne (Ne.symm b2), put_ne (Ne.symm p1), put_eq]
    rfl
  · show U.put _ st _ p = _
    rw [put_ne p3, put_ne (Ne.symm c4), put_ne (Ne.symm k3), put_ne (Ne.symm a2), put_ne (Ne.symm b1), put_eq]
    rfl
  · show U.put _ st _ b = _
    rw [put_ne b4, put_ne (Ne.symm c3), put_ne (Ne.symm k2), put_ne (Ne.symm a1), put_eq]
    rfl
  · show U.put _ st _ a = _
    rw [put_ne a5, put_ne (Ne.symm c2), put_ne (Ne.symm k1), put_eq]
    rfl
  · show U.put _ st _ kk = _
    rw [put_ne k6, put_ne (Ne.symm c1), put_eq]
    rfl
  · show U.put _ st _ c = _
    rw [put_ne ‹c ≠ st›, put_eq]
    rfl
  · simp only [LA.all, List.append_nil, List.nodup_cons, List.mem_cons, List.not_mem_nil, or_false, not_or, not_false_eq_true, List.nodup_nil, and_true]
    exact ⟨⟨Ne.symm h1, Ne.symm v2, Ne.symm p3, Ne.symm b4, Ne.symm a5, Ne.symm k6, Ne.symm ‹c ≠ st›⟩, ⟨Ne.symm v1, Ne.symm p2, Ne.symm b3, Ne.symm a4, Ne.symm k5, Ne.symm c6⟩, ⟨Ne.symm p1, Ne.symm b2, Ne.symm a3, Ne.symm k4, Ne.symm c5⟩, ⟨Ne.symm b1, Ne.symm a2, Ne.symm k3, Ne.symm c4⟩, ⟨Ne.symm a1, Ne.symm k2, Ne.symm c3⟩, ⟨Ne.symm k1, Ne.symm c2⟩, Ne.symm c1⟩
  · simp only [LA.all, List.append_nil, List.mem_cons, List.not_mem_nil, or_false] at hy
    rcases hy with rfl | rfl | rfl | rfl | rfl | rfl | rfl | rfl <;> assumption
  · have ne : ∀ x, s x = none → y ≠ x := fun x hx e => by rw [e, hx] at hd; cases hd
    rw [put_ne (ne st hst), put_ne (ne c (by assumption)), put_ne (ne kk hk), put_ne (ne a ha), put_ne (ne b hb), put_ne (ne p hp), put_ne (ne v hv), put_ne (ne h (by assumption)), put_ne (ne st hst)]
    exact hd
end
end G

set_option maxHeartbeats 400000
namespace G
open PySem PySem.Spec PyProof.Rows L2 U
local macro_rules | `(tactic| walk_at "dl") => `(tactic| simp only [dfOf, dfOfX, startD, List.map_cons, List.map_nil, List.length_cons, List.length_nil, List.cons_append, List.nil_append, List.replicate, Nat.zero_add, Nat.reduceAdd, Nat.reduceSub, true_and,
  zNext, zSeq_later, zRet, zDrop, zIf, zAsg, zPar, zAug, dVar, dC, dV, dOp, dNeg, dNil, dCons, dTest, dTru, dAnd, dOr, dNot, dYes, dAndV, dOrV, dNotV, dIf, dChain, dCB, dCall, dIsin, tkD, truD, dCmp, dLt, dLe, dGt, dGe, dMod, dDiv, dPow, dSub, dI2, hName, hTup, hCons, hNil, wipeD, dPart, dNoPart, dSl, lstOf, asD, seqOf,
  dEq_int, dNe_int, dEq_str, dNe_str, dIs, dIsNot, isNone, dLen, lenD, dAdd, dMul, dTup, dLst, newT, newL, datas, dIx_tup, dIx_list, atI_zero, atI_one, at2, at3, at4, dKGet, dTupC_list, intD_int, intD_bool, absD_int, Option.map_some, dIAdd, d1, eqv_int, eqv_str, eqOk_int, eqOk_str,
  List.getElem?_cons_zero, List.getElem?_cons_succ, List.set_cons_zero, List.set_cons_succ, if_true, Bool.false_eq_true, if_false, reduceIte, Bool.not_true, Bool.not_false])
local macro_rules | `(tactic| walk_at "nums") => `(tactic| (repeat ((with_reducible refine And.intro ?hnum ?_); case hnum => first | decide | exact mulW_abs (by decide) (by decide) | exact ⟨by decide, by decide, by decide⟩)))
local macro_rules | `(tactic| walk_at "go") => `(tactic| (rw [zLater]; walk_at "dl"; walk_at "nums"))
section
variable {K : PySem.W.Frag} {s : Hs} {k : DK}
/-! ### the law's run -/
abbrev lrCond : DT := dAnd (dTest (dOp dLt (dVar 3) (dVar 1))) (dAnd (dNot (dTru (dOp dIx (dVar 2) (dC (.str "fault"))))) (dTest (dOp dLt (dOp dIx (dVar 2) (dC (.str "at"))) (dCB dLen (dCons (dVar 0) dNil)))))
abbrev lrBody (K : PySem.W.Frag) : DS := zSeq (zDrop (dCall (df__law_step K) (dCons (dVar 0) (dCons (dVar 2) dNil)))) (zAsg (dOp dAdd (dVar 3) (dC (.int 1))) (hName 3))
theorem lr_stop {D : DEnds} {a : LA} {L : LS} (h : LAt s a L) (rows : List Row) (most many : Nat) (n : Nat) (hs : ¬ many < most ∨ L.fault = true ∨ ¬ L.at_ < rows.length)
    (q : D.nx [some (.d (rowsD rows)), some (.d (.int (most : Nat))), some (.v (.ref a.st)), some (.d (.int (many : Nat)))] s) :
    whileN lrCond (lrBody K) (n + 1) D [some (.d (rowsD rows)), some (.d (.int (most : Nat))), some (.v (.ref a.st)), some (.d (.int (many : Nat)))] s := by
  show lrCond _ _ _
  walk_at "dl"
  by_cases h1 : ((many : Nat) : Int) < (most : Nat)
  · simp only [h1, decide_true, if_true]
    rw [st_fault h]
    cases hf : L.fault with
    | true => walk_at "dl"; exact q
    | false =>
      walk_at "dl"
      rw [st_at h]
      unfold rowsD
      walk_at "dl"
      have h2 : ¬ ((L.at_ : Nat) : Int) < ((rows.length : Nat) : Int) := by
        rcases hs with h3 | h3 | h3
        · exact absurd (by omega : many < most) h3
        · rw [h3] at hf; cases hf
        · omega
      simp only [List.length_map, h2, decide_false, Bool.false_eq_true, if_false]
      exact q
  · simp only [h1, decide_false, Bool.false_eq_true, if_false]
    exact q
theorem value_fault {L L1 : LS} {row : Row} {u : Rv} (e : valueL L row = some (u, L1)) : L1.fault = L.fault := by
  cases row <;> simp only [valueL, Option.map_eq_some_iff, Option.some.injEq, Prod.mk.injEq] at e
  all_goals (repeat' (split at e))
  all_goals first
    | (cases e; done)
    | (simp only [Option.some.injEq, Prod.mk.injEq] at e; obtain ⟨_, rfl⟩ := e; rfl)
    | (obtain ⟨_, rfl⟩ := e; rfl)
    | (obtain ⟨_, _, _, rfl⟩ := e; rfl)
theorem step_fault {L L2 : LS} {row : Row} {n : Nat} (e : stepL L row = some (n, L2)) : L2.fault = L.fault := by
  have v : (valueL L row).map (fun p => (L.at_ + 1, p.2.put (regOf row) p.1)) = some (n, L2) → L2.fault = L.fault := fun e => by
    cases hv : valueL L row with
    | none => rw [hv] at e; cases e
    | some p =>
      rw [hv] at e
      cases e
      show p.2.fault = L.fault
      exact value_fault (u := p.1) (by rw [hv])
  have g : ∀ (o : Option Bool) (f : Bool → Nat), (o.map fun b => (f b, L)) = some (n, L2) → L2.fault = L.fault := fun o f e => by
    cases o with
    | none => cases e
    | some b => cases e; rfl
  cases row with
  | go t => cases e; rfl
  | show_ x => cases e; rfl
  | is_ x y t => exact g _ _ e
  | less x y t => exact g _ _ e
  | write x y f z =>
    simp only [stepL] at e
    cases hc : cellOfL L.cells (L.at x) (L.at y) f with
    | none => rw [hc] at e; cases e
    | some p => rw [hc] at e; cases e; rfl
  | set x n => exact v e
  | copy x y => exact v e
  | add x y z => exact v e
  | load x ps b => exact v e
  | make x y => exact v e
  | kind x y => exact v e
  | read x y z f => exact v e
theorem lr_while {D : DEnds} {mx : Nat} (rows : List Row) (hrows : ∀ row ∈ rows, row.Ok mx) (hmx : rows.length ≤ mx) (most : Nat) (n : Nat) : ∀ (s : Hs) (a : LA) (L : LS) (S : RS) (many : Nat), LAt s a L → Rel L S → S.Ok → L.fault = false → many + n = most → S.vals.length + n < 90000 → L.at_ ≤ mx →
    (∀ s' a' L' many', LAt s' a' L' → LTo s a s' a' → L'.shown = (runR rows n S L.at_).1.vals → L'.at_ = (runR rows n S L.at_).2.1 → L'.fault = (runR rows n S L.at_).2.2 → D.nx [some (.d (rowsD rows)), some (.d (.int (most : Nat))), some (.v (.ref a'.st)), some (.d (.int (many' : Nat)))] s') →
    whileN lrCond (lrBody K) (n + 1) D [some (.d (rowsD rows)), some (.d (.int (most : Nat))), some (.v (.ref a.st)), some (.d (.int (many : Nat)))] s := by
  induction n with
  | zero =>
    intro s a L S many h r ok hf hm hv ha q
    exact lr_stop h rows most many 0 (.inl (by omega)) (q s a L many h (LTo.refl s a) r.sh rfl hf)
  | succ n ih =>
    intro s a L S many h r ok hf hm hv ha q
    by_cases hl : L.at_ < rows.length
    · show lrCond _ _ _
      walk_at "dl"
      have h1 : ((many : Nat) : Int) < (most : Nat) := by omega
      simp only [h1, decide_true, if_true]
      rw [st_fault h, hf]
      walk_at "dl"
      rw [st_at h]
      unfold rowsD
      walk_at "dl"
      have h2 : ((L.at_ : Nat) : Int) < ((rows.length : Nat) : Int) := by omega
      simp only [List.length_map, h2, decide_true, if_true]
      have hget : rows[L.at_]? = some rows[L.at_] := List.getElem?_eq_getElem hl
      have hrow := hrows _ (List.getElem_mem hl)
      have hvl : L.shown.length = S.vals.length := by rw [r.sh]
      refine e_law_step h r ok rows hl hf hrow (by omega) fun s1 a1 h1' t1 => ?_
      walk_at "go"
      have e3 : ((many : Nat) : Int) + 1 = ((many + 1 : Nat) : Int) := by omega
      rw [e3]
      rcases rel_step r ok hrow with ⟨n1, n2⟩ | ⟨at', L', S', n1, n2, r'⟩
      · have hL : stepLS L rows[L.at_] = { L with fault := true } := by unfold stepLS; rw [n1]; rfl
        rw [hL] at h1'
        have hst : a1.st = a.st := by obtain ⟨as, cs, rfl⟩ := t1.fix; rfl
        rw [← hst]
        refine lr_stop h1' rows most (many + 1) n (.inr (.inl rfl)) (q s1 a1 _ (many + 1) h1' t1 ?_ ?_ ?_)
        · simp only [runR, hget, n2]; exact r.sh
        · simp only [runR, hget, n2]
        · simp only [runR, hget, n2]
      · have hL : stepLS L rows[L.at_] = { L' with at_ := at' } := by unfold stepLS; rw [n1]; rfl
        rw [hL] at h1'
        have hst : a1.st = a.st := by obtain ⟨as, cs, rfl⟩ := t1.fix; rfl
        rw [← hst]
        obtain ⟨ok', ha'⟩ := step_ok ok hrow (Nat.lt_of_lt_of_le hl hmx) n2
        have hvs := step_vals n2
        have r'' : Rel { L' with at_ := at' } S' := ⟨r'.hh, r'.sh, r'.pa, r'.br, r'.ki, r'.al, r'.ab, r'.cl, r'.ca, r'.ce⟩
        have hf' : ({ L' with at_ := at' } : LS).fault = false := by
          exact (step_fault n1).trans hf
        refine ih s1 a1 { L' with at_ := at' } S' (many + 1) h1' r'' ok' hf' (by omega) (by omega) ha' fun s2 a2 L2 m2 l2 t2 g1 g2 g3 => ?_
        have hst2 : a2.st = a1.st := by obtain ⟨as, cs, rfl⟩ := t2.fix; rfl
        refine q s2 a2 L2 m2 l2 (t1.trans t2) ?_ ?_ ?_
        · simp only [runR, hget, n2]; exact g1
        · simp only [runR, hget, n2]; exact g2
        · simp only [runR, hget, n2]; exact g3
    · refine lr_stop h rows most many (n + 1) (.inr (.inr hl)) (q s a L many h (LTo.refl s a) ?_ ?_ ?_)
      all_goals simp only [runR, List.getElem?_eq_none (Nat.le_of_not_lt hl)]
      · exact r.sh
      · exact hf
/-- it tells what the program's run tells -/
theorem e_law_run {mx : Nat} (rows : List Row) (hrows : ∀ row ∈ rows, row.Ok mx) (hmx : rows.length ≤ mx) (most : Nat) (hm : most ≤ 80000)
    (q : ∀ s' a L, LAt s' a L → (∀ y ∈ a.all, s y = none) → (∀ y c, s y = some c → s' y = some c) → L.shown = (runR rows most S0 0).1.vals → L.at_ = (runR rows most S0 0).2.1 → L.fault = (runR rows most S0 0).2.2 → k (.v (.ref a.st)) s') :
    df__law_run K [.d (rowsD rows), .d (.int (most : Nat))] s k := by
  rw [df__law_run_eq]; unfold d__law_run_
  walk_at "dl"
  refine e_begun fun s1 a h1 hf hk => ?_
  walk_at "go"
  walk_at "go"
  refine ⟨most + 1, lr_while rows hrows hmx most most s1 a {} S0 0 h1 rel_0 ok_S0 rfl (by omega) (by show 0 + most < 90000; omega) (Nat.zero_le _) fun s2 a2 L2 m2 l2 t2 g1 g2 g3 => ?_⟩
  dsimp only
  walk_at "go"
  have hold : ∀ y c, s y = some c → s2 y = some c := fun y c hy => t2.fr y c (fun hm => by rw [hf y hm] at hy; cases hy) (hk y c hy)
  refine q s2 a2 L2 l2 (fun y hy => ?_) hold g1 g2 g3
  rcases t2.gr y hy with z | z
  · exact hf y z
  · cases e : s y with
    | none => rfl
    | some c => rw [hk y c e] at z; cases z
theorem e_law_end {a : LA} {L : LS} (h : LAt s a L) (rows : List Row) (w : Str) (q : k (.d (if L.fault = true then .tuple [.str "fault", nD L.at_] else if L.at_ = rows.length then .tuple [.str "end"] else .tuple [.str w, nD L.at_])) s) :
    df__law_end K [.d (rowsD rows), .v (.ref a.st), .d (.str w)] s k := by
  rw [df__law_end_eq]; unfold d__law_end_
  walk_at "dl"
  rw [st_fault h]
  cases hf : L.fault with
  | true =>
    rw [hf, if_pos rfl] at q
    walk_at "dl"
    rw [st_at h]
    walk_at "dl"
    walk_at "nums"
    exact q
  | false =>
    rw [hf, if_neg Bool.false_ne_true] at q
    walk_at "dl"
    rw [zLater]
    walk_at "dl"
    rw [st_at h]
    unfold rowsD
    walk_at "dl"
    simp only [List.length_map]
    by_cases he : L.at_ = rows.length
    · rw [if_pos he] at q
      have e1 : (((L.at_ : Nat) : Int) == ((rows.length : Nat) : Int)) = true := by rw [he]; simp
      simp only [e1, if_true]
      walk_at "nums"
      exact q
    · rw [if_neg he] at q
      have e1 : (((L.at_ : Nat) : Int) == ((rows.length : Nat) : Int)) = false := by rw [beq_eq_false_iff_ne]; omega
      simp only [e1, Bool.false_eq_true, if_false]
      rw [st_at h]
      walk_at "dl"
      walk_at "nums"
      exact q
end
end G

set_option maxHeartbeats 400000
namespace G
open PySem PySem.Spec PyProof.Rows L2 U
local macro_rules | `(tactic| walk_at "dl") => `(tactic| simp only [dfOf, dfOfX, startD, List.map_cons, List.map_nil, List.length_cons, List.length_nil, List.cons_append, List.nil_append, List.replicate, Nat.zero_add, Nat.reduceAdd, Nat.reduceSub, true_and,
  zNext, zSeq_later, zRet, zDrop, zIf, zAsg, zPar, zAug, dVar, dC, dV, dOp, dNeg, dNil, dCons, dTest, dTru, dAnd, dOr, dNot, dYes, dAndV, dOrV, dNotV, dIf, dChain, dCB, dCall, dIsin, tkD, truD, dCmp, dLt, dLe, dGt, dGe, dMod, dDiv, dPow, dSub, dI2, hName, hTup, hCons, hNil, wipeD, dPart, dNoPart, dSl, lstOf, asD, seqOf,
  dEq_int, dNe_int, dEq_str, dNe_str, dIs, dIsNot, isNone, dLen, lenD, dAdd, dMul, dTup, dLst, newT, newL, datas, dIx_tup, dIx_list, atI_zero, atI_one, at2, at3, at4, dKGet, dTupC_list, intD_int, intD_bool, absD_int, Option.map_some, dIAdd, d1, eqv_int, eqv_str, eqOk_int, eqOk_str,
  List.getElem?_cons_zero, List.getElem?_cons_succ, List.set_cons_zero, List.set_cons_succ, if_true, Bool.false_eq_true, if_false, reduceIte, Bool.not_true, Bool.not_false])
local macro_rules | `(tactic| walk_at "nums") => `(tactic| (repeat ((with_reducible refine And.intro ?hnum ?_); case hnum => first | decide | exact mulW_abs (by decide) (by decide) | exact ⟨by decide, by decide, by decide⟩)))
local macro_rules | `(tactic| walk_at "go") => `(tactic| (rw [zLater]; walk_at "dl"; walk_at "nums"))

/-! ### a drawn row -/
section
variable {K : PySem.W.Frag} {s : Hs} {k : DK}
theorem perm_nats {ys : List PyData} {xs : List Nat} (h : ys.Perm (natsD xs)) : ∃ ns : List Nat, ns.Perm xs ∧ ys = natsD ns := by
  have un : ∀ n : Nat, (match PyData.int (n : Int) with | .int i => i.toNat | _ => 0) = n := fun n => by simp
  refine ⟨ys.map fun y => match y with | .int i => i.toNat | _ => 0, ?_, ?_⟩
  · have := h.map fun y => match y with | .int i => i.toNat | _ => 0
    unfold natsD at this
    rw [List.map_map] at this
    simpa [Function.comp_def] using this
  · unfold natsD
    rw [List.map_map]
    have : ∀ y ∈ ys, ((fun n : Nat => PyData.int (n : Int)) ∘ fun y => match y with | .int i => i.toNat | _ => 0) y = y := fun y hy => by
      obtain ⟨n, _, rfl⟩ := List.mem_map.mp (h.mem_iff.mp hy)
      simp
    exact (List.map_id ys).symm.trans (List.map_congr_left fun y hy => (this y hy).symm)
theorem e_law_from {p c : Addr} {n : Nat} (h : PoolAt s p c n) (hn : n + 2 < 1000000) (ns : List Nat) (h0 : 0 < ns.length) (hl : ns.length ≤ 1000) (h10 : ∀ x ∈ ns, x < 10)
    (q : ∀ s' x, x < 10 → PoolAt s' p c (n + 2) → Pfr s s' p c → k (.d (nD x)) s') : df__law_from K [.v (.ref p), .d (.list (natsD ns))] s k := by
  rw [df__law_from_eq]; unfold d__law_from_
  walk_at "dl"
  refine e_draw h (by omega) 24 (by decide) (by decide) fun s1 d h1 h2 hp1 hf1 => ?_
  walk_at "dl"
  by_cases hd : d = 0
  · simp only [hd, beq_self_eq_true, if_true]
    refine e_draw hp1 (by omega) 10 (by decide) (by decide) fun s2 e h3 h4 hp2 hf2 => ?_
    obtain ⟨i, rfl⟩ := Int.eq_ofNat_of_zero_le h3
    exact q s2 i (by omega) hp2 (hf1.trans hf2)
  · have e1 : (d == 0) = false := by rw [beq_eq_false_iff_ne]; exact hd
    simp only [e1, Bool.false_eq_true, if_false]
    refine e_some hp1 (by omega) (natsD ns) (by unfold natsD; rw [List.length_map]; exact h0) (by unfold natsD; rw [List.length_map]; omega) fun s2 i hi hp2 hf2 => ?_
    have hi' : i < ns.length := by unfold natsD at hi; rw [List.length_map] at hi; exact hi
    have e2 : (natsD ns)[i] = nD ns[i] := List.getElem_map _
    rw [e2]
    exact q s2 _ (h10 _ (List.getElem_mem hi')) hp2 (hf1.trans hf2)
/-- a draw, a number below m -/
theorem e_drawN {p c : Addr} {n : Nat} (h : PoolAt s p c n) (hn : n < 1000000) (m : Nat) (hm : 0 < m) (hm2 : m ≤ 1000000000)
    (q : ∀ s' d, d < m → PoolAt s' p c (n + 1) → Pfr s s' p c → k (.d (nD d)) s') : df__law_draw K [.v (.ref p), .d (.int (m : Int))] s k := by
  refine e_draw h hn (m : Int) (by omega) (by omega) fun s' d h1 h2 hp hf => ?_
  obtain ⟨i, rfl⟩ := Int.eq_ofNat_of_zero_le h1
  exact q s' i (by omega) hp hf
theorem ok2_t {many : Nat} {row : Row} (h : row.ok2 many = true) : row.ok2 many = true := h
theorem cutD_mem {α : Type} {xs : List α} {lo hi : Option Int} {x : α} (h : x ∈ U.cutD xs lo hi) : x ∈ xs := by
  unfold U.cutD at h
  exact List.mem_of_mem_drop (List.mem_of_mem_take h)
theorem cutD_len {α : Type} (xs : List α) (lo hi : Option Int) : (U.cutD xs lo hi).length ≤ xs.length := by
  unfold U.cutD
  rw [List.length_take, List.length_drop]
  omega
theorem e_law_row {p c : Addr} {n : Nat} (h : PoolAt s p c n) (hn : n + 12 < 1000000) (many : Nat) (hm : many ≤ 1000)
    (q : ∀ s' (row : Row), row.ok2 many = true → PoolAt s' p c (n + 12) → Pfr s s' p c → k (.d row.d) s') : df__law_row K [.v (.ref p), .d (.int (many : Nat))] s k := by
  rw [df__law_row_eq]; unfold d__law_row_
  walk_at "dl"
  simp only [zPar3]
  walk_at "dl"
  walk_at "nums"
  walk_at "go"
  refine e_some h (by omega) [PyData.str "set", .str "copy", .str "add", .str "load", .str "load", .str "make", .str "make", .str "kind", .str "write", .str "write", .str "read"] (by decide) (by decide) fun s1 i hi hp1 hf1 => ?_
  obtain ⟨z1, e1⟩ : ∃ z : Str, [PyData.str "set", .str "copy", .str "add", .str "load", .str "load", .str "make", .str "make", .str "kind", .str "write", .str "write", .str "read"][i] = .str z := by
    match i, hi with
    | 0, _ => exact ⟨_, rfl⟩
    | 1, _ => exact ⟨_, rfl⟩
    | 2, _ => exact ⟨_, rfl⟩
    | 3, _ => exact ⟨_, rfl⟩
    | 4, _ => exact ⟨_, rfl⟩
    | 5, _ => exact ⟨_, rfl⟩
    | 6, _ => exact ⟨_, rfl⟩
    | 7, _ => exact ⟨_, rfl⟩
    | 8, _ => exact ⟨_, rfl⟩
    | 9, _ => exact ⟨_, rfl⟩
    | 10, _ => exact ⟨_, rfl⟩
  rw [e1]
  walk_at "go"
  walk_at "nums"
  refine e_some hp1 (by omega) [PyData.str z1, .str z1, .str z1, .str "is", .str "less", .str "go", .str "show", .str "show"] (by show 0 < 8; decide) (by show 8 ≤ 1000000; decide) fun s2 i2 hi2 hp2 g2 => ?_
  have hf2 := hf1.trans g2
  obtain ⟨z, e2⟩ : ∃ z : Str, [PyData.str z1, .str z1, .str z1, .str "is", .str "less", .str "go", .str "show", .str "show"][i2] = .str z := by
    match i2, hi2 with
    | 0, _ => exact ⟨_, rfl⟩
    | 1, _ => exact ⟨_, rfl⟩
    | 2, _ => exact ⟨_, rfl⟩
    | 3, _ => exact ⟨_, rfl⟩
    | 4, _ => exact ⟨_, rfl⟩
    | 5, _ => exact ⟨_, rfl⟩
    | 6, _ => exact ⟨_, rfl⟩
    | 7, _ => exact ⟨_, rfl⟩
  rw [e2]
  have hp2 : PoolAt s2 p c (n + 2) := hp2
  clear hi hi2 e1 e2 hp1 hf1 g2
  rw [zLater]
  walk_at "dl"
  by_cases hz : (z == ("set" : Str)) = true
  · simp only [hz, if_true]
    refine e_law_from hp2 (by omega) [0, 1, 2] (by decide) (by decide) (by decide) fun s3 x hx hp3 g3 => ?_
    have hf3 := hf2.trans g3
    try walk_at "dl"
    refine e_draw hp3 (by omega) _ (by omega) (by omega) fun s4 dd hd0 hd hp4 g4 => ?_
    have hf4 := hf3.trans g4
    obtain ⟨d, rfl⟩ := Int.eq_ofNat_of_zero_le hd0
    try walk_at "dl"
    walk_at "nums"
    exact q _ (.set x ((d : Int) - 3)) (by simp only [Row.ok2, Bool.and_eq_true, decide_eq_true_eq]; omega) (hp4.mono (by omega)) hf4
  simp only [hz, Bool.false_eq_true, if_false]
  clear hz
  rw [zLater]
  walk_at "dl"
  by_cases hz : (z == ("copy" : Str)) = true
  · simp only [hz, if_true]
    walk_at "nums"
    refine e_some hp2 (by omega) [PyData.list [.int 0, .int 1, .int 2], .list [.int 3, .int 4, .int 5, .int 6], .list [.int 7, .int 8, .int 9]] (by decide) (by decide) fun s3 i hi hp3 g3 => ?_
    have hf3 := hf2.trans g3
    obtain ⟨ns, e, n1, n2, n3⟩ : ∃ ns : List Nat, [PyData.list [.int 0, .int 1, .int 2], .list [.int 3, .int 4, .int 5, .int 6], .list [.int 7, .int 8, .int 9]][i] = .list (natsD ns) ∧ 0 < ns.length ∧ ns.length ≤ 1000 ∧ ∀ x ∈ ns, x < 10 := by
      match i, hi with
      | 0, _ => exact ⟨[0, 1, 2], rfl, by decide, by decide, by decide⟩
      | 1, _ => exact ⟨[3, 4, 5, 6], rfl, by decide, by decide, by decide⟩
      | 2, _ => exact ⟨[7, 8, 9], rfl, by decide, by decide, by decide⟩
    rw [e]
    walk_at "go"
    refine e_law_from hp3 (by omega) ns n1 n2 n3 fun s4 x hx hp4 g4 => ?_
    have hf4 := hf3.trans g4
    try walk_at "dl"
    refine e_law_from hp4 (by omega) ns n1 n2 n3 fun s5 y hy hp5 g5 => ?_
    have hf5 := hf4.trans g5
    try walk_at "dl"
    walk_at "nums"
    exact q _ (.copy x y) (by simp only [Row.ok2, Bool.and_eq_true, decide_eq_true_eq]; omega) (hp5.mono (by omega)) hf5
  simp only [hz, Bool.false_eq_true, if_false]
  clear hz
  rw [zLater]
  walk_at "dl"
  by_cases hz : (z == ("add" : Str)) = true
  · simp only [hz, if_true]
    refine e_law_from hp2 (by omega) [0, 1, 2] (by decide) (by decide) (by decide) fun s3 x hx hp3 g3 => ?_
    have hf3 := hf2.trans g3
    try walk_at "dl"
    refine e_law_from hp3 (by omega) [0, 1, 2] (by decide) (by decide) (by decide) fun s4 y hy hp4 g4 => ?_
    have hf4 := hf3.trans g4
    try walk_at "dl"
    refine e_law_from hp4 (by omega) [0, 1, 2] (by decide) (by decide) (by decide) fun s5 z hz hp5 g5 => ?_
    have hf5 := hf4.trans g5
    try walk_at "dl"
    walk_at "nums"
    exact q _ (.add x y z) (by simp only [Row.ok2, Bool.and_eq_true, decide_eq_true_eq]; omega) (hp5.mono (by omega)) hf5
  simp only [hz, Bool.false_eq_true, if_false]
  clear hz
  rw [zLater]
  walk_at "dl"
  by_cases hz : (z == ("load" : Str)) = true
  · simp only [hz, if_true]
    refine e_mixed hp2 [PyData.int 3, .int 4, .int 5, .int 6] (by show n + 2 + 4 < 1000000; omega) (by decide) fun s3 ys hys hp3 g3 => ?_
    have hf3 := hf2.trans g3
    obtain ⟨ns, hns, rfl⟩ := perm_nats (xs := [3, 4, 5, 6]) hys
    have hp3 : PoolAt s3 p c (n + 2 + 4) := hp3
    try walk_at "dl"
    walk_at "nums"
    refine e_some hp3 (by omega) [PyData.int 0, .int 1, .int 1, .int 2, .int 2, .int 3, .int 4] (by decide) (by decide) fun s4 i hi hp4 g4 => ?_
    have hf4 := hf3.trans g4
    obtain ⟨m, e⟩ : ∃ m : Int, [PyData.int 0, .int 1, .int 1, .int 2, .int 2, .int 3, .int 4][i] = .int m := by
      match i, hi with
      | 0, _ => exact ⟨_, rfl⟩
      | 1, _ => exact ⟨_, rfl⟩
      | 2, _ => exact ⟨_, rfl⟩
      | 3, _ => exact ⟨_, rfl⟩
      | 4, _ => exact ⟨_, rfl⟩
      | 5, _ => exact ⟨_, rfl⟩
      | 6, _ => exact ⟨_, rfl⟩
    rw [e]
    try walk_at "dl"
    have ec : U.cutD (natsD ns) none (some m) = natsD (U.cutD ns none (some m)) := cutD_map _ _ _ _
    rw [ec]
    have cl : (U.cutD ns none (some m)).length ≤ 4 := by have := cutD_len ns none (some m); have := hns.length_eq; simp only [List.length_cons, List.length_nil] at this; omega
    have cm : ∀ x ∈ U.cutD ns none (some m), x < 10 := fun x hx => by have := hns.mem_iff.mp (cutD_mem hx); simp only [List.mem_cons, List.not_mem_nil, or_false] at this; omega
    generalize U.cutD ns none (some m) = ps at cl cm
    try walk_at "dl"
    walk_at "go"
    refine e_law_from hp4 (by omega) [3, 4, 5, 6] (by decide) (by decide) (by decide) fun s5 x hx hp5 g5 => ?_
    have hf5 := hf4.trans g5
    try walk_at "dl"
    refine e_draw hp5 (by omega) _ (by omega) (by omega) fun s6 db hb0 hb hp6 g6 => ?_
    have hf6 := hf5.trans g6
    obtain ⟨b, rfl⟩ := Int.eq_ofNat_of_zero_le hb0
    try walk_at "dl"
    walk_at "nums"
    exact q _ (.load x ps b) (by simp only [Row.ok2, Bool.and_eq_true, decide_eq_true_eq, List.all_eq_true]; exact ⟨⟨⟨hx, fun y hy => cm y hy⟩, by omega⟩, by omega⟩) (hp6.mono (by omega)) hf6
  simp only [hz, Bool.false_eq_true, if_false]
  clear hz
  rw [zLater]
  walk_at "dl"
  by_cases hz : (z == ("make" : Str)) = true
  · simp only [hz, if_true]
    refine e_law_from hp2 (by omega) [7, 8, 9] (by decide) (by decide) (by decide) fun s3 x hx hp3 g3 => ?_
    have hf3 := hf2.trans g3
    try walk_at "dl"
    refine e_law_from hp3 (by omega) [3, 4, 5, 6] (by decide) (by decide) (by decide) fun s4 y hy hp4 g4 => ?_
    have hf4 := hf3.trans g4
    try walk_at "dl"
    walk_at "nums"
    exact q _ (.make x y) (by simp only [Row.ok2, Bool.and_eq_true, decide_eq_true_eq]; omega) (hp4.mono (by omega)) hf4
  simp only [hz, Bool.false_eq_true, if_false]
  clear hz
  rw [zLater]
  walk_at "dl"
  by_cases hz : (z == ("kind" : Str)) = true
  · simp only [hz, if_true]
    refine e_law_from hp2 (by omega) [3, 4, 5, 6] (by decide) (by decide) (by decide) fun s3 x hx hp3 g3 => ?_
    have hf3 := hf2.trans g3
    try walk_at "dl"
    refine e_law_from hp3 (by omega) [7, 8, 9] (by decide) (by decide) (by decide) fun s4 y hy hp4 g4 => ?_
    have hf4 := hf3.trans g4
    try walk_at "dl"
    walk_at "nums"
    exact q _ (.kind x y) (by simp only [Row.ok2, Bool.and_eq_true, decide_eq_true_eq]; omega) (hp4.mono (by omega)) hf4
  simp only [hz, Bool.false_eq_true, if_false]
  clear hz
  rw [zLater]
  walk_at "dl"
  by_cases hz : (z == ("write" : Str)) = true
  · simp only [hz, if_true]
    refine e_draw hp2 (by omega) _ (by omega) (by omega) fun s3 dz hz0 hz hp3 g3 => ?_
    have hf3 := hf2.trans g3
    obtain ⟨z, rfl⟩ := Int.eq_ofNat_of_zero_le hz0
    try walk_at "dl"
    walk_at "go"
    refine e_law_from hp3 (by omega) [7, 8, 9] (by decide) (by decide) (by decide) fun s4 x hx hp4 g4 => ?_
    have hf4 := hf3.trans g4
    try walk_at "dl"
    refine e_law_from hp4 (by omega) [3, 4, 5, 6] (by decide) (by decide) (by decide) fun s5 y hy hp5 g5 => ?_
    have hf5 := hf4.trans g5
    try walk_at "dl"
    refine e_draw hp5 (by omega) _ (by omega) (by omega) fun s6 df hf0 hf hp6 g6 => ?_
    have hf6 := hf5.trans g6
    obtain ⟨f, rfl⟩ := Int.eq_ofNat_of_zero_le hf0
    try walk_at "dl"
    walk_at "nums"
    exact q _ (.write x y f z) (by simp only [Row.ok2, Bool.and_eq_true, decide_eq_true_eq]; omega) (hp6.mono (by omega)) hf6
  simp only [hz, Bool.false_eq_true, if_false]
  clear hz
  rw [zLater]
  walk_at "dl"
  by_cases hz : (z == ("read" : Str)) = true
  · simp only [hz, if_true]
    refine e_law_from hp2 (by omega) [0, 1, 2] (by decide) (by decide) (by decide) fun s3 x hx hp3 g3 => ?_
    have hf3 := hf2.trans g3
    try walk_at "dl"
    walk_at "go"
    refine e_law_from hp3 (by omega) [7, 8, 9] (by decide) (by decide) (by decide) fun s4 y hy hp4 g4 => ?_
    have hf4 := hf3.trans g4
    try walk_at "dl"
    refine e_law_from hp4 (by omega) [3, 4, 5, 6] (by decide) (by decide) (by decide) fun s5 z hz hp5 g5 => ?_
    have hf5 := hf4.trans g5
    try walk_at "dl"
    refine e_draw hp5 (by omega) _ (by omega) (by omega) fun s6 df hf0 hf hp6 g6 => ?_
    have hf6 := hf5.trans g6
    obtain ⟨f, rfl⟩ := Int.eq_ofNat_of_zero_le hf0
    try walk_at "dl"
    walk_at "nums"
    exact q _ (.read x y z f) (by simp only [Row.ok2, Bool.and_eq_true, decide_eq_true_eq]; omega) (hp6.mono (by omega)) hf6
  simp only [hz, Bool.false_eq_true, if_false]
  clear hz
  rw [zLater]
  walk_at "dl"
  by_cases hz : (z == ("is" : Str)) = true
  · simp only [hz, if_true]
    refine e_law_from hp2 (by omega) [7, 8, 9] (by decide) (by decide) (by decide) fun s3 x hx hp3 g3 => ?_
    have hf3 := hf2.trans g3
    try walk_at "dl"
    refine e_law_from hp3 (by omega) [3, 4, 5, 6] (by decide) (by decide) (by decide) fun s4 y hy hp4 g4 => ?_
    have hf4 := hf3.trans g4
    try walk_at "dl"
    refine e_draw hp4 (by omega) _ (by omega) (by omega) fun s5 dt ht0 ht hp5 g5 => ?_
    have hf5 := hf4.trans g5
    obtain ⟨t, rfl⟩ := Int.eq_ofNat_of_zero_le ht0
    try walk_at "dl"
    walk_at "nums"
    exact q _ (.is_ x y t) (by simp only [Row.ok2, Bool.and_eq_true, decide_eq_true_eq]; omega) (hp5.mono (by omega)) hf5
  simp only [hz, Bool.false_eq_true, if_false]
  clear hz
  rw [zLater]
  walk_at "dl"
  by_cases hz : (z == ("less" : Str)) = true
  · simp only [hz, if_true]
    refine e_law_from hp2 (by omega) [0, 1, 2] (by decide) (by decide) (by decide) fun s3 x hx hp3 g3 => ?_
    have hf3 := hf2.trans g3
    try walk_at "dl"
    refine e_law_from hp3 (by omega) [0, 1, 2] (by decide) (by decide) (by decide) fun s4 y hy hp4 g4 => ?_
    have hf4 := hf3.trans g4
    try walk_at "dl"
    refine e_draw hp4 (by omega) _ (by omega) (by omega) fun s5 dt ht0 ht hp5 g5 => ?_
    have hf5 := hf4.trans g5
    obtain ⟨t, rfl⟩ := Int.eq_ofNat_of_zero_le ht0
    try walk_at "dl"
    walk_at "nums"
    exact q _ (.less x y t) (by simp only [Row.ok2, Bool.and_eq_true, decide_eq_true_eq]; omega) (hp5.mono (by omega)) hf5
  simp only [hz, Bool.false_eq_true, if_false]
  clear hz
  rw [zLater]
  walk_at "dl"
  by_cases hz : (z == ("go" : Str)) = true
  · simp only [hz, if_true]
    refine e_draw hp2 (by omega) _ (by omega) (by omega) fun s3 dt ht0 ht hp3 g3 => ?_
    have hf3 := hf2.trans g3
    obtain ⟨t, rfl⟩ := Int.eq_ofNat_of_zero_le ht0
    try walk_at "dl"
    walk_at "nums"
    exact q _ (.go t) (by simp only [Row.ok2, Bool.and_eq_true, decide_eq_true_eq]; omega) (hp3.mono (by omega)) hf3
  simp only [hz, Bool.false_eq_true, if_false]
  clear hz
  rw [zLater]
  walk_at "dl"
  refine e_draw hp2 (by omega) _ (by omega) (by omega) fun s3 dx hx0 hx hp3 g3 => ?_
  have hf3 := hf2.trans g3
  obtain ⟨x, rfl⟩ := Int.eq_ofNat_of_zero_le hx0
  try walk_at "dl"
  walk_at "nums"
  exact q _ (.show_ x) (by simp only [Row.ok2, Bool.and_eq_true, decide_eq_true_eq]; omega) (hp3.mono (by omega)) hf3
end
end G

set_option maxHeartbeats 400000
namespace G
open PySem PySem.Spec PyProof.Rows L2 U
local macro_rules | `(tactic| walk_at "dl") => `(tactic| simp only [dfOf, dfOfX, startD, List.map_cons, List.map_nil, List.length_cons, List.length_nil, List.cons_append, List.nil_append, List.replicate, Nat.zero_add, Nat.reduceAdd, Nat.reduceSub, true_and,
  zNext, zSeq_later, zRet, zDrop, zIf, zAsg, zPar, zAug, dVar, dC, dV, dOp, dNeg, dNil, dCons, dTest, dTru, dAnd, dOr, dNot, dYes, dAndV, dOrV, dNotV, dIf, dChain, dCB, dCall, dIsin, tkD, truD, dCmp, dLt, dLe, dGt, dGe, dMod, dDiv, dPow, dSub, dI2, hName, hTup, hCons, hNil, wipeD, dPart, dNoPart, dSl, lstOf, asD, seqOf,
  dEq_int, dNe_int, dEq_str, dNe_str, dIs, dIsNot, isNone, dLen, lenD, dAdd, dMul, dTup, dLst, newT, newL, datas, dIx_tup, dIx_list, atI_zero, atI_one, at2, at3, at4, dKGet, dTupC_list, intD_int, intD_bool, absD_int, Option.map_some, dIAdd, d1, eqv_int, eqv_str, eqOk_int, eqOk_str,
  List.getElem?_cons_zero, List.getElem?_cons_succ, List.set_cons_zero, List.set_cons_succ, if_true, Bool.false_eq_true, if_false, reduceIte, Bool.not_true, Bool.not_false])
local macro_rules | `(tactic| walk_at "nums") => `(tactic| (repeat ((with_reducible refine And.intro ?hnum ?_); case hnum => first | decide | exact mulW_abs (by decide) (by decide) | exact ⟨by decide, by decide, by decide⟩)))
local macro_rules | `(tactic| walk_at "go") => `(tactic| (rw [zLater]; walk_at "dl"; walk_at "nums"))

/-! ### rows tried -/
section
variable {K : PySem.W.Frag} {s : Hs} {k : DK}
theorem in_goes {w : Str} (q : ∀ b : Bool, k (.d (.bool b)) s) : dIn (.d (.str w)) (.d (.list [.str "go", .str "is", .str "less"])) s k := by
  simp only [dIn, dInB, U.getD, itemsD, asD]
  refine ⟨.inl ⟨rfl, rfl⟩, ?_⟩
  simp only [Bool.false_eq_true, if_false]
  exact q _
theorem row_hd (row : Row) : ∃ (w : Str) (xs : List PyData), row.d = .tuple (.str w :: xs) := by
  cases row <;> exact ⟨_, _, rfl⟩
/-- what stood and is not the pool stands -/
def Pfw (s s' : Hs) (p c : Addr) : Prop := ∀ y x, y ≠ p → y ≠ c → s y = some x → s' y = some x
theorem Pfw.refl (s : Hs) (p c : Addr) : Pfw s s p c := fun _ _ _ _ h => h
theorem Pfw.step {s s1 s2 : Hs} {p c : Addr} (h : Pfw s s1 p c) (h' : Pfr s1 s2 p c) : Pfw s s2 p c := fun y x a b e => (h' y a b).trans (h y x a b e)
theorem Pfw.more {s s1 s2 : Hs} {p c : Addr} (h : Pfw s s1 p c) (h' : Sub s1 s2) : Pfw s s2 p c := fun y x a b e => h' y x (h y x a b e)
theorem PoolAt.sub {s s' : Hs} {p c : Addr} {n : Nat} (h : PoolAt s p c n) (h' : Sub s s') : PoolAt s' p c n := by
  obtain ⟨seed, cnt, cells, h1, h2, h3, h4, h5, h6⟩ := h
  exact ⟨seed, cnt, cells, h1, h2, h3, h4, h' _ _ h5, h' _ _ h6⟩
theorem pool_cut {s s' : Hs} {p c : Addr} {n : Nat} {Q : Hs → Prop} (h : PoolAt s' p c n) (f : Pfw s s' p c) (q : ∀ s'', PoolAt s'' p c n → Pfr s s'' p c → Q s'') : ∃ s'', Sub s'' s' ∧ Q s'' := by
  refine ⟨fun y => if y = p ∨ y = c then s' y else s y, fun y x e => ?_, q _ ?_ fun y a b => ?_⟩
  · dsimp only at e
    by_cases hy : y = p ∨ y = c
    · rw [if_pos hy] at e; exact e
    · rw [if_neg hy] at e; exact f y x (fun z => hy (.inl z)) (fun z => hy (.inr z)) e
  · obtain ⟨seed, cnt, cells, h1, h2, h3, h4, h5, h6⟩ := h
    refine ⟨seed, cnt, cells, h1, h2, h3, h4, ?_, ?_⟩
    · show (if p = p ∨ p = c then s' p else s p) = _
      rw [if_pos (.inl rfl)]; exact h5
    · show (if c = p ∨ c = c then s' c else s c) = _
      rw [if_pos (.inr rfl)]; exact h6
  · show (if y = p ∨ y = c then s' y else s y) = _
    rw [if_neg (fun z => z.elim a b)]
theorem rowsD_snoc (rows : List Row) (row : Row) : PyData.tuple (rows.map Row.d ++ [row.d]) = rowsD (rows ++ [row]) := by
  unfold rowsD
  rw [List.map_append]
  rfl
abbrev triedBody (K : PySem.W.Frag) : DS := zSeq (zAsg (dCall (df__law_row K) (dCons (dVar 0) (dCons (dVar 2) dNil))) (hName 4))
    (zSeq (zIf (dTest (dOp dIn (dOp dIx (dVar 4) (dC (.int 0))) (dLst (dCons (dC (.str "go")) (dCons (dC (.str "is")) (dCons (dC (.str "less")) dNil)))))) (zRet (dOp dAdd (dVar 1) (dTup (dCons (dVar 4) dNil)))) zNext)
    (zSeq (zAsg (dCall (df__law_run K) (dCons (dOp dAdd (dVar 1) (dTup (dCons (dVar 4) dNil))) (dCons (dC (.int 40)) dNil))) (hName 5))
    (zIf (dOr (dNot (dTru (dOp dIx (dVar 5) (dC (.str "fault"))))) (dTest (dOp dNe (dOp dIx (dVar 5) (dC (.str "at"))) (dCB dLen (dCons (dVar 1) dNil))))) (zRet (dOp dAdd (dVar 1) (dTup (dCons (dVar 4) dNil)))) zNext)))
theorem tried_for {D : DEnds} {p c : Addr} {many : Nat} (rows : List Row) (hrows : ∀ row ∈ rows, row.ok2 many = true) (hl : rows.length + 1 ≤ many) (hm : many ≤ 60) {m : Nat} (hm2 : m < 1000000)
    (qn : ∀ s' (row : Row) z3 z5, row.ok2 many = true → PoolAt s' p c m → Pfw s s' p c → D.nx [some (.v (.ref p)), some (.d (rowsD rows)), some (.d (.int (many : Nat))), z3, some (.d row.d), z5] s')
    (qr : ∀ s' (row : Row), row.ok2 many = true → PoolAt s' p c m → Pfw s s' p c → D.rt (.d (rowsD (rows ++ [row]))) s') (items : List W) : ∀ (s1 : Hs) (n : Nat) (z3 z4 z5 : Option W),
    PoolAt s1 p c n → Pfw s s1 p c → n + 12 * items.length ≤ m → (items = [] → ∃ row : Row, row.ok2 many = true ∧ z4 = some (.d row.d)) →
    forN (hName 3) (triedBody K) (fun _ => True) items D [some (.v (.ref p)), some (.d (rowsD rows)), some (.d (.int (many : Nat))), z3, z4, z5] s1 := by
  induction items with
  | nil =>
    intro s1 n z3 z4 z5 hp hf hn h4
    obtain ⟨row, ho, rfl⟩ := h4 rfl
    exact ⟨True.intro, qn s1 row _ _ ho (hp.mono (by simpa using hn)) hf⟩
  | cons x r ih =>
    intro s1 n z3 z4 z5 hp hf hn h4
    rw [List.length_cons] at hn
    refine ⟨True.intro, ?_⟩
    walk_at "dl"
    refine e_law_row hp (by omega) many (by omega) fun s2 row ho hp2 hf2 => ?_
    have f2 := hf.step hf2
    walk_at "go"
    obtain ⟨w, xs, hd⟩ := row_hd row
    rw [hd]
    walk_at "dl"
    walk_at "nums"
    refine in_goes fun b => ?_
    have hlen : (rows.map Row.d).length + [row.d].length ≤ 100000 := by rw [List.length_map]; show rows.length + 1 ≤ 100000; omega
    cases b with
    | true =>
      unfold rowsD
      rw [← hd]
      walk_at "dl"
      walk_at "nums"
      simp only [List.length_map]
      refine ⟨by omega, ?_⟩
      rw [rowsD_snoc]
      exact qr s2 row ho (hp2.mono (by omega)) f2
    | false =>
      walk_at "go"
      rw [← hd]
      unfold rowsD
      walk_at "dl"
      walk_at "nums"
      simp only [List.length_map]
      refine ⟨by omega, ?_⟩
      rw [rowsD_snoc]
      refine e_law_run (mx := many) (rows ++ [row]) (fun y hy => ?_) (by rw [List.length_append]; exact hl) 40 (by decide) fun s3 a L h3 fr sub _ _ _ => ?_
      · rcases List.mem_append.mp hy with h | h
        · exact ok2_Ok (hrows y h)
        · rw [List.mem_singleton.mp h]; exact ok2_Ok ho
      have hp3 := hp2.sub sub
      have f3 := f2.more sub
      have hret : (rows.length + 1 ≤ 100000 ∧ D.rt (.d (.tuple (rows.map Row.d ++ [row.d]))) s3) := ⟨by omega, by rw [rowsD_snoc]; exact qr s3 row ho (hp3.mono (by omega)) f3⟩
      have hnx := ih s3 (n + 12) (some x) (some (.d row.d)) (some (.v (.ref a.st))) hp3 f3 (by omega) (fun _ => ⟨row, ho, rfl⟩)
      walk_at "go"
      rw [st_fault h3]
      cases L.fault with
      | false =>
        walk_at "dl"
        try simp only [List.length_map]
        walk_at "nums"
        exact hret
      | true =>
        walk_at "dl"
        rw [st_at h3]
        walk_at "dl"
        simp only [List.length_map]
        by_cases he : (((L.at_ : Nat) : Int) == ((rows.length : Nat) : Int)) = true
        · simp only [he, Bool.not_true, Bool.false_eq_true, if_false]
          exact hnx
        · simp only [Bool.not_eq_true] at he
          simp only [he, Bool.not_false, if_true]
          try simp only [List.length_map]
          walk_at "nums"
          exact hret
theorem e_law_tried {p c : Addr} {n many : Nat} (h : PoolAt s p c n) (hn : n + 36 < 1000000) (rows : List Row) (hrows : ∀ row ∈ rows, row.ok2 many = true) (hl : rows.length + 1 ≤ many) (hm : many ≤ 60)
    (q : ∀ s' (row : Row), row.ok2 many = true → PoolAt s' p c (n + 36) → Pfr s s' p c → k (.d (rowsD (rows ++ [row]))) s') : df__law_tried K [.v (.ref p), .d (rowsD rows), .d (.int (many : Nat))] s k := by
  rw [df__law_tried_eq]; unfold d__law_tried_
  walk_at "dl"
  simp only [zFor, jRng1]
  walk_at "dl"
  refine ⟨⟨by decide, by decide⟩, ?_⟩
  have hi : (rngW 0 (3 : Int).toNat).length = 3 := by decide
  refine tried_for (s := s) rows hrows hl hm (m := n + 36) (by omega) (fun s' row z3 z5 ho hp hf => ?_) (fun s' row ho hp hf => ?_) _ s n _ _ _ h (Pfw.refl s p c) (by rw [hi]; omega) (fun e => by rw [e] at hi; cases hi)
  · dsimp only
    rw [zLater]
    unfold rowsD
    walk_at "dl"
    walk_at "nums"
    simp only [List.length_map]
    refine ⟨by omega, ?_⟩
    rw [rowsD_snoc]
    exact pool_cut hp hf fun s'' hp'' hf'' => q s'' row ho hp'' hf''
  · exact pool_cut hp hf fun s'' hp'' hf'' => q s'' row ho hp'' hf''
end
end G

set_option maxHeartbeats 400000
namespace G
open PySem PySem.Spec PyProof.Rows L2 U
local macro_rules | `(tactic| walk_at "dl") => `(tactic| simp only [dfOf, dfOfX, startD, List.map_cons, List.map_nil, List.length_cons, List.length_nil, List.cons_append, List.nil_append, List.replicate, Nat.zero_add, Nat.reduceAdd, Nat.reduceSub, true_and,
  zNext, zSeq_later, zRet, zDrop, zIf, zAsg, zPar, zAug, dVar, dC, dV, dOp, dNeg, dNil, dCons, dTest, dTru, dAnd, dOr, dNot, dYes, dAndV, dOrV, dNotV, dIf, dChain, dCB, dCall, dIsin, tkD, truD, dCmp, dLt, dLe, dGt, dGe, dMod, dDiv, dPow, dSub, dI2, hName, hTup, hCons, hNil, wipeD, dPart, dNoPart, dSl, lstOf, asD, seqOf,
  dEq_int, dNe_int, dEq_str, dNe_str, dIs, dIsNot, isNone, dLen, lenD, dAdd, dMul, dTup, dLst, newT, newL, datas, dIx_tup, dIx_list, atI_zero, atI_one, at2, at3, at4, dKGet, dTupC_list, intD_int, intD_bool, absD_int, Option.map_some, dIAdd, d1, eqv_int, eqv_str, eqOk_int, eqOk_str,
  List.getElem?_cons_zero, List.getElem?_cons_succ, List.set_cons_zero, List.set_cons_succ, if_true, Bool.false_eq_true, if_false, reduceIte, Bool.not_true, Bool.not_false])
local macro_rules | `(tactic| walk_at "nums") => `(tactic| (repeat ((with_reducible refine And.intro ?hnum ?_); case hnum => first | decide | exact mulW_abs (by decide) (by decide) | exact ⟨by decide, by decide, by decide⟩)))
local macro_rules | `(tactic| walk_at "go") => `(tactic| (rw [zLater]; walk_at "dl"; walk_at "nums"))

/-! ### a drawn program -/
section
variable {K : PySem.W.Frag} {s : Hs} {k : DK}
def rows0 (a b : Nat) : List Row := [.load 3 [] (1 + a), .load 4 [3] b, .make 7 4, .load 5 [] 2, .make 8 3, .copy 9 7, .load 6 [4, 5] 1, .make 9 6]
theorem rows0_d (a b : Nat) : PyData.tuple [.tuple [.str "load", .int 3, .tuple [], .int (1 + (a : Int))], .tuple [.str "load", .int 4, .tuple [.int 3], .int (b : Int)], .tuple [.str "make", .int 7, .int 4], .tuple [.str "load", .int 5, .tuple [], .int 2], .tuple [.str "make", .int 8, .int 3], .tuple [.str "copy", .int 9, .int 7], .tuple [.str "load", .int 6, .tuple [.int 4, .int 5], .int 1], .tuple [.str "make", .int 9, .int 6]] = rowsD (rows0 a b) := by
  rw [show 1 + (a : Int) = ((1 + a : Nat) : Int) by omega]
  rfl
theorem rows0_ok {a b many : Nat} (ha : a < 3) (hb : b < 3) : ∀ row ∈ rows0 a b, row.ok2 many = true := by
  intro row hr
  simp only [rows0, List.mem_cons, List.not_mem_nil, or_false] at hr
  rcases hr with rfl | rfl | rfl | rfl | rfl | rfl | rfl | rfl <;> first | rfl | (simp only [Row.ok2, List.all_nil, List.all_cons, List.length_nil, List.length_cons, Bool.and_eq_true, decide_eq_true_eq, Bool.true_and, and_true]; omega)
theorem rows_lc {δ : DEnv} {D p c : Addr} {many : Nat} {fin : List W → Hs → Prop} (hδ0 : δ[0]? = some (some (.v (.ref p)))) (hδ2 : δ[2]? = some (some (.d (.int (many : Nat))))) (hm : many ≤ 60) (hDp : D ≠ p) (hDc : D ≠ c) (items : List W) :
    ∀ (rows : List Row) (s1 : Hs) (n : Nat), (∀ row ∈ rows, row.ok2 many = true) → PoolAt s1 p c n → n + 12 * items.length < 1000000 → rows.length + items.length ≤ 100000 → s1 D = some (.lst ((rows.map Row.d).map .d)) →
    (∀ (s' : Hs) (rows' : List Row), (∀ row ∈ rows', row.ok2 many = true) → rows'.length = rows.length + items.length → PoolAt s' p c (n + 12 * items.length) → (∀ y, y ≠ p → y ≠ c → y ≠ D → s' y = s1 y) → s' D = some (.lst ((rows'.map Row.d).map .d)) → fin ((rows'.map Row.d).map .d) s') →
    lcN (hName 3) dYes (dCall (df__law_row K) (dCons (dVar 0) (dCons (dVar 2) dNil))) (fun _ => True) δ D fin items ((rows.map Row.d).map .d) s1 := by
  induction items with
  | nil =>
    intro rows s1 n ho hp hn hl hD q
    exact ⟨True.intro, hD, q s1 rows ho rfl hp (fun _ _ _ _ => rfl) hD⟩
  | cons x r ih =>
    intro rows s1 n ho hp hn hl hD q
    rw [List.length_cons] at hn hl
    refine ⟨True.intro, ?_⟩
    have g0 : (δ.set 3 (some x))[0]? = some (some (.v (.ref p))) := by rw [List.getElem?_set_ne (by decide)]; exact hδ0
    have g2 : (δ.set 3 (some x))[2]? = some (some (.d (.int (many : Nat)))) := by rw [List.getElem?_set_ne (by decide)]; exact hδ2
    walk_at "dl"
    simp only [g0, g2]
    refine e_law_row hp (by omega) many (by omega) fun s2 row hr hp2 hf2 => ?_
    have hD2 : s2 D = some (.lst ((rows.map Row.d).map .d)) := by rw [hf2 D hDp hDc]; exact hD
    refine ⟨by simp only [List.length_map]; omega, hD2, ?_⟩
    have e1 : (rows.map Row.d).map W.d ++ [W.d row.d] = ((rows ++ [row]).map Row.d).map W.d := by simp only [List.map_append, List.map_cons, List.map_nil]
    rw [e1]
    refine ih (rows ++ [row]) _ (n + 12) (fun y hy => ?_) (hp2.put hDp hDc _) (by omega) (by rw [List.length_append]; show rows.length + 1 + r.length ≤ _; omega) put_eq fun s' rows' ho' hl' hp' hf' hD' => ?_
    · rcases List.mem_append.mp hy with h | h
      · exact ho y h
      · rw [List.mem_singleton.mp h]; exact hr
    · refine q s' rows' ho' (by simp only [hl', List.length_append, List.length_cons, List.length_nil]; omega) (by rw [List.length_cons]; rw [show n + 12 * (r.length + 1) = n + 12 + 12 * r.length by omega]; exact hp') (fun y a1 a2 a3 => ?_) hD'
      rw [hf' y a1 a2 a3, put_ne a3]; exact hf2 y a1 a2
theorem prog_for {D : DEnds} {p c : Addr} {many : Nat} (hm : many ≤ 60) (items : List W) : ∀ (rows : List Row) (s1 : Hs) (n : Nat) (z : Option W), (∀ row ∈ rows, row.ok2 many = true) → PoolAt s1 p c n → n + 36 * items.length < 1000000 → rows.length + items.length = many →
    (∀ (s' : Hs) (rows' : List Row) z', (∀ row ∈ rows', row.ok2 many = true) → rows'.length = many → PoolAt s' p c (n + 36 * items.length) → Pfr s1 s' p c → D.nx [some (.v (.ref p)), some (.d (rowsD rows')), some (.d (.int (many : Nat))), z'] s') →
    forN (hName 3) (zAsg (dCall (df__law_tried K) (dCons (dVar 0) (dCons (dVar 1) (dCons (dVar 2) dNil)))) (hName 1)) (fun _ => True) items D [some (.v (.ref p)), some (.d (rowsD rows)), some (.d (.int (many : Nat))), z] s1 := by
  induction items with
  | nil =>
    intro rows s1 n z ho hp hn hl q
    exact ⟨True.intro, q s1 rows z ho hl hp (Pfr.refl _ _ _)⟩
  | cons x r ih =>
    intro rows s1 n z ho hp hn hl q
    rw [List.length_cons] at hn hl
    refine ⟨True.intro, ?_⟩
    walk_at "dl"
    refine e_law_tried hp (by omega) rows ho (by omega) hm fun s2 row hr hp2 hf2 => ?_
    try walk_at "dl"
    refine ih (rows ++ [row]) s2 (n + 36) _ (fun y hy => ?_) hp2 (by omega) (by rw [List.length_append]; show rows.length + 1 + r.length = _; omega) fun s' rows' z' ho' hl' hp' hf' => ?_
    · rcases List.mem_append.mp hy with h | h
      · exact ho y h
      · rw [List.mem_singleton.mp h]; exact hr
    · exact q s' rows' z' ho' hl' (by rw [List.length_cons]; rw [show n + 36 * (r.length + 1) = n + 36 + 36 * r.length by omega]; exact hp') (hf2.trans hf')
theorem okRows_of {rows : List Row} {many : Nat} (h : ∀ row ∈ rows, row.ok2 many = true) (hl : rows.length = many) (hm : many ≤ 60) : okRows rows = true := by
  unfold okRows
  rw [hl, Bool.and_eq_true, decide_eq_true_eq, List.all_eq_true]
  exact ⟨hm, h⟩
theorem e_law_program {p c : Addr} {n : Nat} (h : PoolAt s p c n) (hn : n + 1500 < 1000000)
    (q : ∀ s' (rows : List Row), okRows rows = true → PoolAt s' p c (n + 1500) → Pfr s s' p c → k (.d (rowsD rows)) s') : df__law_program K [.v (.ref p)] s k := by
  rw [df__law_program_eq]; unfold d__law_program_
  walk_at "dl"
  walk_at "nums"
  refine e_draw h (by omega) 3 (by decide) (by decide) fun s1 da ha0 ha hp1 g1 => ?_
  obtain ⟨a, rfl⟩ := Int.eq_ofNat_of_zero_le ha0
  walk_at "dl"
  walk_at "nums"
  refine e_draw hp1 (by omega) 3 (by decide) (by decide) fun s2 db hb0 hb hp2 g2 => ?_
  obtain ⟨b, rfl⟩ := Int.eq_ofNat_of_zero_le hb0
  have f2 := g1.trans g2
  walk_at "dl"
  walk_at "nums"
  walk_at "go"
  walk_at "go"
  rw [rows0_d a b]
  refine e_some hp2 (by omega) [.int 4, .int 8, .int 12, .int 22] (by decide) (by decide) fun s3 i hi hp3 g3 => ?_
  have f3 := f2.trans g3
  obtain ⟨m, e1, hm⟩ : ∃ m : Nat, [PyData.int 4, .int 8, .int 12, .int 22][i] = .int (m : Nat) ∧ m ≤ 22 := by
    match i, hi with
    | 0, _ => exact ⟨4, rfl, by decide⟩
    | 1, _ => exact ⟨8, rfl, by decide⟩
    | 2, _ => exact ⟨12, rfl, by decide⟩
    | 3, _ => exact ⟨22, rfl, by decide⟩
  rw [e1]
  walk_at "dl"
  rw [show 8 + (m : Int) = ((8 + m : Nat) : Int) by omega]
  walk_at "go"
  have ro := rows0_ok (many := 8 + m) (a := a) (b := b) (by omega) (by omega)
  refine e_draw hp3 (by omega) 6 (by decide) (by decide) fun s4 d0 hd0 hd hp4 g4 => ?_
  have f4 := f3.trans g4
  walk_at "dl"
  by_cases hz : (d0 == 0) = true
  · simp only [hz, if_true]
    simp only [dLc, jRng1]
    walk_at "dl"
    refine ⟨⟨by omega, by omega⟩, fun D hD => ?_⟩
    obtain ⟨hDp, hDc⟩ := hp4.ne hD
    rw [Int.toNat_natCast]
    have hr : (rngW 0 (8 + m)).length = 8 + m := by unfold rngW; simp
    refine rows_lc (p := p) (c := c) (many := 8 + m) rfl rfl (by omega) hDp hDc _ [] _ _ (fun _ h => by cases h) (hp4.put hDp hDc _) (by rw [hr]; omega) (by rw [hr]; show 0 + _ ≤ _; omega) put_eq fun s5 rows' ho hl hp5 hf5 hD5 => ?_
    unfold lcFin
    simp only [datas_map]
    walk_at "dl"
    rw [hr] at hp5 hl
    refine q _ rows' (okRows_of ho (by rw [hl]; show 0 + _ = _; omega) (by omega)) ?_ fun y a1 a2 => ?_
    · obtain ⟨seed, cnt, cells, y1, y2, y3, y4, y5, y6⟩ := hp5.mono (show _ ≤ n + 1500 by omega)
      refine ⟨seed, cnt, cells, y1, y2, y3, y4, ?_, ?_⟩
      · unfold U.del; rw [if_neg (Ne.symm hDp)]; exact y5
      · unfold U.del; rw [if_neg (Ne.symm hDc)]; exact y6
    · unfold U.del
      by_cases e1 : y = D
      · rw [if_pos e1, e1]; rw [← f4 D hDp hDc]; exact hD.symm
      · rw [if_neg e1, hf5 y a1 a2 e1, put_ne e1]; exact f4 y a1 a2
  · simp only [hz, Bool.false_eq_true, if_false]
    walk_at "go"
    simp only [zFor, jRng1]
    walk_at "dl"
    refine ⟨⟨by omega, by omega⟩, ?_⟩
    rw [show (((8 + m : Nat) : Int) - 8).toNat = m by omega]
    have hr : (rngW 0 m).length = m := by unfold rngW; simp
    refine prog_for (p := p) (c := c) (by omega) _ (rows0 a b) s4 _ _ ro hp4 (by rw [hr]; omega) (by rw [hr]; rfl) fun s5 rows' z' ho hl hp5 hf5 => ?_
    dsimp only
    rw [zLater]
    walk_at "dl"
    rw [hr] at hp5
    exact q _ rows' (okRows_of ho hl (by omega)) (hp5.mono (by omega)) (f4.trans hf5)
end
end G

set_option maxHeartbeats 400000
namespace G
open PySem PySem.Spec PyProof.Rows L2 U
local macro_rules | `(tactic| walk_at "dl") => `(tactic| simp only [dfOf, dfOfX, startD, List.map_cons, List.map_nil, List.length_cons, List.length_nil, List.cons_append, List.nil_append, List.replicate, Nat.zero_add, Nat.reduceAdd, Nat.reduceSub, true_and,
  zNext, zSeq_later, zRet, zDrop, zIf, zAsg, zPar, zAug, dVar, dC, dV, dOp, dNeg, dNil, dCons, dTest, dTru, dAnd, dOr, dNot, dYes, dAndV, dOrV, dNotV, dIf, dChain, dCB, dCall, dIsin, tkD, truD, dCmp, dLt, dLe, dGt, dGe, dMod, dDiv, dPow, dSub, dI2, hName, hTup, hCons, hNil, wipeD, dPart, dNoPart, dSl, lstOf, asD, seqOf,
  dEq_int, dNe_int, dEq_str, dNe_str, dIs, dIsNot, isNone, dLen, lenD, dAdd, dMul, dTup, dLst, newT, newL, datas, dIx_tup, dIx_list, atI_zero, atI_one, at2, at3, at4, dKGet, dTupC_list, intD_int, intD_bool, absD_int, Option.map_some, dIAdd, d1, eqv_int, eqv_str, eqOk_int, eqOk_str,
  List.getElem?_cons_zero, List.getElem?_cons_succ, List.set_cons_zero, List.set_cons_succ, if_true, Bool.false_eq_true, if_false, reduceIte, Bool.not_true, Bool.not_false])
local macro_rules | `(tactic| walk_at "nums") => `(tactic| (repeat ((with_reducible refine And.intro ?hnum ?_); case hnum => first | decide | exact mulW_abs (by decide) (by decide) | exact ⟨by decide, by decide, by decide⟩)))
local macro_rules | `(tactic| walk_at "go") => `(tactic| (rw [zLater]; walk_at "dl"; walk_at "nums"))

/-! ### the law -/
section
variable {K : PySem.W.Frag} {s : Hs} {k : DK}
theorem shaped_Rvs (vs : List Rv) : SeqAt.shaped (.list (vs.map Rv.d)) = true := by
  obtain ⟨a, b⟩ := depth_Rvs vs
  unfold SeqAt.shaped
  rw [Bool.and_eq_true, decide_eq_true_eq]
  constructor
  · simp only [PyData.canLay0, PyData.canLayAll0, b]
  · simp only [PyData.depth]
    omega
theorem dNe_like {w1 w2 : W} {x : PyData} (h1 : asD s w1 = some x) (h2 : asD s w2 = some x) (h : SeqAt.shaped x = true) (q : k (.d (.bool false)) s) : dNe w1 w2 s k := by
  unfold dNe
  simp only [h1, h2]
  refine ⟨by unfold eqOk; rw [h]; simp, ?_⟩
  rw [SeqAt.eqv_refl x (SeqAt.canLay_of_shaped h)]
  exact q
theorem dEq_like {w1 w2 : W} {x : PyData} (h1 : asD s w1 = some x) (h2 : asD s w2 = some x) (h : SeqAt.shaped x = true) (q : k (.d (.bool true)) s) : dEq w1 w2 s k := by
  unfold dEq
  simp only [h1, h2]
  refine ⟨by unfold eqOk; rw [h]; simp, ?_⟩
  rw [SeqAt.eqv_refl x (SeqAt.canLay_of_shaped h)]
  exact q
theorem asD_regs {l : Addr} {vs : List Rv} (h : s l = some (regsC vs)) : asD s (.v (.ref l)) = some (.list (vs.map Rv.d)) := by
  have e : (vs.map fun v => W.d v.d) = (vs.map Rv.d).map W.d := by rw [List.map_map]; rfl
  unfold asD
  simp only [h, regsC, e, asDs_data, Option.map_some]
theorem asD_pair {t l : Addr} {vs : List Rv} {x : PyData} (ht : s t = some (.tup [.v (.ref l), .d x])) (h : s l = some (regsC vs)) : asD s (.v (.ref t)) = some (.tuple [.list (vs.map Rv.d), x]) := by
  have e : (vs.map fun v => W.d v.d) = (vs.map Rv.d).map W.d := by rw [List.map_map]; rfl
  unfold asD
  simp only [ht, asDs, asD0, h, regsC, e, datas_map, Option.map_some]
theorem lcN_own {g : DG} {e : DE} {stay : Hs → Prop} {δ : DEnv} {D : Addr} {s : Hs} {fin : List W → Hs → Prop} {f : W → W} (hst : ∀ c, stay (U.put s D c)) : ∀ {xs acc : List W}, (∀ x ∈ xs, ∀ (c : Cell) (k : DK), k (f x) (U.put s D c) → g x δ (U.put s D c) fun δ1 s1 => e δ1 s1 k) →
    acc.length + xs.length ≤ 100000 → fin (acc ++ xs.map f) (U.put s D (.lst (acc ++ xs.map f))) → lcN g dYes e stay δ D fin xs acc (U.put s D (.lst acc))
  | [], acc, _, _, h => ⟨hst _, put_eq, by rw [List.map_nil, List.append_nil] at h; exact h⟩
  | x :: xs, acc, he, hl, h => by
    refine ⟨hst _, ?_⟩
    refine he x List.mem_cons_self _ _ ⟨by simp at hl; omega, put_eq, ?_⟩
    rw [put_put]
    refine lcN_own hst (f := f) (fun y hy => he y (List.mem_cons_of_mem _ hy)) (by simp at hl ⊢; omega) ?_
    rw [List.append_assoc]
    exact h
theorem dLc_own {i : DI} {g : DG} {e : DE} {vs : List Nat} {δ : DEnv} {s : Hs} {k : DK} {xs : List W} {l : Addr} (f : W → PyData) (hs : s l = some (.lst xs)) (hi : ∀ k', k' { items := xs, stay := fun s' => s' l = some (.lst xs) } s → i δ s k')
    (he : ∀ x ∈ xs, ∀ (D : Addr) (c : Cell) (k : DK), s D = none → k (.d (f x)) (U.put s D c) → g x (wipeD δ vs) (U.put s D c) fun δ1 s1 => e δ1 s1 k) (hl : xs.length ≤ 100000) (h : k (.d (.list (xs.map f))) s) : dLc i g dYes e vs δ s k := by
  refine hi _ fun D hD => lcN_own (stay := fun s' => s' l = some (.lst xs)) (fun c => by show U.put s D c l = _; rw [put_ne (fun e => by rw [e, hD] at hs; cases hs)]; exact hs) (f := fun x => .d (f x)) (fun x hx c k => he x hx D c k hD) (by simpa using hl) ?_
  unfold lcFin
  have e1 : ([] : List W) ++ xs.map (fun x => .d (f x)) = (xs.map f).map .d := by rw [List.nil_append, List.map_map]; rfl
  rw [e1, datas_map, del_put hD]
  exact h
theorem bools_map (b : Bool) (xs : List W) : boolsOf (xs.map fun _ => PyData.bool b) = some (xs.map fun _ => b) := by
  induction xs with
  | nil => rfl
  | cons x r ih => simp only [List.map_cons, boolsOf, ih, Option.map_some]
theorem run_vals (rows : List Row) (n : Nat) : ∀ (S : RS) (at_ : Nat), (runR rows n S at_).1.vals.length ≤ S.vals.length + n := by
  induction n with
  | zero => intro S at_; exact Nat.le_refl _
  | succ n ih =>
    intro S at_
    unfold runR
    cases hg : rows[at_]? with
    | none => exact Nat.le_add_right _ _
    | some row =>
      dsimp only
      cases hs : stepR S at_ row with
      | none => exact Nat.le_add_right _ _
      | some q =>
        obtain ⟨at', S'⟩ := q
        have h1 := step_vals hs
        have h2 := ih S' at'
        dsimp only
        omega
theorem end_tuple (rows : List Row) (o : RS × Nat × Bool) : ∃ xs, endT rows o = .tuple xs := by
  unfold endT
  split
  · exact ⟨_, rfl⟩
  · split
    · exact ⟨_, rfl⟩
    · exact ⟨_, rfl⟩
theorem end_shaped (rows : List Row) (o : RS × Nat × Bool) : SeqAt.shaped (endT rows o) = true := by
  have h : ∀ xs : List PyData, PyData.depthAll xs ≤ 1 → PyData.canLayAll0 xs = true → SeqAt.shaped (.tuple xs) = true := fun xs a b => by
    unfold SeqAt.shaped
    rw [Bool.and_eq_true, decide_eq_true_eq]
    exact ⟨by simp only [PyData.canLay0]; exact b, by simp only [PyData.depth]; omega⟩
  unfold endT
  split
  · exact h _ (by simp only [nD, PyData.depth, PyData.depthAll]; omega) (by simp only [nD, PyData.canLay0, PyData.canLayAll0, Bool.and_true]; decide +kernel)
  · split
    · exact h _ (by simp only [nD, PyData.depth, PyData.depthAll]; omega) (by simp only [nD, PyData.canLay0, PyData.canLayAll0, Bool.and_true]; decide +kernel)
    · exact h _ (by simp only [nD, PyData.depth, PyData.depthAll]; omega) (by simp only [nD, PyData.canLay0, PyData.canLayAll0, Bool.and_true]; decide +kernel)
theorem pair_shaped (vs : List Rv) (rows : List Row) (o : RS × Nat × Bool) : SeqAt.shaped (.tuple [.list (vs.map Rv.d), endT rows o]) = true := by
  unfold endT
  split
  · exact shaped_pair (by simp only [nD, PyData.depth, PyData.depthAll]; omega) (by simp only [nD, PyData.canLay0, PyData.canLayAll0, Bool.and_true]; decide +kernel)
  · split
    · exact shaped_pair (by simp only [nD, PyData.depth, PyData.depthAll]; omega) (by simp only [nD, PyData.canLay0, PyData.canLayAll0, Bool.and_true]; decide +kernel)
    · exact shaped_pair (by simp only [nD, PyData.depth, PyData.depthAll]; omega) (by simp only [nD, PyData.canLay0, PyData.canLayAll0, Bool.and_true]; decide +kernel)
abbrev lookBody (K : PySem.W.Frag) : DS := zSeq (zAsg (dCall (df__law_run K) (dCons (dVar 3) (dCons (dVar 4) dNil))) (hName 5))
    (zSeq (zAsg (dCall (df_run K) (dCons (dVar 3) (dCons (dVar 4) dNil))) (hTup 2 (hCons (hName 6) (hCons (hName 7) hNil))))
    (zSeq (zIf (dOr (dNot (dTru (dIsin .list (dVar 6)))) (dTest (dOp dNe (dVar 6) (dOp dIx (dVar 5) (dC (.str "shown")))))) (zRet (dC (.bool false))) zNext)
    (zSeq (zIf (dTest (dOp dNe (dVar 7) (dCall (df__law_end K) (dCons (dVar 3) (dCons (dVar 5) (dCons (dC (.str "most")) dNil)))))) (zRet (dC (.bool false))) zNext)
    (zSeq (zIf (dOr (dNot (dTru (dIsin .tuple (dVar 7)))) (dNot (dTru (dCB dAll (dCons (dLc (jSeq (dVar 6)) (hName 8) dYes (dIsin2 .int .tuple (dVar 8)) [8]) dNil))))) (zRet (dC (.bool false))) zNext)
    (zSeq (zIf (dTru (dCB dAny (dCons (dLc (jSeq (dVar 6)) (hName 8) dYes (dIsin .bool (dVar 8)) [8]) dNil))) (zRet (dC (.bool false))) zNext)
    (zSeq (zDrop (dAppendT (dVar 6) (dC .none)))
    (zIf (dTest (dOp dNe (dOp dIx (dCall (df_run K) (dCons (dVar 3) (dCons (dVar 4) dNil))) (dC (.int 0))) (dOp dIx (dVar 5) (dC (.str "shown"))))) (zRet (dC (.bool false))) zNext)))))))
theorem look {D : DEnds} (rows : List Row) (ho : okRows rows = true) (most : Nat) (hm : most ≤ 20000) (w0 w1 w2 z5 z6 z7 z8 : Option W)
    (q : ∀ s' y5 y6 y7 y8, Sub s s' → D.nx [w0, w1, w2, some (.d (rowsD rows)), some (.d (.int (most : Nat))), y5, y6, y7, y8] s') :
    lookBody K D [w0, w1, w2, some (.d (rowsD rows)), some (.d (.int (most : Nat))), z5, z6, z7, z8] s := by
  have hr := okRows_Ok ho
  walk_at "dl"
  refine e_law_run (mx := rows.length) rows hr (Nat.le_refl _) most (by omega) fun s1 a L h1 fr1 sub1 l1 l2 l3 => ?_
  walk_at "go"
  refine e_run rows hr (progD_rows ho) most hm fun s2 t l ht hl htl ht2 hl2 f2 => ?_
  walk_at "dl"
  simp only [ht2]
  walk_at "dl"
  walk_at "go"
  have h2 : LAt s2 a L := h1.frame fun y hy => f2 y (fun e => h1.there hy (by rw [e]; exact ht)) (fun e => h1.there hy (by rw [e]; exact hl))
  have sub2 : Sub s s2 := fun y c e => by
    have e1 := sub1 y c e
    rw [f2 y (fun z => by rw [z, ht] at e1; cases e1) (fun z => by rw [z, hl] at e1; cases e1)]
    exact e1
  have hla : l ∉ a.all := h1.fresh hl
  generalize ho1 : runR rows most S0 0 = o at ht2 hl2 l1 l2 l3
  have hsh : s2 a.v = some (regsC o.1.vals) := by rw [← l1]; exact h2.hv
  have hend : (if L.fault = true then PyData.tuple [.str "fault", nD L.at_] else if L.at_ = rows.length then .tuple [.str "end"] else .tuple [.str "most", nD L.at_]) = endT rows o := by rw [l2, l3]; rfl
  rw [st_shown h2]
  simp only [hl2, regsC, isTk, Bool.not_true, Bool.false_eq_true, if_false]
  refine dNe_like (asD_regs hl2) (asD_regs hsh) (shaped_Rvs _) ?_
  walk_at "dl"
  walk_at "go"
  refine e_law_end h2 rows "most" ?_
  rw [hend]
  refine dNe_like rfl rfl (end_shaped rows o) ?_
  walk_at "dl"
  walk_at "go"
  have e7 : isTk (tkP (endT rows o)) .tuple = true := by
    obtain ⟨xs, ex⟩ := end_tuple rows o
    rw [ex]
    rfl
  have hlen' : o.1.vals.length < 100000 := by
    rw [← ho1]
    have := run_vals rows most S0 0
    have : S0.vals.length = 0 := rfl
    omega
  have hlen : (o.1.vals.map fun v => W.d v.d).length ≤ 100000 := by rw [List.length_map]; omega
  simp only [e7, Bool.not_true, Bool.false_eq_true, if_false]
  refine dLc_own (l := l) (xs := o.1.vals.map fun v : Rv => W.d v.d) (fun _ => .bool true) hl2 (fun k' hk => ?_) (fun x hx D c k' hD hk => ?_) hlen ?_
  · simp only [jSeq, dVar]
    walk_at "dl"
    simp only [srcOf, hl2, regsC]
    exact hk
  · obtain ⟨v, hv, rfl⟩ := List.mem_map.mp hx
    have e8 : (isTk (tkP v.d) .int || isTk (tkP v.d) .tuple) = true := by cases v <;> rfl
    simp only [dIsin2]
    walk_at "dl"
    rw [e8]
    exact hk
  simp only [dL1, lstOf, bools_map]
  have a1 : (((o.1.vals.map fun v => W.d v.d)).map fun _ => true).all id = true := by rw [List.all_eq_true]; intro x hx; obtain ⟨_, _, rfl⟩ := List.mem_map.mp hx; rfl
  have a2 : (((o.1.vals.map fun v => W.d v.d)).map fun _ => false).any id = false := by rw [List.any_eq_false]; intro x hx; obtain ⟨_, _, rfl⟩ := List.mem_map.mp hx; exact Bool.false_ne_true
  simp only [a1, truD, Bool.not_true, Bool.false_eq_true, if_false]
  walk_at "go"
  refine dLc_own (l := l) (xs := o.1.vals.map fun v : Rv => W.d v.d) (fun _ => .bool false) hl2 (fun k' hk => ?_) (fun x hx D c k' hD hk => ?_) hlen ?_
  · simp only [jSeq, dVar]
    walk_at "dl"
    simp only [srcOf, hl2, regsC]
    exact hk
  · obtain ⟨v, hv, rfl⟩ := List.mem_map.mp hx
    have e8 : isTk (tkP v.d) .bool = false := by cases v <;> rfl
    walk_at "dl"
    rw [e8]
    exact hk
  simp only [dL1, lstOf, bools_map, a2, truD, Bool.false_eq_true, if_false]
  walk_at "go"
  simp only [dAppendT]
  walk_at "dl"
  simp only [isL, ownL, hl2, regsC, true_and]
  refine ⟨by rw [List.length_map]; exact hlen', ?_⟩
  generalize hs3 : U.put s2 l _ = s3
  have f3 : ∀ y, y ≠ l → s3 y = s2 y := fun y hy => by rw [← hs3]; exact put_ne hy
  have h3 : LAt s3 a L := h2.frame fun y hy => f3 y fun e => hla (by rw [← e]; exact hy)
  have sub3 : Sub s s3 := fun y c e => by
    have e1 := sub1 y c e
    rw [f3 y (fun z => by rw [z, hl] at e1; cases e1)]
    exact sub2 y c e
  walk_at "go"
  refine e_run rows hr (progD_rows ho) most hm fun s4 t' l' ht' hl' htl' ht4 hl4 f4 => ?_
  have h4 : LAt s4 a L := h3.frame fun y hy => f4 y (fun e => h3.there hy (by rw [e]; exact ht')) (fun e => h3.there hy (by rw [e]; exact hl'))
  have sub4 : Sub s s4 := fun y c e => by
    have e1 := sub3 y c e
    rw [f4 y (fun z => by rw [z, ht'] at e1; cases e1) (fun z => by rw [z, hl'] at e1; cases e1)]
    exact e1
  rw [ho1] at ht4 hl4
  have hsh4 : s4 a.v = some (regsC o.1.vals) := by rw [← l1]; exact h4.hv
  have e9 : ∀ k' : DK, dIx (.v (.ref t')) (.d (.int 0)) s4 k' = k' (.v (.ref l')) s4 := fun k' => by
    unfold dIx seqOf
    simp only [ht4, atI_zero]
  rw [e9]
  try walk_at "dl"
  rw [st_shown h4]
  refine dNe_like (asD_regs hl4) (asD_regs hsh4) (shaped_Rvs _) ?_
  walk_at "dl"
  exact q s4 _ _ _ _ sub4
end
end G

set_option maxHeartbeats 400000
namespace G
open PySem PySem.Spec PyProof.Rows L2 U
local macro_rules | `(tactic| walk_at "dl") => `(tactic| simp only [dfOf, dfOfX, startD, List.map_cons, List.map_nil, List.length_cons, List.length_nil, List.cons_append, List.nil_append, List.replicate, Nat.zero_add, Nat.reduceAdd, Nat.reduceSub, true_and,
  zNext, zSeq_later, zRet, zDrop, zIf, zAsg, zPar, zAug, dVar, dC, dV, dOp, dNeg, dNil, dCons, dTest, dTru, dAnd, dOr, dNot, dYes, dAndV, dOrV, dNotV, dIf, dChain, dCB, dCall, dIsin, tkD, truD, dCmp, dLt, dLe, dGt, dGe, dMod, dDiv, dPow, dSub, dI2, hName, hTup, hCons, hNil, wipeD, dPart, dNoPart, dSl, lstOf, asD, seqOf,
  dEq_int, dNe_int, dEq_str, dNe_str, dIs, dIsNot, isNone, dLen, lenD, dAdd, dMul, dTup, dLst, newT, newL, datas, dIx_tup, dIx_list, atI_zero, atI_one, at2, at3, at4, dKGet, dTupC_list, intD_int, intD_bool, absD_int, Option.map_some, dIAdd, d1, eqv_int, eqv_str, eqOk_int, eqOk_str,
  List.getElem?_cons_zero, List.getElem?_cons_succ, List.set_cons_zero, List.set_cons_succ, if_true, Bool.false_eq_true, if_false, reduceIte, Bool.not_true, Bool.not_false])
local macro_rules | `(tactic| walk_at "nums") => `(tactic| (repeat ((with_reducible refine And.intro ?hnum ?_); case hnum => first | decide | exact mulW_abs (by decide) (by decide) | exact ⟨by decide, by decide, by decide⟩)))
local macro_rules | `(tactic| walk_at "go") => `(tactic| (rw [zLater]; walk_at "dl"; walk_at "nums"))

/-! ### the law, whole -/
section
variable {K : PySem.W.Frag} {s : Hs} {k : DK}
theorem looks {D : DEnds} (rows : List Row) (ho : okRows rows = true) (w0 w1 w2 : Option W) (ms : List Nat) : ∀ (s1 : Hs) (z4 z5 z6 z7 z8 : Option W), (∀ m ∈ ms, m ≤ 20000) →
    (∀ s' y4 y5 y6 y7 y8, Sub s1 s' → D.nx [w0, w1, w2, some (.d (rowsD rows)), y4, y5, y6, y7, y8] s') →
    forN (hName 4) (lookBody K) (fun _ => True) (ms.map fun m => W.d (nD m)) D [w0, w1, w2, some (.d (rowsD rows)), z4, z5, z6, z7, z8] s1 := by
  induction ms with
  | nil =>
    intro s1 z4 z5 z6 z7 z8 hm q
    exact ⟨True.intro, q s1 _ _ _ _ _ (Sub.refl s1)⟩
  | cons m r ih =>
    intro s1 z4 z5 z6 z7 z8 hm q
    refine ⟨True.intro, ?_⟩
    refine look rows ho m (hm m List.mem_cons_self) w0 w1 w2 z5 z6 z7 z8 fun s2 y5 y6 y7 y8 sub => ?_
    exact ih s2 _ y5 y6 y7 y8 (fun x hx => hm x (List.mem_cons_of_mem _ hx)) fun s3 z4 z5 z6 z7 z8 sub' => q s3 _ _ _ _ _ fun y c e => sub' y c (sub y c e)
abbrev lawBody (K : PySem.W.Frag) : DS := zSeq (zAsg (dCall (df__law_program K) (dCons (dVar 1) dNil)) (hName 3))
    (zSeq (zIf (dTest (dOp dIsNot (dCall (df_is_program K) (dCons (dVar 3) dNil)) (dC (.bool true)))) (zRet (dC (.bool false))) zNext)
    (zFor (jSeq (dLst (dCons (dC (.int 0)) (dCons (dOp dAdd (dC (.int 1)) (dCall (df__law_draw K) (dCons (dVar 1) (dCons (dC (.int 40)) dNil)))) (dCons (dC (.int 300)) dNil))))) (hName 4) (lookBody K)))
theorem law_for {D : DEnds} {p c : Addr} (w0 : Option W) (items : List W) : ∀ (s1 : Hs) (n : Nat) (z2 z3 z4 z5 z6 z7 z8 : Option W), PoolAt s1 p c n → n + 1600 * items.length < 1000000 →
    (∀ s' y2 y3 y4 y5 y6 y7 y8, D.nx [w0, some (.v (.ref p)), y2, y3, y4, y5, y6, y7, y8] s') →
    forN (hName 2) (lawBody K) (fun _ => True) items D [w0, some (.v (.ref p)), z2, z3, z4, z5, z6, z7, z8] s1 := by
  induction items with
  | nil =>
    intro s1 n z2 z3 z4 z5 z6 z7 z8 hp hn q
    exact ⟨True.intro, q s1 _ _ _ _ _ _ _⟩
  | cons x r ih =>
    intro s1 n z2 z3 z4 z5 z6 z7 z8 hp hn q
    rw [List.length_cons] at hn
    refine ⟨True.intro, ?_⟩
    walk_at "dl"
    refine e_law_program hp (by omega) fun s2 rows ho hp2 _ => ?_
    walk_at "go"
    refine e_is_program _ (fun rs e y hy xs e2 => ?_) ?_
    · unfold rowsD at e
      cases e
      obtain ⟨row, hrow, rfl⟩ := List.mem_map.mp hy
      have hk := okRows_Ok ho row hrow
      cases row <;> (cases e2; simp)
    rw [progD_rows ho]
    try walk_at "dl"
    refine ⟨true, rfl, ?_⟩
    simp only [decide_true, Bool.not_true, Bool.false_eq_true, if_false]
    rw [zLater]
    simp only [zFor, jSeq]
    walk_at "dl"
    refine e_draw hp2 (by omega) 40 (by decide) (by decide) fun s3 d hd0 hd hp3 _ => ?_
    obtain ⟨m, rfl⟩ := Int.eq_ofNat_of_zero_le hd0
    walk_at "dl"
    walk_at "nums"
    rw [show 1 + (m : Int) = ((1 + m : Nat) : Int) by omega]
    try simp only [srcOf]
    refine looks (K := K) rows ho w0 (some (.v (.ref p))) (some x) [0, 1 + m, 300] s3 z4 z5 z6 z7 z8 (fun y hy => ?_) fun s4 y4 y5 y6 y7 y8 sub => ?_
    · simp only [List.mem_cons, List.not_mem_nil, or_false] at hy
      omega
    · exact ih s4 (n + 1500 + 1) _ _ _ _ _ _ _ (hp3.sub sub) (by omega) q
theorem run_none : endT [] (runR [] 5 S0 0) = .tuple [.str "end"] := rfl
theorem run_none' : (runR [] 5 S0 0).1.vals = [] := rfl
theorem run_go : endT [.go 0] (runR [.go 0] 7 S0 0) = .tuple [.str "most", .int 0] := rfl
theorem run_go' : (runR [.go 0] 7 S0 0).1.vals = [] := rfl
theorem e_law (a : Addr) (ns : List Int) (hl : ns.length ≤ 63) (q : ∀ s', k (.d (.bool true)) s') : df_law K [.s K a ns] s k := by
  rw [df_law_eq]; unfold d_law_
  walk_at "dl"
  refine e_pool a ns hl fun s1 p c hp1 _ => ?_
  walk_at "go"
  simp only [zFor, jRng1]
  walk_at "dl"
  walk_at "nums"
  refine law_for (p := p) (c := c) _ _ s1 0 _ _ _ _ _ _ _ hp1 (by decide) fun s2 y2 y3 y4 y5 y6 y7 y8 => ?_
  dsimp only
  rw [zLater]
  walk_at "dl"
  walk_at "nums"
  refine e_run [] (fun _ h => by cases h) rfl 5 (by decide) fun s3 t l ht hl0 htl ht3 hl3 _ => ?_
  have h1 := asD_pair (vs := []) ht3 hl3
  have h2 := pair_shaped [] [] (runR [] 5 S0 0)
  rw [run_none] at h1 h2
  try walk_at "dl"
  try walk_at "nums"
  refine dEq_like h1 rfl h2 ?_
  try walk_at "dl"
  try walk_at "nums"
  refine e_run [.go 0] (fun r h => by cases h with | head => exact Nat.zero_le _ | tail _ h => cases h) rfl 7 (by decide) fun s4 t l ht hl0 htl ht4 hl4 _ => ?_
  have h1 := asD_pair (vs := []) ht4 hl4
  have h2 := pair_shaped [] [.go 0] (runR [.go 0] 7 S0 0)
  rw [run_go] at h1 h2
  try walk_at "dl"
  try walk_at "nums"
  refine dEq_like h1 rfl h2 ?_
  exact q s4
end
end G

set_option maxHeartbeats 0
namespace G
open PySem PySem.Spec PyProof.Rows L2 U Evl
theorem facts {P : Program} {w : World} {K : PySem.W.Frag} {h : Heap} {mg : Str → Option Value} {f : Addr} (X : K.In h) (G : h.Ns mainGlobals mg) (hfa : mg ("law" : Str) = some (.ref f)) (c : He.SaysX fa fn ts [] exB w h K) :
    ∃ fd : FuncData, (∀ (s : Shared) (v : Value), BindsTo s fd ⟨[v], []⟩ [("_law_script", v)]) ∧ ∀ base : Heap, K.In base → base.Ns mainGlobals mg → FnOk P w K mg base CX0 11 f fd ["_law_script"] (sp_law K w) := by
  obtain ⟨fd, F⟩ := c.t.d.def_ 50 (d := d_law) rfl
  have e := hfa.symm.trans (g_law (P := P) (w := w) (base := h) ⟨X, G, c.t, c.more⟩)
  cases e
  have b := FunD.bindsA (ps := ["_law_script"]) F fun _ _ _ _ _ _ us hl => match us, hl with | [_], _ => rfl
  exact ⟨fd, fun s v => b s [v] rfl, fun base X' G' => okF_law ⟨X', G', c.t, c.more⟩ F⟩
theorem law_ok {P : Program} {w : World} {K : PySem.W.Frag} {mg : Str → Option Value} {base : Heap} (C : Cxt P w K mg base) (H : Hp) (a : Addr) (ns : List Int) (hl : ns.length ≤ 63) (hS : SqL K H a (ns.map V.int)) (ho : Only H) :
    sp_law K w [.ref a] H (fun v _ => v = .bl true) fun _ _ _ => False := by
  have ex : ∀ H', Ex H H' → SqL K H' a (ns.map V.int) := fun H' e => by
    rcases hS with (h | ⟨o, h⟩) | h
    · exact .inl (.inl (e _ _ h))
    · exact .inl (.inr ⟨o, e _ _ h⟩)
    · exact .inr h
  refine sd_law C [.s K a ns] (fun _ => none) (fun w _ => w = .d (.bool true)) [.ref a] H H _ _ (e_law a ns hl fun _ => rfl) ⟨Ex.refl H, fun _ _ h => nomatch h⟩ (.cons ⟨rfl, ex⟩ .nil) ?_
  intro w' s' u G' H' _ _ i e
  subst e
  cases i
  rfl
end G
open PySem PySem.W PySem.Calls PyProof.Rows
theorem PySem.Challenge.cw_latekinds_k81_whole_programs_run_holds : PySem.Challenge.rw_latekinds_k81_whole_programs_run.Holds := by
  w_on; o_law
  refine HandSHeadRun.head_any (r := OpenLaw.row PySem.Challenge.rw_latekinds_k81_whole_programs_run) (q := view (OpenLaw.row PySem.Challenge.rw_latekinds_k81_whole_programs_run).prog [59]) (H := G.hk) (ob := G.ob) (M := 8000) (loose := G.names) (d := HandSHeadRun.topDef (OpenLaw.row PySem.Challenge.rw_latekinds_k81_whole_programs_run).prog 59) (kwd := []) G.ob_eq
    (by kernel_rfl) (fun s => by kernel_rfl) G.run (by kernel_rfl) (by kernel_rfl) (by kernel_rfl) (by rfl) (by first | assumption | decide +kernel) (by decide +kernel) ⟨rfl, rfl, rfl, rfl, rfl, by decide +kernel⟩ ?hw ?hc
  case hw => w_witness2
  case hc =>
    refine L2.walk_ofE (l := PySem.Challenge.rw_latekinds_k81_whole_programs_run) (n := 63) (k := 11) (x := "_law_script") (CX := L2.CX0) rfl (by decide) (by kernel_rfl) ⟨rfl, by decide, by decide⟩ ?F (fun _ _ _ _ z => z)
    intro w mg fa h Y G0 hmg0
    obtain ⟨K, KX, c⟩ := Y
    have hmg : mg ("law" : PySem.Str) = some (.ref fa) := by
      have e : (HandSHeadRun.topDef (OpenLaw.row PySem.Challenge.rw_latekinds_k81_whole_programs_run).prog 59).name = ("law" : PySem.Str) := by kernel_rfl
      rw [← e]
      exact hmg0
    obtain ⟨fd, hb, hF⟩ := G.facts (P := (PySem.Challenge.rw_latekinds_k81_whole_programs_run).prog) (w := w) KX G0 hmg c
    exact ⟨K, fd, G.sp_law K w, KX, hb, fun H a ns hl ho hS => G.law_ok (P := (PySem.Challenge.rw_latekinds_k81_whole_programs_run).prog) (mg := mg) (base := h) ⟨KX, G0, c.t, c.more⟩ H a ns hl hS ho, hF⟩

