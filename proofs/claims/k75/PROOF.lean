import PyProof.Rows.All
import Wide.All
import OpenK.AllK
import Wide.FinOn
import HandS.ForMost
import HandS.ForExc
import HandS.IsInst
import HandS.Codes
import HandS.Evl
import KE.DataEq
import KE.GoesEnum
import HandS.ExcInit
import HandS.WordsExc
import HandS.ExcOwn
import HandS.TryElse
import HandS.ExcField
import HandS.ExcIs
import KE.KExcIs
import HandS.SetKeys
import HandS.SortRule
import HandS.SortInts
import HandS.TupLe
import PyProof.ReprRoads
import HandS.Ends
import PyProof.ReprLen
import HandS.DeepEq
import HandS.Conv
import HandS.Wide
import HandS.DictComp
import HandS.TupAny
import HandS.TupLen
import PyProof.FString5
import PyProof.StrLawsTight
import HandS.ExcValue
import HandS.Flt
import HandS.Nested
import HandS.EndTab
import KE.KNestM
import HandS.StrMore
import PySem.Challenge.RW_panethread_k75_near_ones_apart
set_option Elab.async false
set_option linter.all false
set_option maxRecDepth 100000
set_option maxHeartbeats 4000000
namespace Zb
open PySem PySem.Spec PyProof.Rows L2
def seqAt (H : Hp) (p : Addr) : Option (List V) := match H p with
  | some (.lst xs) => some xs
  | some (.tup xs) => some xs
  | some (.frz _ (.lst xs)) => some xs
  | some (.frz _ (.tup xs)) => some xs
  | _ => none
theorem seqAt_sq {K : PySem.W.Frag} {H : Hp} {p : Addr} {xs : List V} (h : seqAt H p = some xs) : SqL K H p xs ∨ SqT K H p xs := by
  unfold seqAt at h
  split at h
  · rename_i e; cases h; exact .inl (.inl (.inl e))
  · rename_i e; cases h; exact .inr (.inl (.inl e))
  · rename_i e; cases h; exact .inl (.inl (.inr ⟨_, e⟩))
  · rename_i e; cases h; exact .inr (.inl (.inr ⟨_, e⟩))
  · cases h
def lstAt (H : Hp) (p : Addr) : Option (List V) := match H p with
  | some (.lst xs) => some xs
  | some (.frz _ (.lst xs)) => some xs
  | _ => none
theorem lstAt_sq {K : PySem.W.Frag} {H : Hp} {p : Addr} {xs : List V} (h : lstAt H p = some xs) : SqL K H p xs := by
  unfold lstAt at h
  split at h
  · rename_i e; cases h; exact .inl (.inl e)
  · rename_i e; cases h; exact .inl (.inr ⟨_, e⟩)
  · cases h
def tupAt (H : Hp) (p : Addr) : Option (List V) := match H p with
  | some (.tup xs) => some xs
  | some (.frz _ (.tup xs)) => some xs
  | _ => none
theorem tupAt_sq {K : PySem.W.Frag} {H : Hp} {p : Addr} {xs : List V} (h : tupAt H p = some xs) : SqT K H p xs := by
  unfold tupAt at h
  split at h
  · rename_i e; cases h; exact .inl (.inl e)
  · rename_i e; cases h; exact .inl (.inr ⟨_, e⟩)
  · cases h
mutual
inductive Rp (H : Hp) : V → PyData → Prop
  | non : Rp H .non .none
  | bl (b : Bool) : Rp H (.bl b) (.bool b)
  | int (i : Int) : Rp H (.int i) (.int i)
  | str (x : Str) : Rp H (.str x) (.str x)
  | lst {a : Addr} {xs : List V} {ds : List PyData} : lstAt H a = some xs → RpA H xs ds → Rp H (.ref a) (.list ds)
  | tup {a : Addr} {xs : List V} {ds : List PyData} : tupAt H a = some xs → RpA H xs ds → Rp H (.ref a) (.tuple ds)
inductive RpA (H : Hp) : List V → List PyData → Prop
  | nil : RpA H [] []
  | cons {v : V} {vs : List V} {d : PyData} {ds : List PyData} : Rp H v d → RpA H vs ds → RpA H (v :: vs) (d :: ds)
end
mutual
theorem Rp.dp {K : PySem.W.Frag} {H : Hp} : ∀ {v : V} {d : PyData}, Rp H v d → Dp K H v d
  | _, _, .non => .non
  | _, _, .bl b => .bl b
  | _, _, .int i => .int i
  | _, _, .str x => .str x
  | _, _, .lst h k => .lst (lstAt_sq h) (RpA.dp k)
  | _, _, .tup h k => .tup (tupAt_sq h) (RpA.dp k)
theorem RpA.dp {K : PySem.W.Frag} {H : Hp} : ∀ {vs : List V} {ds : List PyData}, RpA H vs ds → DpAll K H vs ds
  | _, _, .nil => .nil
  | _, _, .cons h k => .cons (Rp.dp h) (RpA.dp k)
end
def rAdd : R2 := fun x y H Q => match x, y with
  | .int i, .int j => Q (.int (i + j)) H
  | .str a, .str b => a.length + b.length ≤ 16777216 ∧ Q (.str (a ++ b)) H
  | .ref p, .ref q => ∃ xs ys, H p = some (.lst xs) ∧ H q = some (.lst ys) ∧ xs.length + ys.length ≤ 16777216 ∧ ∀ r, H r = none → Q (.ref r) (upd H r (.lst (xs ++ ys)))
  | _, _ => False
def rSub : R2 := fun x y H Q => match x, y with
  | .int i, .int j => Q (.int (i - j)) H
  | _, _ => False
def rMul : R2 := fun x y H Q => match x, y with
  | .int i, .int j => CMul i j ∧ Q (.int (i * j)) H
  | .ref p, .int k => ∃ xs, H p = some (.lst xs) ∧ -1000000 ≤ k ∧ k ≤ 1000000 ∧ xs.length * k.toNat ≤ 16777216 ∧ ∀ r, H r = none → Q (.ref r) (upd H r (.lst (List.replicate k.toNat xs).flatten))
  | .str a, .int k => -1000000 ≤ k ∧ k ≤ 1000000 ∧ a.length * k.toNat ≤ 16777216 ∧ Q (.str (Txt.mul a k)) H
  | _, _ => False
def rMod : R2 := fun x y H Q => match x, y with
  | .int i, .int j => 0 < j ∧ Q (.int (i % j)) H
  | _, _ => False
def rDiv : R2 := fun x y H Q => match x, y with
  | .int i, .int j => 0 < j ∧ j < 1073741824 ∧ Q (.int (i / j)) H
  | _, _ => False
def rPow : R2 := fun x y H Q => match x, y with
  | .int i, .int j => 0 ≤ j ∧ j ≤ 1000000 ∧ i.natAbs < 2 ^ 64 ∧ Q (.int (i ^ j.toNat)) H
  | _, _ => False
def rCmpI (f : Int → Int → Bool) : R2 := fun x y H Q => match x, y with
  | .int i, .int j => Q (.bl (f i j)) H
  | _, _ => False
mutual
theorem Rp.plain {H : Hp} : ∀ {v : V} {d : PyData}, Rp H v d → d.plain = true
  | _, _, .non => rfl
  | _, _, .bl b => rfl
  | _, _, .int i => rfl
  | _, _, .str x => rfl
  | _, _, .lst h k => by simp only [PyData.plain]; exact RpA.plain k
  | _, _, .tup h k => by simp only [PyData.plain]; exact RpA.plain k
theorem RpA.plain {H : Hp} : ∀ {vs : List V} {ds : List PyData}, RpA H vs ds → PyData.plainAll ds = true
  | _, _, .nil => rfl
  | _, _, .cons h k => by simp only [PyData.plainAll, Rp.plain h, RpA.plain k, Bool.and_self]
end
/-- == of data at any depth -/
def rEqU : R2 := fun x y H Q => ∃ d e, Rp H x d ∧ Rp H y e ∧ min d.depth e.depth ≤ 64 ∧ Q (.bl (PyData.eqv d e)) H
def rNeU : R2 := fun x y H Q => ∃ d e, Rp H x d ∧ Rp H y e ∧ min d.depth e.depth ≤ 64 ∧ Q (.bl (!PyData.eqv d e)) H
section
variable {X : Cx}
theorem sl16 : sizeLine = 16777216 := sizeLine_eq
theorem o_add : OpR X (binaryOp .Add) rAdd := by
  intro pins s σ H x y v u Q I rx ry h
  unfold rAdd at h
  split at h
  · exact op_add pins s σ H _ _ v u Q I rx ry ⟨_, _, rfl, rfl, h⟩
  · exact op_add_str pins s σ H _ _ v u Q I rx ry ⟨_, _, rfl, rfl, by rw [sl16]; exact h.1, h.2⟩
  · obtain ⟨xs, ys, h1, h2, h3, h4⟩ := h
    exact op_cat pins s σ H _ _ v u Q I rx ry ⟨_, _, _, _, rfl, rfl, h1, h2, by rw [sl16]; exact h3, h4⟩
  · exact h.elim
theorem o_sub : OpR X (binaryOp .Sub) rSub := by
  intro pins s σ H x y v u Q I rx ry h
  unfold rSub at h
  split at h
  · exact op_sub pins s σ H _ _ v u Q I rx ry ⟨_, _, rfl, rfl, h⟩
  · exact h.elim
/-- a text by its codes -/
def tx (l : List Nat) : Str := ⟨l.toArray⟩
theorem tx_toList (l : List Nat) : (tx l).cps.toList = l := by simp [tx]
theorem tx_length (l : List Nat) : (tx l).length = l.length := by simp [tx, Str.length]
theorem tx_inj {a b : List Nat} : tx a = tx b ↔ a = b := ⟨fun h => by have := congrArg (fun s => s.cps.toList) h; simpa [tx] using this, fun h => by rw [h]⟩
theorem tx_append (a b : List Nat) : tx a ++ tx b = tx (a ++ b) := by
  show Str.mk _ = _
  simp [tx]
theorem txt_mul_ok {a : Str} {k : Int} (h1 : -1000000 ≤ k) (h2 : k ≤ 1000000) (h3 : a.length * k.toNat ≤ 16777216) : MulOk a k := by
  refine ⟨?_, fun h4 _ => ?_, fun _ _ => ?_⟩
  · have h5 : ¬ k < -(2 ^ 63 : Int) := by omega
    have h6 : ¬ k ≥ (2 ^ 63 : Int) := by omega
    rw [decide_eq_false h5, decide_eq_false h6]
    rfl
  · have e : (a.length : Int) * k ≤ 16777216 := by
      have e1 : ((a.length * k.toNat : Nat) : Int) ≤ ((16777216 : Nat) : Int) := Int.ofNat_le.mpr h3
      have e2 : ((k.toNat : Nat) : Int) = k := by omega
      rw [Int.natCast_mul, e2] at e1
      exact e1
    have : (a.length : Int) ≤ (2 ^ 63 - 1) / k := by
      rw [Int.le_ediv_iff_mul_le (by omega)]
      omega
    omega
  · unfold Builtin.Str.tooLong
    have : ¬ (a.length * k.toNat > sizeLine) := by rw [sl16]; omega
    exact decide_eq_false this
theorem o_mul : OpR X (binaryOp .Mult) rMul := by
  intro pins s σ H x y v u Q I rx ry h
  unfold rMul at h
  split at h
  · exact op_mul pins s σ H _ _ v u Q I rx ry ⟨_, _, rfl, rfl, h.1, h.2⟩
  · obtain ⟨xs, h1, h2, h3, h4, h5⟩ := h
    exact op_rep pins s σ H _ _ v u Q I rx ry ⟨_, _, _, rfl, rfl, h1, by omega, by omega, by rw [sl16]; exact h4, h5⟩
  · obtain ⟨h1, h2, h3, h4⟩ := h
    obtain ⟨t, rfl⟩ := rx
    obtain ⟨t', rfl⟩ := ry
    exact SB.mul (txt_mul_ok h1 h2 h3) fun t' k => ⟨.str _, H, I.tok k, ⟨_, rfl⟩, h4⟩
  · exact h.elim
theorem o_mod : OpR X (binaryOp .Mod) rMod := by
  intro pins s σ H x y v u Q I rx ry h
  unfold rMod at h
  split at h
  · exact op_mod pins s σ H _ _ v u Q I rx ry ⟨_, _, rfl, rfl, h.1, h.2⟩
  · exact h.elim
theorem o_div : OpR X (binaryOp .FloorDiv) rDiv := by
  intro pins s σ H x y v u Q I rx ry h
  unfold rDiv at h
  split at h
  · exact op_fdiv pins s σ H _ _ v u Q I rx ry ⟨_, _, rfl, rfl, ⟨h.1, h.2.1⟩, h.2.2⟩
  · exact h.elim
theorem o_pow : OpR X (binaryOp .Pow) rPow := by
  intro pins s σ H x y v u Q I rx ry h
  unfold rPow at h
  split at h
  · exact op_pow pins s σ H _ _ v u Q I rx ry ⟨_, _, rfl, rfl, ⟨h.1, h.2.1, h.2.2.1⟩, h.2.2.2⟩
  · exact h.elim
theorem cmpI_of {f : Int → Int → Bool} {op : Value → Value → Sem Value} (ho : OpR X op (rI0 fun i j => .bl (f i j))) : OpR X op (rCmpI f) := by
  intro pins s σ H x y v u Q I rx ry h
  unfold rCmpI at h
  split at h
  · exact ho pins s σ H _ _ v u Q I rx ry ⟨_, _, rfl, rfl, h⟩
  · exact h.elim
theorem o_lt : OpR X (compareOp .Lt) (rCmpI fun i j => decide (i < j)) := cmpI_of op_lt
theorem o_le : OpR X (compareOp .LtE) (rCmpI fun i j => decide (i ≤ j)) := cmpI_of op_le
theorem o_gt : OpR X (compareOp .Gt) (rCmpI fun i j => decide (j < i)) := cmpI_of op_gt
theorem o_ge : OpR X (compareOp .GtE) (rCmpI fun i j => decide (j ≤ i)) := cmpI_of op_ge
theorem o_eq (hu : X.A.units + 64 < cLine) : OpR X (compareOp .Eq) rEqU := by
  intro pins s σ H x y v u Q I rx ry h
  obtain ⟨d, e, h1, h2, h3, q⟩ := h
  obtain ⟨as, r1⟩ := Dp.reads I d x v h1.dp rx
  obtain ⟨bs, r2⟩ := Dp.reads I e y u h2.dp ry
  exact SeqAt.eq_plain r1 r2 h1.plain h2.plain (by omega) ⟨.bl _, H, I, rfl, q⟩
theorem o_ne (hu : X.A.units + 64 < cLine) : OpR X (compareOp .NotEq) rNeU := by
  intro pins s σ H x y v u Q I rx ry h
  obtain ⟨d, e, h1, h2, h3, q⟩ := h
  obtain ⟨as, r1⟩ := Dp.reads I d x v h1.dp rx
  obtain ⟨bs, r2⟩ := Dp.reads I e y u h2.dp ry
  exact SeqAt.ne_plain r1 r2 h1.plain h2.plain (by omega) ⟨.bl _, H, I, rfl, q⟩
def rIxU (K : PySem.W.Frag) : R2 := fun x y H Q => match x, y with
  | .str z, .int i => z.length ≤ 16777216 ∧ ∃ c, atI z.cps.toList i = some c ∧ Q (.str (tx [c])) H
  | .ref p, .int i => ∃ xs, (SqL K H p xs ∨ SqT K H p xs) ∧ ∃ v, atI xs i = some v ∧ Q v H
  | _, _ => False
theorem i_ix {K : PySem.W.Frag} (hK : X.K = K := by rfl) : IxR X (rIxU K) := by
  subst hK
  intro value slice pins s σ H x y v u Q I rx ry h hs
  unfold rIxU at h
  split at h
  · obtain ⟨h1, c, h2, h3⟩ := h
    exact ix_str value slice pins s σ H _ _ v u Q I rx ry ⟨_, _, _, rfl, rfl, by rw [sl16]; exact h1, h2, h3⟩ hs
  · obtain ⟨xs, h1, v, h2, h3⟩ := h
    rcases h1 with h1 | h1
    · exact ix_list value slice pins s σ H _ _ _ u Q I rx ry ⟨_, _, _, _, rfl, rfl, h1, h2, h3⟩ hs
    · exact ix_tup value slice pins s σ H _ _ _ u Q I rx ry ⟨_, _, _, _, rfl, rfl, h1, h2, h3⟩ hs
  · exact h.elim
/-- a[lo:hi] of a text or a list -/
def rSlU (K : PySem.W.Frag) : V → Option Int → Option Int → Hp → VK → Prop := fun x lo hi H Q => match x with
  | .str z => z.length ≤ 16777216 ∧ Q (.str (cutS z lo hi)) H
  | .ref p => ∃ xs, SqL K H p xs ∧ ∀ q, H q = none → Q (.ref q) (upd H q (.lst (cutV xs lo hi)))
  | _ => False
theorem s_sl {K : PySem.W.Frag} (hK : X.K = K := by rfl) : SlR X (rSlU K) := by
  subst hK
  intro pins s σ H x v vl vu lo hi sl Q I rx hs pl pu h
  unfold rSlU at h
  split at h
  · exact sl_str pins s σ H _ v vl vu lo hi sl Q I rx hs pl pu ⟨_, rfl, by rw [sl16]; exact h.1, h.2⟩
  · obtain ⟨xs, h1, h2⟩ := h
    exact sl_list pins s σ H _ v vl vu lo hi sl Q I rx hs pl pu ⟨_, _, rfl, h1, h2⟩
  · exact h.elim
def rLen (K : PySem.W.Frag) : List V → Hp → VK → Prop := fun vs H Q => match vs with
  | [.str z] => z.length ≤ 16777216 ∧ Q (.int z.length) H
  | [.ref p] => (∃ xs, (SqL K H p xs ∨ SqT K H p xs) ∧ Q (.int xs.length) H)
  | _ => False
theorem c_len {K : PySem.W.Frag} (hK : X.K = K := by rfl) : CallR X (.builtin "len") (rLen K) := by
  subst hK
  intro pins s σ H xs us Q I r h
  unfold rLen at h
  split at h
  · exact call_len pins s σ H _ us Q I r ⟨_, _, rfl, ⟨by rw [sl16]; exact h.1, rfl⟩, h.2⟩
  · obtain ⟨ys, h1, h2⟩ := h
    rcases h1 with h1 | h1
    · exact call_len pins s σ H _ us Q I r ⟨_, _, rfl, .inl ⟨_, h1, rfl⟩, h2⟩
    · exact call_len pins s σ H _ us Q I r ⟨_, _, rfl, .inr ⟨_, h1, rfl⟩, h2⟩
  · exact h.elim
def rInU (neg : Bool) : R2 := fun x y H Q => match y with
  | .str b => ∃ a, x = .str a ∧ Q (.bl (if neg then !(!(Builtin.Str.occurrences b a 0 b.length 1).isEmpty) else !(Builtin.Str.occurrences b a 0 b.length 1).isEmpty)) H
  | .ref p => ∃ xs ds d, seqAt H p = some xs ∧ RpA H xs ds ∧ Rp H x d ∧ min (PyData.depthAll ds) d.depth ≤ 60 ∧ Q (.bl (if neg then !(ds.any fun y => PyData.eqv y d) else ds.any fun y => PyData.eqv y d)) H
  | _ => False
theorem seqAt_cases {H : Hp} {p : Addr} {xs : List V} (h : seqAt H p = some xs) : lstAt H p = some xs ∨ tupAt H p = some xs := by
  unfold seqAt at h
  unfold lstAt tupAt
  split at h <;> rename_i e <;> first | (cases h; rw [e]; first | exact .inl rfl | exact .inr rfl) | cases h
theorem o_in (hu : X.A.units + 64 < cLine) : OpR X (compareOp .In) (rInU false) := by
  intro pins s σ H x y v u Q I rx ry h
  unfold rInU at h
  split at h
  · obtain ⟨a, rfl, h⟩ := h
    exact op_in_str pins s σ H _ _ v u Q I rx ry ⟨_, _, rfl, rfl, h⟩
  · obtain ⟨xs, ds, d, h1, h2, h3, h4, q⟩ := h
    obtain ⟨bs, r2⟩ := Dp.reads I d x v h3.dp rx
    rcases seqAt_cases h1 with h1 | h1
    · obtain ⟨as, r1⟩ := Dp.reads I (.list ds) _ u (Rp.lst h1 h2).dp ry
      exact SeqAt.in_list_data r1 r2 h2.plain h3.plain (by omega) ⟨.bl _, H, I, rfl, q⟩
    · obtain ⟨as, r1⟩ := Dp.reads I (.tuple ds) _ u (Rp.tup h1 h2).dp ry
      exact SeqAt.in_tuple_data r1 r2 h2.plain h3.plain (by omega) ⟨.bl _, H, I, rfl, q⟩
  · exact h.elim
theorem o_nin (hu : X.A.units + 64 < cLine) : OpR X (compareOp .NotIn) (rInU true) := by
  intro pins s σ H x y v u Q I rx ry h
  unfold rInU at h
  split at h
  · obtain ⟨a, rfl, h⟩ := h
    exact op_notIn_str pins s σ H _ _ v u Q I rx ry ⟨_, _, rfl, rfl, h⟩
  · obtain ⟨xs, ds, d, h1, h2, h3, h4, q⟩ := h
    obtain ⟨bs, r2⟩ := Dp.reads I d x v h3.dp rx
    rcases seqAt_cases h1 with h1 | h1
    · obtain ⟨as, r1⟩ := Dp.reads I (.list ds) _ u (Rp.lst h1 h2).dp ry
      exact SeqAt.notIn_list_data r1 r2 h2.plain h3.plain (by omega) ⟨.bl _, H, I, rfl, q⟩
    · obtain ⟨as, r1⟩ := Dp.reads I (.tuple ds) _ u (Rp.tup h1 h2).dp ry
      exact SeqAt.notIn_tuple_data r1 r2 h2.plain h3.plain (by omega) ⟨.bl _, H, I, rfl, q⟩
  · exact h.elim
def tyO : Option HO → Option String
  | some (.lst _) => some "list"
  | some (.tup _) => some "tuple"
  | some (.dK _) => some "dict"
  | some (.dT _) => some "dict"
  | some (.frz _ (.lst _)) => some "list"
  | some (.frz _ (.tup _)) => some "tuple"
  | some (.frz _ (.dK _)) => some "dict"
  | _ => none
def tyN (H : Hp) : V → Option String
  | .non => some "NoneType"
  | .bl _ => some "bool"
  | .int _ => some "int"
  | .str _ => some "str"
  | .ref p => tyO (H p)
  | _ => none
theorem tyN_ok {K : PySem.W.Frag} {H : Hp} {v : V} {n : String} (h : tyN H v = some n) : TyX K H v (.type n) := by
  cases v with
  | non => cases h; exact .base .non
  | bl b => cases h; exact .base (.bl _)
  | int i => cases h; exact .base (.int _)
  | str x => cases h; exact .base (.str _)
  | ref p =>
    have h : tyO (H p) = some n := h
    unfold tyO at h
    split at h <;> rename_i e
    · cases h; exact .base (.lst e)
    · cases h; exact .base (.tup e)
    · cases h; exact .base (.dK e)
    · cases h; exact .base (.dT e)
    · cases h; exact .base (.frz e)
    · cases h; exact .fTuple e
    · cases h; exact .fDict e
    · cases h
  | _ => cases h
def rIs : List V → Hp → VK → Prop := fun vs H Q => match vs with
  | [x, .ty n] => ∃ t, tyN H x = some t ∧ ∃ b, kitB t n = some b ∧ Q (.bl b) H
  | _ => False
theorem c_is : CallR X (.builtin "isinstance") rIs := by
  intro pins s σ H xs us Q I r h
  unfold rIs at h
  split at h
  · obtain ⟨t, h1, b, h2, h3⟩ := h
    exact call_isi pins s σ H _ us Q I r ⟨_, _, _, _, _, rfl, .ty _, tyN_ok h1, kit_ty h2, h3⟩
  · exact h.elim
def rMax2 : List V → Hp → VK → Prop := fun vs H Q => match vs with
  | [.int i, .int j] => Q (.int (if j > i then j else i)) H
  | _ => False
def rMin2 : List V → Hp → VK → Prop := fun vs H Q => match vs with
  | [.int i, .int j] => Q (.int (if j < i then j else i)) H
  | _ => False
def rAllU : List V → Hp → VK → Prop := fun vs H Q => match vs with
  | [.ref p] => ∃ bs : List Bool, lstAt H p = some (bs.map V.bl) ∧ Q (.bl (bs.all id)) H
  | _ => False
theorem c_all (hc : X.calm = true) : CallR X (.builtin "all") rAllU := by
  intro pins s σ H xs us Q I r h
  unfold rAllU at h
  split at h
  · obtain ⟨bs, h1, h2⟩ := h
    exact cr_all hc pins s σ H _ us Q I r ⟨_, _, rfl, lstAt_sq h1, h2⟩
  · exact h.elim
theorem vals_of : ∀ {xs : List V} {us : List Value}, xs.length = us.length → (∀ (j : Nat) x u, xs[j]? = some x → us[j]? = some u → RelV x u) → Vals xs us
  | [], [], _, _ => .nil
  | [], _ :: _, h, _ => by simp at h
  | _ :: _, [], h, _ => by simp at h
  | a :: r, b :: s, h, k => .cons (k 0 a b rfl rfl) (vals_of (by simpa using h) fun j x u h1 h2 => k (j + 1) x u (by simpa using h1) (by simpa using h2))
theorem vals_signs {x : Str} {acc : Array Value} (h : ItemsOf (SignAt x) acc x.cps.size) : Vals (x.cps.toList.map fun c => V.str (tx [c])) acc.toList := by
  refine vals_of (by rw [List.length_map]; simp [h.1]) fun j v u h1 h2 => ?_
  obtain ⟨c, t, hc, rfl⟩ := h.2 j u (by simpa using h2)
  rw [List.getElem?_map, Array.getElem?_toList, hc] at h1
  cases h1
  exact ⟨t, rfl⟩
def rListU (K : PySem.W.Frag) : List V → Hp → VK → Prop := fun vs H Q => match vs with
  | [.str z] => z.length ≤ 16777216 ∧ ∀ p, H p = none → Q (.ref p) (upd H p (.lst (z.cps.toList.map fun c => V.str (tx [c]))))
  | [.ref p] => ∃ ys, (SqL K H p ys ∨ SqT K H p ys) ∧ ∀ l, H l = none → Q (.ref l) (upd H l (.lst ys))
  | _ => False
theorem c_list (hc : X.calm = true) {K : PySem.W.Frag} (hK : X.K = K := by rfl) : CallR X (.type "list") (rListU K) := by
  subst hK
  intro pins s σ H xs us Q I r h
  unfold rListU at h
  split at h
  · rename_i z
    obtain ⟨hz, q⟩ := h
    obtain ⟨u, rfl, t, rfl⟩ := vals1 r
    refine call_list_str (I.ok.hd hc) z t (fun h' tk acc c' kp e hacc => ?_) (by rw [sl16]; exact hz)
    have hl : (z.cps.toList.map fun c => V.str (tx [c])).length ≤ sizeLine := by rw [List.length_map, Array.length_toList, sl16]; exact hz
    exact ⟨.ref s.heap.objs.size, _, I.laid (t' := tk) kp (Nat.le_refl _) (show ObjOk X.prog X.w _ h' _ (.lst _) from ⟨hl, acc.toList, c', vals_signs hacc, by simpa using e⟩), rfl, q _ (I.hok.fresh (Nat.le_refl _))⟩
  · obtain ⟨ys, h1, h2⟩ := h
    exact call_list_of pins s σ H _ us Q I r ⟨_, _, rfl, h1, h2⟩
  · exact h.elim
def rTupU (K : PySem.W.Frag) : List V → Hp → VK → Prop := fun vs H Q => match vs with
  | [.str z] => z.length ≤ 16777216 ∧ ∀ p, H p = none → Q (.ref p) (upd H p (.tup (z.cps.toList.map fun c => V.str (tx [c]))))
  | [.ref p] => ∃ ys, (SqL K H p ys ∧ ∀ l, H l = none → Q (.ref l) (upd H l (.tup ys))) ∨ (SqT K H p ys ∧ Q (.ref p) H)
  | _ => False
end
end Zb
namespace Zb
open PySem PySem.Spec PyProof.Rows L2
open Evl (tCut pss_cut)
def Fr (M : Addr → Prop) (H H' : Hp) : Prop := ∀ b o, ¬ M b → H b = some o → H' b = some o
abbrev Ex (H H' : Hp) : Prop := Fr (fun _ => False) H H'
theorem Fr.refl {M : Addr → Prop} (H : Hp) : Fr M H H := fun _ _ _ e => e
theorem Fr.trans {M : Addr → Prop} {H H1 H2 : Hp} (a : Fr M H H1) (b : Fr M H1 H2) : Fr M H H2 := fun x o n e => b x o n (a x o n e)
theorem Fr.new {M : Addr → Prop} {H : Hp} {p : Addr} {o : HO} (h : H p = none) : Fr M H (upd H p o) := fun b u _ e => by
  rw [upd_ne (ne_of_none e h)]
  exact e
theorem Fr.at {M : Addr → Prop} {H : Hp} {p : Addr} {o : HO} (h : M p) : Fr M H (upd H p o) := fun b u n e => by
  rw [upd_ne fun z => n (by rw [z]; exact h)]
  exact e
theorem Fr.up {M M' : Addr → Prop} {H H' : Hp} (e : Fr M' H H') (h : ∀ b, M' b → M b) : Fr M H H' := fun b o n q => e b o (fun m => n (h b m)) q
theorem Fr.ex {M : Addr → Prop} {H H' : Hp} (e : Ex H H') : Fr M H H' := e.up fun _ z => z.elim
/-- an object that was not there at H may change -/
theorem Fr.mut {M : Addr → Prop} {H H' : Hp} {p : Addr} {o : HO} (e : Fr M H H') (h : H p = none) : Fr M H (upd H' p o) := fun b u n q => by
  rw [upd_ne (ne_of_none q h)]
  exact e b u n q
theorem Fr.get {M : Addr → Prop} {H H' : Hp} {a : Addr} {o : HO} (e : Fr M H H') (n : ¬ M a) (h : H a = some o) : H' a = some o := e a o n h
theorem Ex.get {H H' : Hp} {a : Addr} {o : HO} (e : Ex H H') (h : H a = some o) : H' a = some o := e a o (fun z => z) h
theorem Ex.free {H H' : Hp} (e : Ex H H') {p : Addr} (h : H' p = none) : H p = none := by
  cases q : H p with
  | none => rfl
  | some o =>
    rw [e p o (fun z => z) q] at h
    cases h
theorem Fr.free {M : Addr → Prop} {H H' : Hp} (e : Fr M H H') {p : Addr} (n : ¬ M p) (h : H' p = none) : H p = none := by
  cases q : H p with
  | none => rfl
  | some o =>
    rw [e p o n q] at h
    cases h
theorem upd_old {H : Hp} {p a : Addr} {o u : HO} (hp : H p = none) (ha : H a = some u) : upd H p o a = some u := by
  rw [upd_ne (ne_of_none ha hp)]
  exact ha
theorem upd_free {H : Hp} {p q : Addr} {o : HO} (h : upd H p o q = none) : H q = none := by
  by_cases e : q = p
  · rw [e, upd_same] at h
    cases h
  · rwa [upd_ne e] at h
theorem lst_of {H : Hp} {p : Addr} {xs : List V} (h : H p = some (.lst xs)) : lstAt H p = some xs := by unfold lstAt; rw [h]
theorem tup_of {H : Hp} {p : Addr} {xs : List V} (h : H p = some (.tup xs)) : tupAt H p = some xs := by unfold tupAt; rw [h]
theorem seq_l {H : Hp} {p : Addr} {xs : List V} (h : H p = some (.lst xs)) : seqAt H p = some xs := by unfold seqAt; rw [h]
theorem seq_t {H : Hp} {p : Addr} {xs : List V} (h : H p = some (.tup xs)) : seqAt H p = some xs := by unfold seqAt; rw [h]
section
variable {D : Ends} {σ : L2.St} {H : Hp} {Q : VK} {K : PySem.W.Frag} {R : L2.St → Hp → Prop} {B : Bool → Hp → Prop}
theorem st_seq {t u : TS} (h : t { D with nx := u D } σ H) : tSeq t u D σ H := h
theorem st_next (h : D.nx σ H) : tNext D σ H := h
theorem st_brk (h : D.bk σ H) : tBreak D σ H := h
theorem st_cont (h : D.ct σ H) : tCont D σ H := h
theorem st_drop {te : TE} (h : te σ H (fun _ H1 => D.nx σ H1)) : tDrop te D σ H := h
theorem st_ret {te : TE} (h : te σ H D.rt) : tRet te D σ H := h
theorem st_retN (h : D.rt .non H) : tRetN D σ H := h
theorem st_ifS {c : TT} {t u : TS} (h : c σ H (fun b H1 => if b = true then t D σ H1 else u D σ H1)) : tIfS c t u D σ H := h
theorem st_asg {te : TE} {g : TG} (h : te σ H (fun x H1 => g x σ H1 D.nx)) : tAsg te g D σ H := h
theorem st_name {i : Nat} {v : V} (h : R (σ.set i (some v)) H) : gName i v σ H R := h
theorem st_sub {to ti : TE} {t : TSet} {v : V} (h : to σ H (fun o H1 => ti σ H1 fun i H2 => t o i v H2 fun H3 => R σ H3)) : gSub to ti t v σ H R := h
theorem st_augI {i : Nat} {te : TE} {f : Int → Int → Int} {z : Int} (hx : σ[i]? = some (some (.int z))) (h : te σ H (fun y H1 => ipI f (.int z) y H1 fun z H2 => D.nx (σ.set i (some z)) H2)) : tAug i te (ipI f) D σ H := ⟨_, hx, h⟩
theorem st_ipI {f : Int → Int → Int} {x y : Int} (h : Q (.int (f x y)) H) : ipI f (.int x) (.int y) H Q := ⟨_, _, rfl, rfl, h⟩
theorem st_par {i j : Nat} {ta : TA} (h : ta σ H (fun vs H1 => ∃ v w, vs = [v, w] ∧ D.nx ((σ.set i (some v)).set j (some w)) H1)) : tPar i j ta D σ H := h
theorem st_par2 {v w : V} {P : V → V → Prop} (h : P v w) : ∃ v' w', [v, w] = [v', w'] ∧ P v' w' := ⟨v, w, rfl, h⟩
theorem st_var {i : Nat} {v : V} (hv : σ[i]? = some (some v)) (h : Q v H) : tVar i σ H Q := ⟨v, hv, h⟩
theorem st_c {v : V} (h : Q v H) : tC v σ H Q := h
theorem st_op {r : R2} {ta tb : TE} (h : ta σ H (fun x H1 => tb σ H1 fun y H2 => r x y H2 Q)) : tOp r ta tb σ H Q := h
theorem st_un {r : V → Hp → VK → Prop} {ta : TE} (h : ta σ H (fun x H1 => r x H1 Q)) : tUn r ta σ H Q := h
theorem st_rU {g : Int → V} {i : Int} (h : Q (g i) H) : rU g (.int i) H Q := ⟨i, rfl, h⟩
theorem st_B {t : TE} (h : t σ H (fun x H1 => ∃ c, x = .bl c ∧ B c H1)) : tB t σ H B := h
theorem st_test {t : TE} (h : t σ H (fun x H1 => ∃ c, x = .bl c ∧ B c H1)) : tTest t σ H B := h
theorem st_isb {b : Bool} {P : Bool → Prop} (h : P b) : ∃ c, V.bl b = .bl c ∧ P c := ⟨b, rfl, h⟩
theorem st_and {t u : TT} (h : t σ H (fun c H1 => if c = true then u σ H1 B else B false H1)) : tAnd t u σ H B := h
theorem st_or {t u : TT} (h : t σ H (fun c H1 => if c = true then B true H1 else u σ H1 B)) : tOr t u σ H B := h
theorem st_not {t : TT} (h : t σ H (fun c H1 => B (!c) H1)) : tNot t σ H B := h
theorem st_andV {ta tb : TE} (h : ta σ H (fun x H1 => ∃ c, x = .bl c ∧ if c = true then tb σ H1 Q else Q (.bl false) H1)) : tAndV ta tb σ H Q := h
theorem st_orV {ta tb : TE} (h : ta σ H (fun x H1 => ∃ c, x = .bl c ∧ if c = true then Q (.bl true) H1 else tb σ H1 Q)) : tOrV ta tb σ H Q := h
theorem st_notV {ta : TE} (h : ta σ H (fun x H1 => ∃ c, x = .bl c ∧ Q (.bl (!c)) H1)) : tNotV ta σ H Q := h
theorem st_if {t : TT} {ta tb : TE} (h : t σ H (fun c H1 => if c = true then ta σ H1 Q else tb σ H1 Q)) : tIf t ta tb σ H Q := h
theorem st_nil {P : List V → Hp → Prop} (h : P [] H) : tNil σ H P := h
theorem st_cons {ta : TE} {tr : TA} {P : List V → Hp → Prop} (h : ta σ H (fun x H1 => tr σ H1 fun xs H2 => P (x :: xs) H2)) : tCons ta tr σ H P := h
def NewO (o : List V → HO) (xs : List V) (Q : VK) (H : Hp) : Prop := xs.length ≤ sizeLine ∧ ∀ p, H p = none → Q (.ref p) (upd H p (o xs))
theorem st_tup {t : TA} (h : t σ H (fun xs H1 => NewO .tup xs Q H1)) : tTup t σ H Q := h
theorem st_lst {t : TA} (h : t σ H (fun xs H1 => NewO .lst xs Q H1)) : tLst t σ H Q := h
/-- a new object: from then on the heap is a letter -/
theorem st_new {xs : List V} {o : List V → HO} (hz : xs.length ≤ 16777216) (h : ∀ p H', H p = none → Ex H H' → H' p = some (o xs) → Q (.ref p) H') : NewO o xs Q H :=
  ⟨by rw [sl16]; exact hz, fun p hp => h p _ hp (Fr.new hp) upd_same⟩
theorem st_cb {r : List V → Hp → VK → Prop} {t : TA} (h : t σ H (fun vs H1 => r vs H1 Q)) : tCB r t σ H Q := h
theorem st_call {sp : Sp} {dvs : List V} {E : XK} {t : TA} (h : t σ H (fun vs H1 => sp (vs ++ dvs) H1 Q E)) : tCall sp dvs E t σ H Q := h
theorem st_sl {r : V → Option Int → Option Int → Hp → VK → Prop} {te : TE} {tl th : TO} (h : te σ H (fun x H1 => tl σ H1 fun l H2 => th σ H2 fun u H3 => r x l u H3 Q)) : tSl r te tl th σ H Q := h
theorem st_part {te : TE} {P : Option Int → Hp → Prop} (h : te σ H (fun x H1 => ∃ i, x = .int i ∧ P (some i) H1)) : tPart te σ H P := h
theorem st_isi {i : Int} {P : Int → Prop} (h : P i) : ∃ j, V.int i = .int j ∧ P j := ⟨i, rfl, h⟩
theorem st_nopart {P : Option Int → Hp → Prop} (h : P none H) : tNoPart σ H P := h
theorem st_addI {i j : Int} (h : Q (.int (i + j)) H) : rAdd (.int i) (.int j) H Q := h
theorem st_addS {a b : Str} (hz : a.length + b.length ≤ 16777216) (h : Q (.str (a ++ b)) H) : rAdd (.str a) (.str b) H Q := ⟨hz, h⟩
theorem st_addL {p q : Addr} {xs ys : List V} (h1 : H p = some (.lst xs)) (h2 : H q = some (.lst ys)) (hz : xs.length + ys.length ≤ 16777216) (h : ∀ r H', H r = none → Ex H H' → H' r = some (.lst (xs ++ ys)) → Q (.ref r) H') : rAdd (.ref p) (.ref q) H Q :=
  ⟨xs, ys, h1, h2, hz, fun r hr => h r _ hr (Fr.new hr) upd_same⟩
theorem st_subI {i j : Int} (h : Q (.int (i - j)) H) : rSub (.int i) (.int j) H Q := h
theorem st_mulI {i j : Int} (hc : (-(2 ^ 64) < i ∧ i < 2 ^ 64) ∨ (-(2 ^ 64) < j ∧ j < 2 ^ 64)) (h : Q (.int (i * j)) H) : rMul (.int i) (.int j) H Q := ⟨hc, h⟩
theorem st_mulL {p : Addr} {k : Int} {xs : List V} (h1 : H p = some (.lst xs)) (h2 : -1000000 ≤ k) (h3 : k ≤ 1000000) (hz : xs.length * k.toNat ≤ 16777216) (h : ∀ r H', H r = none → Ex H H' → H' r = some (.lst (List.replicate k.toNat xs).flatten) → Q (.ref r) H') : rMul (.ref p) (.int k) H Q :=
  ⟨xs, h1, h2, h3, hz, fun r hr => h r _ hr (Fr.new hr) upd_same⟩
theorem st_mulS {a : Str} {k : Int} (h2 : -1000000 ≤ k) (h3 : k ≤ 1000000) (hz : a.length * k.toNat ≤ 16777216) (h : Q (.str (Txt.mul a k)) H) : rMul (.str a) (.int k) H Q := ⟨h2, h3, hz, h⟩
theorem st_modI {i j : Int} (hc : 0 < j) (h : Q (.int (i % j)) H) : rMod (.int i) (.int j) H Q := ⟨hc, h⟩
theorem st_divI {i j : Int} (hc : 0 < j ∧ j < 1073741824) (h : Q (.int (i / j)) H) : rDiv (.int i) (.int j) H Q := ⟨hc.1, hc.2, h⟩
theorem st_powI {i j : Int} (hc : 0 ≤ j ∧ j ≤ 1000000 ∧ i.natAbs < 2 ^ 64) (h : Q (.int (i ^ j.toNat)) H) : rPow (.int i) (.int j) H Q := ⟨hc.1, hc.2.1, hc.2.2, h⟩
theorem st_cmpI {f : Int → Int → Bool} {i j : Int} (h : Q (.bl (f i j)) H) : rCmpI f (.int i) (.int j) H Q := h
theorem st_eqI {i j : Int} (h : Q (.bl (decide (i = j))) H) : rEqU (.int i) (.int j) H Q := ⟨_, _, .int i, .int j, by simp [PyData.depth], by
  have e : PyData.eqv (.int i) (.int j) = decide (i = j) := by simp only [PyData.eqv]; rfl
  rw [e]; exact h⟩
theorem st_neI {i j : Int} (h : Q (.bl (!decide (i = j))) H) : rNeU (.int i) (.int j) H Q := ⟨_, _, .int i, .int j, by simp [PyData.depth], by
  have e : PyData.eqv (.int i) (.int j) = decide (i = j) := by simp only [PyData.eqv]; rfl
  rw [e]; exact h⟩
theorem st_eqS {i j : Str} (h : Q (.bl (decide (i = j))) H) : rEqU (.str i) (.str j) H Q := ⟨_, _, .str i, .str j, by simp [PyData.depth], by
  have e : PyData.eqv (.str i) (.str j) = decide (i = j) := by simp only [PyData.eqv]; rfl
  rw [e]; exact h⟩
theorem st_neS {i j : Str} (h : Q (.bl (!decide (i = j))) H) : rNeU (.str i) (.str j) H Q := ⟨_, _, .str i, .str j, by simp [PyData.depth], by
  have e : PyData.eqv (.str i) (.str j) = decide (i = j) := by simp only [PyData.eqv]; rfl
  rw [e]; exact h⟩
theorem st_eqB {i j : Bool} (h : Q (.bl (i == j)) H) : rEqU (.bl i) (.bl j) H Q := ⟨_, _, .bl i, .bl j, by simp [PyData.depth], by
  have e : PyData.eqv (.bool i) (.bool j) = (i == j) := by simp only [PyData.eqv]
  rw [e]; exact h⟩
theorem st_neB {i j : Bool} (h : Q (.bl (!(i == j))) H) : rNeU (.bl i) (.bl j) H Q := ⟨_, _, .bl i, .bl j, by simp [PyData.depth], by
  have e : PyData.eqv (.bool i) (.bool j) = (i == j) := by simp only [PyData.eqv]
  rw [e]; exact h⟩
theorem st_ixL {p : Addr} {i : Int} {v : V} {xs : List V} (h1 : H p = some (.lst xs)) (h2 : atI xs i = some v) (h : Q v H) : rIxU K (.ref p) (.int i) H Q := ⟨xs, seqAt_sq (seq_l h1), v, h2, h⟩
theorem st_ixT {p : Addr} {i : Int} {v : V} {xs : List V} (h1 : H p = some (.tup xs)) (h2 : atI xs i = some v) (h : Q v H) : rIxU K (.ref p) (.int i) H Q := ⟨xs, seqAt_sq (seq_t h1), v, h2, h⟩
theorem st_ixQ {p : Addr} {i : Int} {v : V} {xs : List V} (h1 : seqAt H p = some xs) (h2 : atI xs i = some v) (h : Q v H) : rIxU K (.ref p) (.int i) H Q := ⟨xs, seqAt_sq h1, v, h2, h⟩
theorem st_ixK {p : Addr} {i : Int} {v : V} {xs : List V} (h1 : SqL K H p xs) (h2 : atI xs i = some v) (h : Q v H) : rIxU K (.ref p) (.int i) H Q := ⟨xs, .inl h1, v, h2, h⟩
theorem at_in {α : Type} {xs : List α} {i : Int} (h0 : 0 ≤ i) (h1 : i < xs.length) : ∃ v, atI xs i = some v ∧ xs[i.toNat]? = some v := by
  have hj : i.toNat < xs.length := by omega
  refine ⟨xs[i.toNat], ?_, List.getElem?_eq_getElem hj⟩
  unfold atI ixN
  rw [if_pos h0, if_pos h1]
  exact List.getElem?_eq_getElem hj
/-- an item of a row of numbers, of texts, at some place -/
theorem st_ixI {p : Addr} {i : Int} {xs : List V} (ns : List Int) (h1 : H p = some (.lst xs)) (e : xs = ns.map V.int) (h0 : 0 ≤ i) (hi : i < ns.length) (h : ∀ z, ns[i.toNat]? = some z → z ∈ ns → Q (.int z) H) : rIxU K (.ref p) (.int i) H Q := by
  subst e
  obtain ⟨v, h2, h3⟩ := at_in (xs := ns.map V.int) h0 (by rw [List.length_map]; exact hi)
  rw [List.getElem?_map] at h3
  cases q : ns[i.toNat]? with
  | none => rw [q] at h3; cases h3
  | some z =>
    rw [q] at h3
    cases h3
    exact st_ixL h1 h2 (h z q (List.mem_of_getElem? q))
/-- a sign of a text -/
theorem st_sign {z : Str} {i : Int} {c : Nat} (hz : z.length ≤ 16777216) (h2 : atI z.cps.toList i = some c) (h : Q (.str (tx [c])) H) : rIxU K (.str z) (.int i) H Q := ⟨hz, c, h2, h⟩
theorem st_slS {z : Str} {lo hi : Option Int} (hz : z.length ≤ 16777216) (h : Q (.str (cutS z lo hi)) H) : rSlU K (.str z) lo hi H Q := ⟨hz, h⟩
theorem st_slL {p : Addr} {xs : List V} {lo hi : Option Int} (h1 : lstAt H p = some xs) (h : ∀ q H', H q = none → Ex H H' → H' q = some (.lst (cutV xs lo hi)) → Q (.ref q) H') : rSlU K (.ref p) lo hi H Q := ⟨xs, lstAt_sq h1, fun q hq => h q _ hq (Fr.new hq) upd_same⟩
theorem st_slK {p : Addr} {xs : List V} {lo hi : Option Int} (h1 : SqL K H p xs) (h : ∀ q H', H q = none → Ex H H' → H' q = some (.lst (cutV xs lo hi)) → Q (.ref q) H') : rSlU K (.ref p) lo hi H Q := ⟨xs, h1, fun q hq => h q _ hq (Fr.new hq) upd_same⟩
theorem st_lenS {z : Str} (hz : z.length ≤ 16777216) (h : Q (.int z.length) H) : rLen K [.str z] H Q := ⟨hz, h⟩
theorem st_lenL {p : Addr} {xs : List V} (h1 : H p = some (.lst xs)) (h : Q (.int xs.length) H) : rLen K [.ref p] H Q := ⟨xs, seqAt_sq (seq_l h1), h⟩
theorem st_lenT {p : Addr} {xs : List V} (h1 : H p = some (.tup xs)) (h : Q (.int xs.length) H) : rLen K [.ref p] H Q := ⟨xs, seqAt_sq (seq_t h1), h⟩
theorem st_lenQ {p : Addr} {xs : List V} (h1 : seqAt H p = some xs) (h : Q (.int xs.length) H) : rLen K [.ref p] H Q := ⟨xs, seqAt_sq h1, h⟩
theorem st_lenK {p : Addr} {xs : List V} (h1 : SqL K H p xs) (h : Q (.int xs.length) H) : rLen K [.ref p] H Q := ⟨xs, .inl h1, h⟩
theorem st_max2 {i j : Int} (h : Q (.int (if j > i then j else i)) H) : Zb.rMax2 [.int i, .int j] H Q := h
theorem st_min2 {i j : Int} (h : Q (.int (if j < i then j else i)) H) : Zb.rMin2 [.int i, .int j] H Q := h
theorem st_is {x : V} {n t : String} {b : Bool} (h1 : tyN H x = some t) (h2 : kitB t n = some b) (h : Q (.bl b) H) : rIs [x, .ty n] H Q := ⟨t, h1, b, h2, h⟩
/-- xs[i] = e -/
theorem st_setL {p : Addr} {k : Int} {v : V} {xs : List V} {j : Nat} {R : Hp → Prop} (h1 : H p = some (.lst xs)) (h2 : ixN xs.length k = some j) (h : R (upd H p (.lst (xs.set j v)))) : rSetL (.ref p) (.int k) v H R := ⟨p, xs, k, j, rfl, rfl, h1, h2, h⟩
theorem st_T {A B : Prop} {b : Bool} (hb : b = true) (h : A) : if b = true then A else B := by rw [if_pos hb]; exact h
theorem st_F {A B : Prop} {b : Bool} (hb : b = false) (h : B) : if b = true then A else B := by rw [hb, if_neg Bool.false_ne_true]; exact h
theorem st_br {A B : Prop} {b : Bool} (h1 : b = true → A) (h2 : b = false → B) : if b = true then A else B := by
  cases b with
  | true => exact h1 rfl
  | false => exact h2 rfl
theorem st_br2 {A B : Prop} {p : Prop} [Decidable p] (h1 : p → A) (h2 : ¬ p → B) : if decide p = true then A else B := by
  by_cases q : p
  · rw [decide_eq_true q]; exact h1 q
  · rw [decide_eq_false q, if_neg Bool.false_ne_true]; exact h2 q
theorem st_brn {A B : Prop} {p : Prop} [Decidable p] (h1 : ¬ p → A) (h2 : p → B) : if (!decide p) = true then A else B := by
  by_cases q : p
  · rw [decide_eq_true q]; exact h2 q
  · rw [decide_eq_false q]; exact h1 q
end
def Purse (H : Hp) (a : Addr) : Prop := ∃ x y z : Int, H a = some (.lst [.int x, .int y, .int z])
abbrev FrP (p : Addr) (H H' : Hp) : Prop := Fr (fun b => b = p) H H'
theorem FrP.at {H : Hp} {p : Addr} {o : HO} : FrP p H (upd H p o) := Fr.at (M := fun b => b = p) rfl
theorem Purse.ne {H : Hp} {p q : Addr} (h : Purse H p) (hq : H q = none) : q ≠ p := fun e => by
  obtain ⟨x, y, z, h⟩ := h
  rw [e, h] at hq
  cases hq
theorem Purse.ex {H H' : Hp} {p : Addr} (h : Purse H p) (e : Ex H H') : Purse H' p := by
  obtain ⟨x, y, z, h⟩ := h
  exact ⟨x, y, z, e.get h⟩
end Zb
namespace Zb
open PySem PySem.Spec PyProof.Rows L2
open Evl (tCut pss_cut)
structure Runs (J : It) (n : Nat) (S : Hp → Prop) (item : Nat → V → Hp → Hp → Prop) : Prop where
  go : ∀ i H, i < n → S H → J.go i H
  stop : ∀ H, S H → J.stop n H
  yld : ∀ i H x H', i < n → S H → J.yld i H x H' → item i x H H'
theorem runs_range (lo : Int) (n : Nat) : Runs (Itr lo n) n (fun _ => True) (fun i x H H' => H' = H ∧ x = .int (lo + i)) :=
  ⟨fun _ _ h _ => h, fun _ _ => Nat.le_refl _, fun _ _ _ _ _ _ y => y⟩
theorem runs_list (K : PySem.W.Frag) (a : Addr) (xs : List V) : Runs (Itl K a) xs.length (fun H => lstAt H a = some xs) (fun i x H H' => H' = H ∧ xs[i]? = some x) :=
  ⟨fun i H h s => ⟨xs, xs[i], lstAt_sq s, by simp [h]⟩, fun _ s => ⟨xs, lstAt_sq s, Nat.le_refl _⟩, fun _ _ _ _ _ s y => ⟨y.1, y.2 xs (lstAt_sq s)⟩⟩
theorem runs_tup (K : PySem.W.Frag) (a : Addr) (xs : List V) : Runs (Itt K a) xs.length (fun H => tupAt H a = some xs) (fun i x H H' => H' = H ∧ xs[i]? = some x) :=
  ⟨fun i H h s => ⟨xs, xs[i], tupAt_sq s, by simp [h]⟩, fun _ s => ⟨xs, tupAt_sq s, Nat.le_refl _⟩, fun _ _ _ _ _ s y => ⟨y.1, y.2 xs (tupAt_sq s)⟩⟩
theorem runs_enum (K : PySem.W.Frag) (a : Addr) (xs : List V) : Runs (Ite K a) xs.length (fun H => lstAt H a = some xs) (fun i x H H' => ∃ T v, x = .ref T ∧ H T = none ∧ Ex H H' ∧ H' T = some (.tup [.int (i : Nat), v]) ∧ xs[i]? = some v) :=
  ⟨fun i H h s => ⟨xs, xs[i], lstAt_sq s, by simp [h]⟩, fun _ s => ⟨xs, lstAt_sq s, Nat.le_refl _⟩, fun i H x H' _ s y => by
    obtain ⟨T, v, e1, e2, e3, e4⟩ := y
    subst e3
    exact ⟨T, v, e1, e2, Fr.new e2, upd_same, e4 xs (lstAt_sq s)⟩⟩
theorem runs_zip (K : PySem.W.Frag) (a b : Addr) (xs ys : List V) : Runs (Itz K a b) (min xs.length ys.length) (fun H => lstAt H a = some xs ∧ lstAt H b = some ys) (fun i x H H' => ∃ T v u, x = .ref T ∧ H T = none ∧ Ex H H' ∧ H' T = some (.tup [v, u]) ∧ xs[i]? = some v ∧ ys[i]? = some u) :=
  ⟨fun i H h s => ⟨xs, ys, xs[i]'(by omega), ys[i]'(by omega), lstAt_sq s.1, lstAt_sq s.2, by rw [List.getElem?_eq_getElem], by rw [List.getElem?_eq_getElem]⟩, fun _ s => ⟨xs, ys, lstAt_sq s.1, lstAt_sq s.2, by omega⟩, fun i H x H' _ s y => by
    obtain ⟨T, v, u, e1, e2, e3, e4, e5⟩ := y
    subst e3
    exact ⟨T, v, u, e1, e2, Fr.new e2, upd_same, e4 xs (lstAt_sq s.1), e5 ys (lstAt_sq s.2)⟩⟩
def LcGoal (J : It) (g : TG) (tt : TT) (te : TE) (vs : List Nat) (σ : L2.St) (Q : VK) (H1 : Hp) : Prop := ∀ D, H1 D = none → ∃ W : Nat → Nat → Hp → Prop, (∃ m, W 0 m (upd H1 D (.lst []))) ∧ ∀ i m H, W i m H →
      (J.stop i H ∧ Q (.ref D) H) ∨ (J.go i H ∧ ∃ Nx : Hp → Prop, (∀ H', Nx H' → ∃ m', m' < m ∧ W (i + 1) m' H') ∧ ∀ x H', J.yld i H x H' → g x (wipe σ vs) H' fun σ2 H2 => wipe σ2 vs = wipe σ vs ∧ tt σ2 H2 fun b H3 =>
        if b = true then te σ2 H3 fun y H4 => ∃ acc, H4 D = some (.lst acc) ∧ acc.length < sizeLine ∧ Nx (upd H4 D (.lst (acc ++ [y]))) else Nx H3)
def ForGoal (J : It) (g : TG) (tb : TS) (D : Ends) (σ : L2.St) (H : Hp) : Prop := ∃ W : Nat → Nat → L2.St → Hp → Prop, (∃ m, W 0 m σ H) ∧ ∀ i m σ H, W i m σ H →
      (J.stop i H ∧ D.nx σ H) ∨ (J.go i H ∧ ∃ N : L2.St → Hp → Prop, (∀ σ' H', N σ' H' → ∃ m', m' < m ∧ W (i + 1) m' σ' H') ∧ ∀ x H', J.yld i H x H' → g x σ H' fun σ2 H2 => tb { D with nx := N, ct := N, bk := D.nx } σ2 H2)
section
variable {J : It} {n : Nat} {S : Hp → Prop} {item : Nat → V → Hp → Hp → Prop} {g : TG} {σ : L2.St} {H H1 : Hp} {K : PySem.W.Frag}
/-- a for loop by its word Pv -/
theorem for_runs {tb : TS} {D : Ends} (hR : Runs J n S item) (Pv : Nat → L2.St → Hp → Prop) (h0 : Pv 0 σ H) (hS : ∀ i σ H, i ≤ n → Pv i σ H → S H)
    (hs : ∀ i x σ H H', i < n → Pv i σ H → item i x H H' → g x σ H' fun σ2 H2 => tb { D with nx := Pv (i + 1), ct := Pv (i + 1), bk := D.nx } σ2 H2) (hd : ∀ σ H, Pv n σ H → D.nx σ H) :
    ForGoal J g tb D σ H := by
  refine ⟨fun i m σ H => m = n - i ∧ i ≤ n ∧ Pv i σ H, ⟨n, by simp, Nat.zero_le _, h0⟩, ?_⟩
  rintro i m σ H ⟨rfl, hi, p⟩
  by_cases hlt : i < n
  · refine .inr ⟨hR.go i H hlt (hS i σ H hi p), Pv (i + 1), fun σ' H' p' => ⟨n - (i + 1), by omega, rfl, hlt, p'⟩, fun x H' y => ?_⟩
    exact hs i x σ H H' hlt p (hR.yld i H x H' hlt (hS i σ H hi p) y)
  · have e : i = n := by omega
    subst e
    exact .inl ⟨hR.stop H (hS i σ H hi p), hd σ H p⟩
/-- the list of a comprehension on its way -/
structure LcAt (M : Addr → Prop) (H1 : Hp) (D : Addr) (acc : List V) (H : Hp) : Prop where
  new : H1 D = none
  non : ¬ M D
  at_ : H D = some (.lst acc)
  fr : Fr M H1 H
def LcW (M : Addr → Prop) (H1 : Hp) (Pv : Nat → List V → Hp → Prop) (D : Addr) (i : Nat) (H : Hp) : Prop := ∃ acc, LcAt M H1 D acc H ∧ Pv i acc H
/-- Pv does not look at the list itself -/
def LcSt (M : Addr → Prop) (H1 : Hp) (Pv : Nat → List V → Hp → Prop) : Prop := ∀ i acc H' D o, H1 D = none → Fr M H1 H' → Pv i acc H' → Pv i acc (upd H' D o)
theorem lc_yes {M : Addr → Prop} {Pv : Nat → List V → Hp → Prop} {D : Addr} {i : Nat} {acc : List V} {H' H4 : Hp} {y : V} (L : LcAt M H1 D acc H') (hst : LcSt M H1 Pv) (e : Fr M H' H4) (hz : acc.length < 1000000) (p : Pv (i + 1) (acc ++ [y]) H4) :
    ∃ acc, H4 D = some (.lst acc) ∧ acc.length < sizeLine ∧ LcW M H1 Pv D (i + 1) (upd H4 D (.lst (acc ++ [y]))) :=
  ⟨acc, e D _ L.non L.at_, by rw [sl16]; omega, acc ++ [y], ⟨L.new, L.non, upd_same, (L.fr.trans e).mut L.new⟩, hst _ _ _ _ _ L.new (L.fr.trans e) p⟩
theorem lc_no {M : Addr → Prop} {Pv : Nat → List V → Hp → Prop} {D : Addr} {i : Nat} {acc : List V} {H' H4 : Hp} (L : LcAt M H1 D acc H') (e : Fr M H' H4) (p : Pv (i + 1) acc H4) : LcW M H1 Pv D (i + 1) H4 :=
  ⟨acc, ⟨L.new, L.non, e D _ L.non L.at_, L.fr.trans e⟩, p⟩
theorem lc_runs {tt : TT} {te : TE} {vs : List Nat} {Q : VK} (hR : Runs J n S item) (M : Addr → Prop) (Pv : Nat → List V → Hp → Prop) (hM : ∀ b, M b → H1 b ≠ none) (h0 : Pv 0 [] H1) (hst : LcSt M H1 Pv) (hS : ∀ i acc H', Fr M H1 H' → Pv i acc H' → S H')
    (hs : ∀ D i acc x H' H'', i < n → LcAt M H1 D acc H' → Pv i acc H' → item i x H' H'' → g x (wipe σ vs) H'' fun σ2 H2 => wipe σ2 vs = wipe σ vs ∧ tt σ2 H2 fun b H3 => if b = true then te σ2 H3 fun y H4 => ∃ acc, H4 D = some (.lst acc) ∧ acc.length < sizeLine ∧ LcW M H1 Pv D (i + 1) (upd H4 D (.lst (acc ++ [y]))) else LcW M H1 Pv D (i + 1) H3)
    (hd : ∀ D acc H', H1 D = none → Fr M H1 H' → H' D = some (.lst acc) → Pv n acc H' → Q (.ref D) H') :
    LcGoal J g tt te vs σ Q H1 := by
  intro D hD
  refine ⟨fun i m H => m = n - i ∧ i ≤ n ∧ LcW M H1 Pv D i H, ⟨n, by simp, Nat.zero_le _, [], ⟨hD, fun m => hM D m hD, upd_same, Fr.new hD⟩, hst _ _ _ _ _ hD (Fr.refl _) h0⟩, ?_⟩
  rintro i m H ⟨rfl, hi, acc, L, p⟩
  by_cases hlt : i < n
  · refine .inr ⟨hR.go i H hlt (hS i acc H L.fr p), LcW M H1 Pv D (i + 1), fun H' p' => ⟨n - (i + 1), by omega, rfl, hlt, p'⟩, fun x H' y => ?_⟩
    exact hs D i acc x H H' hlt L p (hR.yld i H x H' hlt (hS i acc H L.fr p) y)
  · have e : i = n := by omega
    subst e
    exact .inl ⟨hR.stop H (hS i acc H L.fr p), hd D acc H hD L.fr L.at_ p⟩
abbrev RunsV {α : Type} (J : It) (ys : List α) (val : α → V) (S : Hp → Prop) : Prop := Runs J ys.length S (fun i x H H' => H' = H ∧ ∃ y, ys[i]? = some y ∧ x = val y)
theorem rv_str (z : Str) : RunsV (Its z) z.cps.toList (fun c => .str (tx [c])) (fun _ => True) :=
  ⟨fun i _ h _ => by show i < z.cps.size; simpa using h, fun _ _ => by show z.cps.size ≤ z.cps.toList.length; simp, fun _ _ _ _ _ _ y => by
    obtain ⟨h, c, e1, e2⟩ := y
    exact ⟨h, c, by rw [Array.getElem?_toList]; exact e1, e2⟩⟩
theorem rv_list (K : PySem.W.Frag) (a : Addr) {α : Type} (ys : List α) (val : α → V) : RunsV (Itl K a) ys val (fun H => lstAt H a = some (ys.map val)) :=
  ⟨fun i H h s => ⟨ys.map val, val ys[i], lstAt_sq s, by simp [h]⟩, fun _ s => ⟨ys.map val, lstAt_sq s, by simp⟩, fun i H x H' h s y => by
    have e := y.2 _ (lstAt_sq s)
    rw [List.getElem?_map, List.getElem?_eq_getElem h] at e
    exact ⟨y.1, ys[i], List.getElem?_eq_getElem h, (Option.some.inj e).symm⟩⟩
theorem rv_range (lo : Int) (n : Nat) : RunsV (Itr lo n) (List.range n) (fun i => .int (lo + i)) (fun _ => True) :=
  ⟨fun _ _ h _ => by rw [List.length_range] at h; exact h, fun _ _ => by rw [List.length_range]; exact Nat.le_refl _, fun i _ _ _ h _ y => by
    rw [List.length_range] at h
    exact ⟨y.1, i, by rw [List.getElem?_range h], y.2⟩⟩
theorem lc_pure {α : Type} {ys : List α} {val : α → V} {tt : TT} {te : TE} {vs : List Nat} {Q : VK} (hR : RunsV J ys val S) (hS : ∀ H', Ex H1 H' → S H') (hz : ys.length < 1000000) (p : α → Bool) (f : α → V)
    (hs : ∀ y H', y ∈ ys → Ex H1 H' → ∀ (B : V → Hp → Prop) (A : Hp → Prop), (p y = true → ∀ H'', Ex H' H'' → B (f y) H'') → (p y = false → ∀ H'', Ex H' H'' → A H'') → g (val y) (wipe σ vs) H' fun σ2 H2 => wipe σ2 vs = wipe σ vs ∧ tt σ2 H2 fun b H3 => if b = true then te σ2 H3 B else A H3)
    (hd : ∀ D H', H1 D = none → Ex H1 H' → H' D = some (.lst ((ys.filter p).map f)) → Q (.ref D) H') :
    LcGoal J g tt te vs σ Q H1 := by
  have tk : ∀ {i : Nat} {y : α}, ys[i]? = some y → ys.take (i + 1) = ys.take i ++ [y] := fun {i y} e => by
    rw [List.take_succ, e]
    rfl
  refine lc_runs hR (fun _ => False) (fun i acc _ => acc = ((ys.take i).filter p).map f) (fun _ z => z.elim) (by simp) (fun i acc H' D o _ _ e => e) (fun i acc H' e _ => hS H' e) ?_ ?_
  · rintro D i acc x H' H'' hi L rfl ⟨rfl, y, hy, rfl⟩
    have hl : (((ys.take i).filter p).map f).length < 1000000 := by
      rw [List.length_map]
      have := List.length_filter_le p (ys.take i)
      rw [List.length_take] at this
      omega
    refine hs y H'' (List.mem_of_getElem? hy) L.fr _ _ (fun hp H3 e => ?_) (fun hp H3 e => ?_)
    · refine lc_yes L (fun i acc H' D o _ _ e => e) e hl ?_
      rw [tk hy, List.filter_append, List.map_append, List.filter_cons, if_pos hp]
      rfl
    · refine lc_no L e ?_
      rw [tk hy, List.filter_append, List.map_append, List.filter_cons, if_neg (by rw [hp]; decide)]
      simp
  · rintro D acc H' hD e h rfl
    rw [List.take_length] at h
    exact hd D H' hD e h
/-- no test -/
theorem lc_map {α : Type} {ys : List α} {val : α → V} {te : TE} {vs : List Nat} {Q : VK} (hR : RunsV J ys val S) (hS : ∀ H', Ex H1 H' → S H') (hz : ys.length < 1000000) (f : α → V)
    (hs : ∀ y H', y ∈ ys → Ex H1 H' → ∀ (B : V → Hp → Prop), (∀ H'', Ex H' H'' → B (f y) H'') → g (val y) (wipe σ vs) H' fun σ2 H2 => wipe σ2 vs = wipe σ vs ∧ te σ2 H2 B)
    (hd : ∀ D H', H1 D = none → Ex H1 H' → H' D = some (.lst (ys.map f)) → Q (.ref D) H')
    (hg : ∀ v σ H (P P' : L2.St → Hp → Prop), (∀ σ H, P σ H → P' σ H) → g v σ H P → g v σ H P' := by intro _ _ _ _ _ k h; exact k _ _ h) : LcGoal J g tYes te vs σ Q H1 := by
  refine lc_pure hR hS hz (fun _ => true) f (fun y H' hy e B A h1 h2 => ?_) (fun D H' hD e h => hd D H' hD e ?_)
  · exact hg _ _ _ _ _ (fun σ2 H2 h => ⟨h.1, h.2⟩) (hs y H' hy e B (h1 rfl))
  · rwa [List.filter_eq_self.mpr (fun _ _ => rfl)] at h
theorem st_yes {P : Bool → Hp → Prop} (h : P true H) : tYes σ H P := h
/-- isinstance(b, bool) -/
theorem st_isBool {Q : VK} {b : Bool} (h : Q (.bl true) H) : rIs [.bl b, .ty "bool"] H Q := ⟨"bool", rfl, true, by decide +kernel, h⟩
theorem st_iStr {te : TE} {R : It → Hp → Prop} (h : te σ H (fun v H1 => ∃ x, v = .str x ∧ R (Its x) H1)) : iStr te σ H R := h
theorem st_isStr {x : Str} {P : Str → Prop} (h : P x) : ∃ y, V.str x = .str y ∧ P y := ⟨x, rfl, h⟩
theorem st_iList {tl : TE} {R : It → Hp → Prop} (h : tl σ H (fun x H1 => ∃ a, x = .ref a ∧ (∃ xs, SqL K H1 a xs) ∧ R (Itl K a) H1)) : iList K tl σ H R := h
theorem st_isList {a : Addr} {xs : List V} {P : Addr → Prop} (h1 : lstAt H a = some xs) (h : P a) : ∃ b, V.ref a = .ref b ∧ (∃ xs, SqL K H b xs) ∧ P b := ⟨a, rfl, ⟨xs, lstAt_sq h1⟩, h⟩
theorem st_iTup {tl : TE} {R : It → Hp → Prop} (h : tl σ H (fun x H1 => ∃ a, x = .ref a ∧ (∃ xs, SqT K H1 a xs) ∧ R (Itt K a) H1)) : iTup K tl σ H R := h
theorem st_isTup {a : Addr} {xs : List V} {P : Addr → Prop} (h1 : tupAt H a = some xs) (h : P a) : ∃ b, V.ref a = .ref b ∧ (∃ xs, SqT K H b xs) ∧ P b := ⟨a, rfl, ⟨xs, tupAt_sq h1⟩, h⟩
theorem st_iR1 {ta : TA} {R : It → Hp → Prop} (h : ta σ H (fun vs H1 => ∃ j : Int, vs = [.int j] ∧ -(2 ^ 62) ≤ j ∧ j < 2 ^ 62 ∧ R (Itr 0 j.toNat) H1)) : iRng1 ta σ H R := h
theorem st_isR1 {j : Int} {P : Int → Prop} (h1 : -1000000000000 ≤ j ∧ j < 1000000000000) (h : P j) : ∃ i : Int, [V.int j] = [.int i] ∧ -(2 ^ 62) ≤ i ∧ i < 2 ^ 62 ∧ P i := ⟨j, rfl, by omega, by omega, h⟩
theorem st_iR2 {ta : TA} {R : It → Hp → Prop} (h : ta σ H (fun vs H1 => ∃ i j : Int, vs = [.int i, .int j] ∧ (-(2 ^ 62) ≤ i ∧ i < 2 ^ 62 ∧ -(2 ^ 62) ≤ j ∧ j < 2 ^ 62) ∧ R (Itr i (j - i).toNat) H1)) : iRng2 ta σ H R := h
theorem st_isR2 {i j : Int} {P : Int → Int → Prop} (h1 : -1000000000000 ≤ i ∧ i < 1000000000000 ∧ -1000000000000 ≤ j ∧ j < 1000000000000) (h : P i j) : ∃ i' j' : Int, [V.int i, V.int j] = [.int i', .int j'] ∧ (-(2 ^ 62) ≤ i' ∧ i' < 2 ^ 62 ∧ -(2 ^ 62) ≤ j' ∧ j' < 2 ^ 62) ∧ P i' j' := ⟨i, j, rfl, ⟨by omega, by omega, by omega, by omega⟩, h⟩
theorem st_iEn {ta : TA} {R : It → Hp → Prop} (h : ta σ H (fun vs H1 => ∃ a xs, vs = [.ref a] ∧ SqL K H1 a xs ∧ R (Ite K a) H1)) : iEnum K ta σ H R := h
theorem st_isEn {a : Addr} {xs : List V} {P : Addr → Prop} (h1 : lstAt H a = some xs) (h : P a) : ∃ b xs, [V.ref a] = [.ref b] ∧ SqL K H b xs ∧ P b := ⟨a, xs, rfl, lstAt_sq h1, h⟩
theorem st_iZp {ta : TA} {R : It → Hp → Prop} (h : ta σ H (fun vs H1 => ∃ a b xs ys, vs = [.ref a, .ref b] ∧ SqL K H1 a xs ∧ SqL K H1 b ys ∧ R (Itz K a b) H1)) : iZip K ta σ H R := h
theorem st_isZp {a b : Addr} {xs ys : List V} {P : Addr → Addr → Prop} (h1 : lstAt H a = some xs) (h2 : lstAt H b = some ys) (h : P a b) : ∃ a' b' xs ys, [V.ref a, V.ref b] = [.ref a', .ref b'] ∧ SqL K H a' xs ∧ SqL K H b' ys ∧ P a' b' := ⟨a, b, xs, ys, rfl, lstAt_sq h1, lstAt_sq h2, h⟩
theorem st_lc {wi : TI} {tt : TT} {te : TE} {vs : List Nat} {Q : VK} (h : wi σ H fun J H1 => LcGoal J g tt te vs σ Q H1) : tLc wi g tt te vs σ H Q := h
theorem st_for {wi : TI} {tb : TS} {D : Ends} (h : wi σ H fun J H1 => ForGoal J g tb D σ H1) : tFor wi g tb D σ H := h
end
section
variable {H : Hp} {Q : VK} {σ : L2.St}
theorem st_inC {c : Nat} {z : Str} (h : Q (.bl (decide (c ∈ z.cps.toList))) H) : rInU false (.str (tx [c])) (.str z) H Q := by
  refine ⟨_, rfl, ?_⟩
  show Q (.bl (!(Builtin.Str.occurrences z ⟨#[c]⟩ 0 z.length 1).isEmpty)) H
  rw [PySem.StrLaws.found_one]
  exact h
theorem st_ninC {c : Nat} {z : Str} (h : Q (.bl (!decide (c ∈ z.cps.toList))) H) : rInU true (.str (tx [c])) (.str z) H Q := by
  refine ⟨_, rfl, ?_⟩
  show Q (.bl (!(!(Builtin.Str.occurrences z ⟨#[c]⟩ 0 z.length 1).isEmpty))) H
  rw [PySem.StrLaws.found_one]
  exact h
theorem st_inL {x : V} {p : Addr} {xs : List V} {ds : List PyData} {d : PyData} (h1 : seqAt H p = some xs) (h2 : RpA H xs ds) (h3 : Rp H x d) (hd : min (PyData.depthAll ds) d.depth ≤ 60) (h : Q (.bl (ds.any fun y => PyData.eqv y d)) H) : rInU false x (.ref p) H Q := ⟨xs, ds, d, h1, h2, h3, hd, h⟩
theorem st_all {p : Addr} {bs : List Bool} {xs : List V} (h1 : H p = some (.lst xs)) (e : xs = bs.map V.bl) (h : Q (.bl (bs.all id)) H) : rAllU [.ref p] H Q := ⟨bs, by rw [lst_of h1, e], h⟩
theorem st_join {a : Str} {p : Addr} {ys : List Str} {xs : List V} {K : PySem.W.Frag} (h1 : H p = some (.lst xs)) (e : xs = ys.map V.str) (hz : (ys.map (·.length)).sum + ys.length * a.length ≤ 16777216) (h : Q (.str (Txt.join a ys)) H) :
    ∃ a' p', ∃ ys : List Str, V.str a = .str a' ∧ [V.ref p] = [.ref p'] ∧ (SqL K H p' (ys.map V.str) ∨ SqT K H p' (ys.map V.str)) ∧ (ys.map (·.length)).sum + ys.length * a'.length ≤ 16777216 ∧ Q (.str (Txt.join a' ys)) H :=
  ⟨a, p, ys, rfl, rfl, .inl (lstAt_sq (by rw [lst_of h1, e])), hz, h⟩
theorem st_gtup {K : PySem.W.Frag} {a : Addr} {xs : List V} {n : Nat} {t : TGs} {R : L2.St → Hp → Prop} (h1 : H a = some (.tup xs)) (hn : xs.length = n) (h : t xs σ H R) : gTup K n t (.ref a) σ H R := ⟨a, xs, rfl, tupAt_sq (tup_of h1), hn, h⟩
theorem st_glst {K : PySem.W.Frag} {a : Addr} {xs : List V} {n : Nat} {t : TGs} {R : L2.St → Hp → Prop} (h1 : H a = some (.lst xs)) (hn : xs.length = n) (h : t xs σ H R) : gLst K n t (.ref a) σ H R := ⟨a, xs, rfl, lstAt_sq (lst_of h1), hn, h⟩
theorem st_gcons {v : V} {r : List V} {t : TG} {u : TGs} {R : L2.St → Hp → Prop} (h : t v σ H fun σ' H' => u r σ' H' R) : gCons t u (v :: r) σ H R := ⟨v, r, rfl, h⟩
theorem st_gnil {R : L2.St → Hp → Prop} (h : R σ H) : gNil [] σ H R := ⟨rfl, h⟩
theorem st_m1 {r : V → List V → Hp → VK → Prop} {to te : TE} (h : to σ H (fun x H1 => (∃ a, x = .str a) ∧ te σ H1 fun y H2 => r x [y] H2 Q)) : tM1 r to te σ H Q := h
theorem st_isS {a : Str} {P : Prop} (h : P) : (∃ b, V.str a = .str b) ∧ P := ⟨⟨a, rfl⟩, h⟩
theorem st_bm {K : PySem.W.Frag} {T : String} {r : V → List V → Hp → VK → Prop} {to : TE} {t : TA} (h : to σ H (fun x H1 => tyV K T x H1 ∧ t σ H1 fun xs H2 => r x xs H2 Q)) : tBM K T r to t σ H Q := h
theorem st_bm0 {K : PySem.W.Frag} {T : String} {r : V → List V → Hp → VK → Prop} {to : TE} (h : to σ H (fun x H1 => tyV K T x H1 ∧ r x [] H1 Q)) : tBM0 K T r to σ H Q := h
theorem st_tyL {K : PySem.W.Frag} {p : Addr} {xs : List V} {P : Prop} (h1 : H p = some (.lst xs)) (h : P) : tyV K "list" (.ref p) H ∧ P := ⟨.inl ⟨rfl, xs, lstAt_sq (lst_of h1)⟩, h⟩
theorem st_app {p : Addr} {xs : List V} {y : V} (h1 : H p = some (.lst xs)) (hz : xs.length < 16777216) (h : Q .non (upd H p (.lst (xs ++ [y])))) : rAppend (.ref p) [y] H Q := ⟨p, xs, y, rfl, rfl, h1, by rw [sl16]; exact hz, h⟩
theorem st_listS {K : PySem.W.Frag} {z : Str} (hz : z.length ≤ 16777216) (h : ∀ p H', H p = none → Ex H H' → H' p = some (.lst (z.cps.toList.map fun c => V.str (tx [c]))) → Q (.ref p) H') : rListU K [.str z] H Q := ⟨hz, fun p hp => h p _ hp (Fr.new hp) upd_same⟩
theorem st_listQ {K : PySem.W.Frag} {a : Addr} {ys : List V} (h1 : seqAt H a = some ys) (h : ∀ p H', H p = none → Ex H H' → H' p = some (.lst ys) → Q (.ref p) H') : rListU K [.ref a] H Q := ⟨ys, seqAt_sq h1, fun p hp => h p _ hp (Fr.new hp) upd_same⟩
theorem st_tupS {K : PySem.W.Frag} {z : Str} (hz : z.length ≤ 16777216) (h : ∀ p H', H p = none → Ex H H' → H' p = some (.tup (z.cps.toList.map fun c => V.str (tx [c]))) → Q (.ref p) H') : rTupU K [.str z] H Q := ⟨hz, fun p hp => h p _ hp (Fr.new hp) upd_same⟩
theorem st_tupL {K : PySem.W.Frag} {a : Addr} {ys : List V} (h1 : lstAt H a = some ys) (h : ∀ p H', H p = none → Ex H H' → H' p = some (.tup ys) → Q (.ref p) H') : rTupU K [.ref a] H Q := ⟨ys, .inl ⟨lstAt_sq h1, fun p hp => h p _ hp (Fr.new hp) upd_same⟩⟩
def DispEnd (p : Addr) (Q : VK) (ps : List (V × V)) (H2 : Hp) : Prop := H2 p = some (.dK []) ∧ ∃ kvs : List (Key × V), ps = kvs.map (fun kv => (kV kv.1, kv.2)) ∧ kvs.length ≤ 15 ∧ Q (.ref p) (upd H2 p (.dK (mergeK [] kvs)))
theorem st_disp {trs : List (TE × TE)} (h : ∀ p H', H p = none → Ex H H' → H' p = some (.dK []) → tPairs trs σ H' (DispEnd p Q)) : tDisp trs σ H Q := fun p hp => h p _ hp (Fr.new hp) upd_same
theorem st_pair {tk tv : TE} {r : List (TE × TE)} {P : List (V × V) → Hp → Prop} (h : tk σ H fun x H1 => tv σ H1 fun y H2 => tPairs r σ H2 fun ps H3 => P ((x, y) :: ps) H3) : tPairs ((tk, tv) :: r) σ H P := h
theorem st_pairs0 {P : List (V × V) → Hp → Prop} (h : P [] H) : tPairs [] σ H P := h
theorem st_ixA {K : PySem.W.Frag} {p : Addr} {i : Int} {xs : List V} (h1 : seqAt H p = some xs) (h0 : 0 ≤ i) (hi : i < xs.length) (h : ∀ v, xs[i.toNat]? = some v → v ∈ xs → Q v H) : rIxU K (.ref p) (.int i) H Q := by
  obtain ⟨v, h2, h3⟩ := at_in h0 hi
  exact st_ixQ h1 h2 (h v h3 (List.mem_of_getElem? h3))
theorem st_clear {p : Addr} {xs : List V} (h1 : H p = some (.lst xs)) (h : Q .non (upd H p (.lst []))) : rClear (.ref p) [] H Q := ⟨p, xs, rfl, rfl, h1, h⟩
theorem st_isL {p : Addr} {xs : List V} {n : String} {b : Bool} (h1 : H p = some (.lst xs)) (h2 : kitB "list" n = some b) (h : Q (.bl b) H) : rIs [.ref p, .ty n] H Q := ⟨"list", by show tyO (H p) = _; rw [h1]; rfl, b, h2, h⟩
theorem st_isT {p : Addr} {xs : List V} {n : String} {b : Bool} (h1 : H p = some (.tup xs)) (h2 : kitB "tuple" n = some b) (h : Q (.bl b) H) : rIs [.ref p, .ty n] H Q := ⟨"tuple", by show tyO (H p) = _; rw [h1]; rfl, b, h2, h⟩
theorem st_isI {i : Int} {n : String} {b : Bool} (h2 : kitB "int" n = some b) (h : Q (.bl b) H) : rIs [.int i, .ty n] H Q := ⟨"int", rfl, b, h2, h⟩
theorem st_isB {i : Bool} {n : String} {b : Bool} (h2 : kitB "bool" n = some b) (h : Q (.bl b) H) : rIs [.bl i, .ty n] H Q := ⟨"bool", rfl, b, h2, h⟩
theorem st_isS' {i : Str} {n : String} {b : Bool} (h2 : kitB "str" n = some b) (h : Q (.bl b) H) : rIs [.str i, .ty n] H Q := ⟨"str", rfl, b, h2, h⟩
theorem kit_ii : kitB "int" "int" = some true := by decide +kernel
theorem kit_ib : kitB "int" "bool" = some false := by decide +kernel
theorem kit_il : kitB "int" "list" = some false := by decide +kernel
theorem kit_is : kitB "int" "str" = some false := by decide +kernel
theorem kit_it : kitB "int" "tuple" = some false := by decide +kernel
theorem kit_ll : kitB "list" "list" = some true := by decide +kernel
theorem kit_lt : kitB "list" "tuple" = some false := by decide +kernel
theorem kit_tt : kitB "tuple" "tuple" = some true := by decide +kernel
theorem kit_tl : kitB "tuple" "list" = some false := by decide +kernel
theorem kit_ss : kitB "str" "str" = some true := by decide +kernel
theorem kit_bb : kitB "bool" "bool" = some true := by decide +kernel
theorem kit_bi : kitB "bool" "int" = some true := by decide +kernel
theorem cutV_from (xs : List V) (k : Nat) : cutV xs (some (k : Int)) none = xs.drop k := by
  unfold cutV
  rw [HT.sIx_nat, HT.sIx_none]
  by_cases h : k ≤ xs.length
  · rw [Nat.min_eq_left h, List.take_of_length_le (by rw [List.length_drop]; exact Nat.le_refl _)]
  · rw [Nat.min_eq_right (by omega), List.drop_of_length_le (Nat.le_refl _), List.drop_of_length_le (by omega)]
    simp
/-- a table that is read -/
structure TabR (H : Hp) (p : Addr) (rs : List Addr) (row : Nat → List V) : Prop where
  at_ : H p = some (.lst (rs.map V.ref))
  rows : ∀ k r, rs[k]? = some r → H r = some (.lst (row k))
theorem TabR.ex {H H' : Hp} {p : Addr} {rs : List Addr} {row : Nat → List V} (T : TabR H p rs row) (e : Ex H H') : TabR H' p rs row := ⟨e.get T.at_, fun k r h => e.get (T.rows k r h)⟩
theorem refs_at {rs : List Addr} {i : Nat} {r : Addr} (h : rs[i]? = some r) : atI (rs.map V.ref) (i : Int) = some (V.ref r) := by
  unfold atI
  rw [Evl.ixN_nat (by rw [List.length_map]; exact (List.getElem?_eq_some_iff.mp h).1)]
  show (rs.map V.ref)[i]? = _
  rw [List.getElem?_map, h]
  rfl
theorem at_last {xs : List V} {n : Nat} {v : V} (hl : xs.length = n + 1) (h : xs[n]? = some v) : atI xs (-1) = some v := by
  unfold atI ixN
  rw [if_neg (by decide), hl, if_pos (by omega)]
  have e : (-1 + ((n + 1 : Nat) : Int)).toNat = n := by omega
  show xs[(-1 + ((n + 1 : Nat) : Int)).toNat]? = _
  rw [e]
  exact h
/-- x is a thing whose type is known -/
def Ty (H : Hp) (v : V) : Prop := ∃ t, tyN H v = some t
theorem ty_lst {p : Addr} {xs : List V} (h : H p = some (.lst xs)) : Ty H (.ref p) := ⟨"list", by show tyO (H p) = _; rw [h]; rfl⟩
theorem ty_str (z : Str) : Ty H (.str z) := ⟨"str", rfl⟩
theorem ty_int (z : Int) : Ty H (.int z) := ⟨"int", rfl⟩
theorem ty_bl (z : Bool) : Ty H (.bl z) := ⟨"bool", rfl⟩
theorem ty_non : Ty H .non := ⟨"NoneType", rfl⟩
theorem tyN_ex {H' : Hp} {v : V} {t : String} (e : Ex H H') (h : tyN H v = some t) : tyN H' v = some t := by
  cases v with
  | ref p =>
    have h : tyO (H p) = some t := h
    show tyO (H' p) = some t
    cases q : H p with
    | none => rw [q] at h; cases h
    | some o =>
      rw [e p o (fun z => z) q]
      rw [q] at h
      exact h
  | _ => exact h
theorem Ty.ex {H' : Hp} {v : V} (h : Ty H v) (e : Ex H H') : Ty H' v := by
  obtain ⟨t, h⟩ := h
  exact ⟨t, tyN_ex e h⟩
theorem cutS_len (z : Str) (lo hi : Option Int) : (cutS z lo hi).length ≤ z.length := by
  show ((z.cps.toList.drop _).take _).toArray.size ≤ z.cps.size
  simp only [List.size_toArray, List.length_take, List.length_drop, Array.length_toList]
  omega
def isStrV : V → Bool
  | .str _ => true
  | _ => false
theorem kb_str : kitB "NoneType" "str" = some false ∧ kitB "bool" "str" = some false ∧ kitB "int" "str" = some false ∧ kitB "str" "str" = some true ∧ kitB "list" "str" = some false ∧ kitB "tuple" "str" = some false ∧ kitB "dict" "str" = some false := by decide +kernel
theorem kb_bool : kitB "NoneType" "bool" = some false ∧ kitB "bool" "bool" = some true ∧ kitB "int" "bool" = some false ∧ kitB "str" "bool" = some false ∧ kitB "list" "bool" = some false ∧ kitB "tuple" "bool" = some false ∧ kitB "dict" "bool" = some false := by decide +kernel
theorem st_isStrT {x : V} (h1 : Ty H x) (h : Q (.bl (isStrV x)) H) : rIs [x, .ty "str"] H Q := by
  obtain ⟨t, h1⟩ := h1
  obtain ⟨k1, k2, k3, k4, k5, k6, k7⟩ := kb_str
  refine st_is h1 (b := isStrV x) ?_ h
  cases x with
  | ref p =>
    have h1 : tyO (H p) = some t := h1
    unfold tyO at h1
    split at h1 <;> first | (cases h1; assumption) | cases h1
  | _ => first | (cases h1; assumption) | cases h1
end
theorem lstAt_ex {H H' : Hp} {a : Addr} {xs : List V} (e : Ex H H') (h : lstAt H a = some xs) : lstAt H' a = some xs := by
  unfold lstAt at h ⊢
  cases q : H a with
  | none => rw [q] at h; cases h
  | some o => rw [e a o (fun z => z) q]; rw [q] at h; exact h
theorem tupAt_ex {H H' : Hp} {a : Addr} {xs : List V} (e : Ex H H') (h : tupAt H a = some xs) : tupAt H' a = some xs := by
  unfold tupAt at h ⊢
  cases q : H a with
  | none => rw [q] at h; cases h
  | some o => rw [e a o (fun z => z) q]; rw [q] at h; exact h
mutual
theorem Rp.ex {H H' : Hp} (e : Ex H H') : ∀ {v : V} {d : PyData}, Rp H v d → Rp H' v d
  | _, _, .non => .non
  | _, _, .bl b => .bl b
  | _, _, .int i => .int i
  | _, _, .str x => .str x
  | _, _, .lst h k => .lst (lstAt_ex e h) (RpA.ex e k)
  | _, _, .tup h k => .tup (tupAt_ex e h) (RpA.ex e k)
theorem RpA.ex {H H' : Hp} (e : Ex H H') : ∀ {vs : List V} {ds : List PyData}, RpA H vs ds → RpA H' vs ds
  | _, _, .nil => .nil
  | _, _, .cons h k => .cons (Rp.ex e h) (RpA.ex e k)
end
theorem rpA_map {H : Hp} {α : Type} {val : α → V} {enc : α → PyData} : ∀ {xs : List α}, (∀ x ∈ xs, Rp H (val x) (enc x)) → RpA H (xs.map val) (xs.map enc)
  | [], _ => .nil
  | a :: r, h => .cons (h a List.mem_cons_self) (rpA_map fun x hx => h x (List.mem_cons_of_mem _ hx))
theorem eqv_int (a b : Int) : PyData.eqv (.int a) (.int b) = decide (a = b) := by simp only [PyData.eqv]; rfl
theorem eqv_str (a b : Str) : PyData.eqv (.str a) (.str b) = decide (a = b) := by simp only [PyData.eqv]; rfl
theorem depth_map {α : Type} {enc : α → PyData} {n : Nat} : ∀ {xs : List α}, (∀ x ∈ xs, (enc x).depth ≤ n) → PyData.depthAll (xs.map enc) ≤ n
  | [], _ => by simp [PyData.depthAll]
  | a :: r, h => by
    simp only [List.map_cons, PyData.depthAll]
    exact Nat.max_le.mpr ⟨h a List.mem_cons_self, depth_map fun x hx => h x (List.mem_cons_of_mem _ hx)⟩
structure Df (K : PySem.W.Frag) (mg : Str → Option Value) (x : Str) (st : Stmt) (ps : List Str) (f : Addr) (fd : FuncData) : Prop where
  g : mg x = some (.ref f)
  F : Fun K x x st f fd
  b : Binds K fd ps []
theorem df_mk {K : PySem.W.Frag} {h : Heap} {mg : Str → Option Value} {x : Str} {st : Stmt} {ps : List Str} {f : Addr} {oc : Value} {od an : Option Addr} {osl : Array (Option Value)} {kV dc pm cd ct : Value} (X : K.In h) (G : h.Ns mainGlobals mg)
    (a : PySem.W.nsIn K mainGlobals x = some (some (.ref f))) (l : K.lookup f = some ⟨oc, od, .func (PySem.W.fnOf x x (defArgs st) (defBody st) (defScope st) .none kV dc pm an cd ct), osl⟩) (c : PySem.W.codeIn K cd x = true) (k : PySem.W.keepIn K (.ref f) = true)
    (hb : ∀ (kV doc pm : Value) (an : Option Addr) (cdv ct : Value) (us : List Value), us.length = ps.length → bindArgs (PySem.W.fnOf x x (defArgs st) (defBody st) (defScope st) .none kV doc pm an cdv ct) ⟨us, []⟩ = pure (ps.zip us)) :
    Df K mg x st ps f (PySem.W.fnOf x x (defArgs st) (defBody st) (defScope st) .none kV dc pm an cd ct) :=
  have F := fun_mk (st := st) l c k
  ⟨PySem.W.mg_of X G a, F, F.binds hb⟩
/-- the script: a list of ints that is read, never written -/
def Scr (K : PySem.W.Frag) (H : Hp) (a : Addr) (ns : List Int) : Prop :=
  (∃ o, H a = some (.frz o (.lst (ns.map V.int)))) ∨ ∃ (o : Obj) (its : Array Value) (n : Nat), K.lookup a = some o ∧ o.cls = .type "list" ∧ o.dict = none ∧ o.data = .seq its n ∧ its.size ≤ sizeLine ∧ Vals (ns.map V.int) its.toList
theorem FrP.fresh {H0 H1 H2 : Hp} {p : Addr} (e : Ex H0 H1) (h : H0 p = none) (f : FrP p H1 H2) : Ex H0 H2 := fun b o _ q => f b o (ne_of_none q h) (e b o (fun z => z) q)
theorem tx_nil : ("" : Str) = tx [] := by decide +kernel
theorem app_tx (a b : List Nat) : tx a ++ tx b = tx (a ++ b) := tx_append a b
/-- texts joined by nothing -/
theorem join_txs (ls : List (List Nat)) : Txt.join "" (ls.map tx) = tx ls.flatten := by
  show Builtin.Str.glued "" _ = _
  rw [PySem.StrLaws.glued_eq_join]
  induction ls with
  | nil => rfl
  | cons a r ih =>
    cases r with
    | nil => show tx a = tx (a ++ []); rw [List.append_nil]
    | cons b r =>
      show tx a ++ "" ++ Str.join "" ((b :: r).map tx) = tx (a ++ (b :: r).flatten)
      rw [ih, tx_nil, app_tx, app_tx, List.append_nil]
theorem Scr.ex {K : PySem.W.Frag} {H H' : Hp} {a : Addr} {ns : List Int} (h : Scr K H a ns) (e : Ex H H') : Scr K H' a ns := by
  rcases h with ⟨o, h⟩ | h
  · exact .inl ⟨o, e.get h⟩
  · exact .inr h
theorem Scr.frp {K : PySem.W.Frag} {H H' : Hp} {a p : Addr} {ns : List Int} (h : Scr K H a ns) (hp : Purse H p) (e : FrP p H H') : Scr K H' a ns := by
  rcases h with ⟨o, h⟩ | h
  · refine .inl ⟨o, e.get (fun z => ?_) h⟩
    obtain ⟨x, y, z', q⟩ := hp
    rw [z, q] at h
    cases h
  · exact .inr h
end Zb
namespace Zb
open PySem PySem.Spec PyProof.Rows L2
def Ites (x : Str) : It := ⟨fun i _ => i < x.cps.size, fun i H v H' => ∃ T c, v = .ref T ∧ H T = none ∧ H' = upd H T (.tup [.int (i : Nat), .str (tx [c])]) ∧ x.cps[i]? = some c, fun i _ => i = x.cps.size⟩
def iEnS (ta : TA) : TI := fun σ H R => ta σ H fun vs H1 => ∃ x, vs = [.str x] ∧ R (Ites x) H1
theorem st_iEnS {ta : TA} {σ : L2.St} {H : Hp} {R : It → Hp → Prop} (h : ta σ H (fun vs H1 => ∃ x, vs = [.str x] ∧ R (Ites x) H1)) : iEnS ta σ H R := h
theorem st_isEnS {x : Str} {P : Str → Prop} (h : P x) : ∃ y, [V.str x] = [.str y] ∧ P y := ⟨x, rfl, h⟩
end Zb
namespace Zb
open PySem PySem.Spec PyProof.Rows L2
def clsA (K : PySem.W.Frag) (nm : Str) : Addr := match PySem.W.nsIn K mainGlobals nm with
  | some (some (.ref C)) => C
  | _ => 0
theorem clsA_of {K : PySem.W.Frag} {nm : Str} {C : Addr} (h : PySem.W.nsIn K mainGlobals nm = some (some (.ref C))) : clsA K nm = C := by unfold clsA; rw [h]
/-- a class that is named in an except clause -/
structure EC (K : PySem.W.Frag) (mg : Str → Option Value) (nm : Str) : Prop where
  g : mg nm = some (.ref (clsA K nm))
  sb : PySem.W.subIn K (.ref (clsA K nm)) (.type "BaseException") = some true
  hd : PySem.W.hasDictIn K (clsA K nm) = true
  ty : PySem.W.typeIn K (.ref (clsA K nm)) = some (.type "type")
/-- what an isinstance, a field, of an exception in hand wants -/
structure XI (K : PySem.W.Frag) (C : Addr) : Prop where
  hc : (PySem.W.clsIn K C).isSome = true
  ga : PySem.W.findIn K (.ref C) "__getattribute__" = some (some (.builtin "BaseException.__getattribute__"))
  gg : PySem.W.findIn K (.ref C) "__getattr__" = some none
  sb : PySem.W.subIn K (.ref C) (.type "BaseException") = some true
  hd : PySem.W.hasDictIn K C = true
  ca : PySem.W.findIn K (.ref C) "__class__" = some (some (.builtin "object.__class__"))
  cn : PySem.W.specialIn K (.builtin "object.__class__") "__get__" = some (some (.builtin "getset_descriptor.__get__"))
  ct : PySem.W.takesIn K (.builtin "object.__class__") = some true
  cm : PySem.W.mroIn K C (.type "object") = some true
theorem EC.xm {K : PySem.W.Frag} {mg : Str → Option Value} {nm : Str} {cls : Value} {b : Bool} (e : EC K mg nm) (h : PySem.W.subIn K cls (.ref (clsA K nm)) = some b) : PySem.W.exmOne K cls (.ref (clsA K nm)) = some b := PySem.W.exm_ref e.sb e.hd e.ty h
theorem EC.kit {K : PySem.W.Frag} {mg : Str → Option Value} {nm : Str} {D : Addr} {b : Bool} (e : EC K mg nm) (h : PySem.W.subIn K (.ref D) (.ref (clsA K nm)) = some b) (hs : PySem.W.subIn K (.ref (clsA K nm)) (.ref (clsA K nm)) = some true) : PySem.W.kitOne K (.ref D) (.ref (clsA K nm)) = some b := by
  unfold PySem.W.kitOne
  by_cases q : D = clsA K nm
  · subst q
    rw [hs] at h
    cases h
    rw [if_pos (beq_self_eq_true _)]
  · have hq : ((Value.ref D) == (Value.ref (clsA K nm))) = false := beq_eq_false_iff_ne.mpr fun z => q (Value.ref.inj z)
    rw [hq, if_neg Bool.false_ne_true]
    show (if ((PySem.W.clsIn K (clsA K nm)).isSome && PySem.W.typeIn K (.ref (clsA K nm)) == some (.type "type")) = true then PySem.W.subIn K (.ref D) (.ref (clsA K nm)) else none) = some b
    obtain ⟨cd, hc, _⟩ := PySem.W.any_some e.hd
    rw [hc, e.ty]
    exact h
abbrev Cl := Value × Option Nat × (Addr → Value → Option Addr → TS)
def goneD (i : Nat) (D : Ends) : Ends := { nx := fun σ' H' => D.nx (σ'.set i none) H', rt := D.rt, bk := fun σ' H' => D.bk (σ'.set i none) H', ct := fun σ' H' => D.ct (σ'.set i none) H' }
def clD : Option Nat → Ends → Ends
  | none, D => D
  | some i, D => goneD i D
def clS : Option Nat → Addr → L2.St → L2.St
  | none, _, σ => σ
  | some i, a, σ => σ.set i (some (.ref a))
def wG (K : PySem.W.Frag) (Wout : WX) (D : Ends) : List Cl → WX
  | [] => Wout
  | (c, i, ts) :: r => fun cls d σ H => ∃ b, PySem.W.exmOne K cls c = some b ∧ (b = true → ∀ a, H a = none → ts a cls d (clD i D) (clS i a σ) H) ∧ (b = false → wG K Wout D r cls d σ H)
inductive HdG (X : Cx) : List ExceptHandler → List Cl → Prop
  | nil : HdG X [] []
  | one {x : Str} {c : Value} {ts : Addr → Value → Option Addr → TS} {b₀ : Stmt} {suite : List Stmt} {np pos' : Pos} {hds : List ExceptHandler} {l : List Cl} (hc : Names X x c)
      (hsu : ∀ (a : Addr) (oe : Obj) (cls : Value) (d : Option Addr) (pn : List (Addr × Obj)), Zc cls d oe → (∃ vs, oe.data = .fields vs) → PSs (X.suite a ((a, oe) :: pn)) (b₀ :: suite) (ts a cls d)) (r : HdG X hds l) :
      HdG X (.ExceptHandler (some (.Name x np)) none (b₀ :: suite) pos' :: hds) ((c, none, ts) :: l)
  | named {x n : Str} {c : Value} {i : Nat} {ts : Addr → Value → Option Addr → TS} {b₀ : Stmt} {suite : List Stmt} {np pos' : Pos} {hds : List ExceptHandler} {l : List Cl} (hN : X.N.Nodup) (hi : X.N[i]? = some n) (hln : X.env.kindOf n = some .local) (hc : Names X x c)
      (hsu : ∀ (a : Addr) (oe : Obj) (cls : Value) (d : Option Addr) (pn : List (Addr × Obj)), Zc cls d oe → (∃ vs, oe.data = .fields vs) → PSs (X.suite a ((a, oe) :: pn)) (b₀ :: suite) (ts a cls d)) (r : HdG X hds l) :
      HdG X (.ExceptHandler (some (.Name x np)) (some n) (b₀ :: suite) pos' :: hds) ((c, some i, ts) :: l)
section
variable {X : Cx} {body orelse : List Stmt} {h₀ : ExceptHandler} {hds : List ExceptHandler} {l : List Cl} {pos : Pos} {tb : WX → TS} {u : TS} {Wout : WX}
def tTry (K : PySem.W.Frag) (Wout : WX) (tb : WX → TS) (u : TS) (l : List Cl) : TS := fun D σ H => tb (wG K Wout D l) { D with nx := u D } σ H
theorem ps_tryG (hs : X.stack = X.env :: X.outer) (hf : X.env.frame = some X.env.locals) (tk : Takes X Wout)
    (hb : ∀ (W : WX) (pn : List (Addr × Obj)) (xe : Value → Shared → Prop), Takes (X.tr pn xe) W → PassesOwn (model X.prog X.w) X.A X.env xe → PSs (X.tr pn xe) body (tb W))
    (hh : HdG X (h₀ :: hds) l) (ho : PSs X orelse u) : PS X (.Try body (h₀ :: hds) orelse [] pos) (tTry X.K Wout tb u l) := by
  refine ⟨fun pins s σ H D I h => ?_⟩
  have ok := I.ok
  have hfr : X.A.frames = some (X.env :: X.outer) := by rw [ok.frames, hs]
  refine wpAny_Try_except ?_
  refine wpAny_mono ((hb (wG X.K Wout D l) (X.pn ++ pins) (fun e s₁ => wpAny (model X.prog X.w) X.A (noteFrame e X.env) (fun _ s₂ => wpAny (model X.prog X.w) X.A (setFlight e none) (fun _ s₃ =>
    wpAny (model X.prog X.w) X.A (handleBy e X.env (h₀ :: hds)) (SP X pins D) X.xe s₃) X.xe s₂) X.xe s₁) (fun u s' xx => ?_) PassesOwn.looking).run [] s σ H { D with nx := u D } (I.toTry _) h) (fun f s1 hsp => ?_) (fun e s1 he => he)
  · obtain ⟨a, B, sI, pins', σ', H', cls, d, rfl, J', nb, up, sky, na, os, ag, w⟩ := xx
    have J : Inv X pins σ' H' sI := J'.ofTry ok
    have sky' : Sky B (X.env :: X.outer) a (Zc cls d) X.env.locals s'.heap := by rw [← hs]; exact sky
    show wpAny (model X.prog X.w) X.A (noteFrame (.ref a) X.env) _ _ _
    refine Sky.land Zc.steady hfr hf sky' fun h3 fl3 up3 => ?_
    have J3 : Inv X pins σ' H' { s' with heap := h3 } := J.landed nb fl3.1 (up.trans up3) os ag
    obtain ⟨oe3, vs3, he3, hz3, hd3⟩ := fl3.there
    have notFr : ∀ {h : Heap} {o : Obj} {vs : Array Value}, h.FunFrames B (X.env :: X.outer) → h.get? a = some o → o.data = .fields vs → a ∉ frs (X.env :: X.outer) := fun {h o vs} ff e dd hm => by
      obtain ⟨_, o', e', hnf⟩ := ff.mem hm
      rw [e] at e'; cases e'
      exact hnf _ dd
    have nfr := notFr fl3.2.2.1 he3 hd3
    have nL : a ≠ X.env.locals := fun z => nfr (List.mem_filterMap.mpr ⟨X.env, List.mem_cons_self, by rw [hf, z]⟩)
    have nF : a ∉ X.fs := fun hm => by
      obtain ⟨e, he, q⟩ := List.mem_filterMap.mp hm
      exact nfr (List.mem_filterMap.mpr ⟨e, List.mem_cons_of_mem _ he, q⟩)
    have S3 := J3.suite he3 hd3 na nL nF
    have LT : PySem.W.Looks (model X.prog X.w) h3 (typeOf (.ref a)) cls := fun A Q E s k q => wpAny_typeOf_ref (k _ _ he3) (by rw [hz3.1]; exact q)
    have test : ∀ {x : Str} {c : Value} {np : Pos} {Q : Value → Shared → Prop} {E : Value → Shared → Prop}, Names X x c → Q c { s' with heap := h3 } → wpAny (model X.prog X.w) (X.A.mark (some (.ref a))) (eval (.Name x np) X.env) Q E { s' with heap := h3 } := fun {x c np Q E} hc q => by
      obtain ⟨hg, hdbg, hm | ⟨hm, hv, hnn⟩⟩ := hc
      · exact ld_glob (X := X.suite a ((a, oe3) :: (X.pn ++ pins))) S3 hg hm q hdbg
      · exact ld_blt (X := X.suite a ((a, oe3) :: (X.pn ++ pins))) S3 hg hm hv q hnn hdbg
    have go : ∀ {hds' : List ExceptHandler} {l' : List Cl}, HdG X hds' l' → wG X.K Wout D l' cls d σ' H' →
        wpAny (model X.prog X.w) X.A (handleBy (.ref a) X.env hds') (SP X pins D) X.xe { s' with heap := h3 } := by
      intro hds' l' hk
      induction hk with
      | nil =>
        intro w
        refine wpAny_handleBy_nil ?_
        obtain ⟨k1, k2, k3, oe, vs, T, oT, ts', he, hz, hd, h1, hr⟩ := id fl3
        unfold PySem.passOn
        refine wpAny_bind (wpAny_field he hd h1 ?_)
        rw [if_neg (show ¬ ((Value.ref T == Value.none) = true) from by simp)]
        have fin : wpAny (model X.prog X.w) X.A (setFlight (.ref a) X.env.frame) (fun _ s4 => wpAny (model X.prog X.w) X.A (throw (.ref a) : Sem Flow) (SP X pins D) X.xe s4) X.xe { s' with heap := h3 } := by
          rw [hf]
          refine HandSPX.setFlight_upZ fl3 fun h4 hh4 up4 => wpAny_throw (tk _ _ ?_)
          exact ⟨a, B, sI, pins, σ', H', cls, d, rfl, J, nb, (up.trans up3).trans up4, .inr (.inr (by rw [hs]; exact hh4)), na, os, ag, w⟩
        first
          | exact wpAny_bind (wpAny_pure (wpAny_bind fin))
          | exact wpAny_bind fin
      | @one x c ts b₀ suite np pos' hds2 l2 hc hsu r ih =>
        intro w
        obtain ⟨b, hb1, hyes, hno⟩ := w
        refine wpAny_handleBy_cons (codeAny_handlers_test ?_) (by intro q; cases q)
        have LM := PySem.W.exm_one (M := model X.prog X.w) (J3.kIn) LT hb1
        refine test hc (LM.here ?_)
        cases b with
        | true =>
          refine codeAny_handlers_suite ?_
          refine HandSPX.lands_againZ fl3 fun h4 fl4 up4 => ?_
          have J4 : Inv X pins σ' H' { s' with heap := h4 } := J.landed nb fl4.1 ((up.trans up3).trans up4) os ag
          obtain ⟨oe4, vs4, he4, hz4, hd4⟩ := fl4.there
          have S4 := J4.suite he4 hd4 na nL nF
          refine wpAny_mono ((hsu a oe4 cls d (X.pn ++ pins) hz4 ⟨_, hd4⟩).run [] _ _ H' _ S4 (hyes rfl a na)) (fun f s6 hsp => ?_) (fun _ _ z => False.elim z)
          cases f with
          | next =>
            obtain ⟨σ6, H6, S6, q6⟩ := hsp
            exact ⟨_, _, S6.unsuite ok, q6⟩
          | brk =>
            obtain ⟨σ6, H6, S6, q6⟩ := hsp
            exact ⟨_, _, S6.unsuite ok, q6⟩
          | cont =>
            obtain ⟨σ6, H6, S6, q6⟩ := hsp
            exact ⟨_, _, S6.unsuite ok, q6⟩
          | ret u =>
            obtain ⟨v6, σ6, H6, S6, r6, q6⟩ := hsp
            exact ⟨_, _, _, S6.unsuite ok, r6, q6⟩
        | false =>
          show wpAny _ X.A (handleBy (.ref a) X.env hds2) _ _ _
          exact ih (hno rfl)
      | @named x n c i ts b₀ suite np pos' hds2 l2 hN hi hln hc hsu r ih =>
        intro w
        obtain ⟨b, hb1, hyes, hno⟩ := w
        refine wpAny_handleBy_cons (codeAny_handlers_test ?_) (by intro q; cases q)
        have LM := PySem.W.exm_one (M := model X.prog X.w) (J3.kIn) LT hb1
        refine test hc (LM.here ?_)
        have hloc : Loc X.env.scope n := .inl hln
        cases b with
        | true =>
          refine codeAny_handlers_suite_as ?_
          refine HandSPX.lands_againZ fl3 fun h4 fl4 up4 => ?_
          have J4 : Inv X pins σ' H' { s' with heap := h4 } := J.landed nb fl4.1 ((up.trans up3).trans up4) os ag
          obtain ⟨oe4, vs4, he4, hz4, hd4⟩ := fl4.there
          have S4 := J4.suite he4 hd4 na nL nF
          refine store_ok (X := X.suite a ((a, oe4) :: (X.pn ++ pins))) (v := .ref a) S4 hN hi hloc rfl (fun s5 S5 => ?_) (.inr hln)
          refine wpAny_mono ((hsu a oe4 cls d (X.pn ++ pins) hz4 ⟨_, hd4⟩).run [] s5 _ H' _ S5 (hyes rfl a na)) (fun f s6 hsp => ?_) (fun _ _ z => False.elim z)
          have end_ : ∀ {σ6 : L2.St} {H6 : Hp} {Q : Shared → Prop}, Inv (X.suite a ((a, oe4) :: (X.pn ++ pins))) [] σ6 H6 s6 → (∀ s7, Inv X pins (σ6.set i none) H6 s7 → Q s7) →
              wpAny (model X.prog X.w) X.A (do bindName X.env n .none; unbindBehindTheSuite X.env n pos') (fun _ s7 => Q s7) X.xe s6 := fun {σ6 H6 Q} S6 hq => gone_ok (S6.unsuite ok) hN hi hln hq
          cases f with
          | next =>
            obtain ⟨σ6, H6, S6, q6⟩ := hsp
            exact end_ S6 fun s7 J7 => ⟨_, _, J7, q6⟩
          | brk =>
            obtain ⟨σ6, H6, S6, q6⟩ := hsp
            exact end_ S6 fun s7 J7 => ⟨_, _, J7, q6⟩
          | cont =>
            obtain ⟨σ6, H6, S6, q6⟩ := hsp
            exact end_ S6 fun s7 J7 => ⟨_, _, J7, q6⟩
          | ret u =>
            obtain ⟨v6, σ6, H6, S6, r6, q6⟩ := hsp
            exact end_ S6 fun s7 J7 => ⟨_, _, _, J7, r6, q6⟩
        | false =>
          show wpAny _ X.A (handleBy (.ref a) X.env hds2) _ _ _
          exact ih (hno rfl)
    exact go hh w
  · cases f with
    | next =>
      obtain ⟨σ', H', J', q⟩ := hsp
      exact ho.run pins s1 σ' H' D (J'.ofTry ok) q
    | brk =>
      obtain ⟨σ', H', J', q⟩ := hsp
      exact ⟨σ', H', J'.ofTry ok, q⟩
    | cont =>
      obtain ⟨σ', H', J', q⟩ := hsp
      exact ⟨σ', H', J'.ofTry ok, q⟩
    | ret u =>
      obtain ⟨v, σ', H', J', r, q⟩ := hsp
      exact ⟨v, σ', H', J'.ofTry ok, r, q⟩
end
def XeP (K : PySem.W.Frag) (a : Addr) (cls : Value) (d : Option Addr) (n : Str) (Q : VK) : VK := fun x H1 => x = .ref a ∧ ∃ C, cls = .ref C ∧ XI K C ∧ PySem.W.findIn K (.ref C) n = some none ∧ ∃ (dd : Addr) (fs : List (Str × V)) (v : V), d = some dd ∧ H1 dd = some (.xd fs) ∧ fs.lookup n = some v ∧ Q v H1
def tXe (K : PySem.W.Frag) (a : Addr) (cls : Value) (d : Option Addr) (n : Str) (te : TE) : TE := fun σ H Q => te σ H (XeP K a cls d n Q)
theorem pe_xe {X : Cx} {a : Addr} {oe : Obj} {cls : Value} {d : Option Addr} {pn : List (Addr × Obj)} {e : Expr} {te : TE} {pos : Pos} {n : Str}
    (hz : Zc cls d oe) (hf : ∃ vs, oe.data = .fields vs) (he : PE (X.suite a ((a, oe) :: pn)) e te) (hb : attributeBase e n X.env (eval e X.env) = eval e X.env := by rfl) :
    PE (X.suite a ((a, oe) :: pn)) (.Attribute e n pos) (tXe X.K a cls d n te) := by
  refine ⟨fun pins s σ H Q I h => ?_⟩
  refine attr_of hb (thn (he.run pins s σ H _ I h) fun u s1 hh => ?_)
  obtain ⟨x, H1, I1, rx, ex, C, ec, T, hno, dd, fs, v, ed, ea, l, q⟩ := hh
  subst ex
  obtain rfl : u = Value.ref a := rx
  subst ec
  subst ed
  obtain ⟨ha, _⟩ := I1.pin (a, oe) (List.mem_append_left _ List.mem_cons_self)
  obtain ⟨vs, hd⟩ := hf
  have hx : ObjOk X.prog X.w H1 s1.heap dd (.xd fs) := I1.hok dd _ ea
  obtain ⟨mA, hns, hr⟩ := hx
  obtain ⟨od, ho, hl⟩ := lookIn_ns hns
  obtain ⟨u, hu, ru⟩ := RelO.some_of (v := v) (o := mA n) (by rw [← l]; exact hr n)
  have J : PySem.W.InstAt s1.heap a oe C (some od) := ⟨ha, hz.1, by unfold PySem.W.notCls; rw [hd] <;> rfl, by rw [hz.2]; exact ho⟩
  exact HandSPX.exc_get I1.kIn J T.ga T.gg T.sb (PySem.W.findObj_own T.hd hno rfl (by rw [hl, hu])) (handed_of ru) ⟨v, H1, I1.tok _, ru, q⟩
def rIsX (K : PySem.W.Frag) (a : Addr) (cls : Value) (d : Option Addr) : List V → Hp → VK → Prop := fun xs H Q => ∃ (c : V) (cv : Value) (b : Bool) (C dd : Addr) (fs : List (Str × V)), xs = [.ref a, c] ∧ (∀ u, RelV c u → u = cv) ∧ cls = .ref C ∧ XI K C ∧ d = some dd ∧ H dd = some (.xd fs) ∧ PySem.W.kitOne K (.ref C) cv = some b ∧ Q (.bl b) H
theorem call_isX {X : Cx} {a : Addr} {cls : Value} {d : Option Addr} {oe : Obj} {pn : List (Addr × Obj)} (hz : Zc cls d oe) (hf : ∃ vs, oe.data = .fields vs) : CallR (X.suite a ((a, oe) :: pn)) (.builtin "isinstance") (rIsX X.K a cls d) := by
  intro pins s σ H xs us Q I r h
  obtain ⟨c, cv, b, C, dd, fs, rfl, hcv, ec, T, ed, ea, e, q⟩ := h
  subst ec
  subst ed
  cases r with
  | cons rx rr =>
    cases rr with
    | cons rt rr =>
      cases rr
      cases rx
      have ecv := hcv _ rt
      subst ecv
      obtain ⟨hget, _⟩ := I.pin (a, oe) (List.mem_append.mpr (.inl List.mem_cons_self))
      obtain ⟨vs, hv⟩ := hf
      have hx : ObjOk X.prog X.w H s.heap dd (.xd fs) := I.hok dd _ ea
      obtain ⟨mA, hns, hr⟩ := hx
      obtain ⟨od, ho, hl⟩ := lookIn_ns hns
      have J : PySem.W.InstAt s.heap a oe C (some od) := ⟨hget, hz.1, by unfold PySem.W.notCls; rw [hv] <;> rfl, by rw [hz.2]; exact ho⟩
      exact PySem.W.kia_one (PySem.W.kitx_exc T.hc T.ga T.gg T.sb T.ca T.cn T.ct T.cm) I.kIn J e (fun z => nomatch z) fun tk => ⟨.bl b, H, I.kept (t' := tk) fun _ _ z => z, rfl, q⟩
structure BI (K : PySem.W.Frag) (mg : Str → Option Value) (nm : Str) : Prop where
  g : mg nm = some (.ref (clsA K nm))
  ga : PySem.W.specialIn K (.ref (clsA K nm)) "__getattribute__" = some (some (.builtin "type.__getattribute__"))
  rd : PySem.W.readsIn K (clsA K nm) (.type "type") = true
  fi : PySem.W.findCls K (.ref (clsA K nm)) (.type "type") "__init__" = some (.val (.builtin "ValueError.__init__"))
section
variable {X : Cx} {e : Expr} {es : List Expr} {ta : TA} {p1 p2 pos : Pos} {nm : Str}
theorem pe_oinit {pl : Sem Bool} (B : BI X.K X.mg nm) (hg : Gl X nm) (ha : PA X (e :: es) ta) (hdb : (nm == ("__debug__" : Str)) = false := by decide)
    (hc : eval (.Call (.Attribute (.Name nm p1) "__init__" p2) (e :: es) [] pos) X.env = (do
      let ov ← eval (.Name nm p1) X.env
      standAt p2.atName
      let (f, first) ← holding [ov] (getMethod ov "__init__" pl)
      callWith pos f first (backTo pos (starEach (e :: es) X.env)) (backToKw pos (keywordEach [] X.env))) := by rfl)
    (he : starEach (e :: es) X.env = (false, eval e X.env) :: starEach es X.env := by rfl) (hpl : (backTo pos (starEach es X.env)).any (·.1) = false := by rfl) :
    PE X (.Call (.Attribute (.Name nm p1) "__init__" p2) (e :: es) [] pos) (tVeI X.K ta) := by
  refine ⟨fun pins s σ H Q I h => ?_⟩
  refine PySem.W.methodCall_KW (ld_glob I hg B.g ?_ hdb) hc
  refine PySem.W.method_cls I.kIn B.ga (PySem.W.cls_value I.kIn B.rd B.fi (by decide +kernel) ?_)
  show wpAny _ _ (callWith pos (Value.builtin "ValueError.__init__") [] (backTo pos (starEach (e :: es) X.env)) []) _ _ _
  refine PyProof.Rows.callWith_method1 (thn (ha.run pos pins _ σ H _ (I.tok _) h) fun us s1 ⟨vs, H1, I1, r1, a, C, ws, ev, hl, T, ea, q⟩ => ?_) he hpl
  subst ev
  cases r1 with
  | @cons _ u0 _ ur ra rw' =>
    obtain rfl : u0 = Value.ref a := ra
    have hlen : ur.length ≤ sizeLine := by
      rw [← Paired.length rw', sizeLine_eq]
      omega
    exact oinit_ok T I1 ea hlen fun s' J => ⟨.non, H1, J, rfl, q⟩
end
/-- its __init__ of one field, of two -/
def spI1 (K : PySem.W.Frag) (f : Str) : Sp := fun vs H Q _ => ∃ (a C : Addr) (y : V), vs = [.ref a, y] ∧ OexC K C ∧ PySem.W.findIn K (.ref C) f = some none ∧ H a = some (exo a C none) ∧
  ∀ dx, H dx = none → dx ≠ a → Q .non (upd (upd H dx (exd dx [(f, y)])) a (exo a C (some dx)))
def spI2 (K : PySem.W.Frag) (f g : Str) : Sp := fun vs H Q _ => ∃ (a C : Addr) (y z : V), vs = [.ref a, y, z] ∧ OexC K C ∧ PySem.W.findIn K (.ref C) f = some none ∧ PySem.W.findIn K (.ref C) g = some none ∧ H a = some (exo a C none) ∧
  ∀ dx, H dx = none → dx ≠ a → Q .non (upd (upd (upd H dx (exd dx [(f, y)])) a (exo a C (some dx))) dx (exd dx [(g, z), (f, y)]))
structure EX (P : Program) (w : World) (K : PySem.W.Frag) (mg : Str → Option Value) (base : Heap) (nm : Str) (ps : List Str) (sp : Sp) : Prop where
  g : mg nm = some (.ref (clsA K nm))
  o : OexC K (clsA K nm)
  i : ∃ (fI : Addr) (fd : FuncData), PySem.W.findIn K (.ref (clsA K nm)) "__init__" = some (some (.ref fI)) ∧ PySem.W.typeIn K (.ref fI) = some (.type "function") ∧ FnOk P w K mg base CX0 1 fI fd ps sp ∧ Binds K fd ps []
def MkG (C : Addr) (sp : Sp) (vs : List V) (Q : XK) (H1 : Hp) : Prop := vs.length ≤ 1000 ∧ ∀ a, H1 a = none → sp (.ref a :: (vs ++ [])) (upd H1 a (exo a C none))
  (fun v H2 => v = .non ∧ ∃ (d : Addr) (fs : List (Str × V)), H2 a = some (exo a C (some d)) ∧ H2 d = some (exd d fs) ∧ H1 d = none ∧ Q (.ref C) (some d) (upd (del H2 a) d (.xd fs))) (fun _ _ _ => False)
def tRaise (C : Addr) (sp : Sp) (W : WX) (ta : TA) : TS := fun _ σ H => ta σ H fun vs H1 => MkG C sp vs (fun cls d H' => W cls d σ H') H1
section
variable {X : Cx} {e : Expr} {es : List Expr} {ta : TA} {p pos pos2 : Pos} {nm : Str} {ps : List Str} {sp : Sp} {W : WX}
theorem ps_raiseG (hc : X.calm = true) (T : EX X.prog X.w X.K X.mg X.base nm ps sp) (hr : Room 2 X.A) (tk : Takes X W) (hg : Gl X nm) (ha : PA X (e :: es) ta)
    (hdb : (nm == ("__debug__" : Str)) = false := by decide) (he : starEach (e :: es) X.env = (false, eval e X.env) :: starEach es X.env := by rfl) (hpl : (backTo pos (starEach es X.env)).any (·.1) = false := by rfl) :
    PS X (.Raise (some (.Call (.Name nm p) (e :: es) [] pos)) none pos2) (tRaise (clsA X.K nm) sp W ta) := by
  obtain ⟨fI, fd, i1, i2, i3, i4⟩ := T.i
  exact ps_raise hc tk (pmk_oex (dvs := []) T.o i1 i2 i3 hr i4 .nil pass0 hg T.g ha hdb he hpl)
end
theorem mk_heap {H1 : Hp} {a dx : Addr} {o1 o2 o3 u : HO} (hn : H1 a = none) (ne : dx ≠ a) : upd (del (upd (upd (upd H1 a o1) dx o2) a o3) a) dx u = upd H1 dx u := by
  funext b
  by_cases h1 : b = dx
  · rw [h1, upd_same, upd_same]
  · rw [upd_ne h1, upd_ne h1]
    by_cases h2 : b = a
    · rw [h2, del_same, hn]
    · rw [del_ne h2, upd_ne h2, upd_ne h1, upd_ne h2]
theorem mk_heap2 {H1 : Hp} {a dx : Addr} {o1 o2 o3 o4 u : HO} (hn : H1 a = none) (ne : dx ≠ a) : upd (del (upd (upd (upd (upd H1 a o1) dx o2) a o3) dx o4) a) dx u = upd H1 dx u := by
  funext b
  by_cases h1 : b = dx
  · rw [h1, upd_same, upd_same]
  · rw [upd_ne h1, upd_ne h1]
    by_cases h2 : b = a
    · rw [h2, del_same, hn]
    · rw [del_ne h2, upd_ne h1, upd_ne h2, upd_ne h1, upd_ne h2]
section
variable {K : PySem.W.Frag} {C : Addr} {Q : XK} {H : Hp} {f g : Str}
theorem st_mk1 {v : V} (T : OexC K C) (hf : PySem.W.findIn K (.ref C) f = some none) (h : ∀ d H', H d = none → Ex H H' → H' d = some (.xd [(f, v)]) → Q (.ref C) (some d) H') : MkG C (spI1 K f) [v] Q H := by
  refine ⟨(by decide : 1 ≤ 1000), fun a ha => ⟨a, C, v, rfl, T, hf, upd_same, fun dx hdx ne => ⟨rfl, dx, [(f, v)], upd_same, ?_, ?_, ?_⟩⟩⟩
  · rw [upd_ne ne]; exact upd_same
  · rw [upd_ne ne] at hdx; exact hdx
  · rw [upd_ne ne] at hdx
    rw [mk_heap ha ne]
    exact h dx _ hdx (Fr.new hdx) upd_same
theorem st_mk2 {v z : V} (T : OexC K C) (hf : PySem.W.findIn K (.ref C) f = some none) (hg : PySem.W.findIn K (.ref C) g = some none) (h : ∀ d H', H d = none → Ex H H' → H' d = some (.xd [(g, z), (f, v)]) → Q (.ref C) (some d) H') : MkG C (spI2 K f g) [v, z] Q H := by
  refine ⟨(by decide : 2 ≤ 1000), fun a ha => ⟨a, C, v, z, rfl, T, hf, hg, upd_same, fun dx hdx ne => ⟨rfl, dx, [(g, z), (f, v)], ?_, upd_same, ?_, ?_⟩⟩⟩
  · rw [upd_ne (Ne.symm ne)]; exact upd_same
  · rw [upd_ne ne] at hdx; exact hdx
  · rw [upd_ne ne] at hdx
    rw [mk_heap2 ha ne]
    exact h dx _ hdx (Fr.new hdx) upd_same
end
structure IniF (K : PySem.W.Frag) (nm qual : Str) (st : Stmt) (ps : List Str) : Prop where
  ex : ∃ (fI : Addr) (fd : FuncData), PySem.W.findIn K (.ref (clsA K nm)) "__init__" = some (some (.ref fI)) ∧ PySem.W.typeIn K (.ref fI) = some (.type "function") ∧ Fun K "__init__" qual st fI fd ∧ Binds K fd ps []
theorem ini_mk {K : PySem.W.Frag} {nm qual : Str} {st : Stmt} {ps : List Str} {f : Addr} {oc : Value} {od an : Option Addr} {osl : Array (Option Value)} {kV dc pm cd ct : Value} (i : PySem.W.findIn K (.ref (clsA K nm)) "__init__" = some (some (.ref f))) (t : PySem.W.typeIn K (.ref f) = some (.type "function"))
    (l : K.lookup f = some ⟨oc, od, .func (PySem.W.fnOf "__init__" qual (defArgs st) (defBody st) (defScope st) .none kV dc pm an cd ct), osl⟩) (c : PySem.W.codeIn K cd qual = true) (k : PySem.W.keepIn K (.ref f) = true)
    (hb : ∀ (kV doc pm : Value) (an : Option Addr) (cdv ct : Value) (us : List Value), us.length = ps.length → bindArgs (PySem.W.fnOf "__init__" qual (defArgs st) (defBody st) (defScope st) .none kV doc pm an cdv ct) ⟨us, []⟩ = pure (ps.zip us)) : IniF K nm qual st ps :=
  have F := fun_mk (st := st) l c k
  ⟨f, _, i, t, F, F.binds hb⟩
theorem xi_mk {K : PySem.W.Frag} {C : Addr} (ga : PySem.W.findIn K (.ref C) "__getattribute__" = some (some (.builtin "BaseException.__getattribute__"))) (gg : PySem.W.findIn K (.ref C) "__getattr__" = some none) (sb : PySem.W.subIn K (.ref C) (.type "BaseException") = some true) (hd : PySem.W.hasDictIn K C = true)
    (ca : PySem.W.findIn K (.ref C) "__class__" = some (some (.builtin "object.__class__"))) (cn : PySem.W.specialIn K (.builtin "object.__class__") "__get__" = some (some (.builtin "getset_descriptor.__get__"))) (ct : PySem.W.takesIn K (.builtin "object.__class__") = some true) (cm : PySem.W.mroIn K C (.type "object") = some true) : XI K C :=
  ⟨by obtain ⟨cd, hc, _⟩ := PySem.W.any_some hd; rw [hc]; rfl, ga, gg, sb, hd, ca, cn, ct, cm⟩
theorem ini1_go {K : PySem.W.Frag} {f tx : Str} {a C : Addr} {y : V} {H : Hp} {Q : VK} (hO : OexC K C) (hn : PySem.W.findIn K (.ref C) f = some none) (ha : H a = some (exo a C none))
    (k : ∀ dx, H dx = none → dx ≠ a → Q .non (upd (upd H dx (exd dx [(f, y)])) a (exo a C (some dx)))) :
    tSeq (tDrop (tVeI K (tCons (tVar 0) (tCons (tC (.str tx)) tNil)))) (tOst K f (tVar 0) (tVar 1)) { nx := fun _ H' => Q .non H', rt := Q } [some (.ref a), some y] H :=
  ⟨.ref a, rfl, a, C, [.str tx], rfl, Nat.le_of_ble_eq_true rfl, hO, ha, y, rfl, .ref a, rfl, a, C, rfl, hO, hn, .inl ⟨ha, k⟩⟩
theorem ini2_go {K : PySem.W.Frag} {f g tx : Str} {a C : Addr} {y z : V} {H : Hp} {Q : VK} (hO : OexC K C) (hn : PySem.W.findIn K (.ref C) f = some none) (hg : PySem.W.findIn K (.ref C) g = some none) (ha : H a = some (exo a C none))
    (k : ∀ dx, H dx = none → dx ≠ a → Q .non (upd (upd (upd H dx (exd dx [(f, y)])) a (exo a C (some dx))) dx (exd dx [(g, z), (f, y)]))) :
    tSeq (tDrop (tVeI K (tCons (tVar 0) (tCons (tC (.str tx)) tNil)))) (tSeq (tOst K f (tVar 0) (tVar 1)) (tOst K g (tVar 0) (tVar 2))) { nx := fun _ H' => Q .non H', rt := Q } [some (.ref a), some y, some z] H :=
  ⟨.ref a, rfl, a, C, [.str tx], rfl, Nat.le_of_ble_eq_true rfl, hO, ha, y, rfl, .ref a, rfl, a, C, rfl, hO, hn, .inl ⟨ha, fun dx h1 h2 => ⟨z, rfl, .ref a, rfl, a, C, rfl, hO, hg, .inr ⟨dx, [(f, y)], upd_same, by rw [upd_ne h2]; exact upd_same, Nat.le_of_ble_eq_true rfl, k dx h1 h2⟩⟩⟩⟩
/-- a thing of a kind that is known; a text not too long -/
def Thg (H : Hp) (v : V) : Prop := Ty H v ∧ ∀ z, v = .str z → z.length ≤ 16777216
theorem Thg.ex {H H' : Hp} {v : V} (h : Thg H v) (e : Ex H H') : Thg H' v := ⟨h.1.ex e, h.2⟩
theorem thg_str {H : Hp} {z : Str} (h : z.length ≤ 16777216) : Thg H (.str z) := ⟨ty_str _, fun _ e => by cases e; exact h⟩
/-- an error of the class nm that holds these fields is let out -/
def RaF (K : PySem.W.Frag) (E : XK) (H : Hp) (nm : Str) (fs : List (Str × V)) : Prop := ∀ d H', H d = none → Ex H H' → H' d = some (.xd fs) → E (.ref (clsA K nm)) (some d) H'
abbrev RaR (K : PySem.W.Frag) (E : XK) (H : Hp) (nm f : Str) (v : V) : Prop := RaF K E H nm [(f, v)]
theorem RaF.ex {K : PySem.W.Frag} {E : XK} {H H1 : Hp} {nm : Str} {fs : List (Str × V)} (h : RaF K E H nm fs) (e : Ex H H1) : RaF K E H1 nm fs := fun d H' h1 h2 h3 => h d H' (Ex.free e h1) (e.trans h2) h3
section
variable {D : Ends} {σ : L2.St} {H : Hp} {Q : VK} {K : PySem.W.Frag}
theorem st_raise {C : Addr} {sp : Sp} {W : WX} {ta : TA} (h : ta σ H fun vs H1 => MkG C sp vs (fun cls d H' => W cls d σ H') H1) : tRaise C sp W ta D σ H := h
theorem st_try {Wout : WX} {tb : WX → TS} {u : TS} {l : List Cl} (h : tb (wG K Wout D l) { D with nx := u D } σ H) : tTry K Wout tb u l D σ H := h
theorem st_callS {sp : Sp} {W : WX} {t : TA} (h : t σ H fun vs H1 => sp vs H1 Q (WE W σ)) : tCallS sp (WE W) t σ H Q := h
theorem st_hYn {Wout : WX} {c : Value} {i : Nat} {ts : Addr → Value → Option Addr → TS} {r : List Cl} {cls : Value} {d : Option Addr} (e : PySem.W.exmOne K cls c = some true) (h : ∀ a, H a = none → ts a cls d { nx := fun σ' H' => D.nx (σ'.set i none) H', rt := D.rt, bk := fun σ' H' => D.bk (σ'.set i none) H', ct := fun σ' H' => D.ct (σ'.set i none) H' } (σ.set i (some (.ref a))) H) : wG K Wout D ((c, some i, ts) :: r) cls d σ H := ⟨true, e, fun _ => h, fun z => nomatch z⟩
theorem st_hY0 {Wout : WX} {c : Value} {ts : Addr → Value → Option Addr → TS} {r : List Cl} {cls : Value} {d : Option Addr} (e : PySem.W.exmOne K cls c = some true) (h : ∀ a, H a = none → ts a cls d D σ H) : wG K Wout D ((c, none, ts) :: r) cls d σ H := ⟨true, e, fun _ => h, fun z => nomatch z⟩
theorem st_hN {Wout : WX} {c : Value} {i : Option Nat} {ts : Addr → Value → Option Addr → TS} {r : List Cl} {cls : Value} {d : Option Addr} (e : PySem.W.exmOne K cls c = some false) (h : wG K Wout D r cls d σ H) : wG K Wout D ((c, i, ts) :: r) cls d σ H := ⟨false, e, (fun z => by cases z), fun _ => h⟩
theorem st_xe {a : Addr} {cls : Value} {d : Option Addr} {n : Str} {te : TE} (h : te σ H (XeP K a cls d n Q)) : tXe K a cls d n te σ H Q := h
theorem st_xeP {a C dd : Addr} {n : Str} {fs : List (Str × V)} {v : V} (T : XI K C) (hno : PySem.W.findIn K (.ref C) n = some none) (h1 : H dd = some (.xd fs)) (h2 : fs.lookup n = some v) (h : Q v H) : XeP K a (.ref C) (some dd) n Q (.ref a) H := ⟨rfl, C, rfl, T, hno, dd, fs, v, rfl, h1, h2, h⟩
theorem st_isX {a C C' dd : Addr} {fs : List (Str × V)} {b : Bool} (T : XI K C) (h1 : H dd = some (.xd fs)) (e : PySem.W.kitOne K (.ref C) (.ref C') = some b) (h : Q (.bl b) H) : rIsX K a (.ref C) (some dd) [.ref a, .ref C'] H Q := ⟨.ref C', .ref C', b, C, dd, fs, rfl, fun _ r => r, rfl, T, rfl, h1, e, h⟩
theorem st_isXT {a C dd : Addr} {fs : List (Str × V)} {n : String} {b : Bool} (T : XI K C) (h1 : H dd = some (.xd fs)) (e : PySem.W.kitOne K (.ref C) (.type n) = some b) (h : Q (.bl b) H) : rIsX K a (.ref C) (some dd) [.ref a, .ty n] H Q := ⟨.ty n, .type n, b, C, dd, fs, rfl, fun _ r => r, rfl, T, rfl, h1, e, h⟩
end
end Zb
namespace Zb
open PySem PySem.Spec PyProof.Rows L2
abbrev ixSt (lo hi : Option Int) (k : Int) (n : Nat) : List Nat := Builtin.Str.strSliceIndices lo hi k n
def pick {α : Type} (is : List Nat) (xs : List α) : List α := is.filterMap (xs[·]?)
theorem vals_pick {xs : List V} {its : List Value} (r : Vals xs its) : ∀ is : List Nat, Vals (pick is xs) (pick is its)
  | [] => .nil
  | i :: is => by
    have ih := vals_pick r is
    unfold pick at ih ⊢
    rw [List.filterMap_cons, List.filterMap_cons]
    cases e : xs[i]? with
    | some v =>
      obtain ⟨u, hu, ru⟩ := r.get e
      rw [hu]
      exact .cons ru ih
    | none =>
      have hl := r.length
      rw [List.getElem?_eq_none (by rw [List.getElem?_eq_none_iff] at e; omega)]
      exact ih
theorem pick_get {α : Type} {xs : List α} : ∀ {is : List Nat}, (∀ j ∈ is, j < xs.length) → ∀ i : Nat, (pick is xs)[i]? = is[i]?.bind (xs[·]?)
  | [], _, i => by simp [pick]
  | j :: is, h, i => by
    have hj := h j List.mem_cons_self
    have ih := pick_get (xs := xs) (is := is) fun k hk => h k (List.mem_cons_of_mem _ hk)
    unfold pick at ih ⊢
    rw [List.filterMap_cons, List.getElem?_eq_getElem hj]
    cases i with
    | zero => simp [hj]
    | succ i => simpa using ih i
theorem pick_rev {α : Type} (xs : List α) : pick (ixSt none none (-1) xs.length) xs = xs.reverse := by
  have e : ixSt none none (-1) xs.length = (List.range xs.length).map fun (i : Nat) => ((xs.length : Int) - 1 + (-1) * (i : Int)).toNat := by
    show sliceRange _ _ _ = _
    unfold sliceRange
    have h0 : ¬ ((-1 : Int) > 0) := by decide
    simp only [h0, if_false]
    by_cases h : xs.length = 0
    · rw [h]; rfl
    · have h1 : ((xs.length : Int) - 1) > -1 := by omega
      simp only [h1, if_true]
      have h2 : (((xs.length : Int) - 1 - -1 - -1 - 1) / - -1).toNat = xs.length := by rw [Int.neg_neg, Int.ediv_one]; omega
      rw [h2]
  apply List.ext_getElem?
  intro i
  rw [pick_get (fun j hj => by
    rw [e, List.mem_map] at hj
    obtain ⟨i, hi, rfl⟩ := hj
    rw [List.mem_range] at hi
    show ((xs.length : Int) - 1 + (-1) * (i : Int)).toNat < xs.length
    omega), e, List.getElem?_map]
  by_cases hi : i < xs.length
  · rw [List.getElem?_range hi, List.getElem?_reverse hi]
    show xs[((xs.length : Int) - 1 + (-1) * (i : Int)).toNat]? = _
    congr 1
    omega
  · rw [List.getElem?_eq_none (l := List.range _) (by rw [List.length_range]; omega), List.getElem?_eq_none (l := xs.reverse) (by rw [List.length_reverse]; omega)]
    rfl
/-- the items at 0, 2, .. ; at 1, 3, .. -/
def evL {α : Type} : List α → List α
  | [] => []
  | [a] => [a]
  | a :: _ :: r => a :: evL r
def odL {α : Type} : List α → List α
  | [] => []
  | [_] => []
  | _ :: b :: r => b :: odL r
theorem evL_get {α : Type} : ∀ (xs : List α) (i : Nat), (evL xs)[i]? = xs[2 * i]?
  | [], i => by simp [evL]
  | [a], i => by cases i <;> simp [evL]
  | a :: b :: r, i => by
    cases i with
    | zero => simp [evL]
    | succ i =>
      have ih := evL_get r i
      show (a :: evL r)[i + 1]? = (a :: b :: r)[2 * (i + 1)]?
      rw [List.getElem?_cons_succ, ih, show 2 * (i + 1) = 2 * i + 1 + 1 from rfl, List.getElem?_cons_succ, List.getElem?_cons_succ]
theorem odL_get {α : Type} : ∀ (xs : List α) (i : Nat), (odL xs)[i]? = xs[2 * i + 1]?
  | [], i => by simp [odL]
  | [a], i => by simp [odL]
  | a :: b :: r, i => by
    cases i with
    | zero => simp [odL]
    | succ i =>
      have ih := odL_get r i
      show (b :: odL r)[i + 1]? = (a :: b :: r)[2 * (i + 1) + 1]?
      rw [List.getElem?_cons_succ, ih, show 2 * (i + 1) + 1 = 2 * i + 1 + 1 + 1 from rfl, List.getElem?_cons_succ, List.getElem?_cons_succ]
theorem pick_ev {α : Type} (xs : List α) : pick (ixSt none none 2 xs.length) xs = evL xs := by
  have e : ixSt none none 2 xs.length = (List.range ((xs.length + 1) / 2)).map fun (i : Nat) => ((0 : Int) + 2 * (i : Int)).toNat := by
    show sliceRange _ _ _ = _
    unfold sliceRange
    have h0 : ((2 : Int) > 0) := by decide
    simp only [h0, if_true]
    by_cases h : xs.length = 0
    · rw [h]; rfl
    · have h1 : (0 : Int) < (xs.length : Int) := by omega
      simp only [h1, if_true]
      have h2 : (((xs.length : Int) - 0 + 2 - 1) / 2).toNat = (xs.length + 1) / 2 := by omega
      rw [h2]
  apply List.ext_getElem?
  intro i
  rw [pick_get (fun j hj => by
    rw [e, List.mem_map] at hj
    obtain ⟨i, hi, rfl⟩ := hj
    rw [List.mem_range] at hi
    show ((0 : Int) + 2 * (i : Int)).toNat < xs.length
    omega), e, List.getElem?_map, evL_get]
  by_cases hi : i < (xs.length + 1) / 2
  · rw [List.getElem?_range hi]
    show xs[((0 : Int) + 2 * (i : Int)).toNat]? = _
    congr 1
    omega
  · rw [List.getElem?_eq_none (l := List.range _) (by rw [List.length_range]; omega), List.getElem?_eq_none (l := xs) (by omega)]
    rfl
theorem pick_od {α : Type} (xs : List α) : pick (ixSt (some 1) none 2 xs.length) xs = odL xs := by
  have e : ixSt (some 1) none 2 xs.length = (List.range (xs.length / 2)).map fun (i : Nat) => ((1 : Int) + 2 * (i : Int)).toNat := by
    show sliceRange _ _ _ = _
    unfold sliceRange
    have h0 : ((2 : Int) > 0) := by decide
    have h9 : ¬ ((1 : Int) < 0) := by decide
    simp only [h0, h9, if_true, if_false]
    by_cases h : xs.length = 0
    · rw [h]; rfl
    · have h3 : (max 0 (min 1 (xs.length : Int))) = 1 := by omega
      rw [h3]
      by_cases h1 : (1 : Int) < (xs.length : Int)
      · simp only [h1, if_true]
        have h2 : (((xs.length : Int) - 1 + 2 - 1) / 2).toNat = xs.length / 2 := by omega
        rw [h2]
      · simp only [h1, if_false]
        have h2 : xs.length / 2 = 0 := by omega
        rw [h2]
        rfl
  apply List.ext_getElem?
  intro i
  rw [pick_get (fun j hj => by
    rw [e, List.mem_map] at hj
    obtain ⟨i, hi, rfl⟩ := hj
    rw [List.mem_range] at hi
    show ((1 : Int) + 2 * (i : Int)).toNat < xs.length
    omega), e, List.getElem?_map, odL_get]
  by_cases hi : i < xs.length / 2
  · rw [List.getElem?_range hi]
    show xs[((1 : Int) + 2 * (i : Int)).toNat]? = _
    congr 1
    omega
  · rw [List.getElem?_eq_none (l := List.range _) (by rw [List.length_range]; omega), List.getElem?_eq_none (l := xs) (by omega)]
    rfl
theorem pick_len {α : Type} (is : List Nat) (xs : List α) : (pick is xs).length ≤ is.length := List.length_filterMap_le _ _
theorem ixSt_len (lo hi : Option Int) (k : Int) (n : Nat) : (ixSt lo hi k n).length ≤ n := by
  have h := PySem.sliceRange_length_le (sliceBounds lo hi (some k) n).1 (sliceBounds lo hi (some k) n).2.1 (sliceBounds lo hi (some k) n).2.2 n (fun hc => ?_) (fun hc => ?_)
  · exact h
  · simp only [sliceBounds, Option.getD_some] at hc ⊢
    simp only [hc, if_true]
    constructor
    · cases lo with
      | none => simp
      | some i => dsimp only; omega
    · cases hi with
      | none => simp
      | some i => dsimp only; omega
  · simp only [sliceBounds, Option.getD_some] at hc ⊢
    simp only [hc, if_false]
    constructor
    · cases lo with
      | none => simp
      | some i => dsimp only; omega
    · cases hi with
      | none => simp
      | some i => dsimp only; omega
def rSt (K : PySem.W.Frag) : V → Option Int → Option Int → Int → Hp → VK → Prop := fun x lo hi k H Q => match x with
  | .str z => z.length ≤ 16777216 ∧ k ≠ 0 ∧ k ≠ 1 ∧ Q (.str (tx (pick (ixSt lo hi k z.length) z.cps.toList))) H
  | .ref p => ∃ xs, SqL K H p xs ∧ k ≠ 0 ∧ ∀ q, H q = none → Q (.ref q) (upd H q (.lst (pick (ixSt lo hi k xs.length) xs)))
  | _ => False
def tSt (r : V → Option Int → Option Int → Int → Hp → VK → Prop) (te : TE) (tl th : TO) (ts : TE) : TE := fun σ H Q => te σ H fun x H1 => tl σ H1 fun l H2 => th σ H2 fun u H3 => ts σ H3 fun s H4 => ∃ k, s = .int k ∧ r x l u k H4 Q
section
variable {X : Cx} {e st : Expr} {te ts : TE} {lo hi : Option Expr} {tl th : TO} {pos p2 : Pos} {K : PySem.W.Frag}
theorem pe_slice3 (he : PE X e te) (hl : PO X lo tl) (hu : PO X hi th) (hs : PE X st ts) (hK : X.K = K := by rfl) : PE X (.Subscript e (.Slice lo hi (some st) p2) pos) (tSt (rSt K) te tl th ts) := by
  subst hK
  refine ⟨fun pins s σ H Q I h => ?_⟩
  rw [eval_Subscript]
  refine wpAny_bind (thn (he.run pins s σ H _ I h) fun v s1 ⟨x, H1, I1, r1, q1⟩ => wpAny_bind (wpAny_holding (wpAny_Slice (thn (hl.run pins s1 σ H1 _ I1 q1) fun vl s2 ⟨l, H2, I2, pl, q2⟩ => thn (hu.run pins s2 σ H2 _ I2 q2) fun vu s3 ⟨u, H3, I3, pu, q3⟩ => ?_))))
  rw [evalPart_some]
  refine thn (hs.run pins s3 σ H3 _ I3 q3) fun vk s4 ⟨xk, H4, I4, rk, q4⟩ => ?_
  obtain ⟨k, ek, q⟩ := q4
  subst ek
  obtain ⟨tk, rfl⟩ := rk
  refine wpAny_bind (wpAny_standAt ?_)
  have I5 : Inv X pins σ H4 { s4 with heap := s4.heap.push { cls := .type "slice", data := .fields #[vl, vu, .int k tk] } } := I4.kept (t' := s4.toks) fun b ob q => Heap.get?_push_of_some _ q
  have go : ∀ {T id : String}, typeLookup (.type T) "__getitem__" = pure (some (.builtin id)) → ({ s4 with heap := s4.heap.push { cls := .type "slice", data := .fields #[vl, vu, .int k tk] } } : Shared).TypeIs v T → wpAny (model X.prog X.w) X.A (getItem v (.ref s4.heap.objs.size)) (EP X pins σ Q) X.xe { s4 with heap := s4.heap.push { cls := .type "slice", data := .fields #[vl, vu, .int k tk] } } →
      wpAny (model X.prog X.w) X.A (subscriptTail e (.Slice lo hi (some st) p2) v (.ref s4.heap.objs.size)) (EP X pins σ Q) X.xe { s4 with heap := s4.heap.push { cls := .type "slice", data := .fields #[vl, vu, .int k tk] } } := by
    intro T id hT ht hg
    exact tail_any (ops := [v, .ref s4.heap.objs.size]) ht hT hg (by with_unfolding_all rfl)
  have hsl : ({ s4 with heap := s4.heap.push { cls := .type "slice", data := .fields #[vl, vu, .int k tk] } } : Shared).heap.IsSliceOf s4.heap.objs.size vl vu (.int k tk) := Heap.IsSliceOf.new ..
  cases x with
  | str z =>
    obtain ⟨hz, hk0, hk1, q⟩ := q
    obtain ⟨tz, rfl⟩ := r1
    obtain ⟨l', rfl, rfl⟩ := IsPart.raw pl
    obtain ⟨u', rfl, rfl⟩ := IsPart.raw pu
    refine go F.slot_str_getitem.lookup (typeIs_str _ _ _) ?_
    refine wpAny_getItem_str_slice (l := l') (u := u') (st := some (k, tk)) hsl (by simpa using hk0) ?_
    have c : ¬ ((k == 1 && (ixSt (l'.map (·.1)) (u'.map (·.1)) k z.length).length == z.length) = true) := by
      intro z
      rw [Bool.and_eq_true] at z
      exact hk1 (by simpa using z.1)
    show Made.post (if (k == 1 && (ixSt (l'.map (·.1)) (u'.map (·.1)) k z.length).length == z.length) = true then Made.val (.str z tz)
      else Made.str ⟨((ixSt (l'.map (·.1)) (u'.map (·.1)) k z.length).filterMap (z.cps[·]?)).toArray⟩) (EP X pins σ Q) _
    rw [if_neg c]
    have e1 : (ixSt (l'.map (·.1)) (u'.map (·.1)) k z.length).filterMap (z.cps[·]?) = pick (ixSt (l'.map (·.1)) (u'.map (·.1)) k z.length) z.cps.toList := by
      unfold pick
      congr 1
      funext j
      rw [Array.getElem?_toList]
    rw [e1]
    refine ⟨?_, .str _, H4, I5.tok _, ⟨_, rfl⟩, q⟩
    show (tx (pick _ _)).length ≤ sizeLine
    rw [tx_length, sl16]
    exact Nat.le_trans (pick_len _ _) (Nat.le_trans (ixSt_len _ _ _ _) hz)
  | ref p =>
    obtain ⟨xs, hx, hk0, q⟩ := q
    obtain rfl : v = Value.ref p := r1
    obtain ⟨its, r, ht, hz⟩ := I5.list hx
    have hlen := r.length
    refine go slot_list_getitem.lookup ht.isList.typeIs ?_
    refine wpAny_getItem_list_slice ht.isList hsl pl pu (.int k tk) (by simpa using hk0) ?_ (by rw [List.size_toArray] <;> omega)
    have e1 : slicePick its.toArray l u (some k) = (pick (ixSt l u k xs.length) its).toArray := by
      unfold slicePick pick
      congr 1
      rw [hlen]
      show (ixSt l u k its.toArray.size).filterMap _ = _
      rw [List.size_toArray]
      congr 1
      funext j
      rw [List.getElem?_toArray]
    rw [e1]
    refine ⟨.ref _, _, I5.laid (t' := s4.toks) (o := .lst (pick (ixSt l u k xs.length) xs)) (fun b ob q => Heap.get?_push_of_some _ q) (Nat.le_refl _) ?_, rfl, q _ (I5.hok.fresh (Nat.le_refl _))⟩
    exact ⟨Nat.le_trans (pick_len _ _) (Nat.le_trans (ixSt_len _ _ _ _) hz), _, 0, vals_pick r _, Heap.get?_push_size _ rfl⟩
  | _ => exact q.elim
end
section
variable {K : PySem.W.Frag} {H : Hp} {σ : L2.St} {Q : VK}
theorem st_st3 {r : V → Option Int → Option Int → Int → Hp → VK → Prop} {te ts : TE} {tl th : TO} (h : te σ H fun x H1 => tl σ H1 fun l H2 => th σ H2 fun u H3 => ts σ H3 fun s H4 => ∃ k, s = .int k ∧ r x l u k H4 Q) : tSt r te tl th ts σ H Q := h
theorem st_revS {z : Str} (hz : z.length ≤ 16777216) (h : Q (.str (tx z.cps.toList.reverse)) H) : rSt K (.str z) none none (-1) H Q := ⟨hz, by decide, by decide, by
  have e : z.length = z.cps.toList.length := Array.length_toList.symm
  rw [e, pick_rev]; exact h⟩
theorem st_evS {z : Str} (hz : z.length ≤ 16777216) (h : Q (.str (tx (evL z.cps.toList))) H) : rSt K (.str z) none none 2 H Q := ⟨hz, by decide, by decide, by
  have e : z.length = z.cps.toList.length := Array.length_toList.symm
  rw [e, pick_ev]; exact h⟩
theorem st_odS {z : Str} (hz : z.length ≤ 16777216) (h : Q (.str (tx (odL z.cps.toList))) H) : rSt K (.str z) (some 1) none 2 H Q := ⟨hz, by decide, by decide, by
  have e : z.length = z.cps.toList.length := Array.length_toList.symm
  rw [e, pick_od]; exact h⟩
theorem st_revL {p : Addr} {xs : List V} (hx : SqL K H p xs) (h : ∀ q H', H q = none → Ex H H' → H' q = some (.lst xs.reverse) → Q (.ref q) H') : rSt K (.ref p) none none (-1) H Q := ⟨xs, hx, by decide, fun q hq => by
  rw [pick_rev]; exact h q _ hq (Fr.new hq) upd_same⟩
theorem st_evL {p : Addr} {xs : List V} (hx : SqL K H p xs) (h : ∀ q H', H q = none → Ex H H' → H' q = some (.lst (evL xs)) → Q (.ref q) H') : rSt K (.ref p) none none 2 H Q := ⟨xs, hx, by decide, fun q hq => by
  rw [pick_ev]; exact h q _ hq (Fr.new hq) upd_same⟩
theorem st_odL {p : Addr} {xs : List V} (hx : SqL K H p xs) (h : ∀ q H', H q = none → Ex H H' → H' q = some (.lst (odL xs)) → Q (.ref q) H') : rSt K (.ref p) (some 1) none 2 H Q := ⟨xs, hx, by decide, fun q hq => by
  rw [pick_od]; exact h q _ hq (Fr.new hq) upd_same⟩
end
end Zb
namespace Zb
open PySem PySem.Spec PyProof.Rows L2 PySem.SeqAt
inductive PEq (H : Hp) : V → V → Bool → Prop
  | same (a : Addr) : PEq H (.ref a) (.ref a) true
  | dat {x y : V} {d e : PyData} : Rp H x d → Rp H y e → min d.depth e.depth ≤ 60 → PEq H x y (PyData.eqv d e)
inductive PEqs (H : Hp) : List V → List V → List Bool → Prop
  | nil : PEqs H [] [] []
  | cons {x y : V} {b : Bool} {xs ys : List V} {bs : List Bool} : PEq H x y b → PEqs H xs ys bs → PEqs H (x :: xs) (y :: ys) (b :: bs)
theorem PEqs.len {H : Hp} : ∀ {xs ys : List V} {bs : List Bool}, PEqs H xs ys bs → ys.length = xs.length ∧ bs.length = xs.length
  | _, _, _, .nil => ⟨rfl, rfl⟩
  | _, _, _, .cons _ r => ⟨congrArg (· + 1) r.len.1, congrArg (· + 1) r.len.2⟩
theorem PEqs.at {H : Hp} : ∀ {xs ys : List V} {bs : List Bool}, PEqs H xs ys bs → ∀ j (x y : V), xs[j]? = some x → ys[j]? = some y → PEq H x y (bs.getD j true)
  | _, _, _, .nil, j, x, y, h, _ => by simp at h
  | _, _, _, .cons a r, 0, x, y, h, k => by
    have e1 : _ = x := Option.some.inj h
    have e2 : _ = y := Option.some.inj k
    rw [← e1, ← e2]
    exact a
  | _, _, _, .cons a r, j + 1, x, y, h, k => by
    have h : _ = some x := h
    have := r.at j x y (by simpa using h) (by simpa using k)
    simpa using this
section
variable {X : Cx} {H : Hp} {Q : VK} {σ : L2.St}
def rIsN : R2 := fun x y H Q => y = .non ∧ Q (.bl (decide (x = .non))) H
def rNotN : R2 := fun x y H Q => y = .non ∧ Q (.bl (!decide (x = .non))) H
theorem o_isN : OpR X (compareOp .Is) Zb.rIsN := op_isN
theorem st_isN {x : V} (h : Q (.bl (decide (x = .non))) H) : Zb.rIsN x .non H Q := ⟨rfl, h⟩
theorem st_notN {x : V} (h : Q (.bl (!decide (x = .non))) H) : Zb.rNotN x .non H Q := ⟨rfl, h⟩
def rInt1 : List V → Hp → VK → Prop := fun vs H Q => match vs with
  | [.int i] => Q (.int i) H
  | [.bl k] => Q (.int (if k then 1 else 0)) H
  | _ => False
theorem c_int : CallR X (.type "int") rInt1 := by
  intro pins s σ H xs us Q I r h
  unfold rInt1 at h
  split at h
  · exact call_int1 pins s σ H _ us Q I r (.inl ⟨_, rfl, h⟩)
  · exact call_int1 pins s σ H _ us Q I r (.inr ⟨_, rfl, h⟩)
  · exact h.elim
theorem st_intI {i : Int} (h : Q (.int i) H) : rInt1 [.int i] H Q := h
theorem st_intB {k : Bool} (h : Q (.int (if k then 1 else 0)) H) : rInt1 [.bl k] H Q := h
theorem runs_rangeC (lo c : Int) (n : Nat) : Runs (Itc lo c n) n (fun _ => True) (fun i x H H' => H' = H ∧ x = .int (lo + (i : Nat) * c)) :=
  ⟨fun _ _ h _ => h, fun _ _ => Nat.le_refl _, fun _ _ _ _ _ _ y => y⟩
theorem st_iR3 {ta : TA} {R : It → Hp → Prop} (h : ta σ H (fun vs H1 => ∃ (i j c : Int) (n : Nat), vs = [.int i, .int j, .int c] ∧ RgC i j c n ∧ R (Itc i c n) H1)) : iRng3 ta σ H R := h
theorem st_isR3 {i j c : Int} (n : Nat) {P : Int → Int → Int → Nat → Prop} (h1 : RgC i j c n) (h : P i j c n) : ∃ (i' j' c' : Int) (n : Nat), [V.int i, .int j, .int c] = [.int i', .int j', .int c'] ∧ RgC i' j' c' n ∧ P i' j' c' n := ⟨i, j, c, n, rfl, h1, h⟩
end
end Zb
namespace Zb
open PySem PySem.Spec PyProof.Rows L2
/-- at these addresses these objects -/
inductive ObjsAt (H : Hp) : List Addr → List HO → Prop
  | nil : ObjsAt H [] []
  | cons {a : Addr} {o : HO} {ts : List Addr} {os : List HO} : H a = some o → ObjsAt H ts os → ObjsAt H (a :: ts) (o :: os)
section
variable {H H' : Hp}
theorem ObjsAt.len : ∀ {ts : List Addr} {os : List HO}, ObjsAt H ts os → ts.length = os.length
  | _, _, .nil => rfl
  | _, _, .cons _ r => congrArg (· + 1) r.len
theorem ObjsAt.ex (e : Ex H H') : ∀ {ts : List Addr} {os : List HO}, ObjsAt H ts os → ObjsAt H' ts os
  | _, _, .nil => .nil
  | _, _, .cons h r => .cons (e.get h) (r.ex e)
theorem ObjsAt.fr {M : Addr → Prop} (e : Fr M H H') : ∀ {ts : List Addr} {os : List HO}, (∀ a ∈ ts, ¬ M a) → ObjsAt H ts os → ObjsAt H' ts os
  | _, _, _, .nil => .nil
  | _, _, hm, .cons h r => .cons (e _ _ (hm _ List.mem_cons_self) h) (r.fr e fun a ha => hm a (List.mem_cons_of_mem _ ha))
theorem ObjsAt.up {D : Addr} {u : HO} : ∀ {ts : List Addr} {os : List HO}, D ∉ ts → ObjsAt H ts os → ObjsAt (upd H D u) ts os
  | _, _, _, .nil => .nil
  | _, _, hn, .cons h r => .cons (by rw [upd_ne (fun z => hn (by rw [← z]; exact List.mem_cons_self))]; exact h) (r.up fun z => hn (List.mem_cons_of_mem _ z))
theorem ObjsAt.app : ∀ {ts us : List Addr} {os ps : List HO}, ObjsAt H ts os → ObjsAt H us ps → ObjsAt H (ts ++ us) (os ++ ps)
  | _, _, _, _, .nil, k => k
  | _, _, _, _, .cons h r, k => .cons h (r.app k)
theorem ObjsAt.one {a : Addr} {o : HO} (h : H a = some o) : ObjsAt H [a] [o] := .cons h .nil
theorem ObjsAt.at : ∀ {ts : List Addr} {os : List HO}, ObjsAt H ts os → ∀ (k : Nat) a o, ts[k]? = some a → os[k]? = some o → H a = some o
  | _, _, .nil, k, a, o, h, _ => by simp at h
  | _, _, .cons h r, 0, a, o, h1, h2 => by
    have e1 : _ = a := Option.some.inj h1
    have e2 : _ = o := Option.some.inj h2
    rw [← e1, ← e2]; exact h
  | _, _, .cons h r, k + 1, a, o, h1, h2 => r.at k a o (by simpa using h1) (by simpa using h2)
theorem ObjsAt.of : ∀ {ts : List Addr} {os : List HO}, ts.length = os.length → (∀ (k : Nat) a o, ts[k]? = some a → os[k]? = some o → H a = some o) → ObjsAt H ts os
  | [], [], _, _ => .nil
  | [], _ :: _, h, _ => by simp at h
  | _ :: _, [], h, _ => by simp at h
  | a :: ts, o :: os, h, k => .cons (k 0 a o rfl rfl) (ObjsAt.of (by simpa using h) fun j x y h1 h2 => k (j + 1) x y (by simpa using h1) (by simpa using h2))
/-- one of them changes -/
theorem ObjsAt.set {a : Addr} {u : HO} {ts : List Addr} {os : List HO} {k : Nat} (h : ObjsAt H ts os) (nd : ts.Nodup) (hk : ts[k]? = some a) : ObjsAt (upd H a u) ts (os.set k u) := by
  refine .of (by rw [List.length_set, h.len]) fun j b o h1 h2 => ?_
  by_cases e : j = k
  · subst e
    rw [hk] at h1
    cases h1
    have hl : j < os.length := by
      rw [← h.len]
      exact (List.getElem?_eq_some_iff.mp hk).1
    rw [List.getElem?_set_self hl] at h2
    cases h2
    exact upd_same
  · rw [List.getElem?_set_ne (Ne.symm e)] at h2
    rw [upd_ne (fun z : b = a => e (nd_ix nd h1 (by rw [z]; exact hk)))]
    exact h.at j b o h1 h2
end
section
variable {J : It} {S : Hp → Prop} {g : TG} {σ : L2.St} {H1 : Hp}
theorem lc_objs {α : Type} {ys : List α} {val : α → V} {tt : TT} {te : TE} {vs : List Nat} {Q : VK} (hR : RunsV J ys val S) (hS : ∀ H', Ex H1 H' → S H') (hz : ys.length < 1000000) (p : α → Bool) (o : α → HO)
    (hs : ∀ y H', y ∈ ys → Ex H1 H' → ∀ (B : V → Hp → Prop) (A : Hp → Prop), (p y = true → ∀ a H'', H' a = none → Ex H' H'' → H'' a = some (o y) → B (.ref a) H'') → (p y = false → ∀ H'', Ex H' H'' → A H'') → g (val y) (wipe σ vs) H' fun σ2 H2 => wipe σ2 vs = wipe σ vs ∧ tt σ2 H2 fun b H3 => if b = true then te σ2 H3 B else A H3)
    (hd : ∀ D H' ts, H1 D = none → Ex H1 H' → H' D = some (.lst (ts.map V.ref)) → ObjsAt H' ts ((ys.filter p).map o) → ts.Nodup → D ∉ ts → (∀ a ∈ ts, H1 a = none) → Q (.ref D) H') : LcGoal J g tt te vs σ Q H1 := by
  intro D hD
  obtain ⟨W, hW⟩ : ∃ W : Nat → Hp → Prop, W = fun i H => ∃ ts : List Addr, H D = some (.lst (ts.map V.ref)) ∧ Ex H1 H ∧ ObjsAt H ts (((ys.take i).filter p).map o) ∧ ts.Nodup ∧ D ∉ ts ∧ ∀ a ∈ ts, H1 a = none := ⟨_, rfl⟩
  have hWi : ∀ i H, W i H ↔ ∃ ts : List Addr, H D = some (.lst (ts.map V.ref)) ∧ Ex H1 H ∧ ObjsAt H ts (((ys.take i).filter p).map o) ∧ ts.Nodup ∧ D ∉ ts ∧ ∀ a ∈ ts, H1 a = none := fun i H => by rw [hW]
  refine ⟨fun i m H => m = ys.length - i ∧ i ≤ ys.length ∧ W i H, ⟨ys.length, by simp, Nat.zero_le _, (hWi _ _).mpr ⟨[], upd_same, Fr.new hD, by rw [List.take_zero]; exact .nil, List.nodup_nil, by simp, by simp⟩⟩, ?_⟩
  rintro i m H ⟨rfl, hi, hw⟩
  obtain ⟨ts, h1, h2, h3, h4, h5, h6⟩ := (hWi _ _).mp hw
  by_cases hlt : i < ys.length
  · refine .inr ⟨hR.go i H hlt (hS H h2), W (i + 1), fun H' p' => ⟨ys.length - (i + 1), by omega, rfl, hlt, p'⟩, fun x H' y => ?_⟩
    obtain ⟨rfl, y0, hy, rfl⟩ := hR.yld i H x H' hlt (hS H h2) y
    have ht : ys.take (i + 1) = ys.take i ++ [y0] := by rw [List.take_add_one, hy]; rfl
    refine hs y0 H' (List.mem_of_getElem? hy) h2 (fun v H4 => ∃ acc, H4 D = some (.lst acc) ∧ acc.length < sizeLine ∧ W (i + 1) (upd H4 D (.lst (acc ++ [v])))) (W (i + 1)) ?_ ?_
    · intro hp a H4 ha e hv
      have hDa : a ≠ D := fun z => by rw [z, h1] at ha; cases ha
      have haN : a ∉ ts := fun z => by
        obtain ⟨k, hk⟩ := List.getElem?_of_mem z
        have hk2 : k < (((ys.take i).filter p).map o).length := by
          rw [← h3.len]; exact (List.getElem?_eq_some_iff.mp hk).1
        have := h3.at k a _ hk (List.getElem?_eq_getElem hk2)
        rw [this] at ha
        cases ha
      have hlen : ts.length < 1000000 := by
        rw [h3.len, List.length_map]
        have := List.length_filter_le p (ys.take i)
        rw [List.length_take] at this
        omega
      refine ⟨ts.map V.ref, e.get h1, by rw [List.length_map, sl16]; omega, (hWi _ _).mpr ⟨ts ++ [a], by rw [upd_same, List.map_append]; rfl, (h2.trans e).mut hD, ?_, ?_, ?_, ?_⟩⟩
      · rw [ht, List.filter_append, List.map_append, List.filter_cons_of_pos hp, List.filter_nil]
        refine .up ?_ ((h3.ex e).app (.one hv))
        rw [List.mem_append, List.mem_singleton]
        rintro (z | z)
        · exact h5 z
        · exact hDa z.symm
      · rw [List.nodup_append]
        exact ⟨h4, by simp, fun b hb c hc => by rw [List.mem_singleton.mp hc]; exact fun z => haN (z ▸ hb)⟩
      · rw [List.mem_append, List.mem_singleton]
        rintro (z | z)
        · exact h5 z
        · exact hDa z.symm
      · intro b hb
        rcases List.mem_append.mp hb with h | h
        · exact h6 b h
        · rw [List.mem_singleton.mp h]; exact Ex.free h2 ha
    · intro hp H4 e
      refine (hWi _ _).mpr ⟨ts, e.get h1, h2.trans e, ?_, h4, h5, h6⟩
      rw [ht, List.filter_append, List.filter_cons_of_neg (by rw [hp]; decide), List.filter_nil, List.append_nil]
      exact h3.ex e
  · have e : i = ys.length := by omega
    subst e
    rw [List.take_length] at h3
    exact .inl ⟨hR.stop H (hS H h2), hd D H ts hD h2 h1 h3 h4 h5 h6⟩
/-- no test -/
theorem lc_objs0 {α : Type} {ys : List α} {val : α → V} {te : TE} {vs : List Nat} {Q : VK} (hR : RunsV J ys val S) (hS : ∀ H', Ex H1 H' → S H') (hz : ys.length < 1000000) (o : α → HO)
    (hs : ∀ y H', y ∈ ys → Ex H1 H' → ∀ (B : V → Hp → Prop), (∀ a H'', H' a = none → Ex H' H'' → H'' a = some (o y) → B (.ref a) H'') → g (val y) (wipe σ vs) H' fun σ2 H2 => wipe σ2 vs = wipe σ vs ∧ te σ2 H2 B)
    (hd : ∀ D H' ts, H1 D = none → Ex H1 H' → H' D = some (.lst (ts.map V.ref)) → ObjsAt H' ts (ys.map o) → ts.Nodup → D ∉ ts → (∀ a ∈ ts, H1 a = none) → Q (.ref D) H')
    (hg : ∀ v σ H (P P' : L2.St → Hp → Prop), (∀ σ H, P σ H → P' σ H) → g v σ H P → g v σ H P' := by intro _ _ _ _ _ k h; exact k _ _ h) : LcGoal J g tYes te vs σ Q H1 := by
  refine lc_objs hR hS hz (fun _ => true) o (fun y H' hy e B A h1 h2 => ?_) (fun D H' ts hD e h h3 h4 h5 h6 => hd D H' ts hD e h ?_ h4 h5 h6)
  · exact hg _ _ _ _ _ (fun σ2 H2 h => ⟨h.1, h.2⟩) (hs y H' hy e B (h1 rfl))
  · rwa [List.filter_eq_self.mpr (fun _ _ => rfl)] at h3
end
section
variable {H : Hp} {Q : VK} {σ : L2.St}
def DGet2P (a : Addr) (y z : V) (Q : VK) (H : Hp) : Prop := ∃ o, DGet H a y o ∧ Q (o.getD z) H
theorem st_dget2 {td ty tx : TE} (h : td σ H fun x H1 => ∃ a, x = .ref a ∧ IsD H1 a ∧ ty σ H1 fun y H2 => tx σ H2 fun z H3 => DGet2P a y z Q H3) : tDGet2 td ty tx σ H Q := h
theorem st_isD {a : Addr} {kvs : List (Key × V)} {P : Addr → Prop} (h1 : H a = some (.dK kvs)) (h : P a) : ∃ b, V.ref a = .ref b ∧ IsD H b ∧ P b := ⟨a, rfl, .inl ⟨kvs, .inl h1⟩, h⟩
def DSetP (a : Addr) (y z : V) (Q : VK) (H3 : Hp) : Prop := ∃ (kvs : List (Key × V)) (k : Key), H3 a = some (.dK kvs) ∧ y = kV k ∧ kvs.length < sizeLine ∧ (∀ v, valV kvs k = some v → Q v H3) ∧ (valV kvs k = none → Q z (upd H3 a (.dK (putK kvs k z))))
theorem st_dsetd {td ty tx : TE} (h : td σ H fun x H1 => ∃ a, x = .ref a ∧ IsD H1 a ∧ ty σ H1 fun y H2 => tx σ H2 fun z H3 => DSetP a y z Q H3) : tDSetd td ty tx σ H Q := h
/-- {} -/
def DNew (Q : VK) (H : Hp) : Prop := ∀ p H', H p = none → Ex H H' → H' p = some (.dK []) → Q (.ref p) H'
theorem st_dnew (h : DNew Q H) : tDNewK σ H Q := fun p hp => h p _ hp (Fr.new hp) upd_same
theorem st_dnewP (h : ∀ p H', H p = none → Ex H H' → H' p = some (.dK []) → Q (.ref p) H') : DNew Q H := h
end
theorem at_nat {α : Type} {xs : List α} {i : Nat} {a : α} (h : xs[i]? = some a) : atI xs (i : Int) = some a := by
  unfold atI
  rw [Evl.ixN_nat (List.getElem?_eq_some_iff.mp h).1]
  exact h
theorem at_mapN {α β : Type} {f : α → β} {xs : List α} {i : Nat} {a : α} (h : xs[i]? = some a) : atI (xs.map f) (i : Int) = some (f a) := at_nat (by rw [List.getElem?_map, h]; rfl)
theorem snoc_ind {α : Type} {P : List α → Prop} (h0 : P []) (hs : ∀ l a, P l → P (l ++ [a])) (l : List α) : P l := by
  have h : ∀ r : List α, P r.reverse := by
    intro r
    induction r with
    | nil => exact h0
    | cons a r ih => rw [List.reverse_cons]; exact hs _ _ ih
  have := h l.reverse
  rwa [List.reverse_reverse] at this
end Zb
namespace Zb
open PySem PySem.Spec PyProof.Rows L2
theorem Ex.trans {H H1 H2 : Hp} (a : Ex H H1) (b : Ex H1 H2) : Ex H H2 := Fr.trans a b
section
variable {X : Cx} {H : Hp} {Q : VK} {σ : L2.St} {K : PySem.W.Frag}
def rIsB : R2 := fun x y H Q => ∃ a b, x = .bl a ∧ y = .bl b ∧ Q (.bl (decide (a = b))) H
def rNotB : R2 := fun x y H Q => ∃ a b, x = .bl a ∧ y = .bl b ∧ Q (.bl (!decide (a = b))) H
theorem c_sortI (hK : X.K = K := by rfl) : CallR X (.builtin "sorted") (rSortedI K) := by subst hK; exact cr_sortedI
theorem c_sum (hc : X.calm = true) (hK : X.K = K := by rfl) : CallR X (.builtin "sum") (rSum K) := by subst hK; exact cr_sum hc
theorem st_isB2 {a b : Bool} (h : Q (.bl (decide (a = b))) H) : rIsB (.bl a) (.bl b) H Q := ⟨a, b, rfl, rfl, h⟩
theorem st_notB2 {a b : Bool} (h : Q (.bl (!decide (a = b))) H) : rNotB (.bl a) (.bl b) H Q := ⟨a, b, rfl, rfl, h⟩
theorem st_sortI {p : Addr} {ns : List Int} (h1 : SqL K H p (ns.map V.int)) (h : ∀ (ns' : List Int) (q : Addr) (H' : Hp), ns'.Perm ns → ns'.Pairwise (· ≤ ·) → H q = none → Ex H H' → H' q = some (.lst (ns'.map V.int)) → Q (.ref q) H') : rSortedI K [.ref p] H Q :=
  ⟨p, ns, rfl, h1, fun ns' q hp hs hq => h ns' q _ hp hs hq (Fr.new hq) upd_same⟩
theorem st_chain {r r' : R2} {ta tb tc : TE} (h : ta σ H fun x H1 => tb σ H1 fun y H2 => r x y H2 fun z H3 => ∃ k, z = .bl k ∧ (if k = true then tc σ H3 fun w' H4 => r' y w' H4 Q else Q (.bl false) H3)) : tChain r r' ta tb tc σ H Q := h
def isIntV : V → Bool
  | .int _ => true
  | .bl _ => true
  | _ => false
def isBoolV : V → Bool
  | .bl _ => true
  | _ => false
theorem kb_int : kitB "NoneType" "int" = some false ∧ kitB "bool" "int" = some true ∧ kitB "int" "int" = some true ∧ kitB "str" "int" = some false ∧ kitB "list" "int" = some false ∧ kitB "tuple" "int" = some false ∧ kitB "dict" "int" = some false := by decide +kernel
theorem st_isIntT {x : V} (h1 : Ty H x) (h : Q (.bl (isIntV x)) H) : rIs [x, .ty "int"] H Q := by
  obtain ⟨t, h1⟩ := h1
  obtain ⟨k1, k2, k3, k4, k5, k6, k7⟩ := kb_int
  refine st_is h1 (b := isIntV x) ?_ h
  cases x with
  | ref p =>
    have h1 : tyO (H p) = some t := h1
    unfold tyO at h1
    split at h1 <;> first | (cases h1; assumption) | cases h1
  | _ => first | (cases h1; assumption) | cases h1
theorem st_isBoolT {x : V} (h1 : Ty H x) (h : Q (.bl (isBoolV x)) H) : rIs [x, .ty "bool"] H Q := by
  obtain ⟨t, h1⟩ := h1
  obtain ⟨k1, k2, k3, k4, k5, k6, k7⟩ := kb_bool
  refine st_is h1 (b := isBoolV x) ?_ h
  cases x with
  | ref p =>
    have h1 : tyO (H p) = some t := h1
    unfold tyO at h1
    split at h1 <;> first | (cases h1; assumption) | cases h1
  | _ => first | (cases h1; assumption) | cases h1
/-- a value as a test -/
def tTru (K : PySem.W.Frag) (ta : TE) : TT := fun σ H B => ta σ H fun x H' => ∃ k, TruV K x H' k ∧ B k H'
theorem pt_tru {a : Expr} {ta : TE} (ha : PE X a ta) (he : ∀ whole, isTrue a X.env whole = (do let v ← whole; standAt a.pos; holding [v] (truthy v))) (hK : X.K = K := by rfl) : PT X a (tTru K ta) := by subst hK; exact pt_truth ha he
theorem st_tru {ta : TE} {B : Bool → Hp → Prop} (h : ta σ H fun x H' => ∃ k, TruV K x H' k ∧ B k H') : tTru K ta σ H B := h
theorem st_truB {b : Bool} {P : Bool → Prop} (h : P b) : ∃ k, TruV K (.bl b) H k ∧ P k := ⟨b, rfl, h⟩
theorem st_truI {i : Int} {P : Bool → Prop} (h : P (i != 0)) : ∃ k, TruV K (.int i) H k ∧ P k := ⟨_, rfl, h⟩
def WhPost (W : Nat → L2.St → Hp → Prop) (m : Nat) (tb : TS) (D : Ends) (σ : L2.St) : Bool → Hp → Prop := fun b H1 => if b = true then ∃ N : L2.St → Hp → Prop, (∀ σ' H', N σ' H' → ∃ m', m' < m ∧ W m' σ' H') ∧ tb { D with nx := N, ct := N, bk := D.nx } σ H1 else D.nx σ H1
def WhGoal (c : TT) (tb : TS) (D : Ends) (σ : L2.St) (H : Hp) : Prop := ∃ W : Nat → L2.St → Hp → Prop, (∃ m, W m σ H) ∧ ∀ m σ H, W m σ H → c σ H (WhPost W m tb D σ)
theorem st_while {c : TT} {tb : TS} {D : Ends} (h : WhGoal c tb D σ H) : tWhile c tb D σ H := h
/-- W: the word of the loop, with a number that falls -/
theorem while_inv {c : TT} {tb : TS} {D : Ends} (W : Nat → L2.St → Hp → Prop) (h0 : ∃ m, W m σ H) (hs : ∀ m σ H, W m σ H → c σ H (WhPost W m tb D σ)) : WhGoal c tb D σ H := ⟨W, h0, hs⟩
theorem wh_T {W : Nat → L2.St → Hp → Prop} {m : Nat} {tb : TS} {D : Ends} {b : Bool} (hb : b = true) (h : tb { D with nx := fun σ' H' => ∃ m', m' < m ∧ W m' σ' H', ct := fun σ' H' => ∃ m', m' < m ∧ W m' σ' H', bk := D.nx } σ H) : WhPost W m tb D σ b H := by
  unfold WhPost
  rw [if_pos hb]
  exact ⟨_, fun _ _ z => z, h⟩
theorem wh_F {W : Nat → L2.St → Hp → Prop} {m : Nat} {tb : TS} {D : Ends} {b : Bool} (hb : b = false) (h : D.nx σ H) : WhPost W m tb D σ b H := by
  unfold WhPost
  rw [hb, if_neg Bool.false_ne_true]
  exact h
end
def tupO (q : Nat × Nat) : HO := .tup [.int (q.1 : Nat), .int (q.2 : Nat)]
abbrev ZP := Addr × (Nat × Nat)
abbrev zV (z : ZP) : V := .ref z.1
/-- each of these stands as its tuple -/
def TP (H : Hp) (zs : List ZP) : Prop := ∀ z ∈ zs, H z.1 = some (tupO z.2)
section
variable {H H' : Hp} {zs ys : List ZP}
theorem TP.ex (h : TP H zs) (e : Ex H H') : TP H' zs := fun z hz => e.get (h z hz)
theorem TP.sub (h : TP H zs) (e : ∀ z ∈ ys, z ∈ zs) : TP H ys := fun z hz => h z (e z hz)
theorem tup_ne_purse {a p : Addr} {q : Nat × Nat} (h : H a = some (tupO q)) (hp : Purse H p) : a ≠ p := fun e => by
  obtain ⟨x, y, z, hp⟩ := hp
  rw [e, hp] at h
  cases h
theorem zs_ne_purse {a p : Addr} (h : H a = some (.lst (zs.map zV))) (hp : Purse H p) : a ≠ p := fun e => by
  obtain ⟨x, y, z, hp⟩ := hp
  rw [e, hp] at h
  cases zs with
  | nil => cases h
  | cons c r =>
    have h : HO.lst [V.int x, V.int y, V.int z] = HO.lst (V.ref c.1 :: r.map zV) := Option.some.inj h
    cases h
theorem TP.frp {p : Addr} (h : TP H zs) (hp : Purse H p) (e : FrP p H H') : TP H' zs := fun z hz => e.get (tup_ne_purse (h z hz) hp) (h z hz)
theorem TP.up {D : Addr} {xs : List V} {u : HO} (h : TP H zs) (hD : H D = some (.lst xs)) : TP (upd H D u) zs := fun z hz => by
  rw [upd_ne fun e => ?_]
  · exact h z hz
  · have := h z hz
    rw [e, hD] at this
    cases this
theorem TP.app (h : TP H zs) (k : TP H ys) : TP H (zs ++ ys) := fun z hz => by
  rcases List.mem_append.mp hz with q | q
  · exact h z q
  · exact k z q
theorem TP.cons {z : ZP} (h : H z.1 = some (tupO z.2)) (k : TP H ys) : TP H (z :: ys) := fun y hy => by
  rcases List.mem_cons.mp hy with q | q
  · rw [q]; exact h
  · exact k y q
theorem TP.perm (h : TP H zs) (e : ys.Perm zs) : TP H ys := h.sub fun z hz => e.mem_iff.mp hz
def encQ (q : Nat × Nat) : PyData := .tuple [.int (q.1 : Nat), .int (q.2 : Nat)]
theorem TP.rp1 {z : ZP} (h : H z.1 = some (tupO z.2)) : Rp H (zV z) (encQ z.2) := .tup (tup_of h) (.cons (.int _) (.cons (.int _) .nil))
theorem TP.rp (h : TP H zs) : RpA H (zs.map zV) (zs.map fun z => encQ z.2) := rpA_map fun z hz => TP.rp1 (h z hz)
theorem TP.rpL {a : Addr} (h : TP H zs) (ha : H a = some (.lst (zs.map zV))) : Rp H (.ref a) (.list (zs.map fun z => encQ z.2)) := .lst (lst_of ha) h.rp
theorem encQ_depth (q : Nat × Nat) : (encQ q).depth ≤ 2 := by simp [encQ, PyData.depth, PyData.depthAll]
end
section
variable {H : Hp} {K : PySem.W.Frag} {Q : VK}
def lexI (a b : Int × Int) : Prop := a.1 < b.1 ∨ (a.1 = b.1 ∧ a.2 ≤ b.2)
theorem perm_mapV {α β : Type} [DecidableEq α] (f : α → β) : ∀ (ys : List β) (zs : List α), ys.Perm (zs.map f) → ∃ zs' : List α, zs'.Perm zs ∧ ys = zs'.map f := by
  intro ys
  induction ys with
  | nil =>
    intro zs hp
    have := hp.length_eq
    rw [List.length_map] at this
    have : zs = [] := List.eq_nil_of_length_eq_zero this.symm
    subst this
    exact ⟨[], .nil, rfl⟩
  | cons y ys ih =>
    intro zs hp
    obtain ⟨z, hz, e⟩ := List.mem_map.mp (hp.mem_iff.mp List.mem_cons_self)
    subst e
    have hz2 : zs.Perm (z :: zs.erase z) := List.perm_cons_erase hz
    have hp2 : ys.Perm ((zs.erase z).map f) := by
      have : (f z :: ys).Perm (f z :: (zs.erase z).map f) := hp.trans (hz2.map f)
      exact this.cons_inv
    obtain ⟨zs', h1, h2⟩ := ih _ hp2
    exact ⟨z :: zs', (List.Perm.cons z h1).trans hz2.symm, by rw [h2]; rfl⟩
end
end Zb
namespace Zb
open PySem PySem.Spec PyProof.Rows L2
/-- a def's promise, where no list is being shown -/
structure FnG (P : Program) (w : World) (K : PySem.W.Frag) (mg : Str → Option Value) (base : Heap) (CX : CXT) (k : Nat) (f : Addr) (fd : FuncData) (ps : List Str) (sp : Sp) : Prop where
  len : ∀ vs H Q E, sp vs H Q E → vs.length = ps.length
  go : ∀ (A : Around) (outer : List Env) (s : Shared) (H : Hp) (args : Args) (us : List Value) (vs : List V) (Q : VK) (E : XK), A.guards = some [] → Room k A → Env0 P w K mg base A outer s H → BindsTo s fd args (ps.zip us) → Vals vs us → sp vs H Q E →
    codeAny (model P w) A (.call (.ref f) args) (CR CX outer P w H s Q E) s
section
variable {P : Program} {w : World} {K : PySem.W.Frag} {mg : Str → Option Value} {base : Heap} {k : Nat} {f : Addr} {fd : FuncData} {ps : List Str} {sp : Sp}
theorem FnG.of {CX : CXT} (F : FnOk P w K mg base CX k f fd ps sp) : FnG P w K mg base CX k f fd ps sp := ⟨F.len, fun A outer s H args us vs Q E _ => F.run A outer s H args us vs Q E⟩
end
def keyD : Key → PyData
  | .inl i => .int i
  | .inr x => .str x
mutual
inductive Rq (H : Hp) : V → PyData → Prop
  | non : Rq H .non .none
  | bl (b : Bool) : Rq H (.bl b) (.bool b)
  | int (i : Int) : Rq H (.int i) (.int i)
  | str (x : Str) : Rq H (.str x) (.str x)
  | lst {a : Addr} {xs : List V} {ds : List PyData} : lstAt H a = some xs → RqA H xs ds → Rq H (.ref a) (.list ds)
  | tup {a : Addr} {xs : List V} {ds : List PyData} : tupAt H a = some xs → RqA H xs ds → Rq H (.ref a) (.tuple ds)
  | dk {a : Addr} {kvs : List (Key × V)} {ds : List PyData} : H a = some (.dK kvs) → RqA H (kvs.map (·.2)) ds → Rq H (.ref a) (.dict ((kvs.map fun q => keyD q.1).zip ds))
inductive RqA (H : Hp) : List V → List PyData → Prop
  | nil : RqA H [] []
  | cons {v : V} {vs : List V} {d : PyData} {ds : List PyData} : Rq H v d → RqA H vs ds → RqA H (v :: vs) (d :: ds)
end
theorem RqA.len {H : Hp} : ∀ {vs : List V} {ds : List PyData}, RqA H vs ds → vs.length = ds.length
  | _, _, .nil => rfl
  | _, _, .cons _ k => congrArg (· + 1) k.len
theorem Rq.dk0 {H : Hp} {a : Addr} (h : H a = some (.dK [])) : Rq H (.ref a) (.dict []) := .dk h .nil
mutual
theorem Rp.rq {H : Hp} : ∀ {v : V} {d : PyData}, Rp H v d → Rq H v d
  | _, _, .non => .non
  | _, _, .bl b => .bl b
  | _, _, .int i => .int i
  | _, _, .str x => .str x
  | _, _, .lst h k => .lst h (RpA.rq k)
  | _, _, .tup h k => .tup h (RpA.rq k)
theorem RpA.rq {H : Hp} : ∀ {vs : List V} {ds : List PyData}, RpA H vs ds → RqA H vs ds
  | _, _, .nil => .nil
  | _, _, .cons h k => .cons (Rp.rq h) (RpA.rq k)
theorem noDict {H : Hp} : ∀ {v : V} {d : PyData}, Rp H v d → d.hasDict = false
  | _, _, .non => rfl
  | _, _, .bl b => rfl
  | _, _, .int i => rfl
  | _, _, .str x => rfl
  | _, _, .lst h k => by simp only [PyData.hasDict]; exact noDictA k
  | _, _, .tup h k => by simp only [PyData.hasDict]; exact noDictA k
theorem noDictA {H : Hp} : ∀ {vs : List V} {ds : List PyData}, RpA H vs ds → PyData.hasDictAll ds = false
  | _, _, .nil => rfl
  | _, _, .cons h k => by simp only [PyData.hasDictAll, noDict h, noDictA k, Bool.or_self]
end
section
variable {X : Cx} {pins : List (Addr × Obj)} {σ : L2.St} {H : Hp} {s : Shared}
theorem pairs_keys {h : Heap} {P : Program} {w : World} : ∀ {es : List DictEntry} {kvs : List (Key × V)} {vs : List (Key × Value)}, Pairs (mixKind P w) es vs → KV kvs vs → ∃ as, ReadsAll h (es.map (·.key)) (kvs.map fun q => keyD q.1) as
  | _, _, _, .nil, .nil => ⟨_, .nil⟩
  | _, _, _, .cons (e := e) (kv := kv) h1 h2 h3, .cons (a := p) q r => by
    obtain ⟨as, k⟩ := pairs_keys (h := h) h3 r
    have hk : (mixKind P w).is kv.1 e.key = true := h1
    rcases keyIs_shape hk with ⟨i, t, e1, e2⟩ | ⟨x, t, e1, e2⟩
    · refine ⟨_, .cons (as := []) ?_ k⟩
      show Reads h e.key (keyD p.1) []
      rw [q.1, e1, e2]
      exact .int i t
    · refine ⟨_, .cons (as := []) ?_ k⟩
      show Reads h e.key (keyD p.1) []
      rw [q.1, e1, e2]
      exact .str x t
theorem pairs_vals {P : Program} {w : World} : ∀ {es : List DictEntry} {kvs : List (Key × V)} {vs : List (Key × Value)}, Pairs (mixKind P w) es vs → KV kvs vs → Vals (kvs.map (·.2)) (es.map (·.val))
  | _, _, _, .nil, .nil => .nil
  | _, _, _, .cons (e := e) (kv := kv) h1 h2 h3, .cons (a := p) q r => .cons (by show RelV p.2 e.val; rw [h2]; exact q.2) (pairs_vals h3 r)
theorem zip_fst {α β : Type} : ∀ {xs : List α} {ys : List β}, xs.length = ys.length → (xs.zip ys).map (·.1) = xs := fun h => List.map_fst_zip (Nat.le_of_eq h)
theorem zip_snd {α β : Type} : ∀ {xs : List α} {ys : List β}, xs.length = ys.length → (xs.zip ys).map (·.2) = ys := fun h => List.map_snd_zip (Nat.le_of_eq h.symm)
/-- a tracked dict, as an object -/
theorem dk_obj (I : Inv X pins σ H s) {a : Addr} {kvs : List (Key × V)} (h : H a = some (.dK kvs)) : (a == sysModules) = false ∧ ∃ (o : Obj) (es : Array DictEntry) (n : Nat), s.heap.get? a = some o ∧ o.cls = .type "dict" ∧ o.data = .dict es n ∧ (∃ as, ReadsAll s.heap (es.toList.map (·.key)) (kvs.map fun q => keyD q.1) as) ∧ Vals (kvs.map (·.2)) (es.toList.map (·.val)) := by
  obtain ⟨_, hs, vs, rv, o, es, ep, e1, e2, e3, _, e5, _⟩ := dk_of I.hok h
  exact ⟨hs, o, es, ep, e1, e2.1, e3, pairs_keys e5 rv, pairs_vals e5 rv⟩
mutual
theorem Rq.reads (I : Inv X pins σ H s) : ∀ {v : V} {d : PyData} {u : Value}, Rq H v d → RelV v u → ∃ as, Reads s.heap u d as
  | _, _, u, .non, r => by cases r; exact ⟨_, .none⟩
  | _, _, u, .bl b, r => by cases r; exact ⟨_, .bool b⟩
  | _, _, u, .int i, r => by obtain ⟨t, rfl⟩ := r; exact ⟨_, .int i t⟩
  | _, _, u, .str x, r => by obtain ⟨t, rfl⟩ := r; exact ⟨_, .str x t⟩
  | _, _, u, @Rq.lst _ a xs ds h k, r => by
    obtain rfl : u = Value.ref a := r
    obtain ⟨its, rv, p, _⟩ := I.list (lstAt_sq h)
    obtain ⟨as, q1⟩ := RqA.reads I k rv
    obtain ⟨o, n, e1, e2, e3, e4⟩ := p
    exact ⟨_, .list e1 e2 e4 q1⟩
  | _, _, u, @Rq.tup _ a xs ds h k, r => by
    obtain rfl : u = Value.ref a := r
    obtain ⟨its, rv, p, _⟩ := I.tuple (tupAt_sq h)
    obtain ⟨as, q1⟩ := RqA.reads I k rv
    obtain ⟨o, e1, e2, n, e3⟩ := p
    exact ⟨_, .tuple e1 e2 e3 q1⟩
  | _, _, u, @Rq.dk _ a kvs ds h k, r => by
    obtain rfl : u = Value.ref a := r
    obtain ⟨_, o, es, n, e1, e2, e3, ⟨as, kr⟩, rv⟩ := dk_obj I h
    obtain ⟨bs, vr⟩ := RqA.reads I k rv
    have hl : (kvs.map fun q => keyD q.1).length = ds.length := by rw [List.length_map, ← k.len, List.length_map]
    exact ⟨_, .dict e1 e2 e3 (by rw [zip_fst hl]; exact kr) (by rw [zip_snd hl]; exact vr)⟩
theorem RqA.reads (I : Inv X pins σ H s) : ∀ {vs : List V} {ds : List PyData} {us : List Value}, RqA H vs ds → Vals vs us → ∃ as, ReadsAll s.heap us ds as
  | _, _, us, .nil, r => by cases r; exact ⟨_, .nil⟩
  | _, _, us, .cons h k, r => by
    cases r with
    | cons r1 r2 =>
      obtain ⟨as, a1⟩ := Rq.reads I h r1
      obtain ⟨bs, b1⟩ := RqA.reads I k r2
      exact ⟨_, .cons a1 b1⟩
end
end
end Zb
namespace Zb
open PySem PySem.Spec PyProof.Rows L2
def tyD : PyData → String
  | .none => "NoneType"
  | .bool _ => "bool"
  | .int _ => "int"
  | .str _ => "str"
  | .list _ => "list"
  | .tuple _ => "tuple"
  | .dict _ => "dict"
theorem Rq.tyn {H : Hp} {x : V} {d : PyData} (h : Rq H x d) : tyN H x = some (tyD d) := by
  cases h with
  | non => rfl
  | bl b => rfl
  | int i => rfl
  | str y => rfl
  | @lst a xs ds h _ =>
    show tyO (H a) = _
    unfold lstAt at h
    unfold tyO
    split at h <;> first | (rename_i e; rw [e]; rfl) | cases h
  | @tup a xs ds h _ =>
    show tyO (H a) = _
    unfold tupAt at h
    unfold tyO
    split at h <;> first | (rename_i e; rw [e]; rfl) | cases h
  | @dk a kvs ds h _ =>
    show tyO (H a) = _
    rw [h]
    rfl
theorem Rq.ty {H : Hp} {x : V} {d : PyData} (h : Rq H x d) : Ty H x := ⟨_, h.tyn⟩
theorem Rp.ty {H : Hp} {x : V} {d : PyData} (h : Rp H x d) : Ty H x := h.rq.ty
section
variable {H : Hp} {Q : VK} {K : PySem.W.Frag}
theorem st_isQ {x : V} {d : PyData} {n : String} {b : Bool} (h1 : Rq H x d) (h2 : kitB (tyD d) n = some b) (h : Q (.bl b) H) : rIs [x, .ty n] H Q := st_is h1.tyn h2 h
def isListD : PyData → Bool
  | .list _ => true
  | _ => false
def isTupD : PyData → Bool
  | .tuple _ => true
  | _ => false
theorem kb_list : kitB "NoneType" "list" = some false ∧ kitB "bool" "list" = some false ∧ kitB "int" "list" = some false ∧ kitB "str" "list" = some false ∧ kitB "list" "list" = some true ∧ kitB "tuple" "list" = some false ∧ kitB "dict" "list" = some false := by decide +kernel
theorem kb_tup : kitB "NoneType" "tuple" = some false ∧ kitB "bool" "tuple" = some false ∧ kitB "int" "tuple" = some false ∧ kitB "str" "tuple" = some false ∧ kitB "list" "tuple" = some false ∧ kitB "tuple" "tuple" = some true ∧ kitB "dict" "tuple" = some false := by decide +kernel
theorem st_isListD {x : V} {d : PyData} (h1 : Rq H x d) (h : Q (.bl (isListD d)) H) : rIs [x, .ty "list"] H Q := by
  obtain ⟨k1, k2, k3, k4, k5, k6, k7⟩ := kb_list
  refine st_isQ h1 (b := isListD d) ?_ h
  cases d <;> assumption
theorem st_isTupD {x : V} {d : PyData} (h1 : Rq H x d) (h : Q (.bl (isTupD d)) H) : rIs [x, .ty "tuple"] H Q := by
  obtain ⟨k1, k2, k3, k4, k5, k6, k7⟩ := kb_tup
  refine st_isQ h1 (b := isTupD d) ?_ h
  cases d <;> assumption
/-- the items of data -/
theorem Rp.listAt {x : V} {ds : List PyData} (h : Rp H x (.list ds)) : ∃ a xs, x = .ref a ∧ lstAt H a = some xs ∧ RpA H xs ds := by
  cases h with
  | lst h k => exact ⟨_, _, rfl, h, k⟩
theorem RpA.len : ∀ {xs : List V} {ds : List PyData}, RpA H xs ds → xs.length = ds.length
  | _, _, .nil => rfl
  | _, _, .cons _ k => congrArg (· + 1) k.len
theorem RpA.at : ∀ {xs : List V} {ds : List PyData}, RpA H xs ds → ∀ (i : Nat) x, xs[i]? = some x → ∃ d, ds[i]? = some d ∧ Rp H x d
  | _, _, .nil, i, x, h => by simp at h
  | _, _, .cons a k, 0, x, h => by
    have e : _ = x := Option.some.inj h
    exact ⟨_, rfl, e ▸ a⟩
  | _, _, .cons a k, i + 1, x, h => k.at i x (by simpa using h)
end
end Zb
namespace Zb
open PySem PySem.Spec PyProof.Rows L2
mutual
/-- v is d, by things that are not frozen; empty dicts may be among them -/
inductive Rn (H : Hp) : V → PyData → Prop
  | non : Rn H .non .none
  | bl (b : Bool) : Rn H (.bl b) (.bool b)
  | int (i : Int) : Rn H (.int i) (.int i)
  | str (x : Str) : Rn H (.str x) (.str x)
  | lst {a : Addr} {xs : List V} {ds : List PyData} : H a = some (.lst xs) → RnA H xs ds → Rn H (.ref a) (.list ds)
  | tup {a : Addr} {xs : List V} {ds : List PyData} : H a = some (.tup xs) → RnA H xs ds → Rn H (.ref a) (.tuple ds)
  | dk {a : Addr} : H a = some (.dK []) → Rn H (.ref a) (.dict [])
inductive RnA (H : Hp) : List V → List PyData → Prop
  | nil : RnA H [] []
  | cons {v : V} {vs : List V} {d : PyData} {ds : List PyData} : Rn H v d → RnA H vs ds → RnA H (v :: vs) (d :: ds)
end
section
variable {H H' : Hp}
mutual
theorem Rn.rq : ∀ {v : V} {d : PyData}, Rn H v d → Rq H v d
  | _, _, .non => .non
  | _, _, .bl b => .bl b
  | _, _, .int i => .int i
  | _, _, .str x => .str x
  | _, _, .lst h k => .lst (lst_of h) (RnA.rq k)
  | _, _, .tup h k => .tup (tup_of h) (RnA.rq k)
  | _, _, .dk h => .dk0 h
theorem RnA.rq : ∀ {vs : List V} {ds : List PyData}, RnA H vs ds → RqA H vs ds
  | _, _, .nil => .nil
  | _, _, .cons h k => .cons (Rn.rq h) (RnA.rq k)
end
mutual
theorem Rn.rp : ∀ {v : V} {d : PyData}, Rn H v d → d.hasDict = false → Rp H v d
  | _, _, .non, _ => .non
  | _, _, .bl b, _ => .bl b
  | _, _, .int i, _ => .int i
  | _, _, .str x, _ => .str x
  | _, _, .lst h k, n => .lst (lst_of h) (RnA.rp k (by simpa only [PyData.hasDict] using n))
  | _, _, .tup h k, n => .tup (tup_of h) (RnA.rp k (by simpa only [PyData.hasDict] using n))
  | _, _, .dk h, n => by simp [PyData.hasDict] at n
theorem RnA.rp : ∀ {vs : List V} {ds : List PyData}, RnA H vs ds → PyData.hasDictAll ds = false → RpA H vs ds
  | _, _, .nil, _ => .nil
  | _, _, .cons h k, n => by
    simp only [PyData.hasDictAll, Bool.or_eq_false_iff] at n
    exact .cons (Rn.rp h n.1) (RnA.rp k n.2)
end
mutual
theorem Rn.ex (e : Ex H H') : ∀ {v : V} {d : PyData}, Rn H v d → Rn H' v d
  | _, _, .non => .non
  | _, _, .bl b => .bl b
  | _, _, .int i => .int i
  | _, _, .str x => .str x
  | _, _, .lst h k => .lst (e.get h) (RnA.ex e k)
  | _, _, .tup h k => .tup (e.get h) (RnA.ex e k)
  | _, _, .dk h => .dk (e.get h)
theorem RnA.ex (e : Ex H H') : ∀ {vs : List V} {ds : List PyData}, RnA H vs ds → RnA H' vs ds
  | _, _, .nil => .nil
  | _, _, .cons h k => .cons (Rn.ex e h) (RnA.ex e k)
end
theorem Rn.listAt {x : V} {ds : List PyData} (h : Rn H x (.list ds)) : ∃ a xs, x = .ref a ∧ H a = some (.lst xs) ∧ RnA H xs ds := by
  cases h with
  | lst h k => exact ⟨_, _, rfl, h, k⟩
theorem Rn.tupAt {x : V} {ds : List PyData} (h : Rn H x (.tuple ds)) : ∃ a xs, x = .ref a ∧ H a = some (.tup xs) ∧ RnA H xs ds := by
  cases h with
  | tup h k => exact ⟨_, _, rfl, h, k⟩
theorem RnA.len : ∀ {xs : List V} {ds : List PyData}, RnA H xs ds → xs.length = ds.length
  | _, _, .nil => rfl
  | _, _, .cons _ k => congrArg (· + 1) k.len
theorem RnA.zipped : ∀ {xs : List V} {ds : List PyData}, RnA H xs ds → ∃ zs : List (V × PyData), xs = zs.map (·.1) ∧ ds = zs.map (·.2) ∧ ∀ z ∈ zs, Rn H z.1 z.2
  | _, _, .nil => ⟨[], rfl, rfl, fun _ h => nomatch h⟩
  | _, _, .cons (v := v) (d := d) a k => by
    obtain ⟨zs, rfl, rfl, h⟩ := RnA.zipped k
    refine ⟨(v, d) :: zs, rfl, rfl, fun z hz => ?_⟩
    rcases List.mem_cons.mp hz with e | e
    · rw [e]; exact a
    · exact h z e
theorem rnA_map {α : Type} {val : α → V} {enc : α → PyData} : ∀ {xs : List α}, (∀ x ∈ xs, Rn H (val x) (enc x)) → RnA H (xs.map val) (xs.map enc)
  | [], _ => .nil
  | x :: xs, h => .cons (h x List.mem_cons_self) (rnA_map fun y hy => h y (List.mem_cons_of_mem _ hy))
theorem TP.rn1 {z : ZP} (h : H z.1 = some (tupO z.2)) : Rn H (zV z) (encQ z.2) := .tup h (.cons (.int _) (.cons (.int _) .nil))
theorem TP.rn {zs : List ZP} (h : TP H zs) : RnA H (zs.map zV) (zs.map fun z => encQ z.2) := rnA_map fun z hz => TP.rn1 (h z hz)
theorem TP.rnL {zs : List ZP} {a : Addr} (h : TP H zs) (ha : H a = some (.lst (zs.map zV))) : Rn H (.ref a) (.list (zs.map fun z => encQ z.2)) := .lst ha h.rn
end
mutual
/-- how many things data holds -/
def szD : PyData → Nat
  | .list ds => 1 + szA ds
  | .tuple ds => 1 + szA ds
  | .dict _ => 1
  | _ => 1
def szA : List PyData → Nat
  | [] => 0
  | d :: ds => szD d + szA ds
end
end Zb
namespace Zb
open PySem PySem.Spec PyProof.Rows L2
mutual
/-- numbers of few figures, texts that are shown by few signs, no dict but the empty one -/
def okD : PyData → Bool
  | .none => true
  | .bool _ => true
  | .int i => decide (i.natAbs < 1000000)
  | .str x => decide ((reprText x).length ≤ 14)
  | .list ds => okA ds
  | .tuple ds => okA ds
  | .dict kvs => kvs.isEmpty
def okA : List PyData → Bool
  | [] => true
  | d :: ds => okD d && okA ds
end
mutual
theorem okD_showable : ∀ d : PyData, okD d = true → d.showable = true
  | .none, _ => rfl
  | .bool _, _ => rfl
  | .str _, _ => rfl
  | .int i, h => by
    have h : i.natAbs < 1000000 := by simpa only [okD, decide_eq_true_eq] using h
    have : i.natAbs.log2 < 1920 := by
      by_cases h0 : i.natAbs = 0
      · rw [h0]; decide
      · refine (Nat.log2_lt h0).mpr (Nat.lt_of_lt_of_le (Nat.lt_trans h (show 1000000 < 2 ^ 20 by decide)) (Nat.pow_le_pow_right (by decide) (by decide)))
    simpa only [PyData.showable, decide_eq_true_eq] using this
  | .list ds, h => by
    simp only [PyData.showable]
    exact okA_showable ds (by simpa only [okD] using h)
  | .tuple ds, h => by
    simp only [PyData.showable]
    exact okA_showable ds (by simpa only [okD] using h)
  | .dict [], _ => rfl
  | .dict (_ :: _), h => by simp [okD] at h
theorem okA_showable : ∀ ds : List PyData, okA ds = true → PyData.showableAll ds = true
  | [], _ => rfl
  | d :: ds, h => by
    simp only [okA, Bool.and_eq_true] at h
    simp only [PyData.showableAll, okD_showable d h.1, okA_showable ds h.2, Bool.and_self]
end
mutual
theorem okD_shown : ∀ d : PyData, okD d = true → d.shown.length + 2 ≤ 16 * szD d
  | .none, _ => by
    have e : (PyData.shown .none).length = 4 := rfl
    simp only [szD]; omega
  | .bool b, _ => by
    have e : (PyData.shown (.bool b)).length ≤ 5 := by cases b <;> decide
    simp only [szD]; omega
  | .str x, h => by
    have h : (reprText x).length ≤ 14 := by simpa only [okD, decide_eq_true_eq] using h
    simp only [szD, PyData.shown]; omega
  | .int i, h => by
    have h : i.natAbs < 10 ^ 6 := by simpa only [okD, decide_eq_true_eq] using h
    have e := int_text_length_le10 (k := 6) (by decide) h
    simp only [szD, PyData.shown]
    have e2 : (Str.ofString (toString i)).length = (toString i).length := PySem.ofString_length _
    show (Str.ofString (toString i)).length + 2 ≤ _
    omega
  | .list ds, h => by
    have h1 := okA_shown ds (by simpa only [okD] using h)
    have h2 := listText_len_le (PyData.shownAll ds)
    have h3 := PyData.shownAll_length ds
    simp only [PyData.shown, szD]
    omega
  | .tuple ds, h => by
    have h1 := okA_shown ds (by simpa only [okD] using h)
    have h2 := tupleText_len_le (PyData.shownAll ds)
    have h3 := PyData.shownAll_length ds
    simp only [PyData.shown, szD]
    omega
  | .dict [], _ => by
    have e : (PyData.shown (.dict [])).length = 2 := by decide +kernel
    simp only [szD]; omega
  | .dict (_ :: _), h => by simp [okD] at h
theorem okA_shown : ∀ ds : List PyData, okA ds = true → ((PyData.shownAll ds).map (·.length)).sum + 2 * ds.length ≤ 16 * szA ds
  | [], _ => by simp [PyData.shownAll, szA]
  | d :: ds, h => by
    simp only [okA, Bool.and_eq_true] at h
    have h1 := okD_shown d h.1
    have h2 := okA_shown ds h.2
    simp only [PyData.shownAll, szA, List.map_cons, List.sum_cons, List.length_cons]
    omega
end
/-- data that may be handed round: d is v, small, with no dict but itself -/
structure Sd (H : Hp) (v : V) (d : PyData) : Prop where
  rn : Rn H v d
  hd : d.hasDict = true → d = .dict []
  ok : okD d = true
  sz : szD d ≤ 999999
  dp : d.depth ≤ 59
theorem Sd.ex {H H' : Hp} {v : V} {d : PyData} (h : Sd H v d) (e : Ex H H') : Sd H' v d := ⟨h.rn.ex e, h.hd, h.ok, h.sz, h.dp⟩
/-- v is small data of n things, k deep -/
def Sm (H : Hp) (v : V) (n k : Nat) : Prop := ∃ d, Rn H v d ∧ d.hasDict = false ∧ okD d = true ∧ szD d ≤ n ∧ d.depth ≤ k
section
variable {H H' : Hp} {v : V} {n k m : Nat}
theorem Sm.up {n' k' : Nat} (h : Sm H v n k) (h1 : n ≤ n') (h2 : k ≤ k') : Sm H v n' k' := by
  obtain ⟨d, a, b, c, e, f⟩ := h
  exact ⟨d, a, b, c, by omega, by omega⟩
theorem Sm.ex (h : Sm H v n k) (e : Ex H H') : Sm H' v n k := by
  obtain ⟨d, a, b⟩ := h
  exact ⟨d, a.ex e, b⟩
theorem Sm.sd (h : Sm H v n k) (h1 : n ≤ 999999) (h2 : k ≤ 59) : ∃ d, Sd H v d := by
  obtain ⟨d, a, b, c, e, f⟩ := h
  exact ⟨d, a, (fun z => by rw [b] at z; cases z), c, by omega, by omega⟩
theorem Sm.non : Sm H .non 1 0 := ⟨_, .non, rfl, rfl, by simp [szD], by simp [PyData.depth]⟩
theorem Sm.bl (b : Bool) : Sm H (.bl b) 1 0 := ⟨_, .bl b, rfl, rfl, by simp [szD], by simp [PyData.depth]⟩
theorem Sm.int {i : Int} (h : i.natAbs < 1000000) : Sm H (.int i) 1 0 := ⟨_, .int i, rfl, by simpa only [okD, decide_eq_true_eq] using h, by simp [szD], by simp [PyData.depth]⟩
theorem Sm.str {x : Str} (h : (reprText x).length ≤ 14) : Sm H (.str x) 1 0 := ⟨_, .str x, rfl, by simpa only [okD, decide_eq_true_eq] using h, by simp [szD], by simp [PyData.depth]⟩
theorem Sm.all : ∀ {xs : List V}, (∀ x ∈ xs, Sm H x n k) → ∃ ds, RnA H xs ds ∧ PyData.hasDictAll ds = false ∧ okA ds = true ∧ szA ds ≤ xs.length * n ∧ PyData.depthAll ds ≤ k
  | [], _ => ⟨[], .nil, rfl, rfl, by simp [szA], by simp [PyData.depthAll]⟩
  | x :: xs, h => by
    obtain ⟨ds, a, b, c, e, f⟩ := Sm.all (xs := xs) fun y hy => h y (List.mem_cons_of_mem _ hy)
    obtain ⟨d, a1, b1, c1, e1, f1⟩ := h x List.mem_cons_self
    refine ⟨d :: ds, .cons a1 a, by simp [PyData.hasDictAll, b, b1], by simp [okA, c, c1], ?_, ?_⟩
    · simp only [szA, List.length_cons, Nat.succ_mul]; omega
    · simp only [PyData.depthAll]; omega
theorem Sm.lst {a : Addr} {xs : List V} (h : H a = some (.lst xs)) (hx : ∀ x ∈ xs, Sm H x n k) (hm : xs.length ≤ m) : Sm H (.ref a) (1 + m * n) (k + 1) := by
  obtain ⟨ds, h1, h2, h3, h4, h5⟩ := Sm.all hx
  refine ⟨.list ds, .lst h h1, by simpa only [PyData.hasDict] using h2, by simpa only [okD] using h3, ?_, by simp only [PyData.depth]; omega⟩
  have := Nat.mul_le_mul_right n hm
  simp only [szD]; omega
theorem Sm.tup {a : Addr} {xs : List V} (h : H a = some (.tup xs)) (hx : ∀ x ∈ xs, Sm H x n k) (hm : xs.length ≤ m) : Sm H (.ref a) (1 + m * n) (k + 1) := by
  obtain ⟨ds, h1, h2, h3, h4, h5⟩ := Sm.all hx
  refine ⟨.tuple ds, .tup h h1, by simpa only [PyData.hasDict] using h2, by simpa only [okD] using h3, ?_, by simp only [PyData.depth]; omega⟩
  have := Nat.mul_le_mul_right n hm
  simp only [szD]; omega
theorem Sd.dk {a : Addr} (h : H a = some (.dK [])) : Sd H (.ref a) (.dict []) := ⟨.dk h, fun _ => rfl, rfl, by simp [szD], by simp [PyData.depth, PyData.depthKv]⟩
theorem Sm.mem {xs : List V} (h : ∀ x ∈ xs, Sm H x n k) (hv : v ∈ xs) : Sm H v n k := h v hv
theorem Sm.cons {xs : List V} (h : Sm H v n k) (t : ∀ x ∈ xs, Sm H x n k) : ∀ x ∈ v :: xs, Sm H x n k := fun x hx => by
  rcases List.mem_cons.mp hx with e | e
  · rw [e]; exact h
  · exact t x e
theorem Sm.nil : ∀ x ∈ ([] : List V), Sm H x n k := fun _ h => nomatch h
theorem Sm.app {xs ys : List V} (h : ∀ x ∈ xs, Sm H x n k) (t : ∀ x ∈ ys, Sm H x n k) : ∀ x ∈ xs ++ ys, Sm H x n k := fun x hx => by
  rcases List.mem_append.mp hx with e | e
  · exact h x e
  · exact t x e
theorem Sm.upA {xs : List V} {n' k' : Nat} (h : ∀ x ∈ xs, Sm H x n k) (h1 : n ≤ n') (h2 : k ≤ k') : ∀ x ∈ xs, Sm H x n' k' := fun x hx => (h x hx).up h1 h2
variable {K : PySem.W.Frag} {Q : VK}
end
def cutL {α : Type} (xs : List α) (lo hi : Option Int) : List α := (xs.drop (HT.sIx xs.length 0 lo)).take (HT.sIx xs.length xs.length hi - HT.sIx xs.length 0 lo)
theorem cutV_map {α : Type} (f : α → V) (xs : List α) (lo hi : Option Int) : cutV (xs.map f) lo hi = (cutL xs lo hi).map f := by
  unfold cutV cutL
  rw [List.map_take, List.map_drop, List.length_map]
theorem cutL_sub {α : Type} (xs : List α) (lo hi : Option Int) : (cutL xs lo hi).Sublist xs := (List.take_sublist _ _).trans (List.drop_sublist _ _)
theorem cutL_len {α : Type} (xs : List α) (lo hi : Option Int) : (cutL xs lo hi).length ≤ xs.length := (cutL_sub xs lo hi).length_le
theorem cutV_mem {xs : List V} {lo hi : Option Int} {x : V} (h : x ∈ cutV xs lo hi) : x ∈ xs := by
  have h2 := cutV_map id xs lo hi
  rw [List.map_id, List.map_id] at h2
  rw [h2] at h
  exact (cutL_sub xs lo hi).subset h
abbrev HZ := Addr × List ZP
abbrev hV (g : HZ) : V := .ref g.1
/-- a few small pairs, each as its tuple -/
structure SP (H : Hp) (zs : List ZP) : Prop where
  tp : TP H zs
  few : zs.length ≤ 2305
  small : ∀ z ∈ zs, z.2.1 ≤ 1000 ∧ z.2.2 ≤ 1000
def HP (H : Hp) (gs : List HZ) : Prop := ∀ g ∈ gs, H g.1 = some (.lst (g.2.map zV)) ∧ SP H g.2
section
variable {H H' : Hp} {gs : List HZ} {zs ys : List ZP}
theorem SP.ex (h : SP H zs) (e : Ex H H') : SP H' zs := ⟨h.tp.ex e, h.few, h.small⟩
theorem SP.frp {p : Addr} (h : SP H zs) (hp : Purse H p) (e : FrP p H H') : SP H' zs := ⟨h.tp.frp hp e, h.few, h.small⟩
theorem SP.sub (h : SP H zs) (e : ys.Sublist zs) : SP H ys := ⟨h.tp.sub fun z hz => e.subset hz, Nat.le_trans e.length_le h.few, fun z hz => h.small z (e.subset hz)⟩
theorem SP.perm (h : SP H zs) (e : ys.Perm zs) : SP H ys := ⟨h.tp.perm e, by rw [e.length_eq]; exact h.few, fun z hz => h.small z (e.mem_iff.mp hz)⟩
theorem SP.up {D : Addr} {xs : List V} {u : HO} (h : SP H zs) (hD : H D = some (.lst xs)) : SP (upd H D u) zs := ⟨h.tp.up hD, h.few, h.small⟩
theorem HP.ex (h : HP H gs) (e : Ex H H') : HP H' gs := fun g hg => ⟨e.get (h g hg).1, (h g hg).2.ex e⟩
theorem HP.frp {p : Addr} (h : HP H gs) (hp : Purse H p) (e : FrP p H H') : HP H' gs := fun g hg => ⟨e.get (zs_ne_purse (h g hg).1 hp) (h g hg).1, (h g hg).2.frp hp e⟩
theorem HP.sub {fs : List HZ} (h : HP H gs) (e : ∀ g ∈ fs, g ∈ gs) : HP H fs := fun g hg => h g (e g hg)
/-- one of the lists changes -/
theorem HP.set {g : HZ} {i : Nat} (h : HP H gs) (nd : (gs.map (·.1)).Nodup) (hg : gs[i]? = some g) (hz : SP H zs) : HP (upd H g.1 (.lst (zs.map zV))) (gs.set i (g.1, zs)) := by
  have hgm := List.mem_of_getElem? hg
  have h1 := (h g hgm).1
  intro f hf
  obtain ⟨j, hj⟩ := List.getElem?_of_mem hf
  have hi : i < gs.length := (List.getElem?_eq_some_iff.mp hg).1
  by_cases e : j = i
  · subst e
    rw [List.getElem?_set_self hi] at hj
    cases hj
    exact ⟨upd_same, hz.up h1⟩
  · rw [List.getElem?_set_ne (Ne.symm e)] at hj
    have hfm := List.mem_of_getElem? hj
    have ne : f.1 ≠ g.1 := fun z => e (nd_ix (x := f.1) nd (by rw [List.getElem?_map, hj]; rfl) (by rw [List.getElem?_map, hg]; exact congrArg some z.symm))
    exact ⟨by rw [upd_ne ne]; exact (h f hfm).1, (h f hfm).2.up h1⟩
def encH (g : HZ) : PyData := .list (g.2.map fun z => encQ z.2)
theorem HP.rn {a : Addr} (h : HP H gs) (ha : H a = some (.lst (gs.map hV))) : Rn H (.ref a) (.list (gs.map encH)) := .lst ha (rnA_map fun g hg => (h g hg).2.tp.rnL (h g hg).1)
theorem HP.rp {a : Addr} (h : HP H gs) (ha : H a = some (.lst (gs.map hV))) : Rp H (.ref a) (.list (gs.map encH)) := .lst (lst_of ha) (rpA_map fun g hg => (h g hg).2.tp.rpL (h g hg).1)
theorem encH_depth (g : HZ) : (encH g).depth ≤ 3 := by
  have : PyData.depthAll (g.2.map fun z => encQ z.2) ≤ 2 := depth_map fun z _ => encQ_depth z.2
  simp only [encH, PyData.depth]
  omega
theorem gs_depth (gs : List HZ) : (PyData.list (gs.map encH)).depth ≤ 4 := by
  have : PyData.depthAll (gs.map encH) ≤ 3 := depth_map fun g _ => encH_depth g
  simp only [PyData.depth]
  omega
theorem okA_of {ds : List PyData} (h : ∀ d ∈ ds, okD d = true) : okA ds = true := by
  induction ds with
  | nil => rfl
  | cons d ds ih => simp only [okA, h d List.mem_cons_self, ih fun x hx => h x (List.mem_cons_of_mem _ hx), Bool.and_self]
theorem szA_le {ds : List PyData} {n : Nat} (h : ∀ d ∈ ds, szD d ≤ n) : szA ds ≤ ds.length * n := by
  induction ds with
  | nil => simp [szA]
  | cons d ds ih =>
    have h1 := h d List.mem_cons_self
    have h2 := ih fun x hx => h x (List.mem_cons_of_mem _ hx)
    simp only [szA, List.length_cons, Nat.succ_mul]
    omega
theorem hasDictA_of {ds : List PyData} (h : ∀ d ∈ ds, d.hasDict = false) : PyData.hasDictAll ds = false := by
  induction ds with
  | nil => rfl
  | cons d ds ih => simp only [PyData.hasDictAll, h d List.mem_cons_self, ih fun x hx => h x (List.mem_cons_of_mem _ hx), Bool.or_self]
theorem HP.sd {a : Addr} (h : HP H gs) (ha : H a = some (.lst (gs.map hV))) (hl : gs.length ≤ 100) : Sd H (.ref a) (.list (gs.map encH)) := by
  refine ⟨h.rn ha, fun z => ?_, ?_, ?_, Nat.le_trans (gs_depth gs) (by decide)⟩
  · have : PyData.hasDictAll (gs.map encH) = false := hasDictA_of fun d hd => by
      obtain ⟨g, hg, rfl⟩ := List.mem_map.mp hd
      exact hasDictA_of fun d hd => by
        obtain ⟨z, hz, rfl⟩ := List.mem_map.mp hd
        rfl
    simp only [PyData.hasDict, this] at z
    cases z
  · refine okA_of fun d hd => ?_
    obtain ⟨g, hg, rfl⟩ := List.mem_map.mp hd
    refine okA_of fun d hd => ?_
    obtain ⟨z, hz, rfl⟩ := List.mem_map.mp hd
    have := (h g hg).2.small z hz
    simp only [encQ, okD, okA, Bool.and_true, Bool.and_eq_true, decide_eq_true_eq]
    omega
  · have h1 : szA (gs.map encH) ≤ (gs.map encH).length * 6916 := szA_le fun d hd => by
      obtain ⟨g, hg, rfl⟩ := List.mem_map.mp hd
      have h2 : szA (g.2.map fun z => encQ z.2) ≤ (g.2.map fun z => encQ z.2).length * 3 := szA_le fun d hd => by
        obtain ⟨z, hz, rfl⟩ := List.mem_map.mp hd
        simp [encQ, szD, szA]
      have h3 := (h g hg).2.few
      rw [List.length_map] at h2
      simp only [encH, szD]
      omega
    rw [List.length_map] at h1
    simp only [szD]
    omega
variable {K : PySem.W.Frag} {Q : VK}
end
theorem Sm.cut {H : Hp} {xs : List V} {n k : Nat} {lo hi : Option Int} (h : ∀ x ∈ xs, Sm H x n k) : ∀ x ∈ cutV xs lo hi, Sm H x n k := fun x hx => h x (cutV_mem hx)
/-- any small data -/
def SdE (H : Hp) (v : V) : Prop := ∃ d, Sd H v d
theorem SdE.of {H : Hp} {v : V} {n k : Nat} (h : Sm H v n k) (h1 : n ≤ 999999) (h2 : k ≤ 59) : SdE H v := h.sd h1 h2
theorem SdE.ex {H H' : Hp} {v : V} (h : SdE H v) (e : Ex H H') : SdE H' v := by
  obtain ⟨d, h⟩ := h
  exact ⟨d, h.ex e⟩
theorem allE_nil {P : V → Prop} : ∀ x ∈ ([] : List V), P x := fun _ h => nomatch h
theorem allE_cons {P : V → Prop} {y : V} {ys : List V} (h : P y) (k : ∀ x ∈ ys, P x) : ∀ x ∈ y :: ys, P x := fun x hx => by
  rcases List.mem_cons.mp hx with e | e
  · rw [e]; exact h
  · exact k x e
mutual
/-- a thing is one data -/
theorem Rn.det {H : Hp} : ∀ {v : V} {d d' : PyData}, Rn H v d → Rn H v d' → d = d'
  | _, _, _, .non, .non => rfl
  | _, _, _, .bl _, .bl _ => rfl
  | _, _, _, .int _, .int _ => rfl
  | _, _, _, .str _, .str _ => rfl
  | _, _, _, .lst h k, .lst h' k' => by
    rw [h] at h'
    cases h'
    rw [RnA.det k k']
  | _, _, _, .tup h k, .tup h' k' => by
    rw [h] at h'
    cases h'
    rw [RnA.det k k']
  | _, _, _, .dk _, .dk _ => rfl
  | _, _, _, .lst h _, .tup h' _ => by rw [h] at h'; cases h'
  | _, _, _, .lst h _, .dk h' => by rw [h] at h'; cases h'
  | _, _, _, .tup h _, .lst h' _ => by rw [h] at h'; cases h'
  | _, _, _, .tup h _, .dk h' => by rw [h] at h'; cases h'
  | _, _, _, .dk h, .lst h' _ => by rw [h] at h'; cases h'
  | _, _, _, .dk h, .tup h' _ => by rw [h] at h'; cases h'
theorem RnA.det {H : Hp} : ∀ {vs : List V} {ds ds' : List PyData}, RnA H vs ds → RnA H vs ds' → ds = ds'
  | _, _, _, .nil, .nil => rfl
  | _, _, _, .cons h k, .cons h' k' => by rw [Rn.det h h', RnA.det k k']
end
theorem SdE.sd {H : Hp} {v : V} {d : PyData} (h : SdE H v) (r : Rn H v d) : Sd H v d := by
  obtain ⟨d', h⟩ := h
  rw [r.det h.rn]
  exact h
def SmA (H : Hp) (xs : List V) (n k : Nat) : Prop := ∃ ds, RnA H xs ds ∧ PyData.hasDictAll ds = false ∧ okA ds = true ∧ szA ds ≤ n ∧ PyData.depthAll ds ≤ k
section
variable {H : Hp} {v : V} {xs ys : List V} {n m k : Nat}
theorem SmA.of (h : ∀ x ∈ xs, Sm H x n k) (hm : xs.length ≤ m) : SmA H xs (m * n) k := by
  obtain ⟨ds, a, b, c, d, e⟩ := Sm.all h
  exact ⟨ds, a, b, c, Nat.le_trans d (Nat.mul_le_mul_right n hm), e⟩
theorem SmA.up {n' k' : Nat} (h : SmA H xs n k) (h1 : n ≤ n') (h2 : k ≤ k') : SmA H xs n' k' := by
  obtain ⟨ds, a, b, c, d, e⟩ := h
  exact ⟨ds, a, b, c, by omega, by omega⟩
theorem SmA.nil : SmA H [] 0 k := ⟨[], .nil, rfl, rfl, by simp [szA], by simp [PyData.depthAll]⟩
theorem SmA.cons (h : Sm H v n k) (t : SmA H xs m k) : SmA H (v :: xs) (n + m) k := by
  obtain ⟨ds, a, b, c, d, e⟩ := t
  obtain ⟨x, a1, b1, c1, d1, e1⟩ := h
  refine ⟨x :: ds, .cons a1 a, by simp [PyData.hasDictAll, b, b1], by simp [okA, c, c1], ?_, ?_⟩
  · simp only [szA]; omega
  · simp only [PyData.depthAll]; omega
theorem SmA.app : ∀ {xs : List V} {n : Nat}, SmA H xs n k → SmA H ys m k → SmA H (xs ++ ys) (n + m) k
  | [], n, _, t => t.up (by omega) (Nat.le_refl _)
  | x :: xs, n, ⟨ds, a, b, c, d, e⟩, t => by
    cases a with
    | @cons _ _ d0 ds0 a1 a2 =>
      simp only [PyData.hasDictAll, Bool.or_eq_false_iff] at b
      simp only [okA, Bool.and_eq_true] at c
      simp only [szA] at d
      simp only [PyData.depthAll] at e
      have h := SmA.app (xs := xs) ⟨ds0, a2, b.2, c.2, Nat.le_refl _, by omega⟩ t
      exact (SmA.cons (n := szD d0) ⟨d0, a1, b.1, c.1, Nat.le_refl _, by omega⟩ h).up (by omega) (Nat.le_refl _)
theorem SmA.lst {a : Addr} (h : H a = some (.lst xs)) (t : SmA H xs n k) : Sm H (.ref a) (1 + n) (k + 1) := by
  obtain ⟨ds, h1, h2, h3, h4, h5⟩ := t
  exact ⟨.list ds, .lst h h1, by simpa only [PyData.hasDict] using h2, by simpa only [okD] using h3, by simp only [szD]; omega, by simp only [PyData.depth]; omega⟩
theorem SmA.tup {a : Addr} (h : H a = some (.tup xs)) (t : SmA H xs n k) : Sm H (.ref a) (1 + n) (k + 1) := by
  obtain ⟨ds, h1, h2, h3, h4, h5⟩ := t
  exact ⟨.tuple ds, .tup h h1, by simpa only [PyData.hasDict] using h2, by simpa only [okD] using h3, by simp only [szD]; omega, by simp only [PyData.depth]; omega⟩
theorem ObjsAt.mem {ts : List Addr} {os : List HO} (h : ObjsAt H ts os) {a : Addr} (ha : a ∈ ts) : ∃ o ∈ os, H a = some o := by
  obtain ⟨j, hj⟩ := List.getElem?_of_mem ha
  have hl := h.len
  have hjl := (List.getElem?_eq_some_iff.mp hj).1
  obtain ⟨o, ho⟩ : ∃ o, os[j]? = some o := ⟨os[j]'(by omega), List.getElem?_eq_getElem _⟩
  exact ⟨o, List.mem_of_getElem? ho, h.at j a o hj ho⟩
theorem SmA.cut {lo hi : Option Int} (h : ∀ x ∈ xs, Sm H x n k) (hm : xs.length ≤ m) : SmA H (cutV xs lo hi) (m * n) k := SmA.of (Sm.cut h) (Nat.le_trans (cutV_length _ _ _) hm)
end
theorem Ex.comp {M : Addr → Prop} {H0 H H' : Hp} (e0 : Ex H0 H) (e : Fr M H H') (n : ∀ b, M b → H0 b = none) : Ex H0 H' := fun b o _ q => e b o (fun m => by rw [n b m] at q; cases q) (e0 b o (fun z => z) q)
end Zb
namespace Zb
open PySem PySem.Spec PyProof.Rows L2
mutual
theorem Rq.ex {H H' : Hp} (e : Ex H H') : ∀ {v : V} {d : PyData}, Rq H v d → Rq H' v d
  | _, _, .non => .non
  | _, _, .bl b => .bl b
  | _, _, .int i => .int i
  | _, _, .str x => .str x
  | _, _, .lst h k => .lst (lstAt_ex e h) (RqA.ex e k)
  | _, _, .tup h k => .tup (tupAt_ex e h) (RqA.ex e k)
  | _, _, .dk h k => .dk (e.get h) (RqA.ex e k)
theorem RqA.ex {H H' : Hp} (e : Ex H H') : ∀ {vs : List V} {ds : List PyData}, RqA H vs ds → RqA H' vs ds
  | _, _, .nil => .nil
  | _, _, .cons h k => .cons (Rq.ex e h) (RqA.ex e k)
end
/-- v is d, and is shown by n signs at most, k deep -/
structure Sh (H : Hp) (v : V) (d : PyData) (n k : Nat) : Prop where
  rq : Rq H v d
  sw : d.showable = true
  dp : d.depth ≤ k
  sz : d.shown.length ≤ n
section
variable {H H' : Hp} {v : V} {d : PyData} {n k : Nat} {Q : VK}
theorem Sh.ex (h : Sh H v d n k) (e : Ex H H') : Sh H' v d n k := ⟨h.rq.ex e, h.sw, h.dp, h.sz⟩
theorem Sh.up {n' k' : Nat} (h : Sh H v d n k) (h1 : n ≤ n') (h2 : k ≤ k') : Sh H v d n' k' := ⟨h.rq, h.sw, by have := h.dp; omega, by have := h.sz; omega⟩
theorem Sd.sh (h : Sd H v d) : Sh H v d 16000000 59 := ⟨h.rn.rq, okD_showable d h.ok, h.dp, by
  have h1 := okD_shown d h.ok
  have h2 := h.sz
  omega⟩
theorem Sh.non : Sh H .non .none 4 0 := ⟨.non, rfl, by simp [PyData.depth], by decide⟩
theorem Sh.bl (b : Bool) : Sh H (.bl b) (.bool b) 5 0 := ⟨.bl b, rfl, by simp [PyData.depth], by cases b <;> decide⟩
theorem Sh.str {x : Str} (hx : ∀ c ∈ x.cps.toList, c < 16 ^ 8) : Sh H (.str x) (.str x) (10 * x.length + 2) 0 := ⟨.str x, rfl, by simp [PyData.depth], PySem.StrLaws.reprText_len x hx⟩
theorem Sh.int {i : Int} {m : Nat} (hm : 0 < m) (h : i.natAbs < 10 ^ m) (h2 : i.natAbs.log2 < 1920) : Sh H (.int i) (.int i) (m + 1) 0 := ⟨.int i, by simpa only [PyData.showable, decide_eq_true_eq] using h2, by simp [PyData.depth], by
  have e := int_text_length_le10 hm h
  have e2 : (Str.ofString (toString i)).length = (toString i).length := PySem.ofString_length _
  show (Str.ofString (toString i)).length ≤ _
  omega⟩
/-- rows of shown things -/
inductive ShA (H : Hp) (k : Nat) : List V → List PyData → Nat → Prop
  | nil : ShA H k [] [] 0
  | cons {v : V} {d : PyData} {n : Nat} {vs : List V} {ds : List PyData} {m : Nat} : Sh H v d n k → ShA H k vs ds m → ShA H k (v :: vs) (d :: ds) (n + 2 + m)
theorem ShA.all : ∀ {vs : List V} {ds : List PyData} {m : Nat}, ShA H k vs ds m → RqA H vs ds ∧ PyData.showableAll ds = true ∧ PyData.depthAll ds ≤ k ∧ ((PyData.shownAll ds).map (·.length)).sum + 2 * ds.length ≤ m
  | _, _, _, .nil => ⟨.nil, rfl, by simp [PyData.depthAll], by simp [PyData.shownAll]⟩
  | _, _, _, .cons h t => by
    obtain ⟨a, b, c, e⟩ := ShA.all t
    refine ⟨.cons h.rq a, by simp [PyData.showableAll, h.sw, b], ?_, ?_⟩
    · have := h.dp
      simp only [PyData.depthAll]; omega
    · have := h.sz
      simp only [PyData.shownAll, List.map_cons, List.sum_cons, List.length_cons]; omega
theorem ShA.lst {a : Addr} {xs : List V} {ds : List PyData} (h : H a = some (.lst xs)) (t : ShA H k xs ds n) : Sh H (.ref a) (.list ds) (n + 3) (k + 1) := by
  obtain ⟨r, s, dp, sz⟩ := t.all
  have h2 := listText_len_le (PyData.shownAll ds)
  have h3 := PyData.shownAll_length ds
  exact ⟨.lst (lst_of h) r, by simpa only [PyData.showable] using s, by simp only [PyData.depth]; omega, by simp only [PyData.shown]; omega⟩
theorem ShA.tup {a : Addr} {xs : List V} {ds : List PyData} (h : H a = some (.tup xs)) (t : ShA H k xs ds n) : Sh H (.ref a) (.tuple ds) (n + 3) (k + 1) := by
  obtain ⟨r, s, dp, sz⟩ := t.all
  have h2 := tupleText_len_le (PyData.shownAll ds)
  have h3 := PyData.shownAll_length ds
  exact ⟨.tup (tup_of h) r, by simpa only [PyData.showable] using s, by simp only [PyData.depth]; omega, by simp only [PyData.shown]; omega⟩
theorem ShA.map {α : Type} {val : α → V} {enc : α → PyData} {m : Nat} : ∀ {xs : List α}, (∀ x ∈ xs, Sh H (val x) (enc x) m k) → ShA H k (xs.map val) (xs.map enc) (xs.length * (m + 2))
  | [], _ => by rw [List.length_nil, Nat.zero_mul]; exact .nil
  | x :: xs, h => by
    have := ShA.cons (h x List.mem_cons_self) (ShA.map fun y hy => h y (List.mem_cons_of_mem _ hy))
    rw [List.length_cons, Nat.succ_mul]
    rwa [show xs.length * (m + 2) + (m + 2) = m + 2 + xs.length * (m + 2) by omega]
theorem Sh.dk0 {a : Addr} (h : H a = some (.dK [])) : Sh H (.ref a) (.dict []) 2 1 := ⟨.dk0 h, rfl, by simp [PyData.depth, PyData.depthKv], by decide +kernel⟩
end
def rIsXs (K : PySem.W.Frag) (a : Addr) (cls : Value) (d : Option Addr) : List V → Hp → VK → Prop := fun xs H Q => ∃ (tp : Addr) (cs : List V) (cvs : List Value) (b : Bool) (C dd : Addr) (fs : List (Str × V)), xs = [.ref a, .ref tp] ∧ H tp = some (.tup cs) ∧ (∀ us, Vals cs us → us = cvs) ∧ cls = .ref C ∧ XI K C ∧ d = some dd ∧ H dd = some (.xd fs) ∧ PySem.W.kitAny K (.ref C) cvs = some b ∧ Q (.bl b) H
section
variable {K : PySem.W.Frag} {H : Hp} {Q : VK}
theorem st_isXs2 {a C C1 C2 dd tp : Addr} {fs : List (Str × V)} {b1 b2 : Bool} (T : XI K C) (h1 : H dd = some (.xd fs)) (ht : H tp = some (.tup [.ref C1, .ref C2])) (e1 : PySem.W.kitOne K (.ref C) (.ref C1) = some b1) (e2 : PySem.W.kitOne K (.ref C) (.ref C2) = some b2) (h : Q (.bl (b1 || b2)) H) : rIsXs K a (.ref C) (some dd) [.ref a, .ref tp] H Q := by
  refine ⟨tp, _, [.ref C1, .ref C2], b1 || b2, C, dd, fs, rfl, ht, fun us r => ?_, rfl, T, rfl, h1, ?_, h⟩
  · cases r with
    | cons r1 rr =>
      cases rr with
      | cons r2 rr =>
        cases rr
        cases r1
        cases r2
        rfl
  · unfold PySem.W.kitAny
    rw [e1]
    cases b1 with
    | true => rfl
    | false =>
      show PySem.W.kitAny K _ [.ref C2] = _
      unfold PySem.W.kitAny
      rw [e2]
      cases b2 <;> rfl
end
theorem cutS_to_len (z : Str) (n : Nat) (h : n ≤ z.length) : (cutS z none (some (n : Int))).length = n := by
  show ((z.cps.toList.drop _).take _).toArray.size = _
  rw [HT.sIx_none, HT.sIx_nat, List.size_toArray, List.length_take, List.length_drop, Array.length_toList]
  show min (min n z.cps.size - 0) (z.cps.size - 0) = n
  have : z.cps.size = z.length := rfl
  omega
def hid (p : Addr) (H : Hp) : Hp := fun b => if b = p then none else H b
theorem hid_get {p a : Addr} {H : Hp} {o : HO} (h : H a = some o) (n : a ≠ p) : hid p H a = some o := by
  unfold hid
  rw [if_neg n]
  exact h
theorem hid_ex (p : Addr) (H : Hp) : Ex (hid p H) H := fun b o _ h => by
  unfold hid at h
  split at h
  · cases h
  · exact h
theorem hid_frp {p : Addr} {H H' : Hp} (e : FrP p H H') : Ex (hid p H) (hid p H') := fun b o _ h => by
  unfold hid at h ⊢
  by_cases n : b = p
  · rw [if_pos n] at h; cases h
  · rw [if_neg n] at h ⊢
    exact e b o n h
end Zb
namespace Zb
open PySem PySem.Spec PyProof.Rows L2
def rEqA (K : PySem.W.Frag) : R2 := fun x y H Q => rEqU x y H Q ∨ rEqV K x y H Q
theorem o_eqA {X : Cx} {K : PySem.W.Frag} (hu : X.A.units + 64 < cLine) (hK : X.K = K := by rfl) : OpR X (compareOp .Eq) (rEqA K) := by
  subst hK
  intro pins s σ H x y v u Q I rx ry h
  rcases h with h | h
  · exact o_eq hu pins s σ H x y v u Q I rx ry h
  · exact op_eqV hu pins s σ H x y v u Q I rx ry h
section
variable {K : PySem.W.Frag} {H : Hp} {Q : VK}
theorem st_eqA {x y : V} {d e : PyData} (h1 : Rp H x d) (h2 : Rp H y e) (hd : min d.depth e.depth ≤ 64) (h : Q (.bl (PyData.eqv d e)) H) : rEqA K x y H Q := .inl ⟨d, e, h1, h2, hd, h⟩
theorem st_eqA0 {a : Addr} (h1 : H a = some (.dK [])) (h : Q (.bl true) H) : rEqA K (.ref a) (.ref a) H Q :=
  .inr ⟨0, by decide, .inr ⟨a, a, [], [], rfl, rfl, h1, h1, rfl, fun _ h => (List.not_mem_nil h).elim⟩, h⟩
mutual
theorem eqv_self : ∀ d : PyData, d.hasDict = false → PyData.eqv d d = true
  | .none, _ => rfl
  | .bool b, _ => by simp [PyData.eqv]
  | .int i, _ => by simp [PyData.eqv]
  | .str x, _ => by simp [PyData.eqv]
  | .list ds, h => by
    simp only [PyData.eqv]
    exact eqvAll_self ds (by simpa only [PyData.hasDict] using h)
  | .tuple ds, h => by
    simp only [PyData.eqv]
    exact eqvAll_self ds (by simpa only [PyData.hasDict] using h)
  | .dict kvs, h => by simp [PyData.hasDict] at h
theorem eqvAll_self : ∀ ds : List PyData, PyData.hasDictAll ds = false → PyData.eqvAll ds ds = true
  | [], _ => rfl
  | d :: ds, h => by
    simp only [PyData.hasDictAll, Bool.or_eq_false_iff] at h
    simp only [PyData.eqvAll, eqv_self d h.1, eqvAll_self ds h.2, Bool.and_self]
end
/-- a thing is like itself -/
theorem st_eqSelf {x : V} {d : PyData} (h1 : Rn H x d) (hd : d.hasDict = true → d = .dict []) (hp : d.depth ≤ 64) (h : Q (.bl true) H) : rEqA K x x H Q := by
  cases hb : d.hasDict with
  | false => exact st_eqA (h1.rp hb) (h1.rp hb) (by omega) (by rw [eqv_self d hb]; exact h)
  | true =>
    have := hd hb
    subst this
    cases h1 with
    | dk h2 => exact st_eqA0 h2 h
end
end Zb
namespace Zb
open PySem PySem.Spec PyProof.Rows L2
def gSl (to : TE) (tl th : TO) : TG := fun v σ H Q => to σ H fun o H1 => tl σ H1 fun l H2 => th σ H2 fun u H3 => ∃ (p q : Addr) (xs ys : List V) (a c : Int), o = .ref p ∧ v = .ref q ∧ l = some a ∧ u = some c ∧ H3 p = some (.lst xs) ∧ H3 q = some (.lst ys) ∧ p ≠ q ∧ 0 ≤ a ∧ a ≤ c ∧ c ≤ xs.length ∧ xs.length + ys.length ≤ 16777216 ∧ Q σ (upd H3 p (.lst (xs.take a.toNat ++ ys ++ xs.drop c.toNat)))
theorem st_gsl {to : TE} {tl th : TO} {v : V} {σ : L2.St} {H : Hp} {R : L2.St → Hp → Prop} (h : to σ H fun o H1 => tl σ H1 fun l H2 => th σ H2 fun u H3 => ∃ (p q : Addr) (xs ys : List V) (a c : Int), o = .ref p ∧ v = .ref q ∧ l = some a ∧ u = some c ∧ H3 p = some (.lst xs) ∧ H3 q = some (.lst ys) ∧ p ≠ q ∧ 0 ≤ a ∧ a ≤ c ∧ c ≤ xs.length ∧ xs.length + ys.length ≤ 16777216 ∧ R σ (upd H3 p (.lst (xs.take a.toNat ++ ys ++ xs.drop c.toNat)))) : gSl to tl th v σ H R := h
abbrev TRg := L2.St → Hp → (Int → Int → Int → Hp → Prop) → Prop
def PRgC (X : Cx) (e : Expr) (t : TRg) : Prop := ∀ (pins : List (Addr × Obj)) (s : Shared) (σ : L2.St) (H : Hp) (Q : Int → Int → Int → Hp → Prop), Inv X pins σ H s → t σ H Q →
  wpAny (model X.prog X.w) X.A (eval e X.env) (fun x s' => ∃ r a b c t u v H', x = .ref r ∧ IsRange s'.heap r a b c t u v ∧ Inv X pins σ H' s' ∧ Q a b c H') X.xe s
def tRgC (ta : TA) : TRg := fun σ H Q => ta σ H fun vs H1 => match vs with
  | [.int n] => Q 0 n 1 H1
  | [.int i, .int j] => Q i j 1 H1
  | [.int i, .int j, .int c] => c ≠ 0 ∧ c.natAbs < 1073741824 ∧ Q i j c H1
  | _ => False
section
variable {X : Cx}
theorem prgC {es : List Expr} {e : Expr} {ta : TA} {p pos : Pos} (hg : Gl X "range") (hm : X.mg "range" = none) (ha : PA X (e :: es) ta) (hs : starEach (e :: es) X.env = (false, eval e X.env) :: starEach es X.env := by rfl)
    (hpl : (backTo pos (starEach es X.env)).any (·.1) = false := by rfl) : PRgC X (.Call (.Name "range" p) (e :: es) [] pos) (tRgC ta) := by
  intro pins s σ H Q I h
  refine Call_ (ld_blt I hg hm boot_range (PyProof.Rows.callWith_type1 (thn (ha.run pos pins s σ H _ I h) fun us s1 ⟨vs, H1, I1, r1, q1⟩ => ?_) hs hpl))
  dsimp only at q1
  split at q1
  · obtain ⟨u, rfl, t, rfl⟩ := vals1 r1
    exact call_range_1 ⟨_, _, _, _, _, _, _, H1, rfl, IsRange.new _ _ _ _ _ _ _, I1.kept fun _ _ z => Heap.get?_push_of_some _ z, q1⟩
  · obtain ⟨u, w, rfl, ⟨t, rfl⟩, t', rfl⟩ := vals2 r1
    exact call_range_2 ⟨_, _, _, _, _, _, _, H1, rfl, IsRange.new _ _ _ _ _ _ _, I1.kept fun _ _ z => Heap.get?_push_of_some _ z, q1⟩
  · obtain ⟨c0, c1, q1⟩ := q1
    cases r1 with
    | cons r rr =>
      obtain ⟨u, w, rfl, ⟨t1, rfl⟩, t2, rfl⟩ := vals2 rr
      obtain ⟨t, rfl⟩ := r
      exact call_range_3 c0 ⟨_, _, _, _, _, _, _, H1, rfl, IsRange.new _ _ _ _ _ _ _, I1.kept fun _ _ z => Heap.get?_push_of_some _ z, q1⟩ (.inl (PyProof.noPylong_small c1))
  · exact q1.elim
def rgL (a c : Int) (n : Nat) : List Int := (List.range n).map fun i : Nat => a + (i : Int) * c
theorem vals_rgL {a c : Int} {n : Nat} {acc : Array Value} (h : ItemsOf (fun i v => ∃ t, v = .int (a + i * c) t) acc n) : Vals ((rgL a c n).map V.int) acc.toList := by
  have e : acc.toList.length = n := by rw [Array.length_toList]; exact h.1
  unfold rgL
  rw [← e, List.map_map]
  refine vals_of_get acc.toList _ fun j u hj => ?_
  obtain ⟨t, rfl⟩ := h.2 j u (by rw [← hj, Array.getElem?_toList])
  exact ⟨t, rfl⟩
def tListRg (t : TRg) : TE := fun σ H Q => t σ H fun a b c H1 => ∃ n : Nat, Builtin.Range.small a b c = true ∧ Builtin.Range.rangeSize a b c = n ∧ n ≤ 16777216 ∧ ∀ q, H1 q = none → Q (.ref q) (upd H1 q (.lst ((rgL a c n).map V.int)))
theorem pe_listRgC {e : Expr} {t : TRg} {p pos : Pos} (hc : X.calm = true) (hg : Gl X "list") (hm : X.mg "list" = none) (he : PRgC X e t) (na : starEach [e] X.env = (false, eval e X.env) :: starEach [] X.env := by rfl) : PE X (.Call (.Name "list" p) [e] [] pos) (tListRg t) := by
  refine ⟨fun pins s σ H Q I h => ?_⟩
  refine Call_ (ld_blt I hg hm boot_list (PyProof.Rows.callWith_type1 (args_cons (thn (he pins s σ H _ I h) fun x s1 ⟨r, a, b, c, t, u, v, H1, ex, hr, I1, n, o1, o2, o3, q⟩ => args_nil ?_) na) na))
  subst ex
  refine call_list_range (n := n) (I1.ok.hd hc) hr o1 o2 o3 fun h' tk acc c' hk e' hi => ?_
  have hl : ((rgL a c n).map V.int).length ≤ sizeLine := by rw [List.length_map, rgL, List.length_map, List.length_range, sl16]; exact o3
  refine ⟨.ref s1.heap.objs.size, _, I1.laid (t' := tk) hk (Nat.le_refl _) (show ObjOk X.prog X.w _ h' _ (.lst _) from ⟨hl, acc.toList, c', vals_rgL hi, ?_⟩), rfl, q _ (I1.hok.fresh (Nat.le_refl _))⟩
  rw [Array.toArray_toList]
  exact e'
end
section
variable {σ : L2.St} {H : Hp} {Q : VK} {K : PySem.W.Frag}
def RgP (Q : VK) (a b c : Int) (H1 : Hp) : Prop := ∃ n : Nat, Builtin.Range.small a b c = true ∧ Builtin.Range.rangeSize a b c = n ∧ n ≤ 16777216 ∧ ∀ q, H1 q = none → Q (.ref q) (upd H1 q (.lst ((rgL a c n).map V.int)))
theorem st_listRg {t : TRg} (h : t σ H (RgP Q)) : tListRg t σ H Q := h
def RgQ (P : Int → Int → Int → Hp → Prop) (vs : List V) (H1 : Hp) : Prop := match vs with
  | [.int n] => P 0 n 1 H1
  | [.int i, .int j] => P i j 1 H1
  | [.int i, .int j, .int c] => c ≠ 0 ∧ c.natAbs < 1073741824 ∧ P i j c H1
  | _ => False
theorem st_rgC {ta : TA} {P : Int → Int → Int → Hp → Prop} (h : ta σ H (RgQ P)) : tRgC ta σ H P := h
theorem st_rg1 {n : Int} {P : Int → Int → Int → Hp → Prop} (h : P 0 n 1 H) : RgQ P [.int n] H := h
theorem st_rg2 {i j : Int} {P : Int → Int → Int → Hp → Prop} (h : P i j 1 H) : RgQ P [.int i, .int j] H := h
theorem st_rg3 {i j : Int} {P : Int → Int → Int → Hp → Prop} (h : P i j (-1) H) : RgQ P [.int i, .int j, .int (-1)] H := ⟨by decide, by decide, h⟩
theorem st_rgUp {a b : Int} (hz : -1000000 ≤ a ∧ a ≤ 1000000 ∧ -1000000 ≤ b ∧ b ≤ 1000000) (h : ∀ q H', H q = none → Ex H H' → H' q = some (.lst ((rgL a 1 (b - a).toNat).map V.int)) → Q (.ref q) H') : RgP Q a b 1 H :=
  ⟨(b - a).toNat, small_one (by omega) (by omega) (by omega) (by omega), rangeSize_nat a b, by omega, fun q hq => h q _ hq (Fr.new hq) upd_same⟩
theorem st_rgDown {a b : Int} (hz : -1000000 ≤ a ∧ a ≤ 1000000 ∧ -1000000 ≤ b ∧ b ≤ 1000000) (h : ∀ q H', H q = none → Ex H H' → H' q = some (.lst ((rgL a (-1) (a - b).toNat).map V.int)) → Q (.ref q) H') : RgP Q a b (-1) H :=
  ⟨(a - b).toNat, PySem.W.small_down (by omega) (by omega) (by omega) (by omega), PySem.W.rangeSize_downNat a b, by omega, fun q hq => h q _ hq (Fr.new hq) upd_same⟩
end
def iSeq (K : PySem.W.Frag) (tl : TE) : TI := fun σ H R => tl σ H fun x H1 => ∃ a xs, x = .ref a ∧ seqAt H1 a = some xs ∧ ∀ (J : It) (S : Hp → Prop), Runs J xs.length S (fun i x H H' => H' = H ∧ xs[i]? = some x) → (∀ H', H' a = H1 a → S H') → R J H1
theorem lstAt_eq {H H' : Hp} {a : Addr} {xs : List V} (h : lstAt H a = some xs) (e : H' a = H a) : lstAt H' a = some xs := by
  unfold lstAt at h ⊢
  rw [e]
  exact h
theorem tupAt_eq {H H' : Hp} {a : Addr} {xs : List V} (h : tupAt H a = some xs) (e : H' a = H a) : tupAt H' a = some xs := by
  unfold tupAt at h ⊢
  rw [e]
  exact h
theorem pi_seq {X : Cx} {l tg : Expr} {tl : TE} {K : PySem.W.Frag} (hl : PE X l tl) (hK : X.K = K := by rfl) : PI X tg l (iSeq K tl) := by
  subst hK
  refine ⟨fun pins s σ H R I h => ?_⟩
  refine thn (hl.run pins s σ H _ I h) fun v s1 ⟨x, H1, I1, r1, q1⟩ => ?_
  obtain ⟨a, xs, rfl, hq, q⟩ := q1
  cases r1
  have fp : ∀ b ∈ [s1.heap.objs.size], b = s1.heap.objs.size := fun b hb => by simpa using hb
  rcases seqAt_cases hq with hq | hq
  · obtain ⟨its, rv, p, hz⟩ := I1.list (lstAt_sq hq)
    refine wpAny_pyIter_list p.isList ?_
    refine ⟨s1.heap.objs.size, [s1.heap.objs.size], _, _, H1, rfl, I1.kept (t' := s1.toks) fun _ _ e => Heap.get?_push_of_some _ e, turn_list a _, ⟨_, Heap.get?_push_size _ rfl, rfl, rfl⟩, fun b hb => ?_, q _ _ (runs_list X.K a xs) fun H' e => lstAt_eq hq e⟩
    rw [fp b hb]
    exact I1.fpOk (Nat.le_refl _) (I1.hok.fresh (Nat.le_refl _))
  · obtain ⟨its, rv, p, hz⟩ := I1.tuple (tupAt_sq hq)
    refine wpAny_pyIter_tuple (show s1.heap.IsTuple a its.toArray from p) ?_
    refine ⟨s1.heap.objs.size, [s1.heap.objs.size], _, _, H1, rfl, I1.kept (t' := s1.toks) fun _ _ e => Heap.get?_push_of_some _ e, turn_tuple a _, ⟨_, Heap.get?_push_size _ rfl, rfl, rfl⟩, fun b hb => ?_, q _ _ (runs_tup X.K a xs) fun H' e => tupAt_eq hq e⟩
    rw [fp b hb]
    exact I1.fpOk (Nat.le_refl _) (I1.hok.fresh (Nat.le_refl _))
def Itet (K : PySem.W.Frag) (a : Addr) : It :=
  ⟨fun i H => ∃ (xs : List V) (x : V), SqT K H a xs ∧ xs[i]? = some x, fun i H v H' => ∃ T x, v = .ref T ∧ H T = none ∧ H' = upd H T (.tup [.int (i : Nat), x]) ∧ ∀ xs, SqT K H a xs → xs[i]? = some x, fun i H => ∃ xs : List V, SqT K H a xs ∧ xs.length ≤ i⟩
theorem sqT_inj {X : Cx} {pins : List (Addr × Obj)} {σ : L2.St} {H : Hp} {s : Shared} {a : Addr} {xs ys : List V} (I : Inv X pins σ H s) (h1 : SqT X.K H a xs) (h2 : SqT X.K H a ys) : xs = ys := I.tuple_inj h1 h2
theorem turn_enumT {P : Program} {w : World} {K : PySem.W.Frag} {elts : List Expr} {kk : Nat} {tpos : Pos} (a e it : Addr) :
    Turn P w K (.Tuple elts kk tpos) (Itet K a) [e, it] e (fun i h => (∃ old, IsEnum h e it ((i : Nat) : Int) old) ∧ h.IsTupleIter it a i ∧ e ≠ it) where
  mem := by simp
  obj := fun i h st b hb => by
    obtain ⟨⟨old, he⟩, ⟨o, ho, hc, hd⟩, _⟩ := st
    rcases (show b = e ∨ b = it by simpa using hb) with z | z
    · rw [z]; exact ⟨_, he, fun v q => nomatch q⟩
    · rw [z]; exact ⟨o, ho, fun v q => by rw [hd] at q; cases q⟩
  keep := fun i h h' st k => let ⟨⟨old, he⟩, hi, hne⟩ := st; ⟨⟨old, k e (by simp) _ he⟩, hi.at fun _ q => k it (by simp) _ q, hne⟩
  item := by
    intro X hP hw hK hc i pins s σ H E I hf st hg
    subst hP hw hK
    obtain ⟨⟨old, he⟩, hit, hne⟩ := st
    obtain ⟨xs, x, hq, hx⟩ := hg
    obtain ⟨its, rv, p, hz⟩ := I.tuple hq
    obtain ⟨u, hu, ru⟩ := rv.get hx
    have hel : e < s.heap.objs.size := Heap.lt_size he
    have hil : it < s.heap.objs.size := by obtain ⟨_, q, _⟩ := hit; exact Heap.lt_size q
    have hta : a ≠ it := fun z => by
      obtain ⟨o1, g1, c1, _⟩ := hit
      obtain ⟨o2, g2, c2, _⟩ := p
      rw [z] at g2
      rw [g1] at g2
      cases g2
      rw [c1] at c2
      exact absurd c2 (by decide)
    have hte : e ≠ a := fun z => by
      obtain ⟨o2, g2, c2, _⟩ := p
      rw [← z, he] at g2
      cases g2
      exact absurd (show Value.type "enumerate" = Value.type "tuple" from c2) (by decide)
    have D : Draws X.prog X.w X.A.in1 it [it, a] its.toArray.size (fun i v => its.toArray[i]? = some v) (fun i h => h.IsTupleIter it a i ∧ h.IsTuple a its.toArray) := Draws.tuple (A := X.A.in1) (I.ok.hd hc) it a hta its.toArray
    have hlt : i < its.toArray.size := by
      rw [List.size_toArray, ← rv.length]
      exact (List.getElem?_eq_some_iff.mp hx).1
    refine wpAny_pyNext_enum_itemC D he ⟨hit, p⟩ hlt hne (by simp [hne, hte]) fun y h' tk hy ho st2 hT hsz hk => ?_
    have hyu : y = u := by
      have : its.toArray[i]? = some u := by simpa using hu
      rw [this] at hy
      exact (Option.some.inj hy).symm
    subst hyu
    refine ⟨_, rfl, wpAny_letOwnedTupleGo_enum (s := { s with heap := h', toks := tk + 1 }) ho fun h'' he' sb => ?_⟩
    have hT2 : h''.get? s.heap.objs.size = some { cls := .type "tuple", data := .seq #[.int (i : Nat) tk, y] } := (sb.2 _ (Nat.ne_of_gt hel)).trans hT
    have new : ObjOk X.prog X.w (upd H s.heap.objs.size (.tup [.int (i : Nat), x])) h'' s.heap.objs.size (.tup [.int (i : Nat), x]) :=
      ⟨by show 2 ≤ sizeLine; rw [sl16]; decide, [.int (i : Nat) tk, y], .cons ⟨_, rfl⟩ (.cons ru .nil), ⟨_, hT2, rfl, _, rfl⟩⟩
    have I1 : Inv X pins σ (upd H s.heap.objs.size (.tup [.int (i : Nat), x])) { s with heap := h'', toks := tk + 1 } :=
      I.turnedNew (ch := [e, it]) (fun b ob hb q => (sb.2 b (fun z => hb (by simp [z]))).trans (hk b ob (fun z => hb (by simp [z])) (fun z => hb (by simp [z])) q)) hf (Nat.le_refl _) new
    refine ⟨.ref s.heap.objs.size, _, I1, rfl, ⟨_, x, rfl, I.hok.fresh (Nat.le_refl _), rfl, fun ys hy => by rw [sqT_inj I hy hq]; exact hx⟩, ⟨⟨y, ?_⟩, st2.1.at fun o q => (sb.2 it (Ne.symm hne)).trans q, hne⟩, fun b hb => ?_⟩
    · rw [show ((i + 1 : Nat) : Int) = (i : Int) + 1 by omega]; exact he'
    · have hb' : b < s.heap.objs.size := by
        rcases (show b = e ∨ b = it by simpa using hb) with z | z
        · rw [z]; exact hel
        · rw [z]; exact hil
      rw [upd_ne (Nat.ne_of_lt hb')]
      exact (hf b hb).1
  done := by
    intro X hP hw hK hc i pins s σ H E I hf st hg
    subst hP hw hK
    obtain ⟨⟨old, he⟩, hit, hne⟩ := st
    obtain ⟨xs, hq, hx⟩ := hg
    obtain ⟨its, rv, p, hz⟩ := I.tuple hq
    obtain ⟨f0, f1, f2, f3, f4, f5⟩ := hf it (by simp)
    have hl := rv.length
    have hT : s.TypeIs (.ref e) "enumerate" := ⟨_, he, rfl⟩
    unfold pyNext
    refine wpAny_bind (wpAny_attempt (wpAny_callSpecial?_slot (name := Str.ofString "__next__") hT F.slot_enumerate_next (wpAny_call_entry F.slot_enumerate_next hT F.entry_enumerate_next ?_ (F.args_enumerate_next_1 _))))
    show wpAny _ _ (field (.ref e) 2 >>= _) _ _ _
    refine wpAny_bind (wpAny_field he rfl (x := .ref it) rfl ?_)
    refine wpAny_bind (wpAny_nextOf_tuple_end (I.ok.hd hc) hit p (by simp; omega) fun h' x xb hx' => ?_)
    obtain ⟨o, ho, hoc⟩ := hx'
    refine wpAny_bind (wpAny_isInstance (T := "StopIteration") (b := true) ⟨o, ho, hoc⟩ isSubtype_stop ?_)
    exact wpAny_pure ⟨rfl, I.turned (t' := s.toks) (fun b o hb q => xb b o hb q) f0 f1 f3 f4 f5⟩
  self := fun A i s Q E st h => let ⟨⟨_, he⟩, _⟩ := st; wpAny_pyIter_enum he h
theorem meets_enumT (l : Addr) (items : Array Value) (n : Nat) (dct : Option Addr) (sl : Array (Option Value)) :
    Meets (Builtin.«enumerate.__new__» ⟨[.type "enumerate", .ref l], []⟩) (fun _ R s => s.heap.get? l = some { cls := .type "tuple", dict := dct, data := .seq items n, slots := sl } ∧
      R (.ok (.ret (.ref (s.heap.push { cls := .type "tuple_iterator", data := .fields #[.ref l, .int 0 0] }).objs.size)))
        { s with heap := (s.heap.push { cls := .type "tuple_iterator", data := .fields #[.ref l, .int 0 0] }).push { cls := .type "enumerate", data := .fields #[.none, .bool false, .ref s.heap.objs.size, rawInt 0, .none, .none] } }) :=
  .of_wp fun prog w A R s h => by
    obtain ⟨hp, g, d, tk, os⟩ := s
    obtain ⟨hl, h⟩ := h
    have hsub := sub_enumerate
    have hT : Heap.IsTuple (Shared.heap ⟨hp, g, d, tk, os⟩) l items := ⟨_, hl, rfl, n, rfl⟩
    wp_walk using AutoSeq1.wpAny_loadPart' hl
    refine wpAny_stack_any fun st => wpAny_pure ?_
    split
    · rename_i c _ _ _ _ _
      cases (c == Value.type "enumerate")
      · wp_walk using AutoSeq1.wpAny_loadPart' hl, wpAny_pyIter_tuple hT
        exact ⟨_, rfl, h⟩
      · wp_walk using AutoSeq1.wpAny_loadPart' hl, wpAny_pyIter_tuple hT
        exact ⟨_, rfl, h⟩
    · wp_walk using AutoSeq1.wpAny_loadPart' hl, wpAny_pyIter_tuple hT
      exact ⟨_, rfl, h⟩
theorem call_enumT {prog : Program} {w : World} {A : Around} {E : Value → Shared → Prop} {s : Shared} {l : Addr} {items : Array Value} {Q : Value → Shared → Prop} (hL : s.heap.IsTuple l items)
    (h : ∀ h', IsEnum h' (s.heap.objs.size + 1) s.heap.objs.size 0 .none → h'.IsTupleIter s.heap.objs.size l 0 → h'.objs.size = s.heap.objs.size + 2 →
      (∀ b o, s.heap.get? b = some o → h'.get? b = some o) → Q (.ref (s.heap.objs.size + 1)) { s with heap := h' }) : wpAny (model prog w) A (call (.type "enumerate") [.ref l]) Q E s := by
  obtain ⟨⟨c, dct, dt, sl⟩, hl, hc, n, hd⟩ := hL
  replace hc : c = .type "tuple" := hc
  replace hd : dt = .seq items n := hd
  subst hc hd
  obtain ⟨io, hio⟩ : ∃ io : Obj, io = { cls := .type "tuple_iterator", data := .fields #[.ref l, .int 0 0] } := ⟨_, rfl⟩
  obtain ⟨eo, heo⟩ : ∃ eo : Obj, eo = { cls := .type "enumerate", data := .fields #[.none, .bool false, .ref s.heap.objs.size, rawInt 0, .none, .none] } := ⟨_, rfl⟩
  refine callType_new F.called_enumerate (by decide) (F.typeCall_enumerate_1 _) (F.newCall_enumerate_1 _) (fun obj => F.args_object_init_2 obj _) F.entry_enumerate_new (meets_enumT l items n dct sl) ⟨hl, ?_⟩
  rw [← hio, ← heo]
  have hz : (s.heap.push io).objs.size = s.heap.objs.size + 1 := Heap.size_push ..
  show _ ∧ _
  rw [hz]
  have he : IsEnum ((s.heap.push io).push eo) (s.heap.objs.size + 1) s.heap.objs.size 0 .none := by
    have := Heap.get?_push_size (s.heap.push io) (o := eo) (by rw [heo]; rfl)
    rw [hz, heo] at this
    rw [heo]
    exact this
  refine ⟨⟨_, he, rfl⟩, h _ he ⟨_, Heap.get?_push_of_some _ (Heap.get?_push_size _ (by rw [hio]; rfl)), by rw [hio], by rw [hio]; rfl⟩ (by rw [Heap.size_push, hz]) fun b o x => Heap.get?_push_of_some _ (Heap.get?_push_of_some _ x)⟩
theorem runs_enumT (K : PySem.W.Frag) (a : Addr) (xs : List V) : Runs (Itet K a) xs.length (fun H => tupAt H a = some xs) (fun i x H H' => ∃ T v, x = .ref T ∧ H T = none ∧ Ex H H' ∧ H' T = some (.tup [.int (i : Nat), v]) ∧ xs[i]? = some v) :=
  ⟨fun i H h s => ⟨xs, xs[i], tupAt_sq s, by simp [h]⟩, fun _ s => ⟨xs, tupAt_sq s, Nat.le_refl _⟩, fun i H x H' _ s y => by
    obtain ⟨T, v, e1, e2, e3, e4⟩ := y
    subst e3
    exact ⟨T, v, e1, e2, Fr.new e2, upd_same, e4 xs (tupAt_sq s)⟩⟩
/-- enumerate of a list or a tuple -/
def iEnQ (K : PySem.W.Frag) (ta : TA) : TI := fun σ H R => ta σ H fun vs H1 => ∃ a xs, vs = [.ref a] ∧ seqAt H1 a = some xs ∧ ∀ (J : It) (S : Hp → Prop), Runs J xs.length S (fun i x H H' => ∃ T v, x = .ref T ∧ H T = none ∧ Ex H H' ∧ H' T = some (.tup [.int (i : Nat), v]) ∧ xs[i]? = some v) → (∀ H', H' a = H1 a → S H') → R J H1
theorem pi_enumQ {X : Cx} {e : Expr} {ta : TA} {p pos tpos : Pos} {elts : List Expr} {kk : Nat} {K : PySem.W.Frag} (hg : Gl X "enumerate") (hm : X.mg "enumerate" = none) (ha : PA X [e] ta) (hs : starEach [e] X.env = [(false, eval e X.env)] := by rfl) (hK : X.K = K := by rfl) :
    PI X (.Tuple elts kk tpos) (.Call (.Name "enumerate" p) [e] [] pos) (iEnQ K ta) := by
  subst hK
  refine ⟨fun pins s σ H R I h => ?_⟩
  refine Call_ (ld_blt I hg hm boot_enumerate (PyProof.Rows.callWith_type1 (thn (ha.run pos pins s σ H _ I h) fun us s1 ⟨vs, H1, I1, r1, q1⟩ => ?_) hs rfl))
  obtain ⟨a, xs, ex, hq, q⟩ := q1
  subst ex
  obtain ⟨u, rfl, ru⟩ := vals1 r1
  cases ru
  have bnd : ∀ b ∈ [s1.heap.objs.size + 1, s1.heap.objs.size], s1.heap.objs.size ≤ b := fun b hb => by
    rcases (show b = s1.heap.objs.size + 1 ∨ b = s1.heap.objs.size by simpa using hb) with z | z <;> omega
  rcases seqAt_cases hq with hq | hq
  · obtain ⟨its, rv, p', hz⟩ := I1.list (lstAt_sq hq)
    refine call_enumerate_list p'.isList fun h' he hit hsz hk => wpAny_pyIter_enum he ?_
    have I2 : Inv X pins σ H1 { s1 with heap := h' } := I1.kept (t' := s1.toks) hk
    exact ⟨s1.heap.objs.size + 1, [s1.heap.objs.size + 1, s1.heap.objs.size], _, _, H1, rfl, I2, turn_enum a (s1.heap.objs.size + 1) s1.heap.objs.size, ⟨⟨.none, he⟩, hit, Nat.succ_ne_self _⟩, fun b hb => I1.fpOk (bnd b hb) (I1.hok.fresh (bnd b hb)), q _ _ (runs_enum X.K a xs) fun H' e => lstAt_eq hq e⟩
  · obtain ⟨its, rv, p', hz⟩ := I1.tuple (tupAt_sq hq)
    refine call_enumT (show s1.heap.IsTuple a its.toArray from p') fun h' he hit hsz hk => wpAny_pyIter_enum he ?_
    have I2 : Inv X pins σ H1 { s1 with heap := h' } := I1.kept (t' := s1.toks) hk
    exact ⟨s1.heap.objs.size + 1, [s1.heap.objs.size + 1, s1.heap.objs.size], _, _, H1, rfl, I2, turn_enumT a (s1.heap.objs.size + 1) s1.heap.objs.size, ⟨⟨.none, he⟩, hit, Nat.succ_ne_self _⟩, fun b hb => I1.fpOk (bnd b hb) (I1.hok.fresh (bnd b hb)), q _ _ (runs_enumT X.K a xs) fun H' e => tupAt_eq hq e⟩
section
variable {σ : L2.St} {H : Hp} {K : PySem.W.Frag}
theorem st_iSeq {tl : TE} {R : It → Hp → Prop} (h : tl σ H fun x H1 => ∃ a xs, x = .ref a ∧ seqAt H1 a = some xs ∧ ∀ (J : It) (S : Hp → Prop), Runs J xs.length S (fun i x H H' => H' = H ∧ xs[i]? = some x) → (∀ H', H' a = H1 a → S H') → R J H1) : iSeq K tl σ H R := h
theorem st_isSeq {a : Addr} {xs : List V} {R : It → Hp → Prop} (h1 : seqAt H a = some xs) (h : ∀ (J : It) (S : Hp → Prop), Runs J xs.length S (fun i x H H' => H' = H ∧ xs[i]? = some x) → (∀ H', H' a = H a → S H') → R J H) : ∃ a' xs', V.ref a = .ref a' ∧ seqAt H a' = some xs' ∧ ∀ (J : It) (S : Hp → Prop), Runs J xs'.length S (fun i x H H' => H' = H ∧ xs'[i]? = some x) → (∀ H', H' a' = H a' → S H') → R J H := ⟨a, xs, rfl, h1, h⟩
theorem st_iEnQ {ta : TA} {R : It → Hp → Prop} (h : ta σ H fun vs H1 => ∃ a xs, vs = [.ref a] ∧ seqAt H1 a = some xs ∧ ∀ (J : It) (S : Hp → Prop), Runs J xs.length S (fun i x H H' => ∃ T v, x = .ref T ∧ H T = none ∧ Ex H H' ∧ H' T = some (.tup [.int (i : Nat), v]) ∧ xs[i]? = some v) → (∀ H', H' a = H1 a → S H') → R J H1) : iEnQ K ta σ H R := h
theorem st_isEnQ {a : Addr} {xs : List V} {R : It → Hp → Prop} (h1 : seqAt H a = some xs) (h : ∀ (J : It) (S : Hp → Prop), Runs J xs.length S (fun i x H H' => ∃ T v, x = .ref T ∧ H T = none ∧ Ex H H' ∧ H' T = some (.tup [.int (i : Nat), v]) ∧ xs[i]? = some v) → (∀ H', H' a = H a → S H') → R J H) : ∃ a' xs', [V.ref a] = [.ref a'] ∧ seqAt H a' = some xs' ∧ ∀ (J : It) (S : Hp → Prop), Runs J xs'.length S (fun i x H H' => ∃ T v, x = .ref T ∧ H T = none ∧ Ex H H' ∧ H' T = some (.tup [.int (i : Nat), v]) ∧ xs'[i]? = some v) → (∀ H', H' a' = H a' → S H') → R J H := ⟨a, xs, rfl, h1, h⟩
end
def rIsT2 : List V → Hp → VK → Prop := fun vs H Q => ∃ (x : V) (tp : Addr) (n m t : String) (b c : Bool), vs = [x, .ref tp] ∧ H tp = some (.tup [.ty n, .ty m]) ∧ tyN H x = some t ∧ kitB t n = some b ∧ kitB t m = some c ∧ Q (.bl (b || c)) H
theorem kitAny_two {K : PySem.W.Frag} {t n m : String} {b c : Bool} (h1 : kitB t n = some b) (h2 : kitB t m = some c) : PySem.W.kitAny K (.type t) [.type n, .type m] = some (b || c) := by
  refine kitAny_cons (kit_ty h1) (fun hb => ?_) (fun hb => by rw [hb]; rfl)
  refine kitAny_cons (kit_ty h2) (fun hc => ?_) (fun hc => by rw [hc, Bool.or_true])
  rw [hb, hc]
  rfl
theorem c_isT2 {X : Cx} : CallR X (.builtin "isinstance") rIsT2 := by
  intro pins s σ H xs us Q I r h
  obtain ⟨x, tp, n, m, t, b, c, rfl, hT, ht, h1, h2, q⟩ := h
  exact call_isiT pins s σ H _ us Q I r ⟨x, tp, _, _, [.type n, .type m], b || c, rfl, hT, .cons (.ty _) (.cons (.ty _) .nil), tyN_ok ht, kitAny_two h1 h2, q⟩
theorem st_isT2 {H : Hp} {Q : VK} {x : V} {tp : Addr} {n m t : String} {b c : Bool} (hT : H tp = some (.tup [.ty n, .ty m])) (ht : tyN H x = some t) (h1 : kitB t n = some b) (h2 : kitB t m = some c) (h : Q (.bl (b || c)) H) : rIsT2 [x, .ref tp] H Q := ⟨x, tp, n, m, t, b, c, rfl, hT, ht, h1, h2, h⟩
theorem seqAt_eq {H H' : Hp} {a : Addr} {xs : List V} (h : seqAt H a = some xs) (e : H' a = H a) : seqAt H' a = some xs := by
  unfold seqAt at h ⊢
  rw [e]
  exact h
theorem seqAt_ex {H H' : Hp} {a : Addr} {xs : List V} (e : Ex H H') (h : seqAt H a = some xs) : seqAt H' a = some xs := by
  cases q : H a with
  | none => unfold seqAt at h; rw [q] at h; cases h
  | some o => exact seqAt_eq h (by rw [e a o (fun z => z) q, q])
theorem seqAt_same {H H' : Hp} {a : Addr} {xs : List V} (e : Ex H H') (h : seqAt H a = some xs) : H' a = H a := by
  cases q : H a with
  | none => unfold seqAt at h; rw [q] at h; cases h
  | some o => exact e a o (fun z => z) q
theorem seqAt_same' {M : Addr → Prop} {H H' : Hp} {a : Addr} {xs : List V} (e : Fr M H H') (n : ¬ M a) (h : seqAt H a = some xs) : H' a = H a := by
  cases q : H a with
  | none => unfold seqAt at h; rw [q] at h; cases h
  | some o => exact e a o n q
theorem st_isLT {H : Hp} {Q : VK} {x : V} {d : PyData} {tp : Addr} (h1 : Rq H x d) (hT : H tp = some (.tup [.ty "list", .ty "tuple"])) (h : Q (.bl (isListD d || isTupD d)) H) : rIsT2 [x, .ref tp] H Q := by
  obtain ⟨a1, a2, a3, a4, a5, a6, a7⟩ := kb_list
  obtain ⟨b1, b2, b3, b4, b5, b6, b7⟩ := kb_tup
  refine st_isT2 hT h1.tyn (b := isListD d) (c := isTupD d) ?_ ?_ h
  all_goals (cases d <;> assumption)
theorem Rn.seq {H : Hp} {x : V} {d : PyData} (h : Rn H x d) (hd : (isListD d || isTupD d) = true) : ∃ a xs ds, x = .ref a ∧ seqAt H a = some xs ∧ RnA H xs ds ∧ (d = .list ds ∨ d = .tuple ds) := by
  cases h with
  | lst h k => exact ⟨_, _, _, rfl, seq_l h, k, .inl rfl⟩
  | tup h k => exact ⟨_, _, _, rfl, seq_t h, k, .inr rfl⟩
  | _ => cases hd
def rDivW : R2 := fun x y H Q => match x, y with
  | .int i, .int j => 0 < j ∧ j < 1267650600228229401496703205376 ∧ Q (.int (i / j)) H
  | _, _ => False
theorem st_divW {H : Hp} {Q : VK} {i j : Int} (hc : 0 < j ∧ j < 1267650600228229401496703205376) (h : Q (.int (i / j)) H) : rDivW (.int i) (.int j) H Q := ⟨hc.1, hc.2, h⟩
end Zb
namespace Zb
open PySem PySem.Spec PyProof.Rows L2
theorem rv_of {α : Type} {J : It} {S : Hp → Prop} {ys : List α} {val : α → V} (h : Runs J (ys.map val).length S (fun i x H H' => H' = H ∧ (ys.map val)[i]? = some x)) : RunsV J ys val S := by
  rw [List.length_map] at h
  refine ⟨h.go, h.stop, fun i H x H' hi s y => ?_⟩
  obtain ⟨e1, e2⟩ := h.yld i H x H' hi s y
  rw [List.getElem?_map] at e2
  cases q : ys[i]? with
  | none => rw [q] at e2; cases e2
  | some z =>
    rw [q] at e2
    exact ⟨e1, z, rfl, (Option.some.inj e2).symm⟩
/-- a comprehension, turn by turn, no test -/
theorem lc_turns {J : It} {S : Hp → Prop} {item : Nat → V → Hp → Hp → Prop} {g : TG} {σ : L2.St} {H1 : Hp} {te : TE} {vs : List Nat} {Q : VK} {n : Nat} (hR : Runs J n S item) (hE : ∀ i x H H', item i x H H' → Ex H H') (hS : ∀ H', Ex H1 H' → S H') (hz : n < 1000000) (f : Nat → V)
    (hs : ∀ i x H' H'', i < n → Ex H1 H' → item i x H' H'' → ∀ (B : V → Hp → Prop), (∀ H3, Ex H'' H3 → B (f i) H3) → g x (wipe σ vs) H'' fun σ2 H2 => wipe σ2 vs = wipe σ vs ∧ te σ2 H2 B)
    (hd : ∀ D H', H1 D = none → Ex H1 H' → H' D = some (.lst ((List.range n).map f)) → Q (.ref D) H')
    (hg : ∀ v σ H (P P' : L2.St → Hp → Prop), (∀ σ H, P σ H → P' σ H) → g v σ H P → g v σ H P' := by intro _ _ _ _ _ k h; exact k _ _ h) : LcGoal J g tYes te vs σ Q H1 := by
  refine lc_runs hR (fun _ => False) (fun i acc _ => acc = (List.range i).map f) (fun _ z => z.elim) rfl (fun i acc H' D o _ _ e => e) (fun i acc H' e _ => hS H' e) ?_ ?_
  · rintro D i acc x H' H'' hi L rfl hx
    have e := hE _ _ _ _ hx
    refine hg _ _ _ _ _ (fun σ2 H2 h => ⟨h.1, h.2⟩) (hs i x H' H'' hi L.fr hx (fun v H4 => ∃ acc, H4 D = some (.lst acc) ∧ acc.length < sizeLine ∧ LcW (fun _ => False) H1 (fun i acc _ => acc = (List.range i).map f) D (i + 1) (upd H4 D (.lst (acc ++ [v])))) fun H3 e3 => ?_)
    refine lc_yes L (fun i acc H' D o _ _ e => e) (e.trans e3) (by rw [List.length_map, List.length_range]; omega) ?_
    rw [List.range_succ, List.map_append]
    rfl
  · rintro D acc H' hD e h rfl
    exact hd D H' hD e h
theorem gTup_mono {K : PySem.W.Frag} {n i j : Nat} : ∀ v σ H (P P' : L2.St → Hp → Prop), (∀ σ H, P σ H → P' σ H) → gTup K n (gCons (gName i) (gCons (gName j) gNil)) v σ H P → gTup K n (gCons (gName i) (gCons (gName j) gNil)) v σ H P' := by
  intro v σ H P P' k h
  obtain ⟨a, xs, h1, h2, h3, v1, r1, e1, v2, r2, e2, e3, h4⟩ := h
  exact ⟨a, xs, h1, h2, h3, v1, r1, e1, v2, r2, e2, e3, k _ _ h4⟩
/-- tuples of like things: the very same ones, or data that are alike -/
inductive Lk (H : Hp) : V → V → Prop
  | same (a : Addr) : Lk H (.ref a) (.ref a)
  | dat {x y : V} {d e : PyData} : Rp H x d → Rp H y e → min d.depth e.depth ≤ 60 → PyData.eqv d e = true → Lk H x y
section
variable {K : PySem.W.Frag} {H : Hp} {Q : VK}
theorem Lk.str (z : Str) : Lk H (.str z) (.str z) := .dat (.str z) (.str z) (by simp [PyData.depth]) (by rw [eqv_str]; exact decide_eq_true rfl)
theorem Lk.bl (z : Bool) : Lk H (.bl z) (.bl z) := .dat (.bl z) (.bl z) (by simp [PyData.depth]) (by cases z <;> rfl)
theorem Lk.int (z : Int) : Lk H (.int z) (.int z) := .dat (.int z) (.int z) (by simp [PyData.depth]) (by rw [eqv_int]; exact decide_eq_true rfl)
theorem st_dinU {ty td : TE} {σ : L2.St} (h : ty σ H fun y H1 => td σ H1 fun x H2 => ∃ a o, x = .ref a ∧ DGet H2 a y o ∧ Q (.bl o.isSome) H2) : tDIn ty td σ H Q := h
theorem st_dninU {ty td : TE} {σ : L2.St} (h : ty σ H fun y H1 => td σ H1 fun x H2 => ∃ a o, x = .ref a ∧ DGet H2 a y o ∧ Q (.bl (!o.isSome)) H2) : tDNotIn ty td σ H Q := h
theorem st_dputU {td ty tv : TE} {D : Ends} {σ : L2.St} (h : tv σ H fun v H1 => td σ H1 fun x H2 => ty σ H2 fun y H3 => ∃ a H4, x = .ref a ∧ DPut H3 a y v H4 ∧ D.nx σ H4) : sDPut td ty tv D σ H := h
theorem st_dnewT {σ : L2.St} (h : ∀ p H', H p = none → Ex H H' → H' p = some (.dT []) → Q (.ref p) H') : tDNewT σ H Q := fun p hp => h p _ hp (Fr.new hp) upd_same
end
end Zb
namespace Zb
open PySem PySem.Spec PyProof.Rows L2
/-- a method of the class cls -/
structure Dm (K : PySem.W.Frag) (cls m qual : Str) (st : Stmt) (ps : List Str) (f : Addr) (fd : FuncData) : Prop where
  g : Meth K (clsA K cls) m f
  F : Fun K m qual st f fd
  b : Binds K fd ps []
theorem dm_mk {K : PySem.W.Frag} {cls m qual : Str} {st : Stmt} {ps : List Str} {f : Addr} {oc : Value} {od an : Option Addr} {osl : Array (Option Value)} {kV dc pm cd ct : Value}
    (a : PySem.W.findIn K (.ref (clsA K cls)) m = some (some (.ref f))) (i : PySem.W.isFn K (.ref f) = true) (l : K.lookup f = some ⟨oc, od, .func (PySem.W.fnOf m qual (defArgs st) (defBody st) (defScope st) .none kV dc pm an cd ct), osl⟩) (c : PySem.W.codeIn K cd qual = true) (k : PySem.W.keepIn K (.ref f) = true)
    (hb : ∀ (kV doc pm : Value) (an : Option Addr) (cdv ct : Value) (us : List Value), us.length = ps.length → bindArgs (PySem.W.fnOf m qual (defArgs st) (defBody st) (defScope st) .none kV doc pm an cdv ct) ⟨us, []⟩ = pure (ps.zip us)) :
    Dm K cls m qual st ps f (PySem.W.fnOf m qual (defArgs st) (defBody st) (defScope st) .none kV dc pm an cd ct) :=
  have F := fun_mk (st := st) l c k
  ⟨⟨a, i, k⟩, F, F.binds hb⟩
section
variable {X : Cx} {K : PySem.W.Frag} {e o value : Expr} {f : Str} {pos pos' : Pos} {ta tv : TE}
theorem pe_fldK (he : PE X e ta) (hb : attributeBase e f X.env (eval e X.env) = eval e X.env) (hK : X.K = K := by rfl) : PE X (.Attribute e f pos) (tFld K ta f) := by subst hK; exact pe_fld he hb
theorem ps_fldK (ha : PE X o ta) (hv : PE X value tv) (hs : swapsWith value (some (.Attribute o f pos')) pos.line X.env = pure false) (hK : X.K = K := by rfl) : PS X (.Assign [.Attribute o f pos'] value pos) (sFld K ta tv f) := by subst hK; exact ps_fld ha hv hs
end
section
variable {K : PySem.W.Frag} {σ : L2.St} {H : Hp} {Q : VK} {D : Ends} {C : Addr}
def FldP (K : PySem.W.Frag) (f : Str) (Q : VK) (x : V) (H1 : Hp) : Prop := ∃ a C dx fs v, x = .ref a ∧ H1 a = some (.ins C dx fs) ∧ Cls K C ∧ NoAttr K C f ∧ fs.lookup f = some v ∧ Q v H1
theorem st_fld {ta : TE} {f : Str} (h : ta σ H (FldP K f Q)) : tFld K ta f σ H Q := h
theorem st_fldP {f : Str} {a dx : Addr} {fs : List (Str × V)} {v : V} (h1 : H a = some (.ins C dx fs)) (c : Cls K C) (n : NoAttr K C f) (l : fs.lookup f = some v) (h : Q v H) : FldP K f Q (.ref a) H := ⟨a, C, dx, fs, v, rfl, h1, c, n, l, h⟩
def FldS (K : PySem.W.Frag) (f : Str) (y : V) (P : Hp → Prop) (x : V) (H2 : Hp) : Prop := ∃ a C dx fs, x = .ref a ∧ H2 a = some (.ins C dx fs) ∧ Cls K C ∧ NoAttr K C f ∧ fs.length < 1000 ∧ P (upd H2 a (.ins C dx (putF f y fs)))
theorem st_fldS {ta tv : TE} {f : Str} (h : tv σ H fun y H1 => ta σ H1 (FldS K f y (D.nx σ))) : sFld K ta tv f D σ H := h
theorem st_fldSP {f : Str} {y : V} {P : Hp → Prop} {a dx : Addr} {fs : List (Str × V)} (h1 : H a = some (.ins C dx fs)) (c : Cls K C) (n : NoAttr K C f) (l : fs.length < 1000) (h : P (upd H a (.ins C dx (putF f y fs)))) : FldS K f y P (.ref a) H := ⟨a, C, dx, fs, rfl, h1, c, n, l, h⟩
theorem putF_nil {f : Str} {y : V} : putF f y [] = [(f, y)] := rfl
theorem putF_ne {f g : Str} {y v : V} {r : List (Str × V)} (h : ¬ g = f) : putF f y ((g, v) :: r) = (g, v) :: putF f y r := by
  show (if g = f then _ else _) = _
  rw [if_neg h]
def MethP (C : Addr) (m : Str) (sp : Sp) (dvs : List V) (E : XK) (t : TA) (σ : L2.St) (Q : VK) (x : V) (H1 : Hp) : Prop := ∃ a dx fs, x = .ref a ∧ H1 a = some (.ins C dx fs) ∧ fs.lookup m = none ∧ t σ H1 fun vs H2 => sp (x :: (vs ++ dvs)) H2 Q E
theorem st_meth {m : Str} {sp : Sp} {dvs : List V} {E : XK} {ta : TE} {t : TA} (h : ta σ H (MethP C m sp dvs E t σ Q)) : tMeth C m sp dvs E ta t σ H Q := h
theorem st_methP {m : Str} {sp : Sp} {dvs : List V} {E : XK} {t : TA} {a dx : Addr} {fs : List (Str × V)} (h1 : H a = some (.ins C dx fs)) (l : fs.lookup m = none) (h : t σ H fun vs H2 => sp (.ref a :: (vs ++ dvs)) H2 Q E) : MethP C m sp dvs E t σ Q (.ref a) H := ⟨a, dx, fs, rfl, h1, l, h⟩
def MakeP (C : Addr) (sp : Sp) (dvs : List V) (E : XK) (Q : VK) (vs : List V) (H1 : Hp) : Prop := ∀ x dx, H1 x = none → H1 dx = none → dx ≠ x → sp (.ref x :: (vs ++ dvs)) (upd (upd H1 dx (.own x)) x (.ins C dx [])) (fun v H2 => v = .non ∧ Q (.ref x) H2) E
theorem st_make {sp : Sp} {dvs : List V} {E : XK} {t : TA} (h : t σ H (MakeP C sp dvs E Q)) : tMake C sp dvs E t σ H Q := h
theorem st_makeP {sp : Sp} {dvs : List V} {E : XK} {vs : List V} (h : ∀ x dx H', H x = none → Ex H H' → H' x = some (.ins C dx []) → sp (.ref x :: (vs ++ dvs)) H' (fun v H2 => v = .non ∧ Q (.ref x) H2) E) : MakeP C sp dvs E Q vs H := fun x dx nx nd ne =>
  h x dx _ nx ((Fr.new nd).trans (Fr.new (by rw [upd_ne (Ne.symm ne)]; exact nx))) upd_same
end
/-- a comprehension whose items are new objects of which something is told -/
theorem lc_mk {J : It} {S : Hp → Prop} {item : Nat → V → Hp → Hp → Prop} {g : TG} {σ : L2.St} {H1 : Hp} {te : TE} {vs : List Nat} {Q : VK} {n : Nat} (hR : Runs J n S item) (hE : ∀ i x H H', item i x H H' → Ex H H') (hS : ∀ H', Ex H1 H' → S H') (hz : n < 1000000) (R : Nat → HO → Prop)
    (hs : ∀ i x H' H'', i < n → Ex H1 H' → item i x H' H'' → ∀ (B : V → Hp → Prop), (∀ a H3 o, H'' a = none → Ex H'' H3 → H3 a = some o → R i o → B (.ref a) H3) → g x (wipe σ vs) H'' fun σ2 H2 => wipe σ2 vs = wipe σ vs ∧ te σ2 H2 B)
    (hd : ∀ D H' ts os, H1 D = none → Ex H1 H' → H' D = some (.lst (ts.map V.ref)) → ObjsAt H' ts os → os.length = n → (∀ i o, os[i]? = some o → R i o) → D ∉ ts → (∀ a ∈ ts, H1 a = none) → Q (.ref D) H')
    (hg : ∀ v σ H (P P' : L2.St → Hp → Prop), (∀ σ H, P σ H → P' σ H) → g v σ H P → g v σ H P' := by intro _ _ _ _ _ k h; exact k _ _ h) : LcGoal J g tYes te vs σ Q H1 := by
  intro D hD
  let W : Nat → Hp → Prop := fun i H => ∃ (ts : List Addr) (os : List HO), H D = some (.lst (ts.map V.ref)) ∧ Ex H1 H ∧ ObjsAt H ts os ∧ os.length = i ∧ (∀ j o, os[j]? = some o → R j o) ∧ D ∉ ts ∧ ∀ a ∈ ts, H1 a = none
  refine ⟨fun i m H => m = n - i ∧ i ≤ n ∧ W i H, ⟨n, by simp, Nat.zero_le _, [], [], upd_same, Fr.new hD, .nil, rfl, by simp, by simp, by simp⟩, ?_⟩
  rintro i m H ⟨rfl, hi, ts, os, h1, h2, h3, h4, h5, h6, h7⟩
  by_cases hlt : i < n
  · refine .inr ⟨hR.go i H hlt (hS H h2), W (i + 1), fun H' p' => ⟨n - (i + 1), by omega, rfl, hlt, p'⟩, fun x H' y => ?_⟩
    have hx := hR.yld i H x H' hlt (hS H h2) y
    have e := hE _ _ _ _ hx
    refine hg _ _ _ _ _ (fun σ2 H2 h => ⟨h.1, h.2⟩) (hs i x H H' hlt h2 hx (fun v H4 => ∃ acc, H4 D = some (.lst acc) ∧ acc.length < sizeLine ∧ W (i + 1) (upd H4 D (.lst (acc ++ [v])))) ?_)
    intro a H3 o ha e3 hv hr
    have h1' := e.get h1
    have hDa : a ≠ D := fun z => by rw [z, h1'] at ha; cases ha
    have haN : a ∉ ts := fun z => by
      obtain ⟨k, hk⟩ := List.getElem?_of_mem z
      have hk2 : k < os.length := by
        rw [← h3.len]; exact (List.getElem?_eq_some_iff.mp hk).1
      have := e.get (h3.at k a _ hk (List.getElem?_eq_getElem hk2))
      rw [this] at ha
      cases ha
    refine ⟨ts.map V.ref, e3.get h1', by rw [List.length_map, h3.len, sl16]; omega, ts ++ [a], os ++ [o], by rw [upd_same, List.map_append]; rfl, ((h2.trans e).trans e3).mut hD, ?_, by rw [List.length_append, h4]; rfl, ?_, ?_, ?_⟩
    · refine .up ?_ (((h3.ex e).ex e3).app (.one hv))
      rw [List.mem_append, List.mem_singleton]
      rintro (z | z)
      · exact h6 z
      · exact hDa z.symm
    · intro j o' ho
      by_cases hj : j < os.length
      · rw [List.getElem?_append_left hj] at ho
        exact h5 j o' ho
      · rw [List.getElem?_append_right (by omega)] at ho
        have hj0 : j - os.length = 0 := by
          have := (List.getElem?_eq_some_iff.mp ho).1
          rw [List.length_singleton] at this
          omega
        rw [hj0] at ho
        cases ho
        rw [show j = i by omega]
        exact hr
    · rw [List.mem_append, List.mem_singleton]
      rintro (z | z)
      · exact h6 z
      · exact hDa z.symm
    · intro b hb
      rcases List.mem_append.mp hb with h | h
      · exact h7 b h
      · rw [List.mem_singleton.mp h]; exact Ex.free (h2.trans e) ha
  · have e : i = n := by omega
    subst e
    exact .inl ⟨hR.stop H (hS H h2), hd D H ts os hD h2 h1 h3 h4 h5 h6 h7⟩
theorem objs_choose {α : Type} {f : α → HO} {P : Nat → α → Prop} : ∀ {os : List HO}, (∀ i o, os[i]? = some o → ∃ c, o = f c ∧ P i c) → ∃ cs : List α, os = cs.map f ∧ ∀ i c, cs[i]? = some c → P i c := by
  intro os
  induction os using snoc_ind with
  | h0 => intro _; exact ⟨[], rfl, by simp⟩
  | hs l a ih =>
    intro h
    obtain ⟨cs, h1, h2⟩ := ih fun i o ho => h i o (by rw [List.getElem?_append_left (List.getElem?_eq_some_iff.mp ho).1]; exact ho)
    obtain ⟨c, h3, h4⟩ := h l.length a (by rw [List.getElem?_append_right (Nat.le_refl _), Nat.sub_self]; rfl)
    have hl : l.length = cs.length := by rw [h1, List.length_map]
    refine ⟨cs ++ [c], by rw [h1, h3, List.map_append]; rfl, fun i d hd => ?_⟩
    by_cases hi : i < cs.length
    · rw [List.getElem?_append_left hi] at hd
      exact h2 i d hd
    · rw [List.getElem?_append_right (by omega)] at hd
      have hi0 : i - cs.length = 0 := by
        have := (List.getElem?_eq_some_iff.mp hd).1
        rw [List.length_singleton] at this
        omega
      rw [hi0] at hd
      cases hd
      rw [show i = l.length by omega]
      exact h4
theorem evL_len {α : Type} : ∀ xs : List α, (evL xs).length = (xs.length + 1) / 2
  | [] => by simp [evL]
  | [_] => by simp [evL]
  | a :: b :: r => by
    show (evL r).length + 1 = (r.length + 2 + 1) / 2
    rw [evL_len r]
    omega
theorem odL_len {α : Type} : ∀ xs : List α, (odL xs).length = xs.length / 2
  | [] => by simp [odL]
  | [_] => by simp [odL]
  | a :: b :: r => by
    show (odL r).length + 1 = (r.length + 2) / 2
    rw [odL_len r]
    omega
/-- what is new in H' -/
def newO (H H' : Hp) : Hp := fun b => if H b = none then H' b else none
theorem newO_get {H H' : Hp} {a : Addr} {o : HO} (h : H' a = some o) (n : H a = none) : newO H H' a = some o := by
  unfold newO
  rw [if_pos n]
  exact h
theorem newO_is {H H' : Hp} {a : Addr} {o : HO} (h : newO H H' a = some o) : H a = none ∧ H' a = some o := by
  unfold newO at h
  by_cases n : H a = none
  · rw [if_pos n] at h; exact ⟨n, h⟩
  · rw [if_neg n] at h; cases h
theorem newO_ex (H H' : Hp) : Ex (newO H H') H' := fun _ _ _ h => (newO_is h).2
theorem newO_mono {H H' H'' : Hp} (e : Ex H' H'') : Ex (newO H H') (newO H H'') := fun b o _ h => newO_get (e.get (newO_is h).2) (newO_is h).1
/-- an old place is changed, a new thing stands -/
theorem newO_fr {H H' G : Hp} (h : ∀ b o, H b = none → H' b = some o → G b = some o) : Ex (newO H H') G := fun b o _ q => h b o (newO_is q).1 (newO_is q).2
theorem objs_in {H G : Hp} : ∀ {ts : List Addr} {os : List HO}, (∀ a ∈ ts, ∀ o, H a = some o → G a = some o) → ObjsAt H ts os → ObjsAt G ts os
  | _, _, _, .nil => .nil
  | _, _, hm, .cons h r => .cons (hm _ List.mem_cons_self _ h) (objs_in (fun a ha => hm a (List.mem_cons_of_mem _ ha)) r)
end Zb
namespace Zb
open PySem PySem.Spec PyProof.Rows L2
end Zb
namespace Zb
open PySem PySem.Spec PyProof.Rows L2
open Evl (tCut pss_cut)
/-- an exception of the class cls, its dict at d, kept at a -/
def XkO (a : Addr) (cls : Value) (d : Option Addr) : HO := .ext fun h => ∃ (oe : Obj) (vs : Array Value), h.get? a = some oe ∧ Zc cls d oe ∧ oe.data = .fields vs
def XkP (K : PySem.W.Frag) (n : Str) (Q : VK) : VK := fun x H1 => ∃ (a C dd : Addr) (fs : List (Str × V)) (v : V), x = .ref a ∧ H1 a = some (XkO a (.ref C) (some dd)) ∧ XI K C ∧ PySem.W.findIn K (.ref C) n = some none ∧ H1 dd = some (.xd fs) ∧ fs.lookup n = some v ∧ Q v H1
def tXk (K : PySem.W.Frag) (n : Str) (te : TE) : TE := fun σ H Q => te σ H (XkP K n Q)
section
variable {X : Cx} {K : PySem.W.Frag}
/-- isinstance(e, C), isinstance(e, (C1, ..)), e a kept exception -/
def rIsK (K : PySem.W.Frag) : List V → Hp → VK → Prop := fun xs H Q => ∃ (a : Addr) (c : V) (cv : Value) (b : Bool) (C dd : Addr) (fs : List (Str × V)), xs = [.ref a, c] ∧ H a = some (XkO a (.ref C) (some dd)) ∧ (∀ u, RelV c u → u = cv) ∧ XI K C ∧ H dd = some (.xd fs) ∧ PySem.W.kitOne K (.ref C) cv = some b ∧ Q (.bl b) H
def rIsKs (K : PySem.W.Frag) : List V → Hp → VK → Prop := fun xs H Q => ∃ (a tp : Addr) (cs : List V) (cvs : List Value) (b : Bool) (C dd : Addr) (fs : List (Str × V)), xs = [.ref a, .ref tp] ∧ H a = some (XkO a (.ref C) (some dd)) ∧ H tp = some (.tup cs) ∧ (∀ us, Vals cs us → us = cvs) ∧ XI K C ∧ H dd = some (.xd fs) ∧ PySem.W.kitAny K (.ref C) cvs = some b ∧ Q (.bl b) H
end
section
variable {K : PySem.W.Frag} {σ : L2.St} {H : Hp} {Q : VK}
theorem st_xk {n : Str} {te : TE} (h : te σ H (XkP K n Q)) : tXk K n te σ H Q := h
theorem st_xkP {a C dd : Addr} {n : Str} {fs : List (Str × V)} {v : V} (h0 : H a = some (XkO a (.ref C) (some dd))) (T : XI K C) (hno : PySem.W.findIn K (.ref C) n = some none) (h1 : H dd = some (.xd fs)) (h2 : fs.lookup n = some v) (h : Q v H) : XkP K n Q (.ref a) H := ⟨a, C, dd, fs, v, rfl, h0, T, hno, h1, h2, h⟩
theorem st_isK {a C C' dd : Addr} {fs : List (Str × V)} {b : Bool} (h0 : H a = some (XkO a (.ref C) (some dd))) (T : XI K C) (h1 : H dd = some (.xd fs)) (e : PySem.W.kitOne K (.ref C) (.ref C') = some b) (h : Q (.bl b) H) : rIsK K [.ref a, .ref C'] H Q :=
  ⟨a, .ref C', .ref C', b, C, dd, fs, rfl, h0, fun u r => by cases r; rfl, T, h1, e, h⟩
theorem st_isKT {a C dd : Addr} {fs : List (Str × V)} {n : String} {b : Bool} (h0 : H a = some (XkO a (.ref C) (some dd))) (T : XI K C) (h1 : H dd = some (.xd fs)) (e : PySem.W.kitOne K (.ref C) (.type n) = some b) (h : Q (.bl b) H) : rIsK K [.ref a, .ty n] H Q :=
  ⟨a, .ty n, .type n, b, C, dd, fs, rfl, h0, fun u r => by cases r; rfl, T, h1, e, h⟩
/-- of no class among these -/
inductive KitN (K : PySem.W.Frag) (C : Addr) : List V → Prop
  | nil : KitN K C []
  | cons {D : Addr} {l : List V} : PySem.W.kitOne K (.ref C) (.ref D) = some false → KitN K C l → KitN K C (.ref D :: l)
theorem KitN.any {C : Addr} : ∀ {l : List V}, KitN K C l → ∃ cvs : List Value, (∀ us, Vals l us → us = cvs) ∧ PySem.W.kitAny K (.ref C) cvs = some false
  | _, .nil => ⟨[], fun us r => by cases r; rfl, rfl⟩
  | _, .cons (D := D) h t => by
    obtain ⟨cvs, h1, h2⟩ := t.any
    refine ⟨.ref D :: cvs, fun us r => ?_, ?_⟩
    · cases r with
      | cons r1 rr =>
        cases r1
        rw [h1 _ rr]
    · unfold PySem.W.kitAny
      rw [h]
      exact h2
theorem st_isKs {a C dd tp : Addr} {cs : List V} {fs : List (Str × V)} (h0 : H a = some (XkO a (.ref C) (some dd))) (T : XI K C) (h1 : H dd = some (.xd fs)) (ht : H tp = some (.tup cs)) (k : KitN K C cs) (h : Q (.bl false) H) : rIsKs K [.ref a, .ref tp] H Q := by
  obtain ⟨cvs, k1, k2⟩ := k.any
  exact ⟨a, tp, cs, cvs, false, C, dd, fs, rfl, h0, ht, k1, T, h1, k2, h⟩
end
end Zb
namespace Zb
open PySem PySem.Spec PyProof.Rows L2
open Evl (tCut pss_cut)
def rRv : V → Hp → VK → Prop := fun x H Q => ∃ a xs, x = .ref a ∧ ((lstAt H a = some xs ∧ ∀ q, H q = none → Q (.ref q) (upd H q (.lst xs.reverse))) ∨ (tupAt H a = some xs ∧ ∀ q, H q = none → Q (.ref q) (upd H q (.tup xs.reverse))))
def tRv (te ts : TE) : TE := fun σ H Q => te σ H fun x H1 => ts σ H1 fun s H4 => s = .int (-1) ∧ rRv x H4 Q
section
variable {K : PySem.W.Frag} {σ : L2.St} {H : Hp} {Q : VK}
def RvP (Q : VK) (x s : V) (H4 : Hp) : Prop := s = .int (-1) ∧ rRv x H4 Q
theorem st_rv {te ts : TE} (h : te σ H fun x H1 => ts σ H1 fun s H4 => RvP Q x s H4) : tRv te ts σ H Q := h
theorem st_rvQ {a : Addr} {xs : List V} (h1 : seqAt H a = some xs) (h : ∀ q H', H q = none → Ex H H' → seqAt H' q = some xs.reverse → Q (.ref q) H') : RvP Q (.ref a) (.int (-1)) H :=
  ⟨rfl, a, xs, rfl, (seqAt_cases h1).elim (fun z => .inl ⟨z, fun q hq => h q _ hq (Fr.new hq) (seq_l upd_same)⟩) fun z => .inr ⟨z, fun q hq => h q _ hq (Fr.new hq) (seq_t upd_same)⟩⟩
end
end Zb
namespace SrtO
open PySem PyProof.Rows Srt
end SrtO
namespace Zb
open PySem PySem.Spec PyProof.Rows L2
end Zb
namespace Zb
open PySem PySem.Spec PyProof.Rows L2
/-- x += a text -/
def rIpS : R2 := fun x y H Q => ∃ a b : Str, x = .str a ∧ y = .str b ∧ a.length + b.length ≤ 16777216 ∧ Q (.str (a ++ b)) H
theorem ip_addS {X : Cx} : PIp X .Add rIpS := by
  intro pins s σ H x y v u Q I r1 r2 h
  obtain ⟨a, b, rfl, rfl, hz, q⟩ := h
  exact iop_add_str pins s σ H _ _ v u Q I r1 r2 ⟨a, b, rfl, rfl, by rw [sl16]; exact hz, q⟩
section
variable {σ : L2.St} {H : Hp} {Q : VK} {D : Ends}
theorem st_augS {i : Nat} {te : TE} {z : Str} (hx : σ[i]? = some (some (.str z))) (h : te σ H (fun y H1 => rIpS (.str z) y H1 fun z H2 => D.nx (σ.set i (some z)) H2)) : tAug i te rIpS D σ H := ⟨_, hx, h⟩
theorem st_ipS {x y : Str} (hz : x.length + y.length ≤ 16777216) (h : Q (.str (x ++ y)) H) : rIpS (.str x) (.str y) H Q := ⟨x, y, rfl, rfl, hz, h⟩
end
end Zb
namespace Zb
open PySem PySem.Spec PyProof.Rows L2
end Zb
namespace Zb
open PySem PySem.Spec PyProof.Rows L2
section
variable {X : Cx} {CX : CXT} {k : Nat} {f C : Addr} {fd : FuncData} {ps : List Str} {sp : Sp} {E : L2.St → XK} {x m : Str} {p pos apos : Pos} {e o : Expr} {es : List Expr} {ta : TE} {t : TA}
def tMethS (C : Addr) (m : Str) (sp : Sp) (E : L2.St → XK) (ta : TE) (t : TA) : TE := fun σ H Q => ta σ H (MethP C m sp [] (E σ) t σ Q)
def tMakeS (C : Addr) (sp : Sp) (E : L2.St → XK) (t : TA) : TE := fun σ H Q => t σ H (MakeP C sp [] (E σ) Q)
end
section
variable {σ : L2.St} {H : Hp} {Q : VK} {C : Addr} {sp : Sp} {W : WX}
theorem st_methS {m : Str} {ta : TE} {t : TA} (h : ta σ H (MethP C m sp [] (WE W σ) t σ Q)) : tMethS C m sp (WE W) ta t σ H Q := h
theorem st_makeS {t : TA} (h : t σ H (MakeP C sp [] (WE W σ) Q)) : tMakeS C sp (WE W) t σ H Q := h
end
end Zb
namespace Zb
open PySem PySem.Spec PyProof.Rows L2 SrtO
def IsTri (h : Heap) (v : Value) (k : Int × Int × Int) : Prop := ∃ a o t u r n, v = .ref a ∧ h.get? a = some o ∧ o.cls = .type "tuple" ∧ o.data = .seq #[.int k.1 t, .int k.2.1 u, .int k.2.2 r] n
theorem IsTri.keeps {h h' : Heap} {v : Value} {k : Int × Int × Int} (p : IsTri h v k) (kk : ∀ b o, h.get? b = some o → o.cls = .type "tuple" → h'.get? b = some o) : IsTri h' v k := by
  obtain ⟨a, o, t, u, r, n, e, ho, hc, hd⟩ := p
  exact ⟨a, o, t, u, r, n, e, kk _ _ ho hc, hc, hd⟩
theorem firsts3 {h : Heap} : ∀ {vs : List Value}, (∀ v ∈ vs, ∃ k, IsTri h v k) → ∃ fs : List Value, PySem.W.KatTups h vs fs ∧ fs.length = vs.length ∧ ∀ f ∈ fs, ∃ x t, f = Value.int x t
  | [], _ => ⟨[], PySem.W.KatTups.nil, rfl, fun _ hm => by simp at hm⟩
  | v :: vs, hp => by
    obtain ⟨fs, h1, h2, h3⟩ := firsts3 (vs := vs) fun v' hm => hp v' (List.mem_cons_of_mem _ hm)
    obtain ⟨k, a, o, t, u, r, n, e, ho, hc, hd⟩ := hp v (List.mem_cons_self ..)
    subst e
    refine ⟨.int k.1 t :: fs, PySem.W.KatTups.cons ho hc hd rfl h1, by rw [List.length_cons, List.length_cons, h2], fun f hm => ?_⟩
    rcases List.mem_cons.mp hm with rfl | hm
    · exact ⟨k.1, t, rfl⟩
    · exact h3 f hm
def lex3 (p q : Int × Int × Int) : Bool := if p.1 = q.1 then (if p.2.1 = q.2.1 then decide (p.2.2 < q.2.2) else decide (p.2.1 < q.2.1)) else decide (p.1 < q.1)
theorem lex3_iff {p q : Int × Int × Int} : lex3 p q = true ↔ p.1 < q.1 ∨ (p.1 = q.1 ∧ (p.2.1 < q.2.1 ∨ (p.2.1 = q.2.1 ∧ p.2.2 < q.2.2))) := by
  unfold lex3
  by_cases e : p.1 = q.1
  · rw [if_pos e]
    by_cases f : p.2.1 = q.2.1
    · rw [if_pos f, decide_eq_true_eq]
      omega
    · rw [if_neg f, decide_eq_true_eq]
      omega
  · rw [if_neg e, decide_eq_true_eq]
    omega
theorem lex3_no {p q : Int × Int × Int} : lex3 p q = false ↔ ¬ (p.1 < q.1 ∨ (p.1 = q.1 ∧ (p.2.1 < q.2.1 ∨ (p.2.1 = q.2.1 ∧ p.2.2 < q.2.2)))) := by
  rw [← lex3_iff]
  cases lex3 p q <;> simp
theorem swo3 {α : Type} (k : α → Int × Int × Int) : Swo fun v u => lex3 (k v) (k u) := by
  refine ⟨fun x y h => ?_, fun x y z h1 h2 => ?_⟩
  · have a := lex3_iff.mp h
    refine lex3_no.mpr ?_
    omega
  · have a := lex3_no.mp h1
    have b := lex3_no.mp h2
    refine lex3_no.mpr ?_
    omega
section
variable {prog : Program} {w : World} {A : Around} {s : Shared} {E : Value → Shared → Prop}
theorem tri_cmp {vs : List Value} {k : Value → Int × Int × Int} (hp : ∀ v ∈ vs, IsTri s.heap v (k v)) : Cmp prog w A s (tuples' true) (fun p => p.1 ∈ vs) (lt2 fun v u => lex3 (k v) (k u)) := by
  intro p q hm hm'
  have h1 := hp _ hm
  have h2 := hp _ hm'
  show wpAny (model prog w) A (keyLt' (tuples' true) p.1 q.1) (fun r s' => s' = s ∧ r = lex3 (k p.1) (k q.1)) (fun _ _ => False) s
  unfold lex3
  generalize k p.1 = kp at h1 ⊢
  generalize k q.1 = kq at h2 ⊢
  obtain ⟨x, y, z⟩ := kp
  obtain ⟨x', y', z'⟩ := kq
  obtain ⟨a, o, t, u, r, n, e, ho, hc, hd⟩ := h1
  obtain ⟨a', o', t', u', r', n', e', ho', hc', hd'⟩ := h2
  rw [e, e']
  refine PySem.W.kat_lt ho hd ho' hd' ?_
  show PySem.W.KatLex prog w A true (decide (3 < 3)) _ [(.int x t, .int x' t'), (.int y u, .int y' u'), (.int z r, .int z' r')] 0 s
  refine PySem.W.kat_cons (SeqAt.EqAt.int_int x t x' t' prog w _ _ ?_)
  refine PySem.W.kat_go (fun e1 => ?_) (fun e1 => ?_)
  · have ex : x = x' := by simpa using e1
    refine PySem.W.kat_yes (PySem.W.kat_cons (SeqAt.EqAt.int_int y u y' u' prog w _ _ ?_))
    refine PySem.W.kat_go (fun e2 => ?_) (fun e2 => ?_)
    · have ey : y = y' := by simpa using e2
      refine PySem.W.kat_yes (PySem.W.kat_cons (SeqAt.EqAt.int_int z r z' r' prog w _ _ ?_))
      refine PySem.W.kat_go (fun e3 => ?_) (fun e3 => ?_)
      · have ez : z = z' := by simpa using e3
        have e4 : (if x = x' then (if y = y' then decide (z < z') else decide (y < y')) else decide (x < x')) = false := by
          rw [if_pos ex, if_pos ey, ez]
          exact decide_eq_false (Int.lt_irrefl _)
        exact PySem.W.kat_yes (PySem.W.kat_nil ⟨rfl, e4.symm⟩)
      · have e4 : (if x = x' then (if y = y' then decide (z < z') else decide (y < y')) else decide (x < x')) = decide (z < z') := by rw [if_pos ex, if_pos ey]
        refine PySem.W.kat_no (PySem.W.kat_one _ _ (PyProof.Rows.lt_int ?_))
        exact (show s = s ∧ decide (z < z') = (if x = x' then (if y = y' then decide (z < z') else decide (y < y')) else decide (x < x')) from ⟨rfl, e4.symm⟩)
    · have ey : ¬ y = y' := by simpa using e2
      have e3 : (if x = x' then (if y = y' then decide (z < z') else decide (y < y')) else decide (x < x')) = decide (y < y') := by rw [if_pos ex, if_neg ey]
      refine PySem.W.kat_no (PySem.W.kat_one _ _ (PyProof.Rows.lt_int ?_))
      exact (show s = s ∧ decide (y < y') = (if x = x' then (if y = y' then decide (z < z') else decide (y < y')) else decide (x < x')) from ⟨rfl, e3.symm⟩)
  · have ex : ¬ x = x' := by simpa using e1
    have e3 : (if x = x' then (if y = y' then decide (z < z') else decide (y < y')) else decide (x < x')) = decide (x < x') := if_neg ex
    exact PySem.W.kat_no (oneLt_int ⟨rfl, e3.symm⟩)
theorem tri_sortableO {a : Addr} {vs : List Value} {k : Value → Int × Int × Int} (h0 : 0 < vs.length) (hp : ∀ v ∈ vs, IsTri s.heap v (k v)) (ha : ∀ o, s.heap.get? a = some o → o.cls ≠ .type "tuple") : SortableO prog w A s a vs fun v u => lex3 (k v) (k u) := by
  intro h' keep
  have hp' : ∀ v ∈ vs, IsTri h' v (k v) := fun v hm => (hp v hm).keeps fun b o e c => keep b o (fun z => by subst z; exact ha o e c) e
  obtain ⟨fs, h1, h2, h3⟩ := firsts3 fun v hm => ⟨_, hp' v hm⟩
  refine ⟨tuples' true, fun Q E hq => ?_, tri_cmp hp'⟩
  refine PySem.W.kat_kind (T := .type "int") h1 (by omega) (fun f hm => ?_) (by rfl) ?_
  · obtain ⟨x, t, rfl⟩ := h3 f hm
    exact PySem.W.Looks.now
  · have e : (Value.type "int" != Value.type "tuple") = true := by first | decide +kernel | rfl | decide
    rw [e]
    exact hq
theorem sorted_tri {l : Addr} {vs : List Value} {k : Value → Int × Int × Int} {Q : Value → Shared → Prop} (hl : s.heap.IsList l vs.toArray) (hz : vs.length ≤ sizeLine) (hp : ∀ v ∈ vs, IsTri s.heap v (k v))
    (h : ∀ (h' : Heap) (d : Addr) (out : List Value), Srtd (fun v u => lex3 (k v) (k u)) out → Stb (fun v u => lex3 (k v) (k u)) out vs → (∀ b o, s.heap.get? b = some o → h'.get? b = some o) → s.heap.objs.size ≤ d → (∃ n, h'.get? d = some (seqObj "list" out.toArray n)) → Q (.ref d) { s with heap := h' }) :
    wpAny (model prog w) A (call (.builtin "sorted") [.ref l]) Q E s := by
  refine sorted_ord (swo3 k) hl hz (fun h2 h₁ a ha kk => ?_) fun out hs hb => ?_
  · refine tri_sortableO (s := { s with heap := h₁ }) (by omega) (fun v hm => (hp v hm).keeps fun b o e _ => (kk b o e).2) fun o e => ?_
    have e' : some o = some (seqObj "list" vs.toArray 0) := e.symm.trans ha
    cases e'
    intro c
    exact absurd (Value.type.inj c) (by decide)
  · exact h _ _ out hs hb (fun b o e => sortedAll_old e) (Nat.le_succ _) (sortedAll_at s.heap vs out.toArray)
end
theorem vals3q {x y z : V} {us : List Value} (r : Vals [x, y, z] us) : ∃ u w' t', us = [u, w', t'] ∧ RelV x u ∧ RelV y w' ∧ RelV z t' := by
  cases r with
  | cons a r => cases r with
    | cons b r => cases r with
      | cons c r => cases r; exact ⟨_, _, _, rfl, a, b, c⟩
def rSorted3 (K : PySem.W.Frag) : List V → Hp → VK → Prop := fun vs H Q => ∃ (a : Addr) (xs : List V) (k : V → Int × Int × Int), vs = [V.ref a] ∧ SqL K H a xs ∧ (∀ x ∈ xs, ∃ t, x = V.ref t ∧ H t = some (.tup [.int (k x).1, .int (k x).2.1, .int (k x).2.2])) ∧
  ∀ ys p, Srtd (fun v u => lex3 (k v) (k u)) ys → ys.Perm xs → H p = none → Q (.ref p) (upd H p (.lst ys))
section
variable {X : Cx} {K : PySem.W.Frag}
theorem c_sort3 (hK : X.K = K := by rfl) : CallR X (.builtin "sorted") (rSorted3 K) := by
  subst hK
  intro pins s σ H vs us Q I r h
  obtain ⟨a, xs, k, rfl, hs, hx, q⟩ := h
  obtain ⟨its, rv, hl, hz⟩ := I.list hs
  obtain ⟨u, rfl, ru⟩ := vals1 r
  obtain rfl : u = Value.ref a := ru
  obtain ⟨e1, e2⟩ := refs_back rv fun x m => by
    obtain ⟨t, e, _⟩ := hx x m
    exact ⟨t, e⟩
  refine sorted_tri (k := fun u => k (backV u)) hl.isList (by rw [← rv.length]; exact hz) (fun v hv => ?_) fun h' d out h1 h2 kp hd hn => ?_
  · obtain ⟨t, rfl⟩ := e2 v hv
    have hm : V.ref t ∈ xs := by rw [e1]; exact List.mem_map.mpr ⟨_, hv, rfl⟩
    obtain ⟨t', e, ht⟩ := hx _ hm
    cases e
    obtain ⟨_, its2, r2, o, ho, hc, n, hd⟩ := I.hok _ _ ht
    obtain ⟨u1, u2, u3, rfl, ri, rj, rk⟩ := vals3q r2
    obtain ⟨t1, rfl⟩ := ri
    obtain ⟨t2, rfl⟩ := rj
    obtain ⟨t3, rfl⟩ := rk
    exact ⟨t, o, t1, t2, t3, n, rfl, ho, hc, hd⟩
  · have h3 : ∀ u ∈ out, ∃ a, u = Value.ref a := fun u hu => e2 u (h2.perm.mem_iff.mp hu)
    obtain ⟨n, hn⟩ := hn
    have hb : Stb (fun v u => lex3 (k v) (k u)) (out.map backV) xs := by
      rw [e1]
      exact Stb.map (swo3 k) backV h2
    refine ⟨.ref d, upd H d (.lst (out.map backV)), I.laid (t' := s.toks) kp hd ⟨?_, out, n, vals_back h3, hn⟩, rfl, q _ d (srtd_map h1) hb.perm (I.hok.fresh hd)⟩
    rw [hb.len]
    exact hz
end
def tri3 (q : Int × Int × Int) : HO := .tup [.int q.1, .int q.2.1, .int q.2.2]
abbrev ZT := Addr × (Int × Int × Int)
abbrev z3V (z : ZT) : V := .ref z.1
def T3 (H : Hp) (zs : List ZT) : Prop := ∀ z ∈ zs, H z.1 = some (tri3 z.2)
def lexI3 (a b : Int × Int × Int) : Prop := a.1 < b.1 ∨ (a.1 = b.1 ∧ (a.2.1 < b.2.1 ∨ (a.2.1 = b.2.1 ∧ a.2.2 ≤ b.2.2)))
section
variable {H H' : Hp} {zs ys : List ZT}
theorem T3.ex (h : T3 H zs) (e : Ex H H') : T3 H' zs := fun z hz => e.get (h z hz)
theorem T3.up {D : Addr} {xs : List V} {u : HO} (h : T3 H zs) (hD : H D = some (.lst xs)) : T3 (upd H D u) zs := fun z hz => by
  rw [upd_ne fun e => by have := h z hz; rw [e, hD] at this; cases this]
  exact h z hz
theorem T3.app (h : T3 H zs) (k : T3 H ys) : T3 H (zs ++ ys) := fun z hz => (List.mem_append.mp hz).elim (h z) (k z)
theorem T3.cons {z : ZT} (h : H z.1 = some (tri3 z.2)) (k : T3 H ys) : T3 H (z :: ys) := fun y hy => by
  rcases List.mem_cons.mp hy with rfl | hy
  · exact h
  · exact k y hy
theorem T3.perm (h : T3 H zs) (e : ys.Perm zs) : T3 H ys := fun z hz => h z (e.mem_iff.mp hz)
def triAt (H : Hp) (v : V) : Int × Int × Int := match v with
  | .ref a => match H a with
    | some (.tup [.int i, .int j, .int k]) => (i, j, k)
    | _ => (0, 0, 0)
  | _ => (0, 0, 0)
theorem triAt_of {t : Addr} {q : Int × Int × Int} (h : H t = some (tri3 q)) : triAt H (.ref t) = q := by
  unfold triAt
  simp only [h, tri3]
theorem st_sort3 {K : PySem.W.Frag} {Q : VK} {p : Addr} (h1 : SqL K H p (zs.map z3V)) (ht : T3 H zs) (h : ∀ (ys : List ZT) q H', ys.Perm zs → (ys.map (·.2)).Pairwise lexI3 → H q = none → Ex H H' → H' q = some (.lst (ys.map z3V)) → Q (.ref q) H') : rSorted3 K [.ref p] H Q := by
  have hk : ∀ z ∈ zs, triAt H (z3V z) = z.2 := fun z hz => triAt_of (ht z hz)
  refine ⟨p, zs.map z3V, triAt H, rfl, h1, fun x hx => ?_, fun ys q hs hst hq => ?_⟩
  · obtain ⟨z, hz, rfl⟩ := List.mem_map.mp hx
    refine ⟨z.1, rfl, ?_⟩
    rw [hk z hz]
    exact ht z hz
  · obtain ⟨zs', hp, rfl⟩ := perm_mapV z3V ys zs hst
    refine h zs' q _ hp ?_ hq (Fr.new hq) upd_same
    have hs2 := List.pairwise_map.mp hs
    rw [List.pairwise_map]
    refine List.Pairwise.imp_of_mem (fun {a b} ha hb hab => ?_) hs2
    have a2 := hk a (hp.mem_iff.mp ha)
    have b2 := hk b (hp.mem_iff.mp hb)
    have hab : lex3 (triAt H (z3V b)) (triAt H (z3V a)) = false := hab
    rw [a2, b2] at hab
    have := lex3_no.mp hab
    unfold lexI3
    omega
end
def rMin3 : List V → Hp → VK → Prop := fun vs H Q => match vs with
  | [.int i, .int j, .int k] => Q (.int (min (min i j) k)) H
  | _ => False
theorem c_min3 {X : Cx} (hc : X.calm = true) : CallR X (.builtin "min") rMin3 := by
  intro pins s σ H xs us Q I r h
  unfold rMin3 at h
  split at h
  · rename_i i j k
    refine call_min3Nu hc pins s σ H _ us Q I r ⟨_, _, _, V.int (min (min i j) k), rfl, ?_, h⟩
    show ((nuLt (V.int j) (V.int i)).map fun c => if c = true then V.int j else V.int i).bind (fun m => (nuLt (V.int k) m).map fun c => if c = true then V.int k else m) = _
    have lt : ∀ a b : Int, nuLt (V.int a) (V.int b) = some (decide (a < b)) := fun a b => rfl
    rw [lt]
    by_cases c : j < i
    · rw [show min i j = j by omega]
      simp only [Option.map_some, Option.bind_some, decide_eq_true c, if_true, lt]
      by_cases d : k < j
      · rw [show min j k = k by omega, decide_eq_true d]; rfl
      · rw [show min j k = j by omega, decide_eq_false d]; rfl
    · rw [show min i j = i by omega]
      simp only [Option.map_some, Option.bind_some, decide_eq_false c, if_false, lt, Bool.false_eq_true]
      by_cases d : k < i
      · rw [show min i k = k by omega, decide_eq_true d]; rfl
      · rw [show min i k = i by omega, decide_eq_false d]; rfl
  · exact h.elim
theorem st_min3 {i j k : Int} {H : Hp} {Q : VK} (h : Q (.int (min (min i j) k)) H) : Zb.rMin3 [.int i, .int j, .int k] H Q := h
end Zb
namespace Zb
open PySem PySem.Spec PyProof.Rows L2
section
variable {X : Cx} {CX : CXT} {k : Nat} {f : Addr} {fd : FuncData} {ps : List Str} {sp : Sp} {E : XK} {e o : Expr} {es : List Expr} {ta : TE} {t : TA} {p1 p2 pos apos : Pos} {nm m : Str}
def MethD (CS : Addr → Prop) (m : Str) (sp : Addr → Sp) (E : XK) (t : TA) (σ : L2.St) (Q : VK) (x : V) (H1 : Hp) : Prop := ∃ a C dx fs, x = .ref a ∧ H1 a = some (.ins C dx fs) ∧ CS C ∧ fs.lookup m = none ∧ t σ H1 fun vs H2 => sp C (x :: vs) H2 Q E
def tMethD (CS : Addr → Prop) (m : Str) (sp : Addr → Sp) (E : XK) (ta : TE) (t : TA) : TE := fun σ H Q => ta σ H (MethD CS m sp E t σ Q)
variable {CS : Addr → Prop} {spD : Addr → Sp}
end
section
variable {σ : L2.St} {H : Hp} {Q : VK} {CS : Addr → Prop} {m : Str} {sp : Addr → Sp} {E : XK}
theorem st_methD {ta : TE} {t : TA} (h : ta σ H (MethD CS m sp E t σ Q)) : tMethD CS m sp E ta t σ H Q := h
end
end Zb
namespace Zb
open PySem PySem.Spec PyProof.Rows L2 LamX NdefX
open Evl (tCut pss_cut)
/-- a lambda: its words, what it captured, its code object -/
structure LF where
  qual : Str
  params : Arguments
  body : Expr
  scope : Scope
  cl : List (Str × Addr)
  c : Addr
abbrev LF.nf (F : LF) : NF := ⟨"<lambda>", F.qual, F.params, [], F.scope, F.cl, F.c⟩
abbrev LF.fd (F : LF) (pm ctv : Value) : FuncData := PySem.W.kla_fn "<lambda>" F.qual F.params F.body F.scope F.cl pm (.ref F.c) ctv
def LamO (f : Addr) (F : LF) : HO := .ext fun h => ∃ (od : Option Addr) (sl : Array (Option Value)) (pm ctv : Value), h.get? f = some (⟨.type "function", od, .func (F.fd pm ctv), sl⟩ : Obj)
theorem lamO_at {P : Program} {w : World} {H : Hp} {h : Heap} {f : Addr} {F : LF} (hok : HOk P w H h) (e : H f = some (LamO f F)) : ∃ (od : Option Addr) (sl : Array (Option Value)) (pm ctv : Value), h.get? f = some (⟨.type "function", od, .func (F.fd pm ctv), sl⟩ : Obj) := (hok f _ e).1
/-- all but the tables stay -/
abbrev ExT (H H' : Hp) : Prop := LamX.ExtN H H'
/-- a heap without its tables -/
def noT (H : Hp) : Hp := fun b => match H b with
  | some (.tbl _) => none
  | x => x
theorem noT_get {H : Hp} {a : Addr} {o : HO} (h : H a = some o) (n : ∀ ps, o ≠ .tbl ps) : noT H a = some o := by
  unfold noT
  rw [h]
  cases o <;> first | rfl | exact absurd rfl (n _)
theorem noT_of {H : Hp} {a : Addr} {o : HO} (h : noT H a = some o) : H a = some o ∧ ∀ ps, o ≠ .tbl ps := by
  unfold noT at h
  split at h
  · cases h
  · rename_i x hx
    exact ⟨h, fun ps z => hx ps (h.trans (by rw [z]))⟩
theorem noT_ex (H : Hp) : Ex (noT H) H := fun b o _ h => (noT_of h).1
theorem ExT.ex {H H' : Hp} (e : ExT H H') : Ex (noT H) H' := fun b o _ h => e b o (noT_of h).1 (noT_of h).2
theorem ExT.of {H H' : Hp} (e : Ex H H') : ExT H H' := fun b o h _ => e b o (fun z => z) h
theorem ExT.tr {H H1 H2 : Hp} (a : ExT H H1) (b : ExT H1 H2) : ExT H H2 := fun c o h n => b c o (a c o h n) n
theorem ExT.nn {H H' : Hp} (e : ExT H H') : Ex (noT H) (noT H') := fun b o _ h => noT_get (e b o (noT_of h).1 (noT_of h).2) (noT_of h).2
theorem noT_mono {H H' : Hp} (e : Ex H H') : Ex (noT H) (noT H') := (ExT.of e).nn
theorem ExT.get {H H' : Hp} {a : Addr} {o : HO} (e : ExT H H') (h : H a = some o) (n : ∀ ps, o ≠ .tbl ps := by intro _ z; cases z) : H' a = some o := e a o h n
section
variable {X : Cx} {pins : List (Addr × Obj)} {σ : L2.St} {H : Hp} {s : Shared}
theorem inv_lam {F : LF} {o : Obj} {t' : Nat} {pm ctv : Value} (I : Inv X pins σ H s) (ho : o = { cls := .type "function", data := .func (F.fd pm ctv) }) :
    Inv X pins σ (upd H s.heap.objs.size (LamO s.heap.objs.size F)) { s with heap := s.heap.push o, toks := t' } := by
  subst ho
  have e : (s.heap.push ({ cls := .type "function", data := .func (F.fd pm ctv) } : Obj)).get? s.heap.objs.size = some { cls := .type "function", data := .func (F.fd pm ctv) } := Heap.get?_push_size _ rfl
  exact I.laid (a := s.heap.objs.size) (fun b u q => Heap.get?_push_of_some _ q) (Nat.le_refl _) ⟨⟨_, _, pm, ctv, e⟩, ⟨_, e⟩, fun h1 h2 ⟨od, sl, p, t, z⟩ st => ⟨od, sl, p, t, st _ z⟩⟩
/-- the tables, when one of them has grown by a code object -/
theorem tabs_more {T : List (Addr × Str)} {P c' : Addr} {q : Str} {pos : Pos} {ps : Array Value} (hT : Tabs T H) (hu : ∀ p ∈ T, p.1 = P → p.2 = q) (hP : H P = some (.tbl ps)) (ht : TriplesOk ps.toList) (ha : ∀ (pos : Pos) (cv : Value), codeAmong pos ps.toList = some cv → ∃ c, cv = .ref c ∧ H c = some (CodeO c q)) (nC : H c' = none) :
    Tabs T (upd (upd H P (.tbl (ps ++ #[rawInt pos.line, rawInt pos.col, .ref c']))) c' (CodeO c' q)) ∧ ExT H (upd (upd H P (.tbl (ps ++ #[rawInt pos.line, rawInt pos.col, .ref c']))) c' (CodeO c' q)) := by
  have hE : ExT H (upd (upd H P (.tbl (ps ++ #[rawInt pos.line, rawInt pos.col, .ref c']))) c' (CodeO c' q)) := fun b o e n => by
    have n1 : b ≠ c' := ne_of_none e nC
    have n2 : b ≠ P := fun z => by
      subst z
      rw [hP] at e
      exact n ps (Option.some.inj e).symm
    rw [upd_ne n1, upd_ne n2]
    exact e
  have eL : (ps ++ #[rawInt pos.line, rawInt pos.col, .ref c']).toList = ps.toList ++ [rawInt pos.line, rawInt pos.col, .ref c'] := by simp
  refine ⟨fun p hp => ?_, hE⟩
  by_cases hb : p.1 = P
  · have hq := hu p hp hb
    rw [hb, hq]
    refine ⟨_, (upd_ne (ne_of_none hP nC)).trans upd_same, ?_, fun p' cv h => ?_⟩
    · rw [eL]
      exact PySem.TriplesOk_snoc _ _ _ _ ht
    · rw [eL] at h
      rcases among_app _ ht h with z | z
      · obtain ⟨c0, e1, e2⟩ := ha p' cv z
        exact ⟨c0, e1, hE _ _ e2 codeO_ne⟩
      · exact ⟨c', z, upd_same⟩
  · obtain ⟨ps', a1, a2, a3⟩ := hT p hp
    refine ⟨ps', (upd_ne (ne_of_none a1 nC)).trans ((upd_ne hb).trans a1), a2, fun p' cv h => ?_⟩
    obtain ⟨c0, e1, e2⟩ := a3 p' cv h
    exact ⟨c0, e1, hE _ _ e2 codeO_ne⟩
theorem lam_new {T : List (Addr × Str)} {c P : Addr} {params : Arguments} {body : Expr} {scope : Scope} {pos : Pos} {E : Value → Shared → Prop} {Q : Value → Shared → Prop} (I : Inv X pins σ H s) (TB : TabB X.base X.mg c P) (hcode : X.env.code = .ref c)
    (hm : (P, X.env.qual ++ "<lambda>") ∈ T) (hu : ∀ p ∈ T, p.1 = P → p.2 = X.env.qual ++ "<lambda>") (hT : Tabs T H) (hdef : defaultsOf params X.env = ([], [])) (hfree : ∀ y ∈ scope.names, y.2 = .free → ∃ c, X.env.cells.lookup y.1 = some c)
    (h : ∀ (f c' : Addr) (H1 : Hp) (s' : Shared), Inv X pins σ H1 s' → ExT H H1 → (∀ b, H1 b = none → H b = none) → Tabs T H1 → H f = none → H1 f = some (LamO f ⟨X.env.qual ++ "<lambda>", params, body, scope, cloFrom X.env.cells scope.names [], c'⟩) → H1 c' = some (CodeO c' (X.env.qual ++ "<lambda>")) → Q (.ref f) s') :
    wpAny (model X.prog X.w) X.A (eval (.Lambda params body scope pos) X.env) Q E s := by
  obtain ⟨ps, hP, ht, ha⟩ := hT _ hm
  have bP := TB.bm.keeps I.bk
  have hP' := I.hok P _ hP
  have un : ∀ {b a : Addr} {G : Hp} {o : HO}, upd G a o b = none → G b = none := fun e => upd_free e
  refine PySem.W.kla_eval hdef ?_
  cases hc : codeAmong pos ps.toList with
  | none =>
    refine PySem.W.kla_makeFunction (closure_ok hfree) I.ok.glob (I.mod.glob.keeps I.bk) hcode (TB.code.keeps I.bk) hP' ht hc TB.gP bP ?_
    intro c' ctv h' tk hx hge hlt hrec htb
    obtain ⟨c2, oc, vs, t, e2, hoc, hd, hv⟩ := hrec
    cases e2
    have nC := I.hok.fresh hge
    obtain ⟨T1, hE⟩ := tabs_more (pos := pos) hT hu hP ht ha nC
    have I1 := inv_table (t' := tk) (more := #[rawInt pos.line, rawInt pos.col, .ref c']) (h' := h') I hP (fun b o n e => hx b o n e) htb hge ⟨oc, vs, t, hoc, hd, hv⟩
    have I2 := inv_lam (F := ⟨X.env.qual ++ "<lambda>", params, body, scope, cloFrom X.env.cells scope.names [], c'⟩) (t' := tk) (pm := (X.mg "__name__").getD .none) (ctv := ctv) I1 rfl
    have nF := I1.hok.fresh (Nat.le_refl h'.objs.size)
    have keepF : ∀ b o, upd (upd H P (.tbl (ps ++ #[rawInt pos.line, rawInt pos.col, .ref c']))) c' (CodeO c' (X.env.qual ++ "<lambda>")) b = some o → b ≠ h'.objs.size := fun b o e => ne_of_none e nF
    refine h h'.objs.size c' _ _ I2 (fun b o e n => ?_) (fun b e => un (un (un e))) (T1.ext fun b o e => ?_) (un (un nF)) upd_same ?_
    · have e1 := hE b o e n
      rw [upd_ne (keepF b o e1)]
      exact e1
    · rw [upd_ne (keepF b o e)]
      exact e
    · rw [upd_ne (keepF c' _ upd_same)]
      exact upd_same
  | some cv =>
    obtain ⟨c', e, hco⟩ := ha pos cv hc
    subst e
    refine PySem.W.kla_makeFunctionHit (closure_ok hfree) I.ok.glob (I.mod.glob.keeps I.bk) hcode (TB.code.keeps I.bk) hP' ht hc bP ?_
    intro ctv h' tk hx hsz
    have I1 : Inv X pins σ H { s with heap := h', toks := tk } := I.kept hx
    have nF := I1.hok.fresh (Nat.le_refl h'.objs.size)
    have I2 := inv_lam (F := ⟨X.env.qual ++ "<lambda>", params, body, scope, cloFrom X.env.cells scope.names [], c'⟩) (t' := tk) (pm := (X.mg "__name__").getD .none) (ctv := ctv) I1 rfl
    have keepF : ∀ b o, H b = some o → b ≠ h'.objs.size := fun b o e => ne_of_none e nF
    refine h h'.objs.size c' _ _ I2 (fun b o e _ => ?_) (fun b e => un e) (hT.ext fun b o e => ?_) nF upd_same ?_
    · rw [upd_ne (keepF b o e)]
      exact e
    · rw [upd_ne (keepF b o e)]
      exact e
    · rw [upd_ne (keepF c' _ hco)]
      exact hco
end
/-- the reading of a lambda as a value -/
def tLamb (T : List (Addr × Str)) (mk : Addr → LF) : TE := fun σ H Q => Tabs T H ∧ ∀ (f c' : Addr) (H1 : Hp), ExT H H1 → (∀ b, H1 b = none → H b = none) → Tabs T H1 → H f = none → H1 f = some (LamO f (mk c')) → H1 c' = some (CodeO c' (mk c').qual) → Q (.ref f) H1
section
variable {X : Cx}
theorem pe_lamb {T : List (Addr × Str)} {c P : Addr} {params : Arguments} {body : Expr} {scope : Scope} {pos : Pos} (TB : TabB X.base X.mg c P) (hcode : X.env.code = .ref c) (hm : (P, X.env.qual ++ "<lambda>") ∈ T) (hu : ∀ p ∈ T, p.1 = P → p.2 = X.env.qual ++ "<lambda>")
    (hdef : defaultsOf params X.env = ([], [])) (hfree : ∀ y ∈ scope.names, y.2 = .free → X.env.scope.names.lookup y.1 = some .cell ∨ X.env.scope.names.lookup y.1 = some .free) :
    PE X (.Lambda params body scope pos) (tLamb T fun c' => ⟨X.env.qual ++ "<lambda>", params, body, scope, cloFrom X.env.cells scope.names [], c'⟩) := by
  refine ⟨fun pins s σ H Q I h => ?_⟩
  obtain ⟨hT, h⟩ := h
  refine lam_new I TB hcode hm hu hT hdef (fun y hy e => (hfree y hy e).elim (fun z => I.ok.has _ (.inl z)) fun z => I.ok.has _ (.inr z)) ?_
  intro f c' H1 s' I1 eN nn T1 f0 f1 c1
  exact ⟨.ref f, H1, I1, rfl, h f c' H1 eN nn T1 f0 f1 c1⟩
end
structure LOk (P : Program) (w : World) (K : PySem.W.Frag) (mg : Str → Option Value) (base : Heap) (k : Nat) (f : Addr) (F : LF) (ps fr : List Str) (sp : List (Option V) → List V → Hp → VK → Prop) : Prop where
  len : ∀ ws vs H Q, sp ws vs H Q → vs.length = ps.length
  run : ∀ (A : Around) (outer : List Env) (s : Shared) (H : Hp) (us : List Value) (vs : List V) (ws : List (Option V)) (Q : VK), Room k A → Env0 P w K mg base A outer s H → H f = some (LamO f F) → H F.c = some (CodeO F.c F.qual) →
    CellsAt F.cl fr ws s.heap H → Vals vs us → sp ws vs H Q → codeAny (model P w) A (.call (.ref f) ⟨us, []⟩) (CR CX0 outer P w H s Q E0) s
section
variable {P : Program} {w : World} {K : PySem.W.Frag} {mg : Str → Option Value} {base : Heap} {N ps fr : List Str} {F : LF} {f : Addr} {k : Nat} {sp : List (Option V) → List V → Hp → VK → Prop}
/-- .. by its body -/
theorem lok_of (S : NScope N ps fr F.scope) (hb : ∀ (pm ctv : Value) (us : List Value), us.length = ps.length → bindArgs (F.fd pm ctv) ⟨us, []⟩ = pure (ps.zip us)) (len : ∀ ws vs H Q, sp ws vs H Q → vs.length = ps.length)
    (hbody : ∀ (A : Around) (outer : List Env) (s : Shared) (H : Hp) (vs : List V) (ws : List (Option V)) (Q : VK), Room k (A.deeper (envF F.nf f s.heap.objs.size)) → sp ws vs H Q →
      ∃ t, PE (ncx CX0 P w K mg base N F.nf f A outer s H E0) F.body t ∧ t (startF N vs ws) H Q) : LOk P w K mg base (k + 1) f F ps fr sp := by
  refine ⟨len, fun A outer s H us vs ws Q hr e0 hf hc C r hsp => ?_⟩
  have hl := len _ _ _ _ hsp
  have lim : s.heap.NoLimit := e0.mod.nolimit.keeps fun b o e => (e0.bs b o e).1
  obtain ⟨od, sl, pm, ctv, ho⟩ := lamO_at e0.hok hf
  refine PySem.W.kla_callFunE hr.depth ho rfl S.co S.gen rfl (codeO_at e0.hok hc) ?_
  rw [hb pm ctv us (by rw [← r.length]; exact hl)]
  refine wpAny_pure (wpAny_newFunctionEnv S.nocell (fun ⟨n, _⟩ hy => S.par n (List.of_mem_zip hy).1) ?_ S.kind)
  intro h₁ hns hsb
  refine ⟨lim.fresh _ hsb, ?_⟩
  show codeAny _ _ (.expr F.body (envF F.nf f s.heap.objs.size)) _ _
  obtain ⟨t, ht, hq⟩ := hbody A outer s H vs ws Q (hr.deeper _) hsp
  have kp : ∀ b o, s.heap.get? b = some o → h₁.get? b = some o := fun b o e => hsb.extBut b o (Nat.ne_of_lt (Heap.lt_size e)) (Heap.get?_push_of_some _ e)
  have I : Inv (ncx CX0 P w K mg base N F.nf f A outer s H E0) [] (startF N vs ws) H { s with heap := h₁, toks := s.toks + (ps.zip us).length } := inv_startN (F := F.nf) S hr.hd e0 hl r C hns kp
  refine PySem.W.kla_codeExpr (wpAny_mono (ht.run [] _ (startF N vs ws) H Q I hq) (fun v s' hs => ?_) fun e s' hs => hs)
  obtain ⟨x, H', J, rv, q⟩ := hs
  exact ⟨x, H', J.os, J.bare, J.base, J.hok, rv, q⟩
end
section
variable {X : Cx} {pins : List (Addr × Obj)} {σ : L2.St} {H : Hp} {s : Shared} {cl : List (Str × Addr)} {fr : List Str} {ws : List (Option V)}
/-- captured cells that stood at the entry stand -/
theorem cells_later (C : CellsAt cl fr ws X.s_0.heap X.H_0) (hex : X.ex = []) (I : Inv X pins σ H s) : CellsAt cl fr ws s.heap H := by
  have nx : ∀ b, b ∉ X.ex := fun b z => by rw [hex] at z; cases z
  have kp : ∀ y c, cl.lookup y = some c → ∀ v, X.s_0.heap.IsCell c v → s.heap.IsCell c v := fun y c e v ⟨o, ho, hd⟩ => by
    obtain ⟨sl, q⟩ := I.base.any ho (C.all y c e).1 (nx c)
    exact ⟨_, q, hd⟩
  refine ⟨C.len, fun y c e => ?_, C.inj, fun i y e => ?_⟩
  · obtain ⟨n, v, z⟩ := C.all y c e
    have z' := kp y c e v z
    obtain ⟨o, ho, _⟩ := z
    exact ⟨I.base.free c o ho n (nx c), v, z'⟩
  · obtain ⟨c, hc, hv⟩ := C.has i y e
    refine ⟨c, hc, fun v ev => ?_⟩
    obtain ⟨u, r, z⟩ := hv v ev
    exact ⟨u, r, kp y c hc _ z⟩
theorem lam_fn {f : Addr} {F : LF} (I : Inv X pins σ H s) (e : H f = some (LamO f F)) : PySem.W.FnAt f s.heap := by
  obtain ⟨od, sl, pm, ctv, ho⟩ := lamO_at I.hok e
  exact ⟨_, od, _, sl, ho⟩
end
/-- x(..), x a name that holds a lambda: tl, what it does -/
def tCb (f : Addr) (F : LF) (i : Nat) (tl : List V → Hp → VK → Prop) (t : TA) : TE := fun σ H Q => σ[i]? = some (some (.ref f)) ∧ H f = some (LamO f F) ∧ t σ H fun vs H1 => H1 f = some (LamO f F) ∧ H1 F.c = some (CodeO F.c F.qual) ∧ tl vs H1 Q
/-- in X calls of the lambda may be read so -/
def CbAt (X : Cx) (f : Addr) (F : LF) (tl : List V → Hp → VK → Prop) : Prop := ∀ {i : Nat} {x : Str} {e : Expr} {es : List Expr} {t : TA} {p pos : Pos}, X.N[i]? = some x → Vis X.env.scope x → PA X (e :: es) t → (x == ("__debug__" : Str)) = false → (x == ("__classdict__" : Str)) = false →
  starEach (e :: es) X.env = (false, eval e X.env) :: starEach es X.env → (backTo pos (starEach es X.env)).any (·.1) = false → PE X (.Call (.Name x p) (e :: es) [] pos) (tCb f F i tl t)
theorem cbAt_of {X : Cx} {k j : Nat} {f : Addr} {F : LF} {ps fr : List Str} {ws : List (Option V)} {sp : List (Option V) → List V → Hp → VK → Prop} (L : LOk X.prog X.w X.K X.mg X.base k f F ps fr sp) (C : CellsAt F.cl fr ws X.s_0.heap X.H_0) (hex : X.ex = []) (hr : Room j X.A) (hk : k ≤ j) : CbAt X f F (sp ws) := by
  intro i x e es t p pos hN hv ha hd hcd he hpl
  refine ⟨fun pins s σ H Q I h => ?_⟩
  obtain ⟨hs, hf, ht⟩ := h
  refine wpAny_Call_Name_kw (thn ((pe_var (pos := p) hN hv hd hcd).run pins s σ H (fun v H1 => v = .ref f ∧ H1 = H) I ⟨.ref f, hs, rfl, rfl⟩) fun u s1 ⟨v, H1, I1, r1, ev, eH⟩ => ?_)
  subst ev
  subst eH
  obtain rfl : u = Value.ref f := r1
  refine PySem.W.callWith_F (first := []) (lam_fn I1 hf) (thn (ha.run pos pins s1 σ _ _ I1 ht) fun us s2 ⟨vs, H2, I2, r, h1, h2, q⟩ => ⟨lam_fn I2 h1, ?_⟩) he hpl
  show wpAny _ _ (call (.ref f) us) _ _ _
  refine wpAny_call (codeAny_mono (L.run X.A X.stack s2 H2 us vs ws _ (hr.mono hk) I2.env0 h1 h2 (cells_later C hex I2) r q) fun r' s' hq => ?_)
  cases r' with
  | error e => exact (show False from hq).elim
  | ok fl =>
    cases fl with
    | ret u => exact I2.after hq
    | next => exact False.elim hq
    | brk => exact False.elim hq
    | cont => exact False.elim hq
structure FnCb (P : Program) (w : World) (K : PySem.W.Frag) (mg : Str → Option Value) (base : Heap) (k j : Nat) (f : Addr) (fd : FuncData) (ps : List Str) (spc : Addr → LF → (List V → Hp → VK → Prop) → Sp) : Prop where
  len : ∀ fl F tl vs H Q E, spc fl F tl vs H Q E → vs.length = ps.length
  run : ∀ (A : Around) (outer : List Env) (s : Shared) (H : Hp) (us : List Value) (vs : List V) (Q : VK) (E : XK) (fl : Addr) (F : LF) (pl fr : List Str) (spl : List (Option V) → List V → Hp → VK → Prop) (ws : List (Option V)), Room k A → Env0 P w K mg base A outer s H → BindsTo s fd ⟨us, []⟩ (ps.zip us) → Vals vs us →
    LOk P w K mg base j fl F pl fr spl → CellsAt F.cl fr ws s.heap H → spc fl F (spl ws) vs H Q E → codeAny (model P w) A (.call (.ref f) ⟨us, []⟩) (CR CX0 outer P w H s Q E) s
section
variable {P : Program} {w : World} {K : PySem.W.Frag} {mg : Str → Option Value} {base : Heap}
theorem okCb {x qual : Str} {st : Stmt} {f : Addr} {fd : FuncData} {N ps : List Str} {k j : Nat} {spc : Addr → LF → (List V → Hp → VK → Prop) → Sp} (F : Fun K x qual st f fd) (S : FnScope N ps (defScope st)) (hj : j ≤ k) (len : ∀ fl F tl vs H Q E, spc fl F tl vs H Q E → vs.length = ps.length)
    (hbody : ∀ (cdv : Value) (A : Around) (outer : List Env) (s : Shared) (H : Hp) (vs : List V) (Q : VK) (E : XK) (fl : Addr) (G : LF) (tl : List V → Hp → VK → Prop), Room k (A.deeper (envOfC qual (defScope st) s.heap.objs.size f cdv)) → CbAt (cxOf CX0 P w K mg base N qual (defScope st) f cdv A outer s H E).nox fl G tl → spc fl G tl vs H Q E →
      ∃ t, PSs (cxOf CX0 P w K mg base N qual (defScope st) f cdv A outer s H E).nox (defBody st) t ∧ t { nx := fun _ H' => Q .non H', rt := Q } (L2.start N vs) H) : FnCb P w K mg base (k + 1) j f fd ps spc := by
  obtain ⟨oc, od, kV, doc, pm, an, cdv, ct, osl, rfl, lk, hcd⟩ := F.ex
  refine ⟨len, fun A outer s H us vs Q E fl G pl fr spl ws hr e0 hb r L C hsp => ?_⟩
  have hl := len _ _ _ _ _ _ _ hsp
  refine LamX.run_ofS (N := N) (ps := ps) lk hcd S hr e0 hb r hl fun hr' => ?_
  obtain ⟨t, h, q⟩ := hbody cdv A outer s H vs Q E fl G (spl ws) hr' (cbAt_of L C rfl hr' hj) hsp
  exact ⟨t, h.nox, q⟩
end
/-- a call that hands on a lambda which the caller has made: mk, its words; js: the slots of what it captured -/
def tCallCb (mk : Addr → LF) (js : List Nat) (spl : Addr → Addr → List (Option V) → List V → Hp → VK → Prop) (spc : Addr → LF → (List V → Hp → VK → Prop) → Sp) (t : TA) : TE := fun σ H Q => t σ H fun vs H1 => ∃ fl c', spc fl (mk c') (spl fl c' (js.map (slotAt σ))) vs H1 Q E0
section
variable {X : Cx} {k j i : Nat} {f : Addr} {fd : FuncData} {ps pl fr : List Str} {mk : Addr → LF} {cl : List (Str × Addr)} {js : List Nat} {spl : Addr → Addr → List (Option V) → List V → Hp → VK → Prop} {spc : Addr → LF → (List V → Hp → VK → Prop) → Sp} {x : Str} {t : TA} {e : Expr} {es : List Expr} {p pos : Pos}
theorem pe_callCb (F : FnCb X.prog X.w X.K X.mg X.base k j f fd ps spc) (Lk : ∀ fl c', LOk X.prog X.w X.K X.mg X.base j fl (mk c') pl fr (spl fl c')) (hcl : ∀ c', (mk c').cl = cl) (cp : X.Ok → Caps X cl fr js) (hr : Room k X.A) (gl : Gl X x) (hm : X.mg x = some (.ref f)) (hk : PySem.W.keepIn X.K (.ref f) = true) (hb : Binds X.K fd ps [])
    (ha : PA X (e :: es) t) (hdb : (x == ("__debug__" : Str)) = false := by decide) (he : starEach (e :: es) X.env = (false, eval e X.env) :: starEach es X.env := by rfl) (hpl : (backTo pos (starEach es X.env)).any (·.1) = false := by rfl) : PE X (.Call (.Name x p) (e :: es) [] pos) (tCallCb mk js spl spc t) := by
  refine ⟨fun pins s σ H Q I h => ?_⟩
  refine wpAny_Call_Name_kw (ld_glob I gl hm ?_ hdb)
  refine PySem.W.callWith_K (h₀ := X.base) I.ok.mod.kin hk (thn (ha.run pos pins s σ H _ I h) fun us s2 ⟨vs, H2, I2, r, fl, c', q⟩ => ⟨I2.kIn, ?_⟩) he hpl
  have hl := F.len _ _ _ _ _ _ _ q
  have C := cells_of I2 (cp I2.ok)
  rw [← hcl c'] at C
  have hbt : BindsTo s2 fd ⟨us, []⟩ (ps.zip us) := by
    have := hb s2 us I2.kIn (by rw [List.append_nil, ← r.length]; exact hl)
    rwa [List.append_nil] at this
  show wpAny _ _ (call (.ref f) us) _ _ _
  refine wpAny_call (codeAny_mono (F.run X.A X.stack s2 H2 us vs Q E0 fl (mk c') pl fr _ _ hr I2.env0 hbt r (Lk fl c') C q) fun r' s' hq => ?_)
  cases r' with
  | error e => exact (show False from hq).elim
  | ok fl =>
    cases fl with
    | ret u => exact I2.after hq
    | next => exact False.elim hq
    | brk => exact False.elim hq
    | cont => exact False.elim hq
end
structure FunC (K : PySem.W.Frag) (x qual : Str) (st : Stmt) (f : Addr) (fd : FuncData) (c : Addr) : Prop where
  ex : ∃ (oc : Value) (od : Option Addr) (kV doc pm : Value) (an : Option Addr) (ct : Value) (osl : Array (Option Value)),
    fd = PySem.W.fnOf x qual (defArgs st) (defBody st) (defScope st) .none kV doc pm an (.ref c) ct ∧ K.lookup f = some ⟨oc, od, .func fd, osl⟩ ∧ PySem.W.codeIn K (.ref c) qual = true
section
variable {P : Program} {w : World} {K : PySem.W.Frag} {mg : Str → Option Value} {base : Heap}
theorem FunC.ok {x qual : Str} {st : Stmt} {f c : Addr} {fd : FuncData} {N ps : List Str} {k : Nat} {sp : Sp} (F : FunC K x qual st f fd c) (S : FnScope N ps (defScope st)) (len : ∀ vs H Q E, sp vs H Q E → vs.length = ps.length)
    (hbody : ∀ (A : Around) (outer : List Env) (s : Shared) (H : Hp) (vs : List V) (Q : VK) (E : XK), Room k (A.deeper (envOfC qual (defScope st) s.heap.objs.size f (.ref c))) → sp vs H Q E →
      ∃ t, PSs (cxOf CX0 P w K mg base N qual (defScope st) f (.ref c) A outer s H E).nox (defBody st) t ∧ t { nx := fun _ H' => Q .non H', rt := Q } (L2.start N vs) H) : FnOk P w K mg base CX0 (k + 1) f fd ps sp := by
  obtain ⟨oc, od, kV, doc, pm, an, ct, osl, rfl, lk, hcd⟩ := F.ex
  refine fn_of lk hcd S len fun A outer s H vs Q E hr hsp => ?_
  obtain ⟨t, h, q⟩ := hbody A outer s H vs Q E hr hsp
  exact ⟨t, h.nox, q⟩
theorem FunC.okX {x qual : Str} {st : Stmt} {f c : Addr} {fd : FuncData} {N ps : List Str} {k : Nat} {sp : Sp} (F : FunC K x qual st f fd c) (S : FnScope N ps (defScope st)) (len : ∀ vs H Q E, sp vs H Q E → vs.length = ps.length)
    (hbody : ∀ (A : Around) (outer : List Env) (s : Shared) (H : Hp) (vs : List V) (Q : VK) (E : XK), Room k (A.deeper (envOfC qual (defScope st) s.heap.objs.size f (.ref c))) → sp vs H Q E →
      ∃ t, PSs (cxOf (L2.CX P w) P w K mg base N qual (defScope st) f (.ref c) A outer s H E) (defBody st) t ∧ t { nx := fun _ H' => Q .non H', rt := Q } (L2.start N vs) H) : FnOk P w K mg base (L2.CX P w) (k + 1) f fd ps sp := by
  obtain ⟨oc, od, kV, doc, pm, an, ct, osl, rfl, lk, hcd⟩ := F.ex
  exact fn_of lk hcd S len fun A outer s H vs Q E hr hsp => hbody A outer s H vs Q E hr hsp
end
section
variable {σ : L2.St} {H : Hp} {Q : VK}
theorem st_lamb {T : List (Addr × Str)} {mk : Addr → LF} (hT : Tabs T H) (h : ∀ (f c' : Addr) (H1 : Hp), ExT H H1 → (∀ b, H1 b = none → H b = none) → Tabs T H1 → H f = none → H1 f = some (LamO f (mk c')) → H1 c' = some (CodeO c' (mk c').qual) → Q (.ref f) H1) : tLamb T mk σ H Q := ⟨hT, h⟩
def CbP (f : Addr) (F : LF) (tl : List V → Hp → VK → Prop) (Q : VK) (vs : List V) (H1 : Hp) : Prop := H1 f = some (LamO f F) ∧ H1 F.c = some (CodeO F.c F.qual) ∧ tl vs H1 Q
theorem st_cbk {f : Addr} {F : LF} {i : Nat} {tl : List V → Hp → VK → Prop} {t : TA} (h1 : σ[i]? = some (some (.ref f))) (h2 : H f = some (LamO f F)) (h : t σ H (CbP f F tl Q)) : tCb f F i tl t σ H Q := ⟨h1, h2, h⟩
theorem st_cbP {f : Addr} {F : LF} {tl : List V → Hp → VK → Prop} {vs : List V} (h1 : H f = some (LamO f F)) (h2 : H F.c = some (CodeO F.c F.qual)) (h : tl vs H Q) : CbP f F tl Q vs H := ⟨h1, h2, h⟩
end
end Zb
namespace Zb
open PySem PySem.Spec PyProof.Rows L2 LamX NdefX
section
variable {P : Program} {w : World} {K : PySem.W.Frag} {mg : Str → Option Value} {base : Heap} {N ps fr : List Str} {F : LF} {f : Addr} {k : Nat} {t : TE}
/-- a lambda's promise is its body's reading -/
theorem lok_t (S : NScope N ps fr F.scope) (hb : ∀ (pm ctv : Value) (us : List Value), us.length = ps.length → bindArgs (F.fd pm ctv) ⟨us, []⟩ = pure (ps.zip us))
    (hbody : ∀ (A : Around) (outer : List Env) (s : Shared) (H : Hp), Room k (A.deeper (envF F.nf f s.heap.objs.size)) → PE (ncx CX0 P w K mg base N F.nf f A outer s H E0) F.body t) : LOk P w K mg base (k + 1) f F ps fr (fun ws vs H Q => vs.length = ps.length ∧ t (startF N vs ws) H Q) :=
  lok_of S hb (fun _ _ _ _ h => h.1) fun A outer s H vs ws Q hr h => ⟨t, hbody A outer s H hr, h.2⟩
end
def asgE : Stmt → Expr
  | .Assign _ e _ => e
  | .Return (some e) _ => e
  | _ => .Constant .none 0 ⟨0, 0, 0, 0⟩
def bodyS (st : Stmt) (i : Nat) : Stmt := (defBody st).getD i (.Pass ⟨0, 0, 0, 0⟩)
def lamA : Expr → Arguments
  | .Lambda a _ _ _ => a
  | _ => { posonlyargs := [], args := [], vararg := none, kwonlyargs := [], kw_defaults := [], kwarg := none, defaults := [] }
def lamB : Expr → Expr
  | .Lambda _ b _ _ => b
  | e => e
def lamSc : Expr → Scope
  | .Lambda _ _ s _ => s
  | _ => { kind := .function, names := [], isGenerator := false, isCoroutine := false }
section
variable {σ : L2.St} {H : Hp} {Q : VK}
def CbC (mk : Addr → LF) (js : List Nat) (spl : Addr → Addr → List (Option V) → List V → Hp → VK → Prop) (spc : Addr → LF → (List V → Hp → VK → Prop) → Sp) (σ : L2.St) (Q : VK) (vs : List V) (H1 : Hp) : Prop := ∃ fl c', spc fl (mk c') (spl fl c' (js.map (slotAt σ))) vs H1 Q E0
theorem st_callCb {mk : Addr → LF} {js : List Nat} {spl : Addr → Addr → List (Option V) → List V → Hp → VK → Prop} {spc : Addr → LF → (List V → Hp → VK → Prop) → Sp} {t : TA} (h : t σ H (CbC mk js spl spc σ Q)) : tCallCb mk js spl spc t σ H Q := h
end
end Zb
namespace Zb
open PySem PySem.Spec PyProof.Rows L2
end Zb
set_option Elab.async false
set_option linter.all false
set_option maxRecDepth 100000
set_option maxHeartbeats 4000000
namespace My
open PySem PySem.Spec PyProof.Rows L2 Zb LamX NdefX
open Evl (tCut pss_cut)
def top (i : Nat) : Stmt := PySem.Challenge.pw_panethread_k75_near_ones_apart.main.body.getD i (.Pass ⟨0, 0, 0, 0⟩)
abbrev s_is_whole : Stmt := top 14
abbrev N_is_whole : List Str := ["thing"]
theorem sc_is_whole : FnScope N_is_whole ["thing"] (defScope s_is_whole) := ⟨rfl, rfl, rfl, by decide +kernel, rfl, by decide +kernel, by decide +kernel⟩
abbrev s_is_within : Stmt := top 15
abbrev N_is_within : List Str := ["thing", "low", "high"]
theorem sc_is_within : FnScope N_is_within ["thing", "low", "high"] (defScope s_is_within) := ⟨rfl, rfl, rfl, by decide +kernel, rfl, by decide +kernel, by decide +kernel⟩
abbrev s_is_row : Stmt := top 16
abbrev N_is_row : List Str := ["thing", "sign"]
theorem sc_is_row : FnScope N_is_row ["thing"] (defScope s_is_row) := ⟨rfl, rfl, rfl, by decide +kernel, rfl, by decide +kernel, by decide +kernel⟩
abbrev s_is_plain : Stmt := top 17
abbrev N_is_plain : List Str := ["thing"]
theorem sc_is_plain : FnScope N_is_plain ["thing"] (defScope s_is_plain) := ⟨rfl, rfl, rfl, by decide +kernel, rfl, by decide +kernel, by decide +kernel⟩
abbrev s_need_row : Stmt := top 18
abbrev N_need_row : List Str := ["row"]
theorem sc_need_row : FnScope N_need_row ["row"] (defScope s_need_row) := ⟨rfl, rfl, rfl, by decide +kernel, rfl, by decide +kernel, by decide +kernel⟩
abbrev s_need_rows : Stmt := top 19
abbrev N_need_rows : List Str := ["side", "top"]
theorem sc_need_rows : FnScope N_need_rows ["side", "top"] (defScope s_need_rows) := ⟨rfl, rfl, rfl, by decide +kernel, rfl, by decide +kernel, by decide +kernel⟩
abbrev s_need_plain : Stmt := top 20
abbrev N_need_plain : List Str := ["row"]
theorem sc_need_plain : FnScope N_need_plain ["row"] (defScope s_need_plain) := ⟨rfl, rfl, rfl, by decide +kernel, rfl, by decide +kernel, by decide +kernel⟩
abbrev s_need_span : Stmt := top 21
abbrev N_need_span : List Str := ["begin", "end", "many"]
theorem sc_need_span : FnScope N_need_span ["begin", "end", "many"] (defScope s_need_span) := ⟨rfl, rfl, rfl, by decide +kernel, rfl, by decide +kernel, by decide +kernel⟩
abbrev s_parted : Stmt := top 22
abbrev N_parted : List Str := ["row", "sign"]
theorem sc_parted : FnScope N_parted ["row"] (defScope s_parted) := ⟨rfl, rfl, rfl, by decide +kernel, rfl, by decide +kernel, by decide +kernel⟩
abbrev s_led : Stmt := top 24
abbrev N_led : List Str := ["many", "far", "crosses", "downs", "rights", "meetings", "signs", "row", "across", "met", "told", "column", "above", "goals", "goal", "line"]
theorem sc_led : FnScope N_led ["many", "far", "crosses"] (defScope s_led) := ⟨rfl, rfl, rfl, by decide +kernel, rfl, by decide +kernel, by decide +kernel⟩
abbrev s_is_turning : Stmt := top 28
abbrev N_is_turning : List Str := ["thing", "seen", "goal"]
theorem sc_is_turning : FnScope N_is_turning ["thing"] (defScope s_is_turning) := ⟨rfl, rfl, rfl, by decide +kernel, rfl, by decide +kernel, by decide +kernel⟩
abbrev s_need_turning : Stmt := top 29
abbrev N_need_turning : List Str := ["turning"]
theorem sc_need_turning : FnScope N_need_turning ["turning"] (defScope s_need_turning) := ⟨rfl, rfl, rfl, by decide +kernel, rfl, by decide +kernel, by decide +kernel⟩
abbrev s_need_place : Stmt := top 30
abbrev N_need_place : List Str := ["place", "most"]
theorem sc_need_place : FnScope N_need_place ["place", "most"] (defScope s_need_place) := ⟨rfl, rfl, rfl, by decide +kernel, rfl, by decide +kernel, by decide +kernel⟩
abbrev s_opposite : Stmt := top 31
abbrev N_opposite : List Str := ["turning", "found", "start", "goal"]
theorem sc_opposite : FnScope N_opposite ["turning"] (defScope s_opposite) := ⟨rfl, rfl, rfl, by decide +kernel, rfl, by decide +kernel, by decide +kernel⟩
abbrev s_mixed : Stmt := top 33
abbrev N_mixed : List Str := ["one", "other", "found", "at", "number"]
theorem sc_mixed : FnScope N_mixed ["one", "other"] (defScope s_mixed) := ⟨rfl, rfl, rfl, by decide +kernel, rfl, by decide +kernel, by decide +kernel⟩
abbrev s_floors_of : Stmt := top 34
abbrev N_floors_of : List Str := ["ends", "floors", "blocks", "above", "end", "left", "right"]
theorem sc_floors_of : FnScope N_floors_of ["ends"] (defScope s_floors_of) := ⟨rfl, rfl, rfl, by decide +kernel, rfl, by decide +kernel, by decide +kernel⟩
abbrev s_lesser : Stmt := top 35
abbrev N_lesser : List Str := ["block", "end", "low", "high", "amid"]
theorem sc_lesser : FnScope N_lesser ["block", "end"] (defScope s_lesser) := ⟨rfl, rfl, rfl, by decide +kernel, rfl, by decide +kernel, by decide +kernel⟩
abbrev s_need_window : Stmt := top 38
abbrev N_need_window : List Str := ["tall", "wide", "spans", "first", "last", "begin", "end", "starts", "stops"]
theorem sc_need_window : FnScope N_need_window ["tall", "wide", "spans"] (defScope s_need_window) := ⟨rfl, rfl, rfl, by decide +kernel, rfl, by decide +kernel, by decide +kernel⟩
abbrev s_Tally_init : Stmt := inClass (top 36) 0
abbrev N_Tally_init : List Str := ["self", "turning"]
theorem sc_Tally_init : FnScope N_Tally_init ["self", "turning"] (defScope s_Tally_init) := ⟨rfl, rfl, rfl, by decide +kernel, rfl, by decide +kernel, by decide +kernel⟩
abbrev s_Asks_init : Stmt := inClass (top 39) 0
abbrev N_Asks_init : List Str := ["self", "lines", "many"]
theorem sc_Asks_init : FnScope N_Asks_init ["self", "lines", "many"] (defScope s_Asks_init) := ⟨rfl, rfl, rfl, by decide +kernel, rfl, by decide +kernel, by decide +kernel⟩
abbrev s_Board_init : Stmt := inClass (top 25) 0
abbrev N_Board_init : List Str := ["self", "side", "top", "rule", "meetings", "signs", "goals"]
theorem sc_Board_init : FnScope N_Board_init ["self", "side", "top"] (defScope s_Board_init) := ⟨rfl, rfl, rfl, by decide +kernel, rfl, by decide +kernel, by decide +kernel⟩
abbrev s_Board_lines : Stmt := inClass (top 25) 3
abbrev N_Board_lines : List Str := ["self"]
theorem sc_Board_lines : FnScope N_Board_lines ["self"] (defScope s_Board_lines) := ⟨rfl, rfl, rfl, by decide +kernel, rfl, by decide +kernel, by decide +kernel⟩
abbrev s_asks_of : Stmt := top 40
abbrev N_asks_of : List Str := ["side", "top"]
theorem sc_asks_of : FnScope N_asks_of ["side", "top"] (defScope s_asks_of) := ⟨rfl, rfl, rfl, by decide +kernel, rfl, by decide +kernel, by decide +kernel⟩
abbrev s_need_plains : Stmt := top 42
abbrev N_need_plains : List Str := ["side", "top"]
theorem sc_need_plains : FnScope N_need_plains ["side", "top"] (defScope s_need_plains) := ⟨rfl, rfl, rfl, by decide +kernel, rfl, by decide +kernel, by decide +kernel⟩
abbrev s_need_limit : Stmt := top 46
abbrev N_need_limit : List Str := ["most"]
theorem sc_need_limit : FnScope N_need_limit ["most"] (defScope s_need_limit) := ⟨rfl, rfl, rfl, by decide +kernel, rfl, by decide +kernel, by decide +kernel⟩
abbrev s_ranked : Stmt := top 47
abbrev N_ranked : List Str := ["costs", "most", "found", "begin", "row", "many", "cost"]
theorem sc_ranked : FnScope N_ranked ["costs", "most"] (defScope s_ranked) := ⟨rfl, rfl, rfl, by decide +kernel, rfl, by decide +kernel, by decide +kernel⟩
abbrev s_Asks_gains : Stmt := inClass (top 39) 6
abbrev N_Asks_gains : List Str := ["self", "begin", "at"]
theorem sc_Asks_gains : FnScope N_Asks_gains ["self", "begin"] (defScope s_Asks_gains) := ⟨rfl, rfl, rfl, by decide +kernel, rfl, by decide +kernel, by decide +kernel⟩
abbrev s_Tally_from_on : Stmt := inClass (top 36) 1
abbrev N_Tally_from_on : List Str := ["self", "begin", "end", "total", "at", "floor"]
theorem sc_Tally_from_on : FnScope N_Tally_from_on ["self", "begin", "end"] (defScope s_Tally_from_on) := ⟨rfl, rfl, rfl, by decide +kernel, rfl, by decide +kernel, by decide +kernel⟩
abbrev s_Tally_below : Stmt := inClass (top 36) 2
abbrev N_Tally_below : List Str := ["self", "begin", "end"]
theorem sc_Tally_below : FnScope N_Tally_below ["self", "begin", "end"] (defScope s_Tally_below) := ⟨rfl, rfl, rfl, by decide +kernel, rfl, by decide +kernel, by decide +kernel⟩
abbrev s_Asks_window : Stmt := inClass (top 39) 1
abbrev N_Asks_window : List Str := ["self", "first", "last", "begin", "end"]
theorem sc_Asks_window : FnScope N_Asks_window ["self", "first", "last", "begin", "end"] (defScope s_Asks_window) := ⟨rfl, rfl, rfl, by decide +kernel, rfl, by decide +kernel, by decide +kernel⟩
abbrev s_Asks_stretch : Stmt := inClass (top 39) 2
abbrev N_Asks_stretch : List Str := ["self", "begin", "end"]
theorem sc_Asks_stretch : FnScope N_Asks_stretch ["self", "begin", "end"] (defScope s_Asks_stretch) := ⟨rfl, rfl, rfl, by decide +kernel, rfl, by decide +kernel, by decide +kernel⟩
abbrev s_Asks_table : Stmt := inClass (top 39) 8
abbrev N_Asks_table : List Str := ["self", "found", "begin", "row", "more", "at"]
theorem sc_Asks_table : FnScope N_Asks_table ["self"] (defScope s_Asks_table) := ⟨rfl, rfl, rfl, by decide +kernel, rfl, by decide +kernel, by decide +kernel⟩
abbrev s_Costs_init : Stmt := inClass (top 43) 0
abbrev N_Costs_init : List Str := ["self", "side", "top", "table", "begin", "lengths", "at", "many"]
theorem sc_Costs_init : FnScope N_Costs_init ["self", "side", "top"] (defScope s_Costs_init) := ⟨rfl, rfl, rfl, by decide +kernel, rfl, by decide +kernel, by decide +kernel⟩
abbrev s_Costs_rows_of : Stmt := inClass (top 43) 4
abbrev N_Costs_rows_of : List Str := ["self", "row"]
theorem sc_Costs_rows_of : FnScope N_Costs_rows_of ["self"] (defScope s_Costs_rows_of) := ⟨rfl, rfl, rfl, by decide +kernel, rfl, by decide +kernel, by decide +kernel⟩
abbrev s_near : Stmt := top 48
abbrev N_near : List Str := ["side", "top", "most"]
theorem sc_near : FnScope N_near ["side", "top", "most"] (defScope s_near) := ⟨rfl, rfl, rfl, by decide +kernel, rfl, by decide +kernel, by decide +kernel⟩
abbrev s_is_worthy : Stmt := top 52
abbrev N_is_worthy : List Str := ["many", "thing", "worth", "begin", "end"]
theorem sc_is_worthy : FnScope N_is_worthy ["many", "thing"] (defScope s_is_worthy) := ⟨rfl, rfl, rfl, by decide +kernel, rfl, by decide +kernel, by decide +kernel⟩
abbrev s_need_stretches : Stmt := top 53
abbrev N_need_stretches : List Str := ["many", "stretches", "stretch"]
theorem sc_need_stretches : FnScope N_need_stretches ["many", "stretches"] (defScope s_need_stretches) := ⟨rfl, rfl, rfl, by decide +kernel, rfl, by decide +kernel, by decide +kernel⟩
abbrev s_totals_of : Stmt := top 54
abbrev N_totals_of : List Str := ["many", "stretches", "ending", "at", "worth", "begin", "end", "totals", "lasts", "most", "last", "k"]
theorem sc_totals_of : FnScope N_totals_of ["many", "stretches"] (defScope s_totals_of) := ⟨rfl, rfl, rfl, by decide +kernel, rfl, by decide +kernel, by decide +kernel⟩
abbrev s_apart : Stmt := top 55
abbrev N_apart : List Str := ["many", "stretches", "totals", "lasts", "chosen", "end", "last", "prices", "place"]
theorem sc_apart : FnScope N_apart ["many", "stretches"] (defScope s_apart) := ⟨rfl, rfl, rfl, by decide +kernel, rfl, by decide +kernel, by decide +kernel⟩
abbrev s_apart_near : Stmt := top 56
abbrev N_apart_near : List Str := ["side", "top", "most", "stretches", "cost", "begin", "end"]
theorem sc_apart_near : FnScope N_apart_near ["side", "top", "most"] (defScope s_apart_near) := ⟨rfl, rfl, rfl, by decide +kernel, rfl, by decide +kernel, by decide +kernel⟩
abbrev s__law_at : Stmt := top 58
abbrev N__law_at : List Str := ["_law_script", "_law_k"]
theorem sc__law_at : FnScope N__law_at ["_law_script", "_law_k"] (defScope s__law_at) := ⟨rfl, rfl, rfl, by decide +kernel, rfl, by decide +kernel, by decide +kernel⟩
abbrev s__law_mix : Stmt := top 59
abbrev N__law_mix : List Str := ["_law_cell", "_law_k", "_law_one", "_law_two_here"]
theorem sc__law_mix : FnScope N__law_mix ["_law_cell", "_law_k"] (defScope s__law_mix) := ⟨rfl, rfl, rfl, by decide +kernel, rfl, by decide +kernel, by decide +kernel⟩
abbrev s__law_put : Stmt := top 60
abbrev N__law_put : List Str := ["_law_row", "_law_cell", "_law_cap", "_law_wide", "_law_shift", "_law_signs", "_law_new", "_law_many", "_law_k", "_law_at_here"]
theorem sc__law_put : FnScope N__law_put ["_law_row", "_law_cell", "_law_cap", "_law_wide", "_law_shift"] (defScope s__law_put) := ⟨rfl, rfl, rfl, by decide +kernel, rfl, by decide +kernel, by decide +kernel⟩
abbrev s__law_two : Stmt := top 61
abbrev N__law_two : List Str := ["_law_script", "_law_cap", "_law_wide", "_law_shift", "_law_rows", "_law_cell"]
theorem sc__law_two : FnScope N__law_two ["_law_script", "_law_cap"] (defScope s__law_two) := ⟨rfl, rfl, rfl, by decide +kernel, rfl, by decide +kernel, by decide +kernel⟩
abbrev s__law_whole : Stmt := top 62
abbrev N__law_whole : List Str := ["_law_found"]
theorem sc__law_whole : FnScope N__law_whole ["_law_found"] (defScope s__law_whole) := ⟨rfl, rfl, rfl, by decide +kernel, rfl, by decide +kernel, by decide +kernel⟩
abbrev s__law_best : Stmt := top 63
abbrev N__law_best : List Str := ["_law_many", "_law_spans_here", "_law_best_here", "_law_place", "_law_worth", "_law_begin", "_law_end", "_law_k"]
theorem sc__law_best : FnScope N__law_best ["_law_many", "_law_spans_here"] (defScope s__law_best) := ⟨rfl, rfl, rfl, by decide +kernel, rfl, by decide +kernel, by decide +kernel⟩
abbrev s__law_chosen : Stmt := top 64
abbrev N__law_chosen : List Str := ["_law_many", "_law_spans_here", "_law_chosen_here", "_law_worth", "_law_free", "_law_last", "_law_at_here", "_law_place", "_law_k"]
theorem sc__law_chosen : FnScope N__law_chosen ["_law_many", "_law_spans_here", "_law_chosen_here", "_law_worth"] (defScope s__law_chosen) := ⟨rfl, rfl, rfl, by decide +kernel, rfl, by decide +kernel, by decide +kernel⟩
abbrev s__law_prices : Stmt := top 65
abbrev N__law_prices : List Str := ["_law_many", "_law_spans_here", "_law_prices_here", "_law_worth", "_law_price", "_law_least", "_law_begin", "_law_end"]
theorem sc__law_prices : FnScope N__law_prices ["_law_many", "_law_spans_here", "_law_prices_here", "_law_worth"] (defScope s__law_prices) := ⟨rfl, rfl, rfl, by decide +kernel, rfl, by decide +kernel, by decide +kernel⟩
abbrev s__law_right : Stmt := top 66
abbrev N__law_right : List Str := ["_law_many", "_law_spans_here", "_law_found", "_law_worth"]
theorem sc__law_right : FnScope N__law_right ["_law_many", "_law_spans_here", "_law_found", "_law_worth"] (defScope s__law_right) := ⟨rfl, rfl, rfl, by decide +kernel, rfl, by decide +kernel, by decide +kernel⟩
abbrev s__law_costs : Stmt := top 67
abbrev N__law_costs : List Str := ["_law_side", "_law_part", "_law_last", "_law_sign", "_law_row", "_law_k"]
theorem sc__law_costs : FnScope N__law_costs ["_law_side", "_law_part"] (defScope s__law_costs) := ⟨rfl, rfl, rfl, by decide +kernel, rfl, by decide +kernel, by decide +kernel⟩
abbrev s__law_spans : Stmt := top 68
abbrev N__law_spans : List Str := ["_law_side", "_law_top", "_law_most", "_law_near_by", "_law_begin", "_law_costs_here", "_law_size", "_law_far", "_law_end"]
theorem sc__law_spans : FnScope N__law_spans ["_law_side", "_law_top", "_law_most"] (defScope s__law_spans) := ⟨rfl, rfl, rfl, by decide +kernel, rfl, by decide +kernel, by decide +kernel⟩
abbrev s__law_refused : Stmt := top 69
abbrev N__law_refused : List Str := ["_law_side", "_law_top", "_law_most", "_law_due", "_law_plain", "e"]
theorem sc__law_refused : FnScope N__law_refused ["_law_side", "_law_top", "_law_most", "_law_due", "_law_plain"] (defScope s__law_refused) := ⟨rfl, rfl, rfl, by decide +kernel, rfl, by decide +kernel, by decide +kernel⟩
abbrev s_law : Stmt := top 70
abbrev N_law : List Str := ["_law_script", "_law_pick", "_law_side", "_law_top", "_law_most", "_law_limit", "_law_spans_here", "_law_found", "_law_far", "_law_rows", "_law_k"]
theorem sc_law : FnScope N_law ["_law_script"] (defScope s_law) := ⟨rfl, rfl, rfl, by decide +kernel, rfl, by decide +kernel, by decide +kernel⟩
local macro_rules | `(tactic| walk_at "hp") => `(tactic| first
  | assumption
  | exact upd_same
  | (refine upd_old (by assumption) ?_; walk_at "hp")
  | (refine Ex.get (by assumption) ?_; walk_at "hp")
  | (refine Fr.get (by assumption) (by assumption) ?_; walk_at "hp"))
local macro_rules | `(tactic| walk_at "kn") => `(tactic| first
  | exact KitN.nil
  | (refine KitN.cons ?_ ?_; (walk_at "ki"); (walk_at "kn")))
local macro_rules | `(tactic| walk_at "pu") => `(tactic| first
  | assumption
  | (refine Purse.ex ?_ (by assumption); walk_at "pu"))
local macro_rules | `(tactic| walk_at "fr") => `(tactic| first
  | exact Fr.refl _
  | assumption
  | exact Fr.ex (by assumption)
  | (refine Fr.trans ?_ (by assumption); walk_at "fr")
  | (refine Fr.trans ?_ (Fr.ex (by assumption)); walk_at "fr"))
local macro_rules | `(tactic| walk_at "sd") => `(tactic| first
  | omega
  | (simp only [tx_length, List.length_append, List.length_cons, List.length_nil, List.length_map, List.length_take, List.length_drop]; omega)
  | assumption
  | exact rfl
  | decide)
local macro_rules | `(tactic| walk_at "nw") => `(tactic| (intro q H' hq he hv; (try (have hne := Purse.ne (by assumption) hq; have hpu := Purse.ex (by assumption) he))))
local macro_rules | `(tactic| walk_at "sm") => `(tactic| first
  | exact Sm.nil
  | assumption
  | (refine Sm.app ?_ ?_ <;> walk_at "sm")
  | (refine Sm.cons ?_ ?_ <;> walk_at "sm")
  | exact Sm.up Sm.non (Nat.le_of_ble_eq_true rfl) (Nat.le_of_ble_eq_true rfl)
  | exact Sm.up (Sm.bl _) (Nat.le_of_ble_eq_true rfl) (Nat.le_of_ble_eq_true rfl)
  | exact Sm.up (Sm.int (by omega)) (Nat.le_of_ble_eq_true rfl) (Nat.le_of_ble_eq_true rfl)
  | exact Sm.up (Sm.str (by decide +kernel)) (Nat.le_of_ble_eq_true rfl) (Nat.le_of_ble_eq_true rfl)
  | (refine Sm.up (Sm.tup (n := 1) (k := 1) (by walk_at "hp") ?_ (Nat.le_refl _)) (Nat.le_of_ble_eq_true rfl) (Nat.le_of_ble_eq_true rfl); walk_at "sm")
  | (refine Sm.up (Sm.lst (n := 1) (k := 1) (by walk_at "hp") ?_ (Nat.le_refl _)) (Nat.le_of_ble_eq_true rfl) (Nat.le_of_ble_eq_true rfl); walk_at "sm"))
local macro_rules | `(tactic| walk_at "ln") => `(tactic| first | omega | (simp only [List.length_append, List.length_cons, List.length_nil, List.length_map, List.length_singleton]; omega))
local macro_rules | `(tactic| walk_at "sn") => `(tactic| first
  | exact Sm.nil
  | assumption
  | exact Sm.upA (by assumption) (Nat.le_of_ble_eq_true rfl) (Nat.le_of_ble_eq_true rfl)
  | exact Sm.up (by assumption) (Nat.le_of_ble_eq_true rfl) (Nat.le_of_ble_eq_true rfl)
  | (refine Sm.app ?_ ?_ <;> walk_at "sn")
  | (refine Sm.cons ?_ ?_ <;> walk_at "sn")
  | (refine Sm.cut ?_ ; walk_at "sn")
  | walk_at "sm"
  | (refine Sm.up (Sm.lst (n := 100) (k := 3) (by walk_at "hp") ?_ (Nat.le_refl _)) (Nat.le_of_ble_eq_true rfl) (Nat.le_of_ble_eq_true rfl); walk_at "sn")
  | (refine Sm.up (Sm.lst (n := 4) (k := 2) (m := 4612) (by walk_at "hp") ?_ (by walk_at "ln")) (Nat.le_of_ble_eq_true rfl) (Nat.le_of_ble_eq_true rfl); walk_at "sn")
  | (refine Sm.up (Sm.tup (n := 4) (k := 2) (m := 4612) (by walk_at "hp") ?_ (by walk_at "ln")) (Nat.le_of_ble_eq_true rfl) (Nat.le_of_ble_eq_true rfl); walk_at "sn"))
local macro_rules | `(tactic| walk_at "sg") => `(tactic| first
  | exact allE_nil
  | (refine allE_cons ?_ ?_ <;> walk_at "sg")
  | exact ⟨_, Sd.dk (by walk_at "hp")⟩
  | (refine SdE.of (n := 1) (k := 1) ?_ (by decide) (by decide); walk_at "sm")
  | (refine SdE.of (Sm.lst (n := 18500) (k := 5) (m := 50) (by walk_at "hp") ?_ (by walk_at "ln")) (by decide) (by decide); walk_at "sn")
  | (refine SdE.of (Sm.tup (n := 18500) (k := 5) (m := 50) (by walk_at "hp") ?_ (by walk_at "ln")) (by decide) (by decide); walk_at "sn"))
local macro_rules | `(tactic| walk_at "s") => `(tactic| first
  | ((with_reducible refine' st_var ?a0 ?_); (case a0 => exact rfl))
  | ((with_reducible refine' st_isR1 ?a0 ?_); (case a0 => constructor <;> walk_at "sd"))
  | ((with_reducible refine' st_isR2 ?a0 ?_); (case a0 => refine ⟨?_, ?_, ?_, ?_⟩ <;> walk_at "sd"))
  | ((with_reducible refine' st_c ?_))
  | ((with_reducible refine' st_op ?_))
  | ((with_reducible refine' st_seq ?_))
  | ((with_reducible refine' st_asg ?_))
  | ((with_reducible refine' st_name ?_))
  | ((with_reducible refine' st_cons ?_))
  | ((with_reducible refine' st_nil ?_))
  | ((with_reducible refine' st_call ?_))
  | ((with_reducible refine' st_cb ?_))
  | ((with_reducible refine' st_ret ?_))
  | ((with_reducible refine' st_drop ?_))
  | ((with_reducible refine' st_ifS ?_))
  | ((with_reducible refine' st_test ?_))
  | ((with_reducible refine' st_B ?_))
  | ((with_reducible refine' st_isb ?_))
  | ((with_reducible refine' st_and ?_))
  | ((with_reducible refine' st_or ?_))
  | ((with_reducible refine' st_not ?_))
  | ((with_reducible refine' st_andV ?_))
  | ((with_reducible refine' st_orV ?_))
  | ((with_reducible refine' st_notV ?_))
  | ((with_reducible refine' st_if ?_))
  | ((with_reducible refine' st_lst ?_))
  | ((with_reducible refine' st_tup ?_))
  | ((with_reducible refine' st_sl ?_))
  | ((with_reducible refine' st_part ?_))
  | ((with_reducible refine' st_nopart ?_))
  | ((with_reducible refine' st_isi ?_))
  | ((with_reducible refine' st_sub ?_))
  | ((with_reducible refine' st_next ?_))
  | ((with_reducible refine' st_un ?_))
  | ((with_reducible refine' st_rU ?_))
  | ((with_reducible refine' st_augI ?a0 ?_); (case a0 => exact rfl))
  | ((with_reducible refine' st_ipI ?_))
  | ((with_reducible refine' st_par ?_))
  | ((with_reducible refine' st_par2 ?_))
  | ((with_reducible refine' st_addI ?_))
  | ((with_reducible refine' st_subI ?_))
  | ((with_reducible refine' st_cmpI ?_))
  | ((with_reducible refine' st_eqI ?_))
  | ((with_reducible refine' st_neI ?_))
  | ((with_reducible refine' st_eqS ?_))
  | ((with_reducible refine' st_neS ?_))
  | ((with_reducible refine' st_eqB ?_))
  | ((with_reducible refine' st_neB ?_))
  | ((with_reducible refine' st_max2 ?_))
  | ((with_reducible refine' st_min2 ?_))
  | ((with_reducible refine' st_min3 ?_))
  | ((with_reducible refine' st_brk ?_))
  | ((with_reducible refine' st_cont ?_))
  | ((with_reducible refine' st_retN ?_))
  | ((with_reducible refine' st_new ?a0 ?_); (case a0 => exact Nat.le_of_ble_eq_true rfl); walk_at "nw")
  | ((with_reducible refine' st_modI ?a0 ?_); (case a0 => walk_at "sd"))
  | ((with_reducible refine' st_divI ?a0 ?_); (case a0 => constructor <;> walk_at "sd"))
  | ((with_reducible refine' st_mulI ?a0 ?_); (case a0 => walk_at "sd"))
  | ((with_reducible refine' st_powI ?a0 ?_); (case a0 => refine ⟨?_, ?_, ?_⟩ <;> decide))
  | ((with_reducible refine' st_addS ?a0 ?_); (case a0 => walk_at "sd"))
  | ((with_reducible refine' st_ixL ?a0 ?a1 ?_); (case a0 => walk_at "hp"); (case a1 => exact rfl))
  | ((with_reducible refine' st_ixT ?a0 ?a1 ?_); (case a0 => walk_at "hp"); (case a1 => exact rfl))
  | ((with_reducible refine' st_lenL ?a0 ?_); (case a0 => walk_at "hp"))
  | ((with_reducible refine' st_lenT ?a0 ?_); (case a0 => walk_at "hp"))
  | ((with_reducible refine' st_lenS ?a0 ?_); (case a0 => walk_at "sd"))
  | ((with_reducible refine' st_slS ?a0 ?_); (case a0 => walk_at "sd"))
  | ((with_reducible refine' st_slL (lst_of ?a0) ?_); (case a0 => walk_at "hp"); walk_at "nw")
  | ((with_reducible refine' st_addL ?a0 ?a1 ?a2 ?_); (case a0 => walk_at "hp"); (case a1 => walk_at "hp"); (case a2 => walk_at "sd"); walk_at "nw")
  | ((with_reducible refine' st_setL ?a0 ?a1 ?_); (case a0 => walk_at "hp"); (case a1 => exact rfl))
  | ((with_reducible refine' st_yes ?_))
  | ((with_reducible refine' st_isI ?a0 ?_); (case a0 => first | exact kit_ii | exact kit_ib | exact kit_il | exact kit_is | exact kit_it | decide +kernel))
  | ((with_reducible refine' st_isL ?a0 ?a1 ?_); (case a0 => walk_at "hp"); (case a1 => first | exact kit_ll | exact kit_lt | decide +kernel))
  | ((with_reducible refine' st_isT ?a0 ?a1 ?_); (case a0 => walk_at "hp"); (case a1 => first | exact kit_tt | exact kit_tl | decide +kernel))
  | ((with_reducible refine' st_isS' ?a0 ?_); (case a0 => first | exact kit_ss | decide +kernel))
  | ((with_reducible refine' st_isB ?a0 ?_); (case a0 => first | exact kit_bb | exact kit_bi | decide +kernel))
  | ((with_reducible refine' st_clear ?a0 ?_); (case a0 => walk_at "hp"))
  | ((with_reducible refine' st_gtup ?a0 ?a1 ?_); (case a0 => walk_at "hp"); (case a1 => exact rfl))
  | ((with_reducible refine' st_glst ?a0 ?a1 ?_); (case a0 => walk_at "hp"); (case a1 => exact rfl))
  | ((with_reducible refine' st_gcons ?_))
  | ((with_reducible refine' st_gnil ?_))
  | ((with_reducible refine' st_iEnS ?_))
  | ((with_reducible refine' st_isEnS ?_))
  | ((with_reducible refine' st_mulL ?a0 ?a1 ?a2 ?a3 ?_); (case a0 => walk_at "hp"); (case a1 => walk_at "sd"); (case a2 => walk_at "sd"); (case a3 => walk_at "sd"); walk_at "nw")
  | ((with_reducible refine' st_isBool ?_))
  | ((with_reducible refine' st_pair ?_))
  | ((with_reducible refine' st_pairs0 ?_))
  | ((with_reducible refine' st_disp ?_); walk_at "nw")
  | ((with_reducible refine' st_listS ?a0 ?_); (case a0 => walk_at "sd"); walk_at "nw")
  | ((with_reducible refine' st_tupS ?a0 ?_); (case a0 => walk_at "sd"); walk_at "nw")
  | ((with_reducible refine' st_listQ (seq_l ?a0) ?_); (case a0 => walk_at "hp"); walk_at "nw")
  | ((with_reducible refine' st_tupL (lst_of ?a0) ?_); (case a0 => walk_at "hp"); walk_at "nw")
  | ((with_reducible refine' st_for ?_))
  | ((with_reducible refine' st_lc ?_))
  | ((with_reducible refine' st_iStr ?_))
  | ((with_reducible refine' st_isStr ?_))
  | ((with_reducible refine' st_iList ?_))
  | ((with_reducible refine' st_isList (lst_of ?a0) ?_); (case a0 => walk_at "hp"))
  | ((with_reducible refine' st_iTup ?_))
  | ((with_reducible refine' st_isTup (tup_of ?a0) ?_); (case a0 => walk_at "hp"))
  | ((with_reducible refine' st_iR1 ?_))
  | ((with_reducible refine' st_iR2 ?_))
  | ((with_reducible refine' st_iEn ?_))
  | ((with_reducible refine' st_isEn (lst_of ?a0) ?_); (case a0 => walk_at "hp"))
  | ((with_reducible refine' st_iZp ?_))
  | ((with_reducible refine' st_isZp (lst_of ?a0) (lst_of ?a1) ?_); (case a0 => walk_at "hp"); (case a1 => walk_at "hp"))
  | ((with_reducible refine' st_inC ?_))
  | ((with_reducible refine' st_ninC ?_))
  | ((with_reducible refine' st_m1 ?_))
  | ((with_reducible refine' st_isS ?_))
  | ((with_reducible refine' st_bm ?_))
  | ((with_reducible refine' st_bm0 ?_))
  | ((with_reducible refine' st_tyL ?a0 ?_); (case a0 => walk_at "hp"))
  | ((with_reducible refine' st_isN ?_))
  | ((with_reducible refine' st_notN ?_))
  | ((with_reducible refine' st_intB ?_))
  | ((with_reducible refine' st_intI ?_))
  | ((with_reducible refine' st_iR3 ?_))
  | ((with_reducible refine' st_dget2 ?_))
  | ((with_reducible refine' st_dsetd ?_))
  | ((with_reducible refine' st_dnew ?_))
  | ((with_reducible refine' st_dnewP ?_); walk_at "nw")
  | ((with_reducible refine' st_isD ?a0 ?_); (case a0 => walk_at "hp"))
  | ((with_reducible refine' st_isB2 ?_))
  | ((with_reducible refine' st_notB2 ?_))
  | ((with_reducible refine' st_chain ?_))
  | ((with_reducible refine' st_tru ?_))
  | ((with_reducible refine' st_truB ?_))
  | ((with_reducible refine' st_truI ?_))
  | ((with_reducible refine' st_while ?_))
  | ((with_reducible refine' st_st3 ?_))
  | ((with_reducible refine' st_revS ?a0 ?_); (case a0 => walk_at "sd"))
  | ((with_reducible refine' st_evS ?a0 ?_); (case a0 => walk_at "sd"))
  | ((with_reducible refine' st_odS ?a0 ?_); (case a0 => walk_at "sd"))
  | ((with_reducible refine' st_raise ?_))
  | ((with_reducible refine' st_mk1 ?a0 ?a1 ?_); (case a0 => walk_at "xo"); (case a1 => walk_at "nf"); walk_at "nw")
  | ((with_reducible refine' st_mk2 ?a0 ?a1 ?a2 ?_); (case a0 => walk_at "xo"); (case a1 => walk_at "nf"); (case a2 => walk_at "nf"); walk_at "nw")
  | ((with_reducible refine' st_try ?_))
  | ((with_reducible refine' st_callS ?_))
  | ((with_reducible refine' st_hYn ?a0 ?_); (case a0 => walk_at "ex"); intro ax hax)
  | ((with_reducible refine' st_hY0 ?a0 ?_); (case a0 => walk_at "ex"); intro ax hax)
  | ((with_reducible refine' st_hN ?a0 ?_); (case a0 => walk_at "ex"))
  | ((with_reducible refine' st_xe ?_))
  | ((with_reducible refine' st_xeP ?a0 ?a1 ?a2 ?a3 ?_); (case a0 => walk_at "xi"); (case a1 => walk_at "nf"); (case a2 => walk_at "hp"); (case a3 => exact rfl))
  | ((with_reducible refine' st_isX ?a0 ?a1 ?a2 ?_); (case a0 => walk_at "xi"); (case a1 => walk_at "hp"); (case a2 => walk_at "ki"))
  | ((with_reducible refine' st_isXT ?a0 ?a1 ?a2 ?_); (case a0 => walk_at "xi"); (case a1 => walk_at "hp"); (case a2 => walk_at "ki"))
  | ((with_reducible refine' st_isXs2 ?a0 ?a1 ?a2 ?a3 ?a4 ?_); (case a0 => walk_at "xi"); (case a1 => walk_at "hp"); (case a2 => walk_at "hp"); (case a3 => walk_at "ki"); (case a4 => walk_at "ki"))
  | ((with_reducible refine' st_listRg ?_))
  | ((with_reducible refine' st_rgC ?_))
  | ((with_reducible refine' st_rg1 ?_))
  | ((with_reducible refine' st_rg2 ?_))
  | ((with_reducible refine' st_rg3 ?_))
  | ((with_reducible refine' st_rgUp ?a0 ?_); (case a0 => refine ⟨?_, ?_, ?_, ?_⟩ <;> walk_at "sd"); walk_at "nw")
  | ((with_reducible refine' st_rgDown ?a0 ?_); (case a0 => refine ⟨?_, ?_, ?_, ?_⟩ <;> walk_at "sd"); walk_at "nw")
  | ((with_reducible refine' st_divW ?a0 ?_); (case a0 => constructor <;> walk_at "sd"))
  | ((with_reducible refine' st_iSeq ?_))
  | ((with_reducible refine' st_iEnQ ?_))
  | ((with_reducible refine' st_gsl ?_))
  | ((with_reducible refine' st_augS ?a0 ?_); (case a0 => exact rfl))
  | ((with_reducible refine' st_ipS ?a0 ?_); (case a0 => walk_at "sd"))
  | ((with_reducible refine' st_rv ?_))
  | ((with_reducible refine' st_rvQ ?a0 ?_); (case a0 => first | walk_at "hp" | exact seq_l (by walk_at "hp") | exact seq_t (by walk_at "hp")); walk_at "nw")
  | ((with_reducible refine' st_xk ?_))
  | ((with_reducible refine' st_xkP ?a0 ?a1 ?a2 ?a3 ?a4 ?_); (case a0 => walk_at "hp"); (case a1 => walk_at "xi"); (case a2 => walk_at "nf"); (case a3 => walk_at "hp"); (case a4 => exact rfl))
  | ((with_reducible refine' st_isK ?a0 ?a1 ?a2 ?a3 ?_); (case a0 => walk_at "hp"); (case a1 => walk_at "xi"); (case a2 => walk_at "hp"); (case a3 => walk_at "ki"))
  | ((with_reducible refine' st_isKT ?a0 ?a1 ?a2 ?a3 ?_); (case a0 => walk_at "hp"); (case a1 => walk_at "xi"); (case a2 => walk_at "hp"); (case a3 => walk_at "ki"))
  | ((with_reducible refine' st_isKs ?a0 ?a1 ?a2 ?a3 ?a4 ?_); (case a0 => walk_at "hp"); (case a1 => walk_at "xi"); (case a2 => walk_at "hp"); (case a3 => walk_at "hp"); (case a4 => walk_at "kn"))
  | ((with_reducible refine' st_fld ?_))
  | ((with_reducible refine' st_fldP ?a0 ?a1 ?a2 ?a3 ?_); (case a0 => walk_at "hp"); (case a1 => walk_at "cl"); (case a2 => walk_at "na"); (case a3 => exact rfl))
  | ((with_reducible refine' st_fldS ?_))
  | ((with_reducible refine' st_fldSP ?a0 ?a1 ?a2 ?a3 ?_); (case a0 => walk_at "hp"); (case a1 => walk_at "cl"); (case a2 => walk_at "na"); (case a3 => exact Nat.le_of_ble_eq_true rfl))
  | ((with_reducible refine' st_meth ?_))
  | ((with_reducible refine' st_methP ?a0 ?a1 ?_); (case a0 => walk_at "hp"); (case a1 => exact rfl))
  | ((with_reducible refine' st_make ?_))
  | ((with_reducible refine' st_methS ?_))
  | ((with_reducible refine' st_methD ?_))
  | ((with_reducible refine' st_makeS ?_))
  | ((with_reducible refine' st_dnewT ?_); walk_at "nw")
  | ((with_reducible refine' st_dputU ?_))
  | ((with_reducible refine' st_dinU ?_))
  | ((with_reducible refine' st_dninU ?_))
  | ((with_reducible refine' st_T ?a0 ?_); (case a0 => exact rfl))
  | ((with_reducible refine' st_F ?a0 ?_); (case a0 => exact rfl)))
local macro_rules | `(tactic| walk_at "go") => `(tactic| repeat walk_at "s")
local macro_rules | `(tactic| walk_at "s") => `(tactic| first
  | ((with_reducible refine' st_callCb ?_))
  | ((with_reducible refine' st_cbk ?a0 ?a1 ?_); (case a0 => exact rfl); (case a1 => walk_at "hp"))
  | ((with_reducible refine' st_cbP ?a0 ?a1 ?_); (case a0 => walk_at "hp"); (case a1 => walk_at "hp")))
def tabsL (tc : Nat → Addr × Addr) : List (Addr × Str) := [((tc 0).2, ("Board.__init__" : Str) ++ ".<locals>." ++ "<lambda>")]
abbrev L_Board_init : Expr := asgE (bodyS s_Board_init 3)
abbrev q_Board_init : Str := ("Board.__init__" : Str) ++ ".<locals>." ++ "<lambda>"
theorem ndf_Board_init : ndefB (defScope s_Board_init) (lamSc L_Board_init) ["side", "top"] = true := by decide +kernel
theorem nsc_Board_init : nscB ["row", "column", "across", "above", "side", "top"] ["row", "column", "across", "above"] ["side", "top"] (lamSc L_Board_init) = true := by decide +kernel
abbrev si_NoStretches : Stmt := inClass (top 9) 0
theorem sci_NoStretches : FnScope ["self", "found"] ["self", "found"] (defScope si_NoStretches) := ⟨rfl, rfl, rfl, by decide +kernel, rfl, by decide +kernel, by decide +kernel⟩
abbrev si_NoPlace : Stmt := inClass (top 5) 0
theorem sci_NoPlace : FnScope ["self", "found"] ["self", "found"] (defScope si_NoPlace) := ⟨rfl, rfl, rfl, by decide +kernel, rfl, by decide +kernel, by decide +kernel⟩
abbrev si_NoTurning : Stmt := inClass (top 7) 0
theorem sci_NoTurning : FnScope ["self", "found"] ["self", "found"] (defScope si_NoTurning) := ⟨rfl, rfl, rfl, by decide +kernel, rfl, by decide +kernel, by decide +kernel⟩
abbrev si_NoSpan : Stmt := inClass (top 6) 0
theorem sci_NoSpan : FnScope ["self", "begin", "end"] ["self", "begin", "end"] (defScope si_NoSpan) := ⟨rfl, rfl, rfl, by decide +kernel, rfl, by decide +kernel, by decide +kernel⟩
abbrev si_NoPlain : Stmt := inClass (top 4) 0
theorem sci_NoPlain : FnScope ["self", "found"] ["self", "found"] (defScope si_NoPlain) := ⟨rfl, rfl, rfl, by decide +kernel, rfl, by decide +kernel, by decide +kernel⟩
abbrev si_NoRow : Stmt := inClass (top 3) 0
theorem sci_NoRow : FnScope ["self", "found"] ["self", "found"] (defScope si_NoRow) := ⟨rfl, rfl, rfl, by decide +kernel, rfl, by decide +kernel, by decide +kernel⟩
/-- what the top has written -/
structure Tx (K : PySem.W.Frag) (mg : Str → Option Value) (ad : Nat → Addr) (fd : Nat → FuncData) (tk : Nat → Tok) (base : Heap) (tc : Nat → Addr × Addr) : Prop where
  d_is_whole : Df K mg "is_whole" s_is_whole ["thing"] (ad 0) (fd 0)
  d_is_within : Df K mg "is_within" s_is_within ["thing", "low", "high"] (ad 1) (fd 1)
  d_is_row : Df K mg "is_row" s_is_row ["thing"] (ad 2) (fd 2)
  d_is_plain : Df K mg "is_plain" s_is_plain ["thing"] (ad 3) (fd 3)
  d_need_row : Df K mg "need_row" s_need_row ["row"] (ad 4) (fd 4)
  d_need_rows : Df K mg "need_rows" s_need_rows ["side", "top"] (ad 5) (fd 5)
  d_need_plain : Df K mg "need_plain" s_need_plain ["row"] (ad 6) (fd 6)
  d_need_span : Df K mg "need_span" s_need_span ["begin", "end", "many"] (ad 7) (fd 7)
  d_parted : Df K mg "parted" s_parted ["row"] (ad 8) (fd 8)
  d_led : Df K mg "led" s_led ["many", "far", "crosses"] (ad 9) (fd 9)
  d_is_turning : Df K mg "is_turning" s_is_turning ["thing"] (ad 10) (fd 10)
  d_need_turning : Df K mg "need_turning" s_need_turning ["turning"] (ad 11) (fd 11)
  d_need_place : Df K mg "need_place" s_need_place ["place", "most"] (ad 12) (fd 12)
  d_opposite : Df K mg "opposite" s_opposite ["turning"] (ad 13) (fd 13)
  d_mixed : Df K mg "mixed" s_mixed ["one", "other"] (ad 14) (fd 14)
  d_floors_of : Df K mg "floors_of" s_floors_of ["ends"] (ad 15) (fd 15)
  d_lesser : Df K mg "lesser" s_lesser ["block", "end"] (ad 16) (fd 16)
  d_need_window : Df K mg "need_window" s_need_window ["tall", "wide", "spans"] (ad 17) (fd 17)
  d_Tally_init : Dm K "Tally" "__init__" "Tally.__init__" s_Tally_init ["self", "turning"] (ad 18) (fd 18)
  d_Asks_init : Dm K "Asks" "__init__" "Asks.__init__" s_Asks_init ["self", "lines", "many"] (ad 19) (fd 19)
  d_Board_init : Dm K "Board" "__init__" "Board.__init__" s_Board_init ["self", "side", "top"] (ad 20) (fd 20)
  fc_Board_init : FunC K "__init__" "Board.__init__" s_Board_init (ad 20) (fd 20) (tc 0).1
  tb_Board_init : TabB base mg (tc 0).1 (tc 0).2
  d_Board_lines : Dm K "Board" "lines" "Board.lines" s_Board_lines ["self"] (ad 21) (fd 21)
  d_asks_of : Df K mg "asks_of" s_asks_of ["side", "top"] (ad 22) (fd 22)
  d_need_plains : Df K mg "need_plains" s_need_plains ["side", "top"] (ad 23) (fd 23)
  d_need_limit : Df K mg "need_limit" s_need_limit ["most"] (ad 24) (fd 24)
  d_ranked : Df K mg "ranked" s_ranked ["costs", "most"] (ad 25) (fd 25)
  d_Asks_gains : Dm K "Asks" "gains" "Asks.gains" s_Asks_gains ["self", "begin"] (ad 26) (fd 26)
  d_Tally_from_on : Dm K "Tally" "from_on" "Tally.from_on" s_Tally_from_on ["self", "begin", "end"] (ad 27) (fd 27)
  d_Tally_below : Dm K "Tally" "below" "Tally.below" s_Tally_below ["self", "begin", "end"] (ad 28) (fd 28)
  d_Asks_window : Dm K "Asks" "window" "Asks.window" s_Asks_window ["self", "first", "last", "begin", "end"] (ad 29) (fd 29)
  d_Asks_stretch : Dm K "Asks" "stretch" "Asks.stretch" s_Asks_stretch ["self", "begin", "end"] (ad 30) (fd 30)
  d_Asks_table : Dm K "Asks" "table" "Asks.table" s_Asks_table ["self"] (ad 31) (fd 31)
  d_Costs_init : Dm K "Costs" "__init__" "Costs.__init__" s_Costs_init ["self", "side", "top"] (ad 32) (fd 32)
  d_Costs_rows_of : Dm K "Costs" "rows_of" "Costs.rows_of" s_Costs_rows_of ["self"] (ad 33) (fd 33)
  d_near : Df K mg "near" s_near ["side", "top", "most"] (ad 34) (fd 34)
  d_is_worthy : Df K mg "is_worthy" s_is_worthy ["many", "thing"] (ad 35) (fd 35)
  d_need_stretches : Df K mg "need_stretches" s_need_stretches ["many", "stretches"] (ad 36) (fd 36)
  d_totals_of : Df K mg "totals_of" s_totals_of ["many", "stretches"] (ad 37) (fd 37)
  d_apart : Df K mg "apart" s_apart ["many", "stretches"] (ad 38) (fd 38)
  d_apart_near : Df K mg "apart_near" s_apart_near ["side", "top", "most"] (ad 39) (fd 39)
  d__law_at : Df K mg "_law_at" s__law_at ["_law_script", "_law_k"] (ad 40) (fd 40)
  d__law_mix : Df K mg "_law_mix" s__law_mix ["_law_cell", "_law_k"] (ad 41) (fd 41)
  d__law_put : Df K mg "_law_put" s__law_put ["_law_row", "_law_cell", "_law_cap", "_law_wide", "_law_shift"] (ad 42) (fd 42)
  d__law_two : Df K mg "_law_two" s__law_two ["_law_script", "_law_cap"] (ad 43) (fd 43)
  d__law_whole : Df K mg "_law_whole" s__law_whole ["_law_found"] (ad 44) (fd 44)
  d__law_best : Df K mg "_law_best" s__law_best ["_law_many", "_law_spans_here"] (ad 45) (fd 45)
  d__law_chosen : Df K mg "_law_chosen" s__law_chosen ["_law_many", "_law_spans_here", "_law_chosen_here", "_law_worth"] (ad 46) (fd 46)
  d__law_prices : Df K mg "_law_prices" s__law_prices ["_law_many", "_law_spans_here", "_law_prices_here", "_law_worth"] (ad 47) (fd 47)
  d__law_right : Df K mg "_law_right" s__law_right ["_law_many", "_law_spans_here", "_law_found", "_law_worth"] (ad 48) (fd 48)
  d__law_costs : Df K mg "_law_costs" s__law_costs ["_law_side", "_law_part"] (ad 49) (fd 49)
  d__law_spans : Df K mg "_law_spans" s__law_spans ["_law_side", "_law_top", "_law_most"] (ad 50) (fd 50)
  d__law_refused : Df K mg "_law_refused" s__law_refused ["_law_side", "_law_top", "_law_most", "_law_due", "_law_plain"] (ad 51) (fd 51)
  d_law : Df K mg "law" s_law ["_law_script"] (ad 52) (fd 52)
  c_MOST_SIGNS : mg "MOST_SIGNS" = some (.int 48 (tk 0))
  c_LETTERS : mg "LETTERS" = some (.str "abcdefghijklmnopqrstuvwxyz" (tk 1))
  c_MOST_LETTERS : mg "MOST_LETTERS" = some (.int 24 (tk 2))
  c_MOST_LINES : mg "MOST_LINES" = some (.int 96 (tk 3))
  c_MOST_COST : mg "MOST_COST" = some (.int 48 (tk 4))
  c_MOST_WORTH : mg "MOST_WORTH" = some (.int 1000000 (tk 5))
  c_MOST_STRETCHES : mg "MOST_STRETCHES" = some (.int 400 (tk 6))
  b_isinstance : mg "isinstance" = none
  b_int : mg "int" = none
  b_bool : mg "bool" = none
  b_all : mg "all" = none
  b_str : mg "str" = none
  b_len : mg "len" = none
  b_list : mg "list" = none
  b_range : mg "range" = none
  b_enumerate : mg "enumerate" = none
  b_tuple : mg "tuple" = none
  b_zip : mg "zip" = none
  b_sorted : mg "sorted" = none
  b_sum : mg "sum" = none
  b_min : mg "min" = none
  e_NoPlain : EC K mg "NoPlain"
  e_NoPlace : EC K mg "NoPlace"
  e_PaneError : EC K mg "PaneError"
  g_NoRow : mg "NoRow" = some (.ref (clsA K "NoRow"))
  o_NoRow : OexC K (clsA K "NoRow")
  n_NoRow_found : PySem.W.findIn K (.ref (clsA K "NoRow")) "found" = some none
  i_NoRow : IniF K "NoRow" "NoRow.__init__" si_NoRow ["self", "found"]
  x_NoRow : XI K (clsA K "NoRow")
  s_NoRow_NoPlain : PySem.W.subIn K (.ref (clsA K "NoRow")) (.ref (clsA K "NoPlain")) = some false
  s_NoRow_NoPlace : PySem.W.subIn K (.ref (clsA K "NoRow")) (.ref (clsA K "NoPlace")) = some false
  s_NoRow_PaneError : PySem.W.subIn K (.ref (clsA K "NoRow")) (.ref (clsA K "PaneError")) = some true
  g_NoPlain : mg "NoPlain" = some (.ref (clsA K "NoPlain"))
  o_NoPlain : OexC K (clsA K "NoPlain")
  n_NoPlain_found : PySem.W.findIn K (.ref (clsA K "NoPlain")) "found" = some none
  i_NoPlain : IniF K "NoPlain" "NoPlain.__init__" si_NoPlain ["self", "found"]
  x_NoPlain : XI K (clsA K "NoPlain")
  s_NoPlain_NoPlain : PySem.W.subIn K (.ref (clsA K "NoPlain")) (.ref (clsA K "NoPlain")) = some true
  s_NoPlain_NoPlace : PySem.W.subIn K (.ref (clsA K "NoPlain")) (.ref (clsA K "NoPlace")) = some false
  s_NoPlain_PaneError : PySem.W.subIn K (.ref (clsA K "NoPlain")) (.ref (clsA K "PaneError")) = some true
  g_NoSpan : mg "NoSpan" = some (.ref (clsA K "NoSpan"))
  o_NoSpan : OexC K (clsA K "NoSpan")
  n_NoSpan_begin : PySem.W.findIn K (.ref (clsA K "NoSpan")) "begin" = some none
  n_NoSpan_end : PySem.W.findIn K (.ref (clsA K "NoSpan")) "end" = some none
  i_NoSpan : IniF K "NoSpan" "NoSpan.__init__" si_NoSpan ["self", "begin", "end"]
  x_NoSpan : XI K (clsA K "NoSpan")
  s_NoSpan_NoPlain : PySem.W.subIn K (.ref (clsA K "NoSpan")) (.ref (clsA K "NoPlain")) = some false
  s_NoSpan_NoPlace : PySem.W.subIn K (.ref (clsA K "NoSpan")) (.ref (clsA K "NoPlace")) = some false
  s_NoSpan_PaneError : PySem.W.subIn K (.ref (clsA K "NoSpan")) (.ref (clsA K "PaneError")) = some true
  g_NoTurning : mg "NoTurning" = some (.ref (clsA K "NoTurning"))
  o_NoTurning : OexC K (clsA K "NoTurning")
  n_NoTurning_found : PySem.W.findIn K (.ref (clsA K "NoTurning")) "found" = some none
  i_NoTurning : IniF K "NoTurning" "NoTurning.__init__" si_NoTurning ["self", "found"]
  x_NoTurning : XI K (clsA K "NoTurning")
  s_NoTurning_NoPlain : PySem.W.subIn K (.ref (clsA K "NoTurning")) (.ref (clsA K "NoPlain")) = some false
  s_NoTurning_NoPlace : PySem.W.subIn K (.ref (clsA K "NoTurning")) (.ref (clsA K "NoPlace")) = some false
  s_NoTurning_PaneError : PySem.W.subIn K (.ref (clsA K "NoTurning")) (.ref (clsA K "PaneError")) = some true
  g_NoPlace : mg "NoPlace" = some (.ref (clsA K "NoPlace"))
  o_NoPlace : OexC K (clsA K "NoPlace")
  n_NoPlace_found : PySem.W.findIn K (.ref (clsA K "NoPlace")) "found" = some none
  i_NoPlace : IniF K "NoPlace" "NoPlace.__init__" si_NoPlace ["self", "found"]
  x_NoPlace : XI K (clsA K "NoPlace")
  s_NoPlace_NoPlain : PySem.W.subIn K (.ref (clsA K "NoPlace")) (.ref (clsA K "NoPlain")) = some false
  s_NoPlace_NoPlace : PySem.W.subIn K (.ref (clsA K "NoPlace")) (.ref (clsA K "NoPlace")) = some true
  s_NoPlace_PaneError : PySem.W.subIn K (.ref (clsA K "NoPlace")) (.ref (clsA K "PaneError")) = some true
  g_NoStretches : mg "NoStretches" = some (.ref (clsA K "NoStretches"))
  o_NoStretches : OexC K (clsA K "NoStretches")
  n_NoStretches_found : PySem.W.findIn K (.ref (clsA K "NoStretches")) "found" = some none
  i_NoStretches : IniF K "NoStretches" "NoStretches.__init__" si_NoStretches ["self", "found"]
  x_NoStretches : XI K (clsA K "NoStretches")
  s_NoStretches_NoPlain : PySem.W.subIn K (.ref (clsA K "NoStretches")) (.ref (clsA K "NoPlain")) = some false
  s_NoStretches_NoPlace : PySem.W.subIn K (.ref (clsA K "NoStretches")) (.ref (clsA K "NoPlace")) = some false
  s_NoStretches_PaneError : PySem.W.subIn K (.ref (clsA K "NoStretches")) (.ref (clsA K "PaneError")) = some true
  s_PaneError_PaneError : PySem.W.subIn K (.ref (clsA K "PaneError")) (.ref (clsA K "PaneError")) = some true
  bi_PaneError : BI K mg "PaneError"
  mg_Tally : mg "Tally" = some (.ref (clsA K "Tally"))
  cl_Tally : Cls K (clsA K "Tally")
  na_Tally_many : NoAttr K (clsA K "Tally") "many"
  na_Tally_floors : NoAttr K (clsA K "Tally") "floors"
  m_Tally : Mk K (clsA K "Tally") (ad 18)
  mg_Asks : mg "Asks" = some (.ref (clsA K "Asks"))
  cl_Asks : Cls K (clsA K "Asks")
  na_Asks_tall : NoAttr K (clsA K "Asks") "tall"
  na_Asks_wide : NoAttr K (clsA K "Asks") "wide"
  na_Asks_tally : NoAttr K (clsA K "Asks") "tally"
  na_Asks_goals : NoAttr K (clsA K "Asks") "goals"
  na_Asks_starts : NoAttr K (clsA K "Asks") "starts"
  m_Asks : Mk K (clsA K "Asks") (ad 19)
  mg_Board : mg "Board" = some (.ref (clsA K "Board"))
  cl_Board : Cls K (clsA K "Board")
  na_Board_left_row : NoAttr K (clsA K "Board") "left_row"
  na_Board_upper_row : NoAttr K (clsA K "Board") "upper_row"
  na_Board_meetings : NoAttr K (clsA K "Board") "meetings"
  na_Board_signs : NoAttr K (clsA K "Board") "signs"
  na_Board_goals : NoAttr K (clsA K "Board") "goals"
  m_Board : Mk K (clsA K "Board") (ad 20)
  mg_Costs : mg "Costs" = some (.ref (clsA K "Costs"))
  cl_Costs : Cls K (clsA K "Costs")
  na_Costs_turned_row : NoAttr K (clsA K "Costs") "turned_row"
  na_Costs_goal_row : NoAttr K (clsA K "Costs") "goal_row"
  na_Costs_wide : NoAttr K (clsA K "Costs") "wide"
  na_Costs_costs : NoAttr K (clsA K "Costs") "costs"
  m_Costs : Mk K (clsA K "Costs") (ad 32)
local macro_rules | `(tactic| walk_at "ex") => `(tactic| first
  | exact EC.xm (Tx.e_NoPlain (by assumption)) (Tx.s_NoRow_NoPlain (by assumption))
  | exact EC.xm (Tx.e_NoPlace (by assumption)) (Tx.s_NoRow_NoPlace (by assumption))
  | exact EC.xm (Tx.e_NoPlain (by assumption)) (Tx.s_NoPlain_NoPlain (by assumption))
  | exact EC.xm (Tx.e_NoPlace (by assumption)) (Tx.s_NoPlain_NoPlace (by assumption))
  | exact EC.xm (Tx.e_NoPlain (by assumption)) (Tx.s_NoSpan_NoPlain (by assumption))
  | exact EC.xm (Tx.e_NoPlace (by assumption)) (Tx.s_NoSpan_NoPlace (by assumption))
  | exact EC.xm (Tx.e_NoPlain (by assumption)) (Tx.s_NoTurning_NoPlain (by assumption))
  | exact EC.xm (Tx.e_NoPlace (by assumption)) (Tx.s_NoTurning_NoPlace (by assumption))
  | exact EC.xm (Tx.e_NoPlain (by assumption)) (Tx.s_NoPlace_NoPlain (by assumption))
  | exact EC.xm (Tx.e_NoPlace (by assumption)) (Tx.s_NoPlace_NoPlace (by assumption))
  | exact EC.xm (Tx.e_NoPlain (by assumption)) (Tx.s_NoStretches_NoPlain (by assumption))
  | exact EC.xm (Tx.e_NoPlace (by assumption)) (Tx.s_NoStretches_NoPlace (by assumption)))
local macro_rules | `(tactic| walk_at "ki") => `(tactic| first
  | exact EC.kit (Tx.e_PaneError (by assumption)) (Tx.s_NoRow_PaneError (by assumption)) (Tx.s_PaneError_PaneError (by assumption))
  | exact EC.kit (Tx.e_NoPlace (by assumption)) (Tx.s_NoRow_NoPlace (by assumption)) (Tx.s_NoPlace_NoPlace (by assumption))
  | exact EC.kit (Tx.e_PaneError (by assumption)) (Tx.s_NoPlain_PaneError (by assumption)) (Tx.s_PaneError_PaneError (by assumption))
  | exact EC.kit (Tx.e_NoPlace (by assumption)) (Tx.s_NoPlain_NoPlace (by assumption)) (Tx.s_NoPlace_NoPlace (by assumption))
  | exact EC.kit (Tx.e_PaneError (by assumption)) (Tx.s_NoSpan_PaneError (by assumption)) (Tx.s_PaneError_PaneError (by assumption))
  | exact EC.kit (Tx.e_NoPlace (by assumption)) (Tx.s_NoSpan_NoPlace (by assumption)) (Tx.s_NoPlace_NoPlace (by assumption))
  | exact EC.kit (Tx.e_PaneError (by assumption)) (Tx.s_NoTurning_PaneError (by assumption)) (Tx.s_PaneError_PaneError (by assumption))
  | exact EC.kit (Tx.e_NoPlace (by assumption)) (Tx.s_NoTurning_NoPlace (by assumption)) (Tx.s_NoPlace_NoPlace (by assumption))
  | exact EC.kit (Tx.e_PaneError (by assumption)) (Tx.s_NoPlace_PaneError (by assumption)) (Tx.s_PaneError_PaneError (by assumption))
  | exact EC.kit (Tx.e_NoPlace (by assumption)) (Tx.s_NoPlace_NoPlace (by assumption)) (Tx.s_NoPlace_NoPlace (by assumption))
  | exact EC.kit (Tx.e_PaneError (by assumption)) (Tx.s_NoStretches_PaneError (by assumption)) (Tx.s_PaneError_PaneError (by assumption))
  | exact EC.kit (Tx.e_NoPlace (by assumption)) (Tx.s_NoStretches_NoPlace (by assumption)) (Tx.s_NoPlace_NoPlace (by assumption)))
local macro_rules | `(tactic| walk_at "xi") => `(tactic| first
  | exact Tx.x_NoRow (by assumption)
  | exact Tx.x_NoPlain (by assumption)
  | exact Tx.x_NoSpan (by assumption)
  | exact Tx.x_NoTurning (by assumption)
  | exact Tx.x_NoPlace (by assumption)
  | exact Tx.x_NoStretches (by assumption))
local macro_rules | `(tactic| walk_at "xo") => `(tactic| first
  | exact Tx.o_NoRow (by assumption)
  | exact Tx.o_NoPlain (by assumption)
  | exact Tx.o_NoSpan (by assumption)
  | exact Tx.o_NoTurning (by assumption)
  | exact Tx.o_NoPlace (by assumption)
  | exact Tx.o_NoStretches (by assumption))
local macro_rules | `(tactic| walk_at "nf") => `(tactic| first
  | exact Tx.n_NoRow_found (by assumption)
  | exact Tx.n_NoPlain_found (by assumption)
  | exact Tx.n_NoSpan_begin (by assumption)
  | exact Tx.n_NoSpan_end (by assumption)
  | exact Tx.n_NoTurning_found (by assumption)
  | exact Tx.n_NoPlace_found (by assumption)
  | exact Tx.n_NoStretches_found (by assumption))
local macro_rules | `(tactic| walk_at "cl") => `(tactic| first
  | exact Tx.cl_Tally (by assumption)
  | exact Tx.cl_Asks (by assumption)
  | exact Tx.cl_Board (by assumption)
  | exact Tx.cl_Costs (by assumption))
local macro_rules | `(tactic| walk_at "na") => `(tactic| first
  | exact Tx.na_Tally_many (by assumption)
  | exact Tx.na_Tally_floors (by assumption)
  | exact Tx.na_Asks_tall (by assumption)
  | exact Tx.na_Asks_wide (by assumption)
  | exact Tx.na_Asks_tally (by assumption)
  | exact Tx.na_Asks_goals (by assumption)
  | exact Tx.na_Asks_starts (by assumption)
  | exact Tx.na_Board_left_row (by assumption)
  | exact Tx.na_Board_upper_row (by assumption)
  | exact Tx.na_Board_meetings (by assumption)
  | exact Tx.na_Board_signs (by assumption)
  | exact Tx.na_Board_goals (by assumption)
  | exact Tx.na_Costs_turned_row (by assumption)
  | exact Tx.na_Costs_goal_row (by assumption)
  | exact Tx.na_Costs_wide (by assumption)
  | exact Tx.na_Costs_costs (by assumption))
section
variable {P : Program} {w : World} {K : PySem.W.Frag} {mg : Str → Option Value} {base : Heap} {ad : Nat → Addr} {fd : Nat → FuncData} {tk : Nat → Tok} {tc : Nat → Addr × Addr}
theorem tabs_m_Board_init : ((tc 0).2, q_Board_init) ∈ tabsL tc := by
  unfold tabsL
  simp
theorem tabs_u_Board_init (T : Tx K mg ad fd tk base tc) : ∀ p ∈ tabsL tc, p.1 = (tc 0).2 → p.2 = q_Board_init := by
  intro p hp e
  simp only [tabsL, List.mem_cons, List.not_mem_nil, or_false] at hp
  rcases hp with rfl
  all_goals first
  | rfl
theorem ex_NoRow (T : Tx K mg ad fd tk base tc) : EX P w K mg base "NoRow" ["self", "found"] (spI1 K "found") := by
  obtain ⟨f, fd, i1, i2, F, b⟩ := T.i_NoRow.ex
  refine ⟨T.g_NoRow, T.o_NoRow, f, fd, i1, i2, F.ok sci_NoRow (fun vs H Q E h => ?_) (fun cdv A outer s H vs Q E hr h => ?_), b⟩
  · obtain ⟨a, C, y0, rfl, _⟩ := h
    rfl
  · obtain ⟨a, C, y0, rfl, hO, hn0, ha, k⟩ := h
    refine ⟨_, (pss_cons (ps_expr (pe_oinit T.bi_PaneError rfl (pa_cons (pv 0) (pa_cons pe_str pa_nil))))
      (pss_one (ps_ost (pv 0) (pv 1)))), ?_⟩
    exact ini1_go hO hn0 ha k
theorem ex_NoPlain (T : Tx K mg ad fd tk base tc) : EX P w K mg base "NoPlain" ["self", "found"] (spI1 K "found") := by
  obtain ⟨f, fd, i1, i2, F, b⟩ := T.i_NoPlain.ex
  refine ⟨T.g_NoPlain, T.o_NoPlain, f, fd, i1, i2, F.ok sci_NoPlain (fun vs H Q E h => ?_) (fun cdv A outer s H vs Q E hr h => ?_), b⟩
  · obtain ⟨a, C, y0, rfl, _⟩ := h
    rfl
  · obtain ⟨a, C, y0, rfl, hO, hn0, ha, k⟩ := h
    refine ⟨_, (pss_cons (ps_expr (pe_oinit T.bi_PaneError rfl (pa_cons (pv 0) (pa_cons pe_str pa_nil))))
      (pss_one (ps_ost (pv 0) (pv 1)))), ?_⟩
    exact ini1_go hO hn0 ha k
theorem ex_NoSpan (T : Tx K mg ad fd tk base tc) : EX P w K mg base "NoSpan" ["self", "begin", "end"] (spI2 K "begin" "end") := by
  obtain ⟨f, fd, i1, i2, F, b⟩ := T.i_NoSpan.ex
  refine ⟨T.g_NoSpan, T.o_NoSpan, f, fd, i1, i2, F.ok sci_NoSpan (fun vs H Q E h => ?_) (fun cdv A outer s H vs Q E hr h => ?_), b⟩
  · obtain ⟨a, C, y0, y1, rfl, _⟩ := h
    rfl
  · obtain ⟨a, C, y0, y1, rfl, hO, hn0, hn1, ha, k⟩ := h
    refine ⟨_, (pss_cons (ps_expr (pe_oinit T.bi_PaneError rfl (pa_cons (pv 0) (pa_cons pe_str pa_nil))))
      (pss_cons (ps_ost (pv 0) (pv 1)) (pss_one (ps_ost (pv 0) (pv 2))))), ?_⟩
    exact ini2_go hO hn0 hn1 ha k
theorem ex_NoTurning (T : Tx K mg ad fd tk base tc) : EX P w K mg base "NoTurning" ["self", "found"] (spI1 K "found") := by
  obtain ⟨f, fd, i1, i2, F, b⟩ := T.i_NoTurning.ex
  refine ⟨T.g_NoTurning, T.o_NoTurning, f, fd, i1, i2, F.ok sci_NoTurning (fun vs H Q E h => ?_) (fun cdv A outer s H vs Q E hr h => ?_), b⟩
  · obtain ⟨a, C, y0, rfl, _⟩ := h
    rfl
  · obtain ⟨a, C, y0, rfl, hO, hn0, ha, k⟩ := h
    refine ⟨_, (pss_cons (ps_expr (pe_oinit T.bi_PaneError rfl (pa_cons (pv 0) (pa_cons pe_str pa_nil))))
      (pss_one (ps_ost (pv 0) (pv 1)))), ?_⟩
    exact ini1_go hO hn0 ha k
theorem ex_NoPlace (T : Tx K mg ad fd tk base tc) : EX P w K mg base "NoPlace" ["self", "found"] (spI1 K "found") := by
  obtain ⟨f, fd, i1, i2, F, b⟩ := T.i_NoPlace.ex
  refine ⟨T.g_NoPlace, T.o_NoPlace, f, fd, i1, i2, F.ok sci_NoPlace (fun vs H Q E h => ?_) (fun cdv A outer s H vs Q E hr h => ?_), b⟩
  · obtain ⟨a, C, y0, rfl, _⟩ := h
    rfl
  · obtain ⟨a, C, y0, rfl, hO, hn0, ha, k⟩ := h
    refine ⟨_, (pss_cons (ps_expr (pe_oinit T.bi_PaneError rfl (pa_cons (pv 0) (pa_cons pe_str pa_nil))))
      (pss_one (ps_ost (pv 0) (pv 1)))), ?_⟩
    exact ini1_go hO hn0 ha k
theorem ex_NoStretches (T : Tx K mg ad fd tk base tc) : EX P w K mg base "NoStretches" ["self", "found"] (spI1 K "found") := by
  obtain ⟨f, fd, i1, i2, F, b⟩ := T.i_NoStretches.ex
  refine ⟨T.g_NoStretches, T.o_NoStretches, f, fd, i1, i2, F.ok sci_NoStretches (fun vs H Q E h => ?_) (fun cdv A outer s H vs Q E hr h => ?_), b⟩
  · obtain ⟨a, C, y0, rfl, _⟩ := h
    rfl
  · obtain ⟨a, C, y0, rfl, hO, hn0, ha, k⟩ := h
    refine ⟨_, (pss_cons (ps_expr (pe_oinit T.bi_PaneError rfl (pa_cons (pv 0) (pa_cons pe_str pa_nil))))
      (pss_one (ps_ost (pv 0) (pv 1)))), ?_⟩
    exact ini1_go hO hn0 ha k
def isWholeV : V → Bool
  | .int _ => true
  | _ => false
def sp_is_whole : Sp := fun vs H Q _ => ∃ x, vs = [x] ∧ Ty H x ∧ Q (.bl (isWholeV x)) H
theorem ok_is_whole (T : Tx K mg ad fd tk base tc) : FnOk P w K mg base CX0 1 (ad 0) (fd 0) ["thing"] sp_is_whole := by
  refine T.d_is_whole.F.ok sc_is_whole (fun vs H Q E h => ?_) (fun cdv A outer s H vs Q E hr h => ?_)
  · obtain ⟨x, rfl, _⟩ := h
    rfl
  · obtain ⟨x, rfl, ht, k⟩ := h
    refine ⟨_, (pss_one (ps_ret (pe_and (pe_callB c_is (by rfl) T.b_isinstance (by decide +kernel) (pa_cons (pv 0) (pa_cons (pe_bltn (v := .ty "int") rfl T.b_int (by decide +kernel) rfl) pa_nil))) (pe_one (pe_not (pe_callB c_is (by rfl) T.b_isinstance (by decide +kernel) (pa_cons (pv 0) (pa_cons (pe_bltn (v := .ty "bool") rfl T.b_bool (by decide +kernel) rfl) pa_nil)))))))), ?_⟩
    walk_at "go"
    refine st_isIntT ht ?_
    walk_at "go"
    cases x with
    | int i =>
      refine st_T rfl ?_
      walk_at "go"
      exact k
    | bl b =>
      refine st_T rfl ?_
      walk_at "go"
      exact k
    | _ =>
      refine st_F rfl ?_
      walk_at "go"
      exact k
def withinV (x : V) (lo hi : Int) : Bool := match x with
  | .int i => decide (lo ≤ i ∧ i ≤ hi)
  | _ => false
def sp_is_within : Sp := fun vs H Q _ => ∃ (x : V) (lo hi : Int), vs = [x, .int lo, .int hi] ∧ Ty H x ∧ Q (.bl (withinV x lo hi)) H
theorem ok_is_within (T : Tx K mg ad fd tk base tc) : FnOk P w K mg base CX0 2 (ad 1) (fd 1) ["thing", "low", "high"] sp_is_within := by
  refine T.d_is_within.F.ok sc_is_within (fun vs H Q E h => ?_) (fun cdv A outer s H vs Q E hr h => ?_)
  · obtain ⟨x, lo, hi, rfl, _⟩ := h
    rfl
  · obtain ⟨x, lo, hi, rfl, ht, k⟩ := h
    refine ⟨_, (pss_one (ps_ret (pe_and (pe_call (ok_is_whole T) (hr.mono (by decide)) rfl T.d_is_whole.g T.d_is_whole.F.kp T.d_is_whole.b .nil pass0 (pa_cons (pv 0) pa_nil)) (pe_one (pe_chain o_le o_le (pv 1) (pv 0) (pv 2)))))), ?_⟩
    walk_at "go"
    refine ⟨x, rfl, ht, ?_⟩
    cases x with
    | int i =>
      walk_at "go"
      refine st_br2 (fun c => ?_) (fun c => ?_)
      · walk_at "go"
        have e : withinV (.int i) lo hi = decide (i ≤ hi) := by
          unfold withinV
          simp [c]
        rw [e] at k
        exact k
      · have e : withinV (.int i) lo hi = false := by
          unfold withinV
          simp [c]
        rw [e] at k
        exact k
    | _ =>
      walk_at "go"
      exact k
def rowSign (c : Nat) : Bool := decide (97 ≤ c ∧ c ≤ 122) || decide (c = 46)
def isRow : V → Bool
  | .str z => decide (z.length ≤ 48) && z.cps.toList.all rowSign
  | _ => false
theorem letters_eq : ("abcdefghijklmnopqrstuvwxyz" : Str).cps.toList = List.range' 97 26 := by decide +kernel
theorem letters_mem (c : Nat) : (c ∈ ("abcdefghijklmnopqrstuvwxyz" : Str).cps.toList) ↔ (97 ≤ c ∧ c ≤ 122) := by
  rw [letters_eq, List.mem_range'_1]
  omega
theorem point_eq : ("." : Str) = tx [46] := by decide +kernel
def sp_is_row : Sp := fun vs H Q _ => ∃ v, vs = [v] ∧ Ty H v ∧ (∀ z, v = .str z → z.length ≤ 16777216) ∧ ∀ H', Ex H H' → Q (.bl (isRow v)) H'
theorem ok_is_row (T : Tx K mg ad fd tk base tc) : FnOk P w K mg base CX0 1 (ad 2) (fd 2) ["thing"] sp_is_row := by
  refine T.d_is_row.F.ok sc_is_row (fun vs H Q E h => ?_) (fun cdv A outer s H vs Q E hr h => ?_)
  · obtain ⟨v, rfl, _⟩ := h
    rfl
  · obtain ⟨v, rfl, ht, hz, k⟩ := h
    refine ⟨_, (pss_cons (ps_if (PW.pt (pw_or (pt_not (pt_val (pe_callB c_is (by rfl) T.b_isinstance (by decide +kernel) (pa_cons (pv 0) (pa_cons (pe_bltn (v := .ty "str") rfl T.b_str (by decide +kernel) rfl) pa_nil))))) (pw_or1 (pt_cmpR o_gt (pe_callB (c_len (K := K)) (by rfl) T.b_len (by decide +kernel) (pa_cons (pv 0) pa_nil)) (pe_glob (v := .int 48) rfl T.c_MOST_SIGNS ⟨_, rfl⟩) (nomark _))))) (pss_one (ps_ret pe_bl)) pss_nil)
      (pss_one (ps_ret (pe_callB (c_all rfl) (by rfl) T.b_all (by decide +kernel) (pa_cons (pe_lc (own := [("sign", 1)]) (g := gName 1) rfl sc_is_row.nd (pi_str (pv 0)) (blkOk_by (own := [("sign", 1)]) (N := N_is_row) (sc := defScope s_is_row) (by decide +kernel)) (fun _ _ _ _ _ => pg_name (i := 1) sc_is_row.nd rfl (Or.inl rfl)) (fun _ _ _ _ _ => pts_nil) (fun _ _ _ _ _ => (pe_or (pe_cmpR (o_in hr.units) (pv 1) (pe_glob (v := .str "abcdefghijklmnopqrstuvwxyz") rfl T.c_LETTERS ⟨_, rfl⟩) rfl) (pe_one (pe_cmpR (o_eq hr.units) (pv 1) pe_str (nomark _)))))) pa_nil))))), ?_⟩
    walk_at "go"
    refine st_isStrT ht ?_
    walk_at "go"
    cases v with
    | str z =>
      have hz' := hz z rfl
      refine st_F rfl ?_
      walk_at "go"
      refine st_br2 (fun c => ?_) (fun c => ?_)
      · walk_at "go"
        have e : isRow (.str z) = false := by
          show (decide (z.length ≤ 48) && _) = false
          rw [decide_eq_false (by omega)]
          rfl
        have k' := k _ (Fr.refl H)
        rw [e] at k'
        exact k'
      · walk_at "go"
        refine lc_pure (rv_str z) (fun _ _ => trivial) (by show z.cps.toList.length < _; simp only [Array.length_toList]; have : z.cps.size = z.length := rfl; omega) (fun _ => true) (fun c => .bl (rowSign c)) ?_ ?_
        · intro c' H' hc e B A h1 h2
          refine ⟨rfl, ?_⟩
          have h1' := h1 rfl _ (Fr.refl _)
          walk_at "go"
          refine st_br2 (fun m => ?_) (fun m => ?_)
          · rw [letters_mem] at m
            have e1 : rowSign c' = true := by
              unfold rowSign
              rw [decide_eq_true m]
              rfl
            rw [e1] at h1'
            exact h1'
          · rw [letters_mem] at m
            walk_at "go"
            have e1 : rowSign c' = decide (tx [c'] = ".") := by
              unfold rowSign
              rw [decide_eq_false m, point_eq, Bool.false_or]
              simp [tx_inj]
            rw [e1] at h1'
            exact h1'
        · intro D H' hD e hd
          walk_at "go"
          refine st_all (bs := z.cps.toList.map rowSign) hd (by rw [List.filter_eq_self.mpr (fun _ _ => rfl), List.map_map]; rfl) ?_
          have e1 : isRow (.str z) = (z.cps.toList.map rowSign).all id := by
            show (decide (z.length ≤ 48) && _) = _
            rw [decide_eq_true (by omega), Bool.true_and, List.all_map]
            rfl
          have k' := k _ e
          rw [e1] at k'
          exact k'
    | _ =>
      refine st_T rfl ?_
      walk_at "go"
      exact k _ (Fr.refl H)
def isPlain : V → Bool
  | .str z => isRow (.str z) && (decide (z.length ≤ 24) && !decide (46 ∈ z.cps.toList))
  | _ => false
def sp_is_plain : Sp := fun vs H Q _ => ∃ v, vs = [v] ∧ Ty H v ∧ (∀ z, v = .str z → z.length ≤ 16777216) ∧ ∀ H', Ex H H' → Q (.bl (isPlain v)) H'
theorem ok_is_plain (T : Tx K mg ad fd tk base tc) : FnOk P w K mg base CX0 2 (ad 3) (fd 3) ["thing"] sp_is_plain := by
  refine T.d_is_plain.F.ok sc_is_plain (fun vs H Q E h => ?_) (fun cdv A outer s H vs Q E hr h => ?_)
  · obtain ⟨v, rfl, _⟩ := h
    rfl
  · obtain ⟨v, rfl, ht, hz, k⟩ := h
    refine ⟨_, (pss_one (ps_ret (pe_and (pe_call (ok_is_row T) (hr.mono (by decide)) rfl T.d_is_row.g T.d_is_row.F.kp T.d_is_row.b .nil pass0 (pa_cons (pv 0) pa_nil)) (pe_and (pe_cmpR o_le (pe_callB (c_len (K := K)) (by rfl) T.b_len (by decide +kernel) (pa_cons (pv 0) pa_nil)) (pe_glob (v := .int 24) rfl T.c_MOST_LETTERS ⟨_, rfl⟩) (nomark _)) (pe_one (pe_cmpR (o_nin hr.units) pe_str (pv 0) rfl)))))), ?_⟩
    walk_at "go"
    refine ⟨v, rfl, ht, hz, fun H' e => ?_⟩
    walk_at "go"
    cases v with
    | str z =>
      have hz' := hz z rfl
      refine st_br (fun c => ?_) (fun c => ?_)
      · walk_at "go"
        refine st_br (fun c2 => ?_) (fun c2 => ?_)
        · walk_at "go"
          rw [point_eq]
          walk_at "go"
          have k' := k _ e
          have e1 : isPlain (.str z) = !decide (46 ∈ z.cps.toList) := by
            show (isRow (.str z) && (decide (z.length ≤ 24) && _)) = _
            rw [c, decide_eq_true (by have := of_decide_eq_true c2; omega)]
            rfl
          rw [e1] at k'
          exact k'
        · have k' := k _ e
          have e1 : isPlain (.str z) = false := by
            show (isRow (.str z) && (decide (z.length ≤ 24) && _)) = _
            rw [c, decide_eq_false (by have := of_decide_eq_false c2; omega)]
            rfl
          rw [e1] at k'
          exact k'
      · have k' := k _ e
        have e1 : isPlain (.str z) = false := by
          show (isRow (.str z) && (decide (z.length ≤ 24) && _)) = _
          rw [c]
          rfl
        rw [e1] at k'
        exact k'
    | _ => exact k _ e
/-- a text that is a row -/
def RowS (z : Str) : Prop := isRow (.str z) = true
theorem RowS.len {z : Str} (h : RowS z) : z.length ≤ 48 := by
  have h : (decide (z.length ≤ 48) && z.cps.toList.all rowSign) = true := h
  rw [Bool.and_eq_true] at h
  exact of_decide_eq_true h.1
theorem RowS.len2 {z : Str} (h : RowS z) : z.cps.toList.length ≤ 48 := by
  have e : z.cps.toList.length = z.length := Array.length_toList
  rw [e]
  exact h.len
theorem RowS.thg {H : Hp} {z : Str} (h : RowS z) : Thg H (.str z) := thg_str (by have := h.len; omega)
theorem rowS_of_true {x : V} (h : isRow x = true) : ∃ s, x = .str s ∧ RowS s := by
  cases x with
  | str s => exact ⟨s, rfl, h⟩
  | _ => cases h
/-- a row, or refused -/
def Row1 (K : PySem.W.Frag) (E : XK) (H : Hp) (x : V) (k : Str → Prop) : Prop := (∃ s, x = .str s ∧ RowS s ∧ k s) ∨ (Thg H x ∧ isRow x = false ∧ RaR K E H "NoRow" "found" x)
theorem Row1.imp {K : PySem.W.Frag} {E : XK} {H : Hp} {x : V} {k k' : Str → Prop} (h : Row1 K E H x k) (f : ∀ s, x = .str s → RowS s → k s → k' s) : Row1 K E H x k' := by
  rcases h with ⟨s, e, hs, h⟩ | h
  · exact .inl ⟨s, e, hs, f s e hs h⟩
  · exact .inr h
def sp_need_row (K : PySem.W.Frag) : Sp := fun vs H Q E => ∃ x, vs = [x] ∧ Row1 K E H x fun _ => ∀ H', Ex H H' → Q .non H'
theorem ok_need_row (T : Tx K mg ad fd tk base tc) : FnOk P w K mg base (L2.CX P w) 3 (ad 4) (fd 4) ["row"] (sp_need_row K) := by
  refine T.d_need_row.F.okX sc_need_row (fun vs H Q E h => ?_) (fun cdv A outer s H vs Q E hr h => ?_)
  · obtain ⟨x, rfl, _⟩ := h
    rfl
  · obtain ⟨x, rfl, k⟩ := h
    refine ⟨_, (pss_one (ps_if (pt_not (pt_val (pe_call (ok_is_row T) (hr.mono (by decide)) rfl T.d_is_row.g T.d_is_row.F.kp T.d_is_row.b .nil pass0 (pa_cons (pv 0) pa_nil)))) (pss_one (ps_raiseG rfl (ex_NoRow T) (hr.mono (by decide)) (takes_of rfl rfl rfl rfl) rfl (pa_cons (pv 0) pa_nil))) pss_nil)), ?_⟩
    walk_at "go"
    rcases k with ⟨s, rfl, hs, k⟩ | ⟨ht, hb, k⟩
    · have hs' := hs.len
      refine ⟨.str s, rfl, ty_str _, fun z' e => by cases e; omega, fun H1 e1 => ?_⟩
      rw [show isRow (.str s) = true from hs]
      walk_at "go"
      exact k _ e1
    · refine ⟨x, rfl, ht.1, ht.2, fun H1 e1 => ?_⟩
      rw [hb]
      walk_at "go"
      rename_i d H2 hd e2 hv
      exact k d H2 (Ex.free e1 hd) (e1.trans e2) hv
/-- two rows, or the first that is none is refused -/
def Rows2 (K : PySem.W.Frag) (E : XK) (H : Hp) (x y : V) (k : Str → Str → Prop) : Prop := (∃ s t, x = .str s ∧ y = .str t ∧ RowS s ∧ RowS t ∧ k s t) ∨
  (Thg H x ∧ Thg H y ∧ ((isRow x = false ∧ RaR K E H "NoRow" "found" x) ∨ (isRow x = true ∧ isRow y = false ∧ RaR K E H "NoRow" "found" y)))
theorem Rows2.imp {K : PySem.W.Frag} {E : XK} {H : Hp} {x y : V} {k k' : Str → Str → Prop} (h : Rows2 K E H x y k) (f : ∀ s t, x = .str s → y = .str t → RowS s → RowS t → k s t → k' s t) : Rows2 K E H x y k' := by
  rcases h with ⟨s, t, e1, e2, hs, ht, h⟩ | h
  · exact .inl ⟨s, t, e1, e2, hs, ht, f s t e1 e2 hs ht h⟩
  · exact .inr h
def sp_need_rows (K : PySem.W.Frag) : Sp := fun vs H Q E => ∃ x y, vs = [x, y] ∧ Rows2 K E H x y fun _ _ => ∀ H', Ex H H' → Q .non H'
theorem ok_need_rows (T : Tx K mg ad fd tk base tc) : FnOk P w K mg base (L2.CX P w) 4 (ad 5) (fd 5) ["side", "top"] (sp_need_rows K) := by
  refine T.d_need_rows.F.okX sc_need_rows (fun vs H Q E h => ?_) (fun cdv A outer s H vs Q E hr h => ?_)
  · obtain ⟨x, y, rfl, _⟩ := h
    rfl
  · obtain ⟨x, y, rfl, k⟩ := h
    refine ⟨_, (pss_cons (ps_expr (pe_call (ok_need_row T) (hr.mono (by decide)) rfl T.d_need_row.g T.d_need_row.F.kp T.d_need_row.b .nil (passes_call (takes_of rfl rfl rfl rfl) (fun _ _ _ _ h => h)) (pa_cons (pv 0) pa_nil)))
      (pss_one (ps_expr (pe_call (ok_need_row T) (hr.mono (by decide)) rfl T.d_need_row.g T.d_need_row.F.kp T.d_need_row.b .nil (passes_call (takes_of rfl rfl rfl rfl) (fun _ _ _ _ h => h)) (pa_cons (pv 1) pa_nil))))), ?_⟩
    walk_at "go"
    rcases k with ⟨s, t, rfl, rfl, hs, ht, k⟩ | ⟨h1, h2, ⟨hb, k⟩ | ⟨ha, hb, k⟩⟩
    · refine ⟨.str s, rfl, .inl ⟨s, rfl, hs, fun H1 e1 => ?_⟩⟩
      walk_at "go"
      refine ⟨.str t, rfl, .inl ⟨t, rfl, ht, fun H2 e2 => ?_⟩⟩
      walk_at "go"
      exact k _ (e1.trans e2)
    · exact ⟨x, rfl, .inr ⟨h1, hb, k⟩⟩
    · obtain ⟨s, rfl, hs⟩ := rowS_of_true ha
      refine ⟨.str s, rfl, .inl ⟨s, rfl, hs, fun H1 e1 => ?_⟩⟩
      walk_at "go"
      exact ⟨y, rfl, .inr ⟨h2.ex e1, hb, k.ex e1⟩⟩
/-- a plain row -/
def PlainS (z : Str) : Prop := isPlain (.str z) = true
theorem PlainS.len {z : Str} (h : PlainS z) : z.length ≤ 24 := by
  have h : (isRow (.str z) && (decide (z.length ≤ 24) && !decide (46 ∈ z.cps.toList))) = true := h
  rw [Bool.and_eq_true, Bool.and_eq_true] at h
  exact of_decide_eq_true h.2.1
theorem PlainS.len2 {z : Str} (h : PlainS z) : z.cps.toList.length ≤ 24 := by
  have e : z.cps.toList.length = z.length := Array.length_toList
  rw [e]
  exact h.len
theorem PlainS.thg {H : Hp} {z : Str} (h : PlainS z) : Thg H (.str z) := thg_str (by have := h.len; omega)
theorem plainS_of_true {x : V} (h : isPlain x = true) : ∃ s, x = .str s ∧ PlainS s := by
  cases x with
  | str s => exact ⟨s, rfl, h⟩
  | _ => cases h
/-- a plain row, or refused -/
def Plain1 (K : PySem.W.Frag) (E : XK) (H : Hp) (x : V) (k : Str → Prop) : Prop := (∃ s, x = .str s ∧ PlainS s ∧ k s) ∨ (Thg H x ∧ isPlain x = false ∧ RaR K E H "NoPlain" "found" x)
theorem Plain1.imp {K : PySem.W.Frag} {E : XK} {H : Hp} {x : V} {k k' : Str → Prop} (h : Plain1 K E H x k) (f : ∀ s, x = .str s → PlainS s → k s → k' s) : Plain1 K E H x k' := by
  rcases h with ⟨s, e, hs, h⟩ | h
  · exact .inl ⟨s, e, hs, f s e hs h⟩
  · exact .inr h
def sp_need_plain (K : PySem.W.Frag) : Sp := fun vs H Q E => ∃ x, vs = [x] ∧ Plain1 K E H x fun _ => ∀ H', Ex H H' → Q .non H'
theorem ok_need_plain (T : Tx K mg ad fd tk base tc) : FnOk P w K mg base (L2.CX P w) 3 (ad 6) (fd 6) ["row"] (sp_need_plain K) := by
  refine T.d_need_plain.F.okX sc_need_plain (fun vs H Q E h => ?_) (fun cdv A outer s H vs Q E hr h => ?_)
  · obtain ⟨x, rfl, _⟩ := h
    rfl
  · obtain ⟨x, rfl, k⟩ := h
    refine ⟨_, (pss_one (ps_if (pt_not (pt_val (pe_call (ok_is_plain T) (hr.mono (by decide)) rfl T.d_is_plain.g T.d_is_plain.F.kp T.d_is_plain.b .nil pass0 (pa_cons (pv 0) pa_nil)))) (pss_one (ps_raiseG rfl (ex_NoPlain T) (hr.mono (by decide)) (takes_of rfl rfl rfl rfl) rfl (pa_cons (pv 0) pa_nil))) pss_nil)), ?_⟩
    walk_at "go"
    rcases k with ⟨s, rfl, hs, k⟩ | ⟨ht, hb, k⟩
    · have hs' := hs.len
      refine ⟨.str s, rfl, ty_str _, fun z' e => by cases e; omega, fun H1 e1 => ?_⟩
      rw [show isPlain (.str s) = true from hs]
      walk_at "go"
      exact k _ e1
    · refine ⟨x, rfl, ht.1, ht.2, fun H1 e1 => ?_⟩
      rw [hb]
      walk_at "go"
      rename_i d H2 hd e2 hv
      exact k d H2 (Ex.free e1 hd) (e1.trans e2) hv
/-- a stretch of m places -/
def spanV (b e : V) (m : Int) : Bool := match b with
  | .int i => decide (0 ≤ i ∧ i ≤ m) && withinV e i m
  | _ => false
def sp_need_span (K : PySem.W.Frag) : Sp := fun vs H Q E => ∃ (b e : V) (m : Int), vs = [b, e, .int m] ∧ Ty H b ∧ Ty H e ∧ (spanV b e m = false → RaF K E H "NoSpan" [("end", e), ("begin", b)]) ∧ (spanV b e m = true → Q .non H)
theorem nat_span {i j m : Nat} (h1 : i ≤ j) (h2 : j ≤ m) : spanV (.int (i : Nat)) (.int (j : Nat)) m = true := by
  show (decide (0 ≤ ((i : Nat) : Int) ∧ ((i : Nat) : Int) ≤ (m : Int)) && decide (((i : Nat) : Int) ≤ ((j : Nat) : Int) ∧ ((j : Nat) : Int) ≤ (m : Int))) = true
  rw [Bool.and_eq_true, decide_eq_true_eq, decide_eq_true_eq]
  omega
theorem ok_need_span (T : Tx K mg ad fd tk base tc) : FnOk P w K mg base (L2.CX P w) 3 (ad 7) (fd 7) ["begin", "end", "many"] (sp_need_span K) := by
  refine T.d_need_span.F.okX sc_need_span (fun vs H Q E h => ?_) (fun cdv A outer s H vs Q E hr h => ?_)
  · obtain ⟨b, e, m, rfl, _⟩ := h
    rfl
  · obtain ⟨b, e, m, rfl, hb, he, k0, k1⟩ := h
    refine ⟨_, (pss_one (ps_if (PW.pt (pw_or (pt_not (pt_val (pe_call (ok_is_within T) (hr.mono (by decide)) rfl T.d_is_within.g T.d_is_within.F.kp T.d_is_within.b .nil pass0 (pa_cons (pv 0) (pa_cons pe_int (pa_cons (pv 2) pa_nil)))))) (pw_or1 (pt_not (pt_val (pe_call (ok_is_within T) (hr.mono (by decide)) rfl T.d_is_within.g T.d_is_within.F.kp T.d_is_within.b .nil pass0 (pa_cons (pv 1) (pa_cons (pv 0) (pa_cons (pv 2) pa_nil))))))))) (pss_one (ps_raiseG rfl (ex_NoSpan T) (hr.mono (by decide)) (takes_of rfl rfl rfl rfl) rfl (pa_cons (pv 0) (pa_cons (pv 1) pa_nil)))) pss_nil)), ?_⟩
    walk_at "go"
    refine ⟨b, 0, m, rfl, hb, ?_⟩
    cases b with
    | int i =>
      have h1 : withinV (.int i) 0 m = decide (0 ≤ i ∧ i ≤ m) := rfl
      have h2 : spanV (.int i) e m = (decide (0 ≤ i ∧ i ≤ m) && withinV e i m) := rfl
      rw [h2] at k0 k1
      rw [h1]
      by_cases q : 0 ≤ i ∧ i ≤ m
      · rw [decide_eq_true q] at k0 k1 ⊢
        rw [Bool.true_and] at k0 k1
        walk_at "go"
        refine ⟨e, i, m, rfl, he, ?_⟩
        cases hb : withinV e i m with
        | true =>
          walk_at "go"
          exact k1 hb
        | false =>
          have k2 := k0 hb
          walk_at "go"
          rename_i d2 H2 hd2 e2 hv2
          exact k2 d2 H2 hd2 e2 hv2
      · rw [decide_eq_false q] at k0 ⊢
        have k2 := k0 rfl
        walk_at "go"
        rename_i d2 H2 hd2 e2 hv2
        exact k2 d2 H2 hd2 e2 hv2
    | _ =>
      have k2 := k0 rfl
      refine ⟨false, rfl, ?_⟩
      walk_at "go"
      rename_i d2 H2 hd2 e2 hv2
      exact k2 d2 H2 hd2 e2 hv2
/-- a point ahead of each -/
def parts (l : List Nat) : List Nat := (l.map fun c => [46, c]).flatten
theorem parts_cons (a : Nat) (l : List Nat) : parts (a :: l) = 46 :: a :: parts l := rfl
theorem parts_len (l : List Nat) : (parts l).length = 2 * l.length := by
  induction l with
  | nil => rfl
  | cons a l ih => rw [parts_cons, List.length_cons, List.length_cons, ih, List.length_cons]; omega
def sp_parted (K : PySem.W.Frag) : Sp := fun vs H Q E => ∃ x, vs = [x] ∧ Plain1 K E H x fun s => ∀ H', Ex H H' → Q (.str (tx (parts s.cps.toList))) H'
theorem ok_parted (T : Tx K mg ad fd tk base tc) : FnOk P w K mg base (L2.CX P w) 4 (ad 8) (fd 8) ["row"] (sp_parted K) := by
  refine T.d_parted.F.okX sc_parted (fun vs H Q E h => ?_) (fun cdv A outer s H vs Q E hr h => ?_)
  · obtain ⟨x, rfl, _⟩ := h
    rfl
  · obtain ⟨x, rfl, k⟩ := h
    refine ⟨_, (pss_cons (ps_expr (pe_call (ok_need_plain T) (hr.mono (by decide)) rfl T.d_need_plain.g T.d_need_plain.F.kp T.d_need_plain.b .nil (passes_call (takes_of rfl rfl rfl rfl) (fun _ _ _ _ h => h)) (pa_cons (pv 0) pa_nil)))
      (pss_one (ps_ret (pe_join pe_str (pe_lc (own := [("sign", 1)]) (g := gName 1) rfl sc_parted.nd (pi_str (pv 0)) (blkOk_by (own := [("sign", 1)]) (N := N_parted) (sc := defScope s_parted) (by decide +kernel)) (fun _ _ _ _ _ => pg_name (i := 1) sc_parted.nd rfl (Or.inl rfl)) (fun _ _ _ _ _ => pts_nil) (fun _ _ _ _ _ => (pe_op o_add pe_str (pv 1)))))))), ?_⟩
    walk_at "go"
    refine ⟨x, rfl, k.imp fun s e hs kq H1 e1 => ?_⟩
    subst e
    have hl := hs.len2
    walk_at "go"
    rw [Zb.tx_nil]
    walk_at "go"
    refine lc_map (rv_str s) (fun _ _ => trivial) (by omega) (fun c => .str (tx [46, c])) ?_ ?_
    · intro c H' hc e B h1
      refine ⟨rfl, ?_⟩
      have h1' := h1 _ (Fr.refl _)
      walk_at "go"
      rw [point_eq]
      walk_at "go"
      rw [tx_append]
      exact h1'
    · intro D H' hD e hd
      have hd' : H' D = some (.lst ((s.cps.toList.map fun c => tx [46, c]).map V.str)) := by rw [hd, List.map_map]; rfl
      walk_at "go"
      refine st_join (ys := (s.cps.toList.map fun c => [46, c]).map tx) hd' (by rw [List.map_map, List.map_map, List.map_map]; rfl) ?_ ?_
      · rw [List.length_map, List.length_map, tx_length]
        have e3 : (((s.cps.toList.map fun c => [46, c]).map tx).map (·.length)).sum = 2 * s.cps.toList.length := by
          generalize s.cps.toList = l
          induction l with
          | nil => rfl
          | cons a l ih => rw [List.map_cons, List.map_cons, List.map_cons, List.sum_cons, ih, tx_length]; simp; omega
        rw [e3]
        simp only [List.length_nil]
        omega
      · have kk := kq _ (e1.trans e)
        unfold parts at kk
        rw [← join_txs, Zb.tx_nil] at kk
        exact kk
/-- an item, nought behind the end -/
def gT (e : List Nat) (i : Nat) : Nat := e.getD i 0
theorem gT_at {e : List Nat} {i : Nat} (h : i < e.length) : gT e i = e[i] := by
  unfold gT
  rw [List.getD_eq_getElem?_getD, List.getElem?_eq_getElem h]
  rfl
theorem gT_some {e : List Nat} {i : Nat} (h : i < e.length) : e[i]? = some (gT e i) := by rw [gT_at h]; exact List.getElem?_eq_getElem h
theorem gT_of {e : List Nat} {i v : Nat} (h : e[i]? = some v) : gT e i = v := by unfold gT; rw [List.getD_eq_getElem?_getD, h]; rfl
theorem gT_ext {a b : List Nat} (hl : a.length = b.length) (h : ∀ i, i < a.length → gT a i = gT b i) : a = b := by
  refine List.ext_getElem hl fun i h1 h2 => ?_
  have := h i h1
  rwa [gT_at h1, gT_at h2] at this
theorem gT_map {f : Nat → Nat} {n i : Nat} (h : i < n) : gT ((List.range n).map f) i = f i := by
  refine gT_of ?_
  rw [List.getElem?_map, List.getElem?_range h]
  rfl
/-- a turning -/
structure IsT (l : List Nat) : Prop where
  nd : l.Nodup
  lt : ∀ x ∈ l, x < l.length
theorem IsT.g_lt {l : List Nat} (h : IsT l) {i : Nat} (hi : i < l.length) : gT l i < l.length := h.lt _ (by rw [gT_at hi]; exact List.getElem_mem hi)
theorem IsT.mem {l : List Nat} (h : IsT l) {v : Nat} (hv : v < l.length) : v ∈ l := by
  refine Decidable.byContradiction fun hn => ?_
  have h1 : l ⊆ (List.range l.length).erase v := fun x hx => by
    refine (List.mem_erase_of_ne (fun e => hn (by rw [← e]; exact hx))).mpr ?_
    exact List.mem_range.mpr (h.lt x hx)
  have h2 := h.nd.length_le_of_subset h1
  rw [List.length_erase_of_mem (List.mem_range.mpr hv), List.length_range] at h2
  omega
theorem IsT.perm {l : List Nat} (h : IsT l) : l.Perm (List.range l.length) := by
  rw [List.perm_iff_count]
  intro a
  have one : ∀ {m : List Nat}, m.Nodup → a ∈ m → m.count a = 1 := fun {m} h1 h2 => by
    have h3 := List.nodup_iff_count.mp h1 a
    have h4 := List.count_pos_iff.mpr h2
    omega
  by_cases ha : a < l.length
  · rw [one h.nd (h.mem ha), one List.nodup_range (List.mem_range.mpr ha)]
  · rw [List.count_eq_zero_of_not_mem fun q => ha (h.lt a q), List.count_eq_zero_of_not_mem fun q => ha (List.mem_range.mp q)]
theorem isT_range (n : Nat) : IsT (List.range n) := ⟨List.nodup_range, fun x hx => by rw [List.length_range]; exact List.mem_range.mp hx⟩
theorem IsT.of_perm {l m : List Nat} (h : IsT m) (p : l.Perm m) : IsT l := ⟨p.nodup_iff.mpr h.nd, fun x hx => by rw [p.length_eq]; exact h.lt x (p.mem_iff.mp hx)⟩
theorem IsT.of_perm_range {l : List Nat} {n : Nat} (p : l.Perm (List.range n)) : IsT l := (isT_range n).of_perm p
theorem IsT.idx_lt {l : List Nat} (h : IsT l) {v : Nat} (hv : v < l.length) : l.idxOf v < l.length := List.idxOf_lt_length_iff.mpr (h.mem hv)
theorem IsT.g_idx {l : List Nat} (h : IsT l) {v : Nat} (hv : v < l.length) : gT l (l.idxOf v) = v := by
  rw [gT_at (h.idx_lt hv)]
  exact List.getElem_idxOf _
theorem IsT.idx_g {l : List Nat} (h : IsT l) {i : Nat} (hi : i < l.length) : l.idxOf (gT l i) = i := by
  rw [gT_at hi]
  exact h.nd.idxOf_getElem i hi
theorem IsT.inj {l : List Nat} (h : IsT l) {i j : Nat} (hi : i < l.length) (hj : j < l.length) (e : gT l i = gT l j) : i = j := by
  rw [← h.idx_g hi, ← h.idx_g hj, e]
/-- the opposite turning -/
def invT (l : List Nat) : List Nat := (List.range l.length).map fun v => l.idxOf v
theorem invT_len (l : List Nat) : (invT l).length = l.length := by rw [invT, List.length_map, List.length_range]
theorem invT_g {l : List Nat} {v : Nat} (h : v < l.length) : gT (invT l) v = l.idxOf v := gT_map h
theorem isT_of_g {l : List Nat} (h1 : ∀ i, i < l.length → gT l i < l.length) (h2 : ∀ i j, i < l.length → j < l.length → gT l i = gT l j → i = j) : IsT l := by
  refine ⟨?_, fun x hx => ?_⟩
  · rw [List.nodup_iff_pairwise_ne, List.pairwise_iff_getElem]
    intro i j hi hj hij e
    have := h2 i j hi hj (by rw [gT_at hi, gT_at hj]; exact e)
    omega
  · obtain ⟨i, hi, e⟩ := List.getElem_of_mem hx
    have := h1 i hi
    rwa [gT_at hi, e] at this
theorem IsT.inv {l : List Nat} (h : IsT l) : IsT (invT l) := by
  refine isT_of_g (fun i hi => ?_) fun i j hi hj e => ?_
  · rw [invT_len] at hi ⊢
    rw [invT_g hi]
    exact h.idx_lt hi
  · rw [invT_len] at hi hj
    rw [invT_g hi, invT_g hj] at e
    rw [← h.g_idx hi, ← h.g_idx hj, e]
theorem IsT.g_inv {l : List Nat} (h : IsT l) {v : Nat} (hv : v < l.length) : gT l (gT (invT l) v) = v := by rw [invT_g hv, h.g_idx hv]
theorem IsT.inv_g {l : List Nat} (h : IsT l) {i : Nat} (hi : i < l.length) : gT (invT l) (gT l i) = i := by rw [invT_g (h.g_lt hi), h.idx_g hi]
theorem IsT.inv_inv {l : List Nat} (h : IsT l) : invT (invT l) = l := by
  refine gT_ext (by rw [invT_len, invT_len]) fun i hi => ?_
  rw [invT_len, invT_len] at hi
  have hi' : i < (invT l).length := by rw [invT_len]; exact hi
  have h1 := h.inv.g_inv hi'
  have h2 := h.inv.inv.g_lt (i := i) (by rw [invT_len, invT_len]; exact hi)
  rw [invT_len, invT_len] at h2
  have h3 := h.g_inv (v := i) hi
  refine h.inv.inj ?_ ?_ ?_
  · rw [invT_len]; exact h2
  · rw [invT_len]; exact h.g_lt hi
  · rw [h1, h.inv_g hi]
/-- two neighbours exchanged -/
def swapAt (e : List Nat) (s : Nat) : List Nat := e.take s ++ [gT e (s + 1), gT e s] ++ e.drop (s + 2)
theorem swapAt_len {e : List Nat} {s : Nat} (h : s + 1 < e.length) : (swapAt e s).length = e.length := by
  unfold swapAt
  rw [List.length_append, List.length_append, List.length_take, List.length_drop]
  simp only [List.length_cons, List.length_nil]
  omega
theorem split_at {e : List Nat} {s : Nat} (h : s + 1 < e.length) : e = e.take s ++ [gT e s, gT e (s + 1)] ++ e.drop (s + 2) := by
  have h1 : e.drop s = gT e s :: e.drop (s + 1) := by rw [gT_at (by omega)]; exact List.drop_eq_getElem_cons (by omega)
  have h2 : e.drop (s + 1) = gT e (s + 1) :: e.drop (s + 2) := by rw [gT_at h]; exact List.drop_eq_getElem_cons h
  have := List.take_append_drop s e
  rw [h1, h2] at this
  rw [List.append_assoc]
  exact this.symm
theorem swapAt_perm {e : List Nat} {s : Nat} (h : s + 1 < e.length) : (swapAt e s).Perm e := by
  conv => rhs; rw [split_at h]
  unfold swapAt
  rw [List.append_assoc, List.append_assoc]
  exact (List.Perm.append_right _ (List.Perm.swap ..)).append_left _
theorem IsT.swap {e : List Nat} {s : Nat} (h : IsT e) (hs : s + 1 < e.length) : IsT (swapAt e s) := h.of_perm (swapAt_perm hs)
/-- words of swaps -/
def OkW (n : Nat) (w : List Nat) : Prop := ∀ s ∈ w, s + 1 < n
theorem OkW.cons {n s : Nat} {w : List Nat} (h : OkW n (s :: w)) : s + 1 < n ∧ OkW n w := ⟨h s List.mem_cons_self, fun t ht => h t (List.mem_cons_of_mem _ ht)⟩
def swapsT (e : List Nat) (w : List Nat) : List Nat := w.foldl swapAt e
def Down : List Nat → List Nat → Prop
  | _, [] => True
  | e, s :: w => s + 1 < e.length ∧ gT e (s + 1) < gT e s ∧ Down (swapAt e s) w
def Up : List Nat → List Nat → Prop
  | _, [] => True
  | e, s :: w => s + 1 < e.length ∧ gT e s < gT e (s + 1) ∧ Up (swapAt e s) w
theorem Down.ok : ∀ {w e : List Nat}, Down e w → OkW e.length w
  | [], _, _, s, hs => by cases hs
  | t :: w, e, ⟨h1, _, h3⟩, s, hs => by
    rcases List.mem_cons.mp hs with q | q
    · rw [q]; exact h1
    · have := h3.ok s q
      rwa [swapAt_len h1] at this
theorem Up.ok : ∀ {w e : List Nat}, Up e w → OkW e.length w
  | [], _, _, s, hs => by cases hs
  | t :: w, e, ⟨h1, _, h3⟩, s, hs => by
    rcases List.mem_cons.mp hs with q | q
    · rw [q]; exact h1
    · have := h3.ok s q
      rwa [swapAt_len h1] at this
theorem Down.app : ∀ {v w e : List Nat}, Down e v → Down (swapsT e v) w → Down e (v ++ w)
  | [], _, _, _, h => h
  | s :: v, w, e, ⟨h1, h2, h3⟩, h => ⟨h1, h2, h3.app h⟩
theorem Up.app : ∀ {v w e : List Nat}, Up e v → Up (swapsT e v) w → Up e (v ++ w)
  | [], _, _, _, h => h
  | s :: v, w, e, ⟨h1, h2, h3⟩, h => ⟨h1, h2, h3.app h⟩
def stepT (e : List Nat) (s : Nat) : List Nat := if gT e s < gT e (s + 1) then swapAt e s else e
theorem IsT.step {e : List Nat} {s : Nat} (h : IsT e) (hs : s + 1 < e.length) : IsT (stepT e s) := by
  unfold stepT
  split
  · exact h.swap hs
  · exact h
/-- how these stand -/
def nV (x : Nat) : V := .int (x : Nat)
def encN (x : Nat) : PyData := .int (x : Nat)
def TurnD (d : PyData) : Prop := ∃ l : List Nat, (d = .list (l.map encN) ∨ d = .tuple (l.map encN)) ∧ IsT l ∧ l.length ≤ 96
theorem encN_inj {a b : List Nat} (h : a.map encN = b.map encN) : a = b := by
  induction a generalizing b with
  | nil => cases b with
    | nil => rfl
    | cons y b => cases h
  | cons x a ih => cases b with
    | nil => cases h
    | cons y b =>
      rw [List.map_cons, List.map_cons] at h
      injection h with h1 h2
      injection h1 with h1
      rw [ih h2, Int.ofNat_inj.mp h1]
/-- lists that stand for functions on the first n places -/
theorem fn_at {f : Nat → V} {n p : Nat} (h : p < n) : atI ((List.range n).map f) (p : Nat) = some (f p) := at_mapN (List.getElem?_range h)
theorem fn_set {f : Nat → V} {n p : Nat} {v : V} : ((List.range n).map f).set p v = (List.range n).map fun e => if e = p then v else f e := by
  refine List.ext_getElem? fun i => ?_
  rw [List.getElem?_set, List.getElem?_map, List.getElem?_map, List.length_map, List.length_range]
  by_cases h : i < n
  · rw [List.getElem?_range h]
    by_cases e : p = i
    · subst e
      rw [if_pos rfl, if_pos h]
      simp
    · rw [if_neg e]
      simp [Ne.symm e]
  · rw [List.getElem?_eq_none (by rw [List.length_range]; omega)]
    by_cases e : p = i
    · subst e
      rw [if_pos rfl, if_neg h]
      rfl
    · rw [if_neg e]
      rfl
theorem fn_ix {f : Nat → V} {n p : Nat} (h : p < n) : ixN ((List.range n).map f).length (p : Nat) = some p := Evl.ixN_nat (by rw [List.length_map, List.length_range]; exact h)
theorem fn_congr {f g : Nat → V} {n : Nat} (h : ∀ e, e < n → f e = g e) : (List.range n).map f = (List.range n).map g := List.map_congr_left fun e he => h e (List.mem_range.mp he)
theorem wiN {H : Hp} {x : V} {d : PyData} (h : Rn H x d) (hi : Int) : withinV x 0 hi = true ↔ ∃ v : Nat, d = encN v ∧ (v : Int) ≤ hi := by
  cases h with
  | int i =>
    simp only [withinV, decide_eq_true_eq]
    constructor
    · intro ⟨h1, h2⟩
      exact ⟨i.toNat, by unfold encN; rw [show ((i.toNat : Nat) : Int) = i by omega], by omega⟩
    · rintro ⟨v, e, h⟩
      unfold encN at e
      injection e with e
      omega
  | _ => exact ⟨fun h => (by cases h), fun ⟨v, e, _⟩ => (by cases e)⟩
theorem TurnD.seq {H : Hp} {x : V} {d : PyData} {l : List Nat} (hx : Rn H x d) (hd : d = .list (l.map encN) ∨ d = .tuple (l.map encN)) : ∃ a, x = .ref a ∧ seqAt H a = some (l.map nV) := by
  have : ∀ (xs : List V) (l : List Nat), RnA H xs (l.map encN) → xs = l.map nV := by
    intro xs l
    induction l generalizing xs with
    | nil => intro h; cases h; rfl
    | cons v l ih =>
      intro h
      cases h with
      | cons h1 h2 =>
        rw [List.map_cons, ← ih _ h2]
        congr 1
        unfold encN at h1
        cases h1
        rfl
  rcases hd with rfl | rfl
  · obtain ⟨a, xs, rfl, h1, h2⟩ := hx.listAt
    exact ⟨a, rfl, by rw [seq_l h1, this _ _ h2]⟩
  · obtain ⟨a, xs, rfl, h1, h2⟩ := hx.tupAt
    exact ⟨a, rfl, by rw [seq_t h1, this _ _ h2]⟩
theorem nV_at {l : List Nat} {i : Nat} {v : V} (h : (l.map nV)[i]? = some v) : i < l.length ∧ v = nV (gT l i) := by
  rw [List.getElem?_map] at h
  cases q : l[i]? with
  | none => rw [q] at h; cases h
  | some x =>
    rw [q] at h
    refine ⟨(List.getElem?_eq_some_iff.mp q).1, ?_⟩
    rw [gT_of q]
    exact (Option.some.inj h).symm
theorem at_nV {l : List Nat} {i : Nat} (h : i < l.length) : atI (l.map nV) (i : Int) = some (nV (gT l i)) := at_mapN (gT_some h)
theorem gT_set {l : List Nat} {j v i : Nat} (hj : j < l.length) : gT (l.set j v) i = if i = j then v else gT l i := by
  unfold gT
  rw [List.getD_eq_getElem?_getD, List.getElem?_set, List.getD_eq_getElem?_getD]
  by_cases h : j = i
  · subst h
    rw [if_pos rfl, if_pos rfl, if_pos hj]
    rfl
  · rw [if_neg h, if_neg (fun e => h e.symm)]
/-- how many lines begin at b or behind it and end ahead of e -/
def cntT (l : List Nat) (b e : Nat) : Nat := (l.drop b).countP (· < e)
/-- the same by the lines that end at each place -/
def cE (E : List Nat) (b : Nat) : Nat → Nat
  | 0 => 0
  | e + 1 => cE E b e + (if b ≤ gT E e then 1 else 0)
theorem cE_succ (E : List Nat) (b e : Nat) : cE E b (e + 1) = cE E b e + (if b ≤ gT E e then 1 else 0) := rfl
theorem countP_lt_succ (e : Nat) : ∀ l : List Nat, l.countP (· < e + 1) = l.countP (· < e) + l.count e
  | [] => rfl
  | x :: l => by
    have ih := countP_lt_succ e l
    rw [List.countP_cons, List.countP_cons, List.count_cons, ih]
    simp only [decide_eq_true_eq, beq_iff_eq]
    by_cases h1 : x < e
    · rw [if_pos h1, if_pos (by omega), if_neg (by omega)]; omega
    · by_cases h2 : x = e
      · rw [if_neg h1, if_pos (by omega), if_pos h2]; omega
      · rw [if_neg h1, if_neg (by omega), if_neg h2]; omega
theorem count_drop {l : List Nat} (hl : IsT l) {b e : Nat} (he : e < l.length) : (l.drop b).count e = if b ≤ l.idxOf e then 1 else 0 := by
  have hi := hl.idx_lt he
  have hg := hl.g_idx he
  by_cases h : b ≤ l.idxOf e
  · rw [if_pos h]
    have hm : e ∈ l.drop b := by
      refine List.mem_drop_iff_getElem.mpr ⟨l.idxOf e - b, by omega, ?_⟩
      have : b + (l.idxOf e - b) = l.idxOf e := by omega
      simp only [this]
      rw [← gT_at hi]
      exact hg
    have h1 := List.count_pos_iff.mpr hm
    have h2 := List.nodup_iff_count.mp (hl.nd.sublist (List.drop_sublist b l)) e
    omega
  · rw [if_neg h, List.count_eq_zero]
    intro hm
    obtain ⟨j, hj, hje⟩ := List.mem_drop_iff_getElem.mp hm
    have h3 := hl.idx_g (i := b + j) (by omega)
    rw [gT_at (by omega), hje] at h3
    omega
theorem cE_cnt {l : List Nat} (hl : IsT l) (b : Nat) : ∀ {e : Nat}, e ≤ l.length → cE (invT l) b e = cntT l b e
  | 0, _ => by
    unfold cntT
    rw [List.countP_eq_zero.mpr fun x _ => by simp]
    rfl
  | e + 1, h => by
    rw [cE_succ, cE_cnt hl b (by omega), invT_g (by omega)]
    unfold cntT
    rw [countP_lt_succ, count_drop hl (by omega)]
/-- the least of so many -/
def IsMin (n : Nat) (f : Nat → Nat) (v : Nat) : Prop := (∃ k, k ≤ n ∧ f k = v) ∧ ∀ k, k ≤ n → v ≤ f k
theorem IsMin.uniq {n : Nat} {f : Nat → Nat} {v w : Nat} (h : IsMin n f v) (k : IsMin n f w) : v = w := by
  obtain ⟨⟨a, ha, rfl⟩, h2⟩ := h
  obtain ⟨⟨b, hb, rfl⟩, k2⟩ := k
  have := h2 b hb
  have := k2 a ha
  omega
theorem IsMin.two {n : Nat} {f g : Nat → Nat} {v w : Nat} (h : IsMin n f v) (k : IsMin n g w) : IsMin n (fun i => min (f i) (g i)) (min v w) := by
  obtain ⟨⟨a, ha, h1⟩, h2⟩ := h
  obtain ⟨⟨b, hb, k1⟩, k2⟩ := k
  refine ⟨?_, fun i hi => by have := h2 i hi; have := k2 i hi; show min v w ≤ min (f i) (g i); omega⟩
  by_cases q : v ≤ w
  · exact ⟨a, ha, by have := k2 a ha; show min (f a) (g a) = min v w; omega⟩
  · exact ⟨b, hb, by have := h2 b hb; show min (f b) (g b) = min v w; omega⟩
theorem rnL {H : Hp} {p : Addr} {xs : List Nat} (h : H p = some (.lst (xs.map nV))) : Rn H (.ref p) (.list (xs.map encN)) := .lst h (rnA_map fun _ _ => .int _)
/-- lines that are led over a board by a rule: the number that goes right, ahead of a column -/
def ledX (r : Nat → Nat → Nat → Nat → Bool) (D : Nat → Nat) (i x0 : Nat) : Nat → Nat
  | 0 => x0
  | j + 1 => if r i j (ledX r D i x0 j) (D j) = true then ledX r D i x0 j else D j
/-- the numbers that go down, ahead of a row -/
def ledD (r : Nat → Nat → Nat → Nat → Bool) (m : Nat) : Nat → Nat → Nat
  | 0, j => m + j
  | i + 1, j => if r i j (ledX r (ledD r m i) i (m - 1 - i) j) (ledD r m i j) = true then ledD r m i j else ledX r (ledD r m i) i (m - 1 - i) j
def ledA (r : Nat → Nat → Nat → Nat → Bool) (m i j : Nat) : Nat := ledX r (ledD r m i) i (m - 1 - i) j
def ledS (r : Nat → Nat → Nat → Nat → Bool) (m i j : Nat) : Bool := r i j (ledA r m i j) (ledD r m i j)
theorem ledA_0 (r : Nat → Nat → Nat → Nat → Bool) (m i : Nat) : ledA r m i 0 = m - 1 - i := rfl
theorem ledA_s (r : Nat → Nat → Nat → Nat → Bool) (m i j : Nat) : ledA r m i (j + 1) = if ledS r m i j = true then ledA r m i j else ledD r m i j := rfl
theorem ledD_0 (r : Nat → Nat → Nat → Nat → Bool) (m j : Nat) : ledD r m 0 j = m + j := rfl
theorem ledD_s (r : Nat → Nat → Nat → Nat → Bool) (m i j : Nat) : ledD r m (i + 1) j = if ledS r m i j = true then ledD r m i j else ledA r m i j := rfl
/-- which line comes to each end -/
def ledE (r : Nat → Nat → Nat → Nat → Bool) (m n : Nat) : List Nat := (List.range n).map (ledD r m m) ++ ((List.range m).map fun i => ledA r m i n).reverse
theorem ledE_len (r : Nat → Nat → Nat → Nat → Bool) (m n : Nat) : (ledE r m n).length = m + n := by simp [ledE]; omega
theorem led_row (r : Nat → Nat → Nat → Nat → Bool) (m i : Nat) : ∀ j : Nat, ((List.range j).map (ledD r m (i + 1)) ++ [ledA r m i j]).Perm ((m - 1 - i) :: (List.range j).map (ledD r m i))
  | 0 => .refl _
  | j + 1 => by
    have ih := led_row r m i j
    rw [List.range_succ, List.map_append, List.map_append, List.append_assoc, ledA_s]
    show ((List.range j).map (ledD r m (i + 1)) ++ ([ledD r m (i + 1) j] ++ [if ledS r m i j = true then ledA r m i j else ledD r m i j])).Perm ((m - 1 - i) :: ((List.range j).map (ledD r m i) ++ [ledD r m i j]))
    have sw : ([ledD r m (i + 1) j] ++ [if ledS r m i j = true then ledA r m i j else ledD r m i j]).Perm ([ledA r m i j] ++ [ledD r m i j]) := by
      rw [ledD_s]
      by_cases h : ledS r m i j = true
      · rw [if_pos h, if_pos h]
        exact List.perm_append_comm
      · rw [if_neg h, if_neg h]
    refine (sw.append_left _).trans ?_
    rw [← List.append_assoc, ← List.cons_append]
    exact ih.append_right _
theorem led_perm (r : Nat → Nat → Nat → Nat → Bool) (m n : Nat) : ∀ i : Nat, i ≤ m → ((List.range n).map (ledD r m i) ++ ((List.range i).map fun i => ledA r m i n) ++ List.range (m - i)).Perm (List.range (m + n))
  | 0, _ => by
    rw [List.range_zero, List.map_nil, List.append_nil, Nat.sub_zero, List.range_add]
    exact List.perm_append_comm
  | i + 1, hi => by
    refine List.Perm.trans ?_ (led_perm r m n i (by omega))
    have h1 := led_row r m i n
    rw [List.range_succ, List.map_append]
    have h2 : List.range (m - i) = List.range (m - (i + 1)) ++ [m - 1 - i] := by
      rw [show m - i = (m - (i + 1)) + 1 by omega, List.range_succ, show m - (i + 1) = m - 1 - i by omega]
    rw [h2]
    have e1 : ((List.range n).map (ledD r m (i + 1)) ++ ((List.range i).map (fun i => ledA r m i n) ++ [ledA r m i n]) ++ List.range (m - (i + 1))).Perm (((List.range n).map (ledD r m (i + 1)) ++ [ledA r m i n]) ++ ((List.range i).map (fun i => ledA r m i n) ++ List.range (m - (i + 1)))) := by
      rw [List.append_assoc, List.append_assoc, List.append_assoc]
      refine List.Perm.append_left _ ?_
      rw [← List.append_assoc, ← List.append_assoc]
      exact List.Perm.append_right _ List.perm_append_comm
    have e2 : ((List.range n).map (ledD r m i) ++ (List.range i).map (fun i => ledA r m i n) ++ (List.range (m - (i + 1)) ++ [m - 1 - i])).Perm (((m - 1 - i) :: (List.range n).map (ledD r m i)) ++ ((List.range i).map (fun i => ledA r m i n) ++ List.range (m - (i + 1)))) := by
      rw [← List.append_assoc, List.cons_append, List.append_assoc ((List.range n).map _)]
      exact List.perm_append_singleton _ _
    exact e1.trans ((h1.append_right _).trans e2.symm)
theorem ledE_T (r : Nat → Nat → Nat → Nat → Bool) (m n : Nat) : IsT (ledE r m n) := by
  have h := led_perm r m n m (Nat.le_refl _)
  rw [Nat.sub_self, List.range_zero, List.append_nil] at h
  refine IsT.of_perm_range (n := m + n) (List.Perm.trans ?_ h)
  unfold ledE
  exact List.Perm.append_left _ (List.reverse_perm _)
theorem ledE_lt {r : Nat → Nat → Nat → Nat → Bool} {m n i j : Nat} (hi : i ≤ m) (hj : j < n) : ledD r m i j < m + n := by
  have h := led_perm r m n i hi
  exact List.mem_range.mp (h.mem_iff.mp (List.mem_append_left _ (List.mem_append_left _ (List.mem_map.mpr ⟨j, List.mem_range.mpr hj, rfl⟩))))
/-- the signs of a row of cells -/
def sgT (r : Nat → Nat → Nat → Nat → Bool) (m n i : Nat) : Str := tx ((List.range n).map fun j => if ledS r m i j = true then 120 else 111)
structure LedAt (H : Hp) (me sg go : Addr) (r : Nat → Nat → Nat → Nat → Bool) (m n : Nat) : Prop where
  go : H go = some (.lst ((invT (ledE r m n)).map nV))
  sg : H sg = some (.lst ((List.range m).map fun i => V.str (sgT r m n i)))
  me : ∃ rs : List Addr, H me = some (.lst (rs.map V.ref)) ∧ rs.length = m ∧ ∀ i row, rs[i]? = some row → ∃ zs : List ZP, H row = some (.lst (zs.map zV)) ∧ TP H zs ∧ zs.map (·.2) = (List.range n).map fun j => (ledA r m i j, ledD r m i j)
theorem LedAt.ex {H H' : Hp} {me sg go : Addr} {r : Nat → Nat → Nat → Nat → Bool} {m n : Nat} (h : LedAt H me sg go r m n) (e : Ex H H') : LedAt H' me sg go r m n := by
  obtain ⟨rs, h1, h2, h3⟩ := h.me
  refine ⟨e.get h.go, e.get h.sg, rs, e.get h1, h2, fun i row hr => ?_⟩
  obtain ⟨zs, a, b, c⟩ := h3 i row hr
  exact ⟨zs, e.get a, b.ex e, c⟩
/-- what is told of the lambda that decides -/
def RuleOk (tl : List V → Hp → VK → Prop) (H : Hp) (r : Nat → Nat → Nat → Nat → Bool) (m n : Nat) : Prop := ∀ (i j a b : Nat) (H' : Hp) (Q : VK), i < m → j < n → a < m + n → b < m + n → Ex H H' → Q (.bl (r i j a b)) H' → tl [.int (i : Nat), .int (j : Nat), .int (a : Nat), .int (b : Nat)] H' Q
theorem ledA_lt {r : Nat → Nat → Nat → Nat → Bool} {m n i j : Nat} (hi : i < m) (hj : j ≤ n) : ledA r m i j < m + n := by
  have h := led_row r m i j
  have h1 : ledA r m i j ∈ (m - 1 - i) :: (List.range j).map (ledD r m i) := h.mem_iff.mp (List.mem_append_right _ (List.mem_singleton.mpr rfl))
  rcases List.mem_cons.mp h1 with e | e
  · omega
  · obtain ⟨c, hc, e⟩ := List.mem_map.mp e
    have := List.mem_range.mp hc
    have := ledE_lt (r := r) (m := m) (n := n) (i := i) (j := c) (by omega) (by omega)
    omega
/-- the rows of meetings, as far as they are led -/
def MeOk (H : Hp) (r : Nat → Nat → Nat → Nat → Bool) (m n i : Nat) (rs : List Addr) : Prop := rs.length = i ∧ ∀ k row, rs[k]? = some row → ∃ zs : List ZP, H row = some (.lst (zs.map zV)) ∧ TP H zs ∧ zs.map (·.2) = (List.range n).map fun j => (ledA r m k j, ledD r m k j)
theorem MeOk.fr {M : Addr → Prop} {H H' : Hp} {r : Nat → Nat → Nat → Nat → Bool} {m n i : Nat} {rs : List Addr} (h : MeOk H r m n i rs) (e : Fr M H H') (h1 : ∀ row ∈ rs, ¬ M row) (h2 : ∀ b q, H b = some (tupO q) → ¬ M b) : MeOk H' r m n i rs := ⟨h.1, fun k row hk => by
  obtain ⟨zs, a, b, c⟩ := h.2 k row hk
  exact ⟨zs, e.get (h1 _ (List.mem_of_getElem? hk)) a, fun z hz => e.get (h2 _ _ (b z hz)) (b z hz), c⟩⟩
theorem MeOk.snoc {H : Hp} {r : Nat → Nat → Nat → Nat → Bool} {m n i : Nat} {rs : List Addr} {row : Addr} {zs : List ZP} (h : MeOk H r m n i rs) (a : H row = some (.lst (zs.map zV))) (b : TP H zs) (c : zs.map (·.2) = (List.range n).map fun j => (ledA r m i j, ledD r m i j)) : MeOk H r m n (i + 1) (rs ++ [row]) := ⟨by rw [List.length_append, h.1]; rfl, fun k q hk => by
  by_cases hk1 : k < rs.length
  · rw [List.getElem?_append_left hk1] at hk
    exact h.2 k q hk
  · rw [List.getElem?_append_right (by omega)] at hk
    have : k = rs.length := by
      have := (List.getElem?_eq_some_iff.mp hk).1
      simp at this
      omega
    subst this
    rw [Nat.sub_self] at hk
    cases hk
    rw [h.1]
    exact ⟨zs, a, b, c⟩⟩
theorem tup_nlst {H : Hp} {a b : Addr} {q : Nat × Nat} {xs : List V} (h : H a = some (tupO q)) (k : H b = some (.lst xs)) : a ≠ b := fun e => by
  rw [e, k] at h
  cases h
theorem rgL_nVm (m n : Nat) : (rgL (m : Int) 1 n).map V.int = (List.range n).map fun j => nV (m + j) := by
  unfold rgL
  rw [List.map_map]
  refine List.map_congr_left fun j _ => ?_
  show V.int ((m : Int) + (j : Int) * 1) = V.int ((m + j : Nat) : Int)
  congr 1
  omega
theorem rep0 (n : Nat) : (List.replicate n [V.int 0]).flatten = (List.replicate n 0).map nV := by
  induction n with
  | zero => rfl
  | succ n ih => rw [List.replicate_succ, List.flatten_cons, ih, List.replicate_succ]; rfl
def sp_led (fl : Addr) (G : LF) (tl : List V → Hp → VK → Prop) : Sp := fun vs H Q _ => ∃ (m n : Nat), vs = [.int (m : Nat), .int (n : Nat), .ref fl] ∧ H fl = some (LamO fl G) ∧ H G.c = some (CodeO G.c G.qual) ∧ m ≤ 48 ∧ n ≤ 48 ∧ ∃ r, RuleOk tl H r m n ∧ ∀ t me sg go H', Ex H H' → H t = none → H' t = some (.tup [.ref me, .ref sg, .ref go]) → LedAt H' me sg go r m n → Q (.ref t) H'
theorem ok_led (T : Tx K mg ad fd tk base tc) : FnCb P w K mg base  2 1 (ad 9) (fd 9) ["many", "far", "crosses"] sp_led := by
  refine okCb T.d_led.F sc_led (by decide) (fun fl G tl vs H Q E h => ?_) (fun cdv A outer s H vs Q E fl G tl hr hcb h => ?_)
  · obtain ⟨m, n, rfl, _⟩ := h
    rfl
  · obtain ⟨m, n, rfl, hl, hc, hm, hn, r, hr2, k⟩ := h
    refine ⟨_, (pss_cons (ps_set (i := 3) sc_led.nd rfl (Or.inl rfl) (pe_listRgC rfl (by rfl) T.b_list (prgC (by rfl) T.b_range (pa_cons (pv 0) (pa_cons (pe_op o_add (pv 0) (pv 1)) pa_nil)))))
      (pss_cons (ps_set (i := 4) sc_led.nd rfl (Or.inl rfl) (pe_lst pa_nil))
      (pss_cons (ps_set (i := 5) sc_led.nd rfl (Or.inl rfl) (pe_lst pa_nil))
      (pss_cons (ps_set (i := 6) sc_led.nd rfl (Or.inl rfl) (pe_lst pa_nil))
      (pss_cons (ps_for PassesOwn.never rfl (pi_range1 rfl T.b_range (pa_cons (pv 0) pa_nil)) (pg_name (i := 7) sc_led.nd rfl (Or.inl rfl)) (pss_cons (ps_set (i := 8) sc_led.nd rfl (Or.inl rfl) (pe_op o_sub (pe_op o_sub (pv 0) pe_int) (pv 7)))
      (pss_cons (ps_set (i := 9) sc_led.nd rfl (Or.inl rfl) (pe_lst pa_nil))
      (pss_cons (ps_set (i := 10) sc_led.nd rfl (Or.inl rfl) pe_str)
      (pss_cons (ps_for PassesOwn.never rfl (pi_range1 rfl T.b_range (pa_cons (pv 1) pa_nil)) (pg_name (i := 11) sc_led.nd rfl (Or.inl rfl)) (pss_cons (ps_set (i := 12) sc_led.nd rfl (Or.inl rfl) (pe_ix (i_ix (K := K)) (pv 3) (pv 11) (fun _ _ => rfl)))
      (pss_cons (ps_expr (pe_bm PySem.F.plainAttrs_list PySem.F.slot_list_append PySem.F.type_list_append mt_append (pv 9) (pa_cons (pe_tup (pa_cons (pv 8) (pa_cons (pv 12) pa_nil))) pa_nil)))
      (pss_one (ps_if (pt_val (@hcb 2 _ _ _ _ _ _ rfl (Or.inl rfl) (pa_cons (pv 7) (pa_cons (pv 11) (pa_cons (pv 8) (pa_cons (pv 12) pa_nil)))) (by decide) (by decide) rfl rfl)) (pss_one (ps_aug (i := 10) sc_led.nd rfl (Or.inl rfl) pe_str ip_addS)) (pss_cons (ps_aug (i := 10) sc_led.nd rfl (Or.inl rfl) pe_str ip_addS)
      (pss_cons (ps_asg (pv 8) (pg_sub (pv 3) (pv 11) set_list))
      (pss_one (ps_set (i := 8) sc_led.nd rfl (Or.inl rfl) (pv 12))))))))))
      (pss_cons (ps_expr (pe_bm PySem.F.plainAttrs_list PySem.F.slot_list_append PySem.F.type_list_append mt_append (pv 5) (pa_cons (pv 9) pa_nil)))
      (pss_cons (ps_expr (pe_bm PySem.F.plainAttrs_list PySem.F.slot_list_append PySem.F.type_list_append mt_append (pv 6) (pa_cons (pv 10) pa_nil)))
      (pss_one (ps_expr (pe_bm PySem.F.plainAttrs_list PySem.F.slot_list_append PySem.F.type_list_append mt_append (pv 4) (pa_cons (pv 8) pa_nil)))))))))))
      (pss_cons (ps_set (i := 13) sc_led.nd rfl (Or.inl rfl) (pe_op o_mul (pe_lst (pa_cons pe_int pa_nil)) (pe_op o_add (pv 0) (pv 1))))
      (pss_cons (ps_for PassesOwn.never rfl (pi_enum rfl T.b_enumerate (pa_cons (pe_op o_add (pv 3) (pe_slice3 (pv 4) po_none po_none (pe_un un_neg pe_int) (K := K))) pa_nil)) (pg_tup rfl (pgs_cons (pg_name (i := 14) sc_led.nd rfl (Or.inl rfl)) (pgs_cons (pg_name (i := 15) sc_led.nd rfl (Or.inl rfl)) pgs_nil))) (pss_one (ps_asg (pv 14) (pg_sub (pv 13) (pv 15) set_list))))
      (pss_one (ps_ret (pe_tup (pa_cons (pv 5) (pa_cons (pv 6) (pa_cons (pv 13) pa_nil))))))))))))), ?_⟩
    walk_at "go"
    rename_i d G1 n1 e1 v1 ri G2 n2 e2 v2 me G3 n3 e3 v3 sg G4 n4 e4 v4
    rw [show ((m : Int) + (n : Int) - (m : Int)).toNat = n by omega, rgL_nVm] at v1
    have n02 := Ex.free e1 n2
    have n03 := Ex.free (e1.trans e2) n3
    have n04 := Ex.free ((e1.trans e2).trans e3) n4
    have d1 := (e2.trans (e3.trans e4)).get v1
    have d2 := (e3.trans e4).get v2
    have d3 := e4.get v3
    have e04 := (e1.trans e2).trans (e3.trans e4)
    have q12 : d ≠ ri := ne_of_none v1 n2
    have q13 : d ≠ me := ne_of_none (e2.get v1) n3
    have q14 : d ≠ sg := ne_of_none ((e2.trans e3).get v1) n4
    have q23 : ri ≠ me := ne_of_none v2 n3
    have q24 : ri ≠ sg := ne_of_none (e3.get v2) n4
    have q34 : me ≠ sg := ne_of_none v3 n4
    have q21 := q12.symm
    have q31 := q13.symm
    have q41 := q14.symm
    have q32 := q23.symm
    have q42 := q24.symm
    have q43 := q34.symm
    clear e1 e2 e3 e4 v1 v2 v3
    rw [Int.toNat_natCast]
    refine for_runs (runs_range 0 m) (fun i σ H' => Ex H H' ∧ H' d = some (.lst ((List.range n).map fun j => nV (ledD r m i j))) ∧ H' ri = some (.lst ((List.range i).map fun i => nV (ledA r m i n))) ∧ H' sg = some (.lst ((List.range i).map fun i => V.str (sgT r m n i))) ∧ (∃ rs : List Addr, H' me = some (.lst (rs.map V.ref)) ∧ MeOk H' r m n i rs ∧ ∀ row ∈ rs, row ≠ d ∧ row ≠ ri ∧ row ≠ me ∧ row ≠ sg) ∧ ∃ a7 a8 a9 a10 a11 a12 a13 a14 a15, σ = [some (.int (m : Nat)), some (.int (n : Nat)), some (.ref fl), some (.ref d), some (.ref ri), some (.ref me), some (.ref sg), a7, a8, a9, a10, a11, a12, a13, a14, a15]) ⟨e04, d1, d2, v4, ⟨[], d3, ⟨rfl, fun k row h => by cases h⟩, fun _ h => by cases h⟩, _, _, _, _, _, _, _, _, _, rfl⟩ (fun _ _ _ _ _ => trivial) ?_ ?_
    · rintro i x σ H5 H5' hi ⟨e5, b1, b2, b3, ⟨rs, b4, b5, b6⟩, a7, a8, a9, a10, a11, a12, a13, a14, a15, rfl⟩ ⟨rfl, rfl⟩
      walk_at "go"
      rename_i mt H6 n6 e6 v6
      have c1 := e6.get b1
      have c2 := e6.get b2
      have c3 := e6.get b3
      have c4 := e6.get b4
      have c5 : MeOk H6 r m n i rs := b5.fr (Fr.ex (M := fun _ => False) e6) (fun _ _ z => z) (fun _ _ _ z => z)
      have e06 := e5.trans e6
      have nm := Ex.free e5 n6
      have m1 : mt ≠ d := (ne_of_none b1 n6).symm
      have m2 : mt ≠ ri := (ne_of_none b2 n6).symm
      have m3 : mt ≠ me := (ne_of_none b4 n6).symm
      have m4 : mt ≠ sg := (ne_of_none b3 n6).symm
      have w1 := m1.symm
      have w2 := m2.symm
      have w3 := m3.symm
      have w4 := m4.symm
      have rm : ∀ row ∈ rs, row ≠ mt := fun row hr z => by
        obtain ⟨k, hk⟩ := List.getElem?_of_mem hr
        obtain ⟨zs, q, _⟩ := b5.2 k row hk
        exact ne_of_none q n6 z
      clear b1 b2 b3 b4 b5 e5 e6
      have ea : (m : Int) - 1 - (0 + (i : Int)) = ((ledA r m i 0 : Nat) : Int) := by rw [ledA_0]; omega
      rw [Int.toNat_natCast, ea, Int.zero_add, show (Str.ofString "") = tx [] from tx_nil]
      have c1' : H6 d = some (.lst ((List.range n).map fun c => nV (if c < 0 then ledD r m (i + 1) c else ledD r m i c))) := c1
      refine for_runs (runs_range 0 n) (fun j σ H' => Ex H H' ∧ H' d = some (.lst ((List.range n).map fun c => nV (if c < j then ledD r m (i + 1) c else ledD r m i c))) ∧ H' ri = some (.lst ((List.range i).map fun i => nV (ledA r m i n))) ∧ H' sg = some (.lst ((List.range i).map fun i => V.str (sgT r m n i))) ∧ H' me = some (.lst (rs.map V.ref)) ∧ MeOk H' r m n i rs ∧ (∃ zs : List ZP, H' mt = some (.lst (zs.map zV)) ∧ TP H' zs ∧ zs.map (·.2) = (List.range j).map fun j => (ledA r m i j, ledD r m i j)) ∧ ∃ a11 a12 a13 a14 a15, σ = [some (.int (m : Nat)), some (.int (n : Nat)), some (.ref fl), some (.ref d), some (.ref ri), some (.ref me), some (.ref sg), some (.int (i : Nat)), some (.int (ledA r m i j : Nat)), some (.ref mt), some (.str (tx ((List.range j).map fun j => if ledS r m i j = true then 120 else 111))), a11, a12, a13, a14, a15]) ⟨e06, c1', c2, c3, c4, c5, ⟨[], v6, (fun _ h => (by cases h)), rfl⟩, _, _, _, _, _, rfl⟩ (fun _ _ _ _ _ => trivial) ?_ ?_
      · rintro j x σ G G' hj ⟨e7, c1, c2, c3, c4, c5, ⟨zs, y1, y2, y3⟩, a11, a12, a13, a14, a15, rfl⟩ ⟨rfl, rfl⟩
        have g1 : atI ((List.range n).map fun c => nV (if c < j then ledD r m (i + 1) c else ledD r m i c)) (0 + (j : Int)) = some (nV (ledD r m i j)) := by
          rw [Int.zero_add, fn_at (f := fun c => nV (if c < j then ledD r m (i + 1) c else ledD r m i c)) hj, if_neg (Nat.lt_irrefl _)]
        walk_at "go"
        refine st_ixL c1 g1 ?_
        walk_at "go"
        rename_i T H7 n7 e8 v7
        have lz : zs.length = j := by have := congrArg List.length y3; simpa using this
        have k1 : (upd H7 mt (.lst (zs.map zV ++ [V.ref T]))) d = _ := (upd_ne w1).trans (e8.get c1)
        have k2 : (upd H7 mt (.lst (zs.map zV ++ [V.ref T]))) ri = _ := (upd_ne w2).trans (e8.get c2)
        have k3 : (upd H7 mt (.lst (zs.map zV ++ [V.ref T]))) sg = _ := (upd_ne w4).trans (e8.get c3)
        have k4 : (upd H7 mt (.lst (zs.map zV ++ [V.ref T]))) me = _ := (upd_ne w3).trans (e8.get c4)
        have y1' := e8.get y1
        have c5' : MeOk H7 r m n i rs := c5.fr (Fr.ex (M := fun _ => False) e8) (fun _ _ z => z) (fun _ _ _ z => z)
        have tp : TP H7 (zs ++ [(T, (ledA r m i j, ledD r m i j))]) := (y2.ex e8).app (TP.cons (z := (T, (ledA r m i j, ledD r m i j))) v7 fun _ h => (by cases h))
        refine st_app y1' (by rw [List.length_map, lz]; omega) ?_
        have k5 : MeOk (upd H7 mt (.lst (zs.map zV ++ [V.ref T]))) r m n i rs := c5'.fr (M := fun b => b = mt) FrP.at rm fun b q h => tup_nlst h y1'
        have tp2 : TP (upd H7 mt (.lst (zs.map zV ++ [V.ref T]))) _ := tp.up y1'
        have k6 : upd H7 mt (.lst (zs.map zV ++ [V.ref T])) mt = some (.lst ((zs ++ [(T, (ledA r m i j, ledD r m i j))]).map zV)) := by rw [upd_same, List.map_append]; rfl
        have k7 : Ex H (upd H7 mt (.lst (zs.map zV ++ [V.ref T]))) := (e7.trans e8).mut nm
        have k8 : (zs ++ [(T, (ledA r m i j, ledD r m i j))]).map (·.2) = (List.range (j + 1)).map fun j => (ledA r m i j, ledD r m i j) := by rw [List.map_append, y3, List.range_succ, List.map_append]; rfl
        generalize upd H7 mt (.lst (zs.map zV ++ [V.ref T])) = H8 at k1 k2 k3 k4 k5 k6 k7 tp2 ⊢
        clear c1 c2 c3 c4 c5 c5' y1 y1' y2 e7 e8 v7 tp e06 g1
        rw [Int.zero_add]
        walk_at "go"
        refine hr2 i j _ _ H8 _ hi hj (ledA_lt hi (by omega)) (ledE_lt (by omega) hj) k7 ?_
        rw [show r i j (ledA r m i j) (ledD r m i j) = ledS r m i j from rfl]
        have ew : (List.range n).map (fun c => nV (if c < j + 1 then ledD r m (i + 1) c else ledD r m i c)) = ((List.range n).map fun c => nV (if c < j then ledD r m (i + 1) c else ledD r m i c)).set j (nV (ledD r m (i + 1) j)) := by
          rw [fn_set]
          refine fn_congr fun c hc => ?_
          by_cases z : c = j
          · subst z
            rw [if_pos rfl, if_pos (by omega)]
          · rw [if_neg z]
            by_cases u : c < j
            · rw [if_pos u, if_pos (by omega)]
            · rw [if_neg u, if_neg (by omega)]
        have et : ∀ z : Nat, z = (if ledS r m i j = true then 120 else 111) → tx ((List.range j).map fun j => if ledS r m i j = true then 120 else 111) ++ tx [z] = tx ((List.range (j + 1)).map fun j => if ledS r m i j = true then 120 else 111) := fun z hz => by
          rw [tx_append, List.range_succ, List.map_append, hz]
          rfl
        cases hh : ledS r m i j with
        | true =>
          refine ⟨true, rfl, ?_⟩
          rw [if_pos rfl]
          walk_at "go"
          refine st_ipS (by rw [tx_length, List.length_map, List.length_range]; show j + 1 ≤ 16777216; omega) ?_
          have ea2 : ledA r m i (j + 1) = ledA r m i j := by rw [ledA_s, if_pos hh]
          rw [show Str.ofString "x" = tx [120] from by decide +kernel, et 120 (by rw [if_pos hh]), ea2]
          refine ⟨k7, ?_, k2, k3, k4, k5, ⟨_, k6, tp2, k8⟩, _, _, _, _, _, rfl⟩
          · rw [ew, k1, ledD_s, if_pos hh]
            congr 1
            rw [fn_set]
            exact congrArg HO.lst (fn_congr fun c hc => (by
              by_cases z : c = j
              · rw [if_pos z, if_neg (by omega), z]
              · rw [if_neg z]))
        | false =>
          have hx : ixN ((List.range n).map fun c => nV (if c < j then ledD r m (i + 1) c else ledD r m i c)).length (j : Nat) = some j := fn_ix hj
          refine ⟨false, rfl, ?_⟩
          rw [if_neg (by decide)]
          walk_at "go"
          refine st_ipS (by rw [tx_length, List.length_map, List.length_range]; show j + 1 ≤ 16777216; omega) ?_
          walk_at "go"
          refine st_setL k1 hx ?_
          walk_at "go"
          have ea2 : ledA r m i (j + 1) = ledD r m i j := by rw [ledA_s, if_neg (by rw [hh]; decide)]
          rw [show Str.ofString "o" = tx [111] from by decide +kernel, et 111 (by rw [if_neg (by rw [hh]; decide)]), ea2]
          have tf : ∀ b q, H8 b = some (tupO q) → ¬ b = d := fun b q h => tup_nlst h k1
          have fp : ∀ o, FrP d H8 (upd H8 d o) := fun _ => FrP.at
          refine ⟨k7.mut n1, ?_, (upd_ne q21).trans k2, (upd_ne q41).trans k3, (upd_ne q31).trans k4, k5.fr (fp _) (fun row hr => (b6 row hr).1) tf, ⟨_, (upd_ne m1).trans k6, fun z hz => (fp _).get (tf _ _ (tp2 z hz)) (tp2 z hz), k8⟩, _, _, _, _, _, rfl⟩
          · rw [upd_same, ew, ledD_s, if_neg (by rw [hh]; decide)]
            rfl
      · rintro σ G ⟨e7, c1, c2, c3, c4, c5, ⟨zs, y1, y2, y3⟩, a11, a12, a13, a14, a15, rfl⟩
        have c1'' : G d = some (.lst ((List.range n).map fun c => nV (ledD r m (i + 1) c))) := by
          rw [c1]
          congr 2
          exact fn_congr fun c hc => by rw [if_pos hc]
        clear c1 c1'
        walk_at "go"
        refine st_app c4 (by rw [List.length_map, c5.1]; omega) ?_
        have x3 : (upd G me (.lst (rs.map V.ref ++ [V.ref mt]))) sg = _ := (upd_ne q43).trans c3
        walk_at "go"
        refine st_app x3 (by rw [List.length_map, List.length_range]; omega) ?_
        have x2 : (upd (upd G me (.lst (rs.map V.ref ++ [V.ref mt]))) sg (.lst (((List.range i).map fun i => V.str (sgT r m n i)) ++ [V.str (tx ((List.range n).map fun j => if ledS r m i j = true then 120 else 111))]))) ri = _ := (upd_ne q24).trans ((upd_ne q23).trans c2)
        walk_at "go"
        refine st_app x2 (by rw [List.length_map, List.length_range]; omega) ?_
        have fr : Fr (fun b => b = me ∨ b = sg ∨ b = ri) G (upd (upd (upd G me (.lst (rs.map V.ref ++ [V.ref mt]))) sg (.lst (((List.range i).map fun i => V.str (sgT r m n i)) ++ [V.str (tx ((List.range n).map fun j => if ledS r m i j = true then 120 else 111))]))) ri (.lst (((List.range i).map fun i => nV (ledA r m i n)) ++ [V.int (ledA r m i n : Nat)]))) := ((Fr.at (.inl rfl)).trans (Fr.at (.inr (.inl rfl)))).trans (Fr.at (.inr (.inr rfl)))
        have nl : ∀ b q, G b = some (tupO q) → ¬ (b = me ∨ b = sg ∨ b = ri) := fun b q h z => by
          rcases z with z | z | z
          · exact tup_nlst h c4 z
          · exact tup_nlst h c3 z
          · exact tup_nlst h c2 z
        have nr : ∀ row ∈ rs, ¬ (row = me ∨ row = sg ∨ row = ri) := fun row hr z => by
          obtain ⟨h1, h2, h3, h4⟩ := b6 row hr
          rcases z with z | z | z
          · exact h3 z
          · exact h4 z
          · exact h2 z
        have nm' : ¬ (mt = me ∨ mt = sg ∨ mt = ri) := fun z => by
          rcases z with z | z | z
          · exact m3 z
          · exact m4 z
          · exact m2 z
        refine ⟨((e7.mut n03).mut n04).mut n02, (upd_ne q12).trans ((upd_ne q14).trans ((upd_ne q13).trans c1'')), ?_, ?_, ⟨rs ++ [mt], ?_, (c5.fr fr nr nl).snoc (fr.get nm' y1) (fun z hz => fr.get (nl _ _ (y2 z hz)) (y2 z hz)) y3, ?_⟩, _, _, _, _, _, _, _, _, _, rfl⟩
        · rw [upd_same, List.range_succ, List.map_append]; rfl
        · rw [upd_ne q42, upd_same, List.range_succ, List.map_append]; rfl
        · rw [upd_ne q32, upd_ne q34, upd_same, List.map_append]; rfl
        · intro row hr
          rcases List.mem_append.mp hr with z | z
          · exact b6 row z
          · rw [List.mem_singleton.mp z]
            exact ⟨m1, m2, m3, m4⟩
    · rintro σ G ⟨e7, b1, b2, b3, ⟨rs, b4, b5, b6⟩, a7, a8, a9, a10, a11, a12, a13, a14, a15, rfl⟩
      walk_at "go"
      rename_i p1 G5 n5 e5 v5 go G6 n6 e6 v6
      rw [show ((m : Int) + (n : Int)).toNat = m + n by omega, rep0] at v6
      have e56 := e5.trans e6
      refine st_revL (lstAt_sq (lst_of (e56.get b2))) fun q7 G7 n7 e7' v7 => ?_
      refine st_addL ((e56.trans e7').get b1) v7 (by rw [List.length_reverse, List.length_map, List.length_range, List.length_map, List.length_range]; omega) fun q8 G8 n8 e8 v8 => ?_
      have v8' : G8 q8 = some (.lst ((ledE r m n).map nV)) := by
        rw [v8]
        unfold ledE
        rw [List.map_append, List.map_map, List.map_reverse, List.map_map]
        rfl
      walk_at "go"
      have e0 : Ex H G8 := ((e7.trans e56).trans e7').trans e8
      have v6' := (e7'.trans e8).get v6
      have n0 : H go = none := Ex.free (e7.trans e5) n6
      have hq : q8 ≠ go := (ne_of_none (e7'.get v6) n8).symm
      have le := ledE_len r m n
      have hT := ledE_T r m n
      have B1 : G8 sg = _ := ((e56.trans e7').trans e8).get b3
      have B2 : G8 me = _ := ((e56.trans e7').trans e8).get b4
      have B3 : MeOk G8 r m n m rs := b5.fr (Fr.ex (M := fun _ => False) ((e56.trans e7').trans e8)) (fun _ _ z => z) (fun _ _ _ z => z)
      have B4 : go ≠ sg := (ne_of_none (e5.get b3) n6).symm
      have B5 : go ≠ me := (ne_of_none (e5.get b4) n6).symm
      have B6 : ∀ row ∈ rs, row ≠ go := fun row hr => (by
        obtain ⟨k, hk⟩ := List.getElem?_of_mem hr
        obtain ⟨zs, q, _⟩ := b5.2 k row hk
        exact ne_of_none (e5.get q) n6)
      clear e56 e7 e7' e8 e5 e6 b1 b2 b3 b4 b5 v5 v6 v7 v8
      refine for_runs (runs_enum _ q8 _) (fun i σ H' => FrP go G8 H' ∧ (∃ rs : List Nat, rs.length = m + n ∧ (∀ j, j < i → gT rs (gT (ledE r m n) j) = j) ∧ H' go = some (.lst (rs.map nV))) ∧ ∃ y z, σ = [some (.int (m : Nat)), some (.int (n : Nat)), some (.ref fl), some (.ref d), some (.ref ri), some (.ref me), some (.ref sg), a7, a8, a9, a10, a11, a12, some (.ref go), y, z]) ⟨Fr.refl _, ⟨_, List.length_replicate, fun j h => absurd h (Nat.not_lt_zero _), v6'⟩, _, _, rfl⟩ (fun i σ H' _ h => lst_of (h.1.get hq v8')) ?_ ?_
      · rintro i x σ H4 H5 hi ⟨f4, ⟨ws, h1, h2, h3⟩, y, z, rfl⟩ ⟨T, v, rfl, nT, eT, vT, hv⟩
        obtain ⟨hil, rfl⟩ := nV_at hv
        have h3' := eT.get h3
        walk_at "go"
        have hlt := hT.g_lt hil
        have hxl : ixN (List.map nV ws).length (((gT (ledE r m n) i : Nat) : Nat) : Int) = some (gT (ledE r m n) i) := by
          rw [List.length_map]
          exact Evl.ixN_nat (by omega)
        refine st_setL h3' hxl ?_
        refine ⟨(f4.trans (Fr.ex eT)).trans FrP.at, ⟨ws.set (gT (ledE r m n) i) i, by rw [List.length_set]; exact h1, fun j hj => ?_, ?_⟩, _, _, rfl⟩
        · rw [gT_set (by omega)]
          by_cases q : gT (ledE r m n) j = gT (ledE r m n) i
          · have : j = i := hT.inj (by omega) hil q
            subst this
            rw [if_pos rfl]
          · rw [if_neg q]
            refine h2 j ?_
            have : j ≠ i := fun e => q (by rw [e])
            omega
        · rw [upd_same, List.map_set]
          rfl
      · rintro σ H4 ⟨f4, ⟨ws, h1, h2, h3⟩, y, z, rfl⟩
        have this : ws = invT (ledE r m n) := gT_ext (by rw [invT_len, h1, le]) fun v hv => by
          rw [h1] at hv
          rw [invT_g (by omega)]
          have := h2 ((ledE r m n).idxOf v) (by rw [List.length_map]; exact hT.idx_lt (by omega))
          rwa [hT.g_idx (by omega)] at this
        subst this
        have eF := Ex.comp (M := fun b => b = go) e0 f4 fun b hb => by rw [hb]; exact n0
        walk_at "go"
        rename_i t G9 n9 e9 v9
        refine k t me sg go G9 (eF.trans e9) (Ex.free eF n9) v9 ?_
        refine LedAt.ex ⟨h3, f4.get (fun z => B4 z.symm) B1, rs, f4.get (fun z => B5 z.symm) B2, B3.1, fun i row hr => ?_⟩ e9
        obtain ⟨zs, z1, z2, z3⟩ := B3.2 i row hr
        refine ⟨zs, f4.get (B6 _ (List.mem_of_getElem? hr)) z1, fun z hz => ?_, z3⟩
        exact f4.get (tup_nlst (z2 z hz) v6') (z2 z hz)
def sp_is_turning : Sp := fun vs H Q _ => ∃ (x : V) (d : PyData), vs = [x] ∧ Rn H x d ∧ ∀ b H', Ex H H' → (b = true ↔ TurnD d) → Q (.bl b) H'
theorem ok_is_turning (T : Tx K mg ad fd tk base tc) : FnOk P w K mg base CX0 3 (ad 10) (fd 10) ["thing"] sp_is_turning := by
  refine T.d_is_turning.F.ok sc_is_turning (fun vs H Q E h => ?_) (fun cdv A outer s H vs Q E hr h => ?_)
  · obtain ⟨x, d, rfl, _⟩ := h
    rfl
  · obtain ⟨x, d, rfl, hx, k⟩ := h
    refine ⟨_, (pss_cons (ps_if (PW.pt (pw_or (pt_not (pt_val (pe_callB c_isT2 (by rfl) T.b_isinstance (by decide +kernel) (pa_cons (pv 0) (pa_cons (pe_tup (pa_cons (pe_bltn (v := .ty "list") rfl T.b_list (by decide +kernel) rfl) (pa_cons (pe_bltn (v := .ty "tuple") rfl T.b_tuple (by decide +kernel) rfl) pa_nil))) pa_nil))))) (pw_or1 (pt_cmpR o_gt (pe_callB (c_len (K := K)) (by rfl) T.b_len (by decide +kernel) (pa_cons (pv 0) pa_nil)) (pe_glob (v := .int 96) rfl T.c_MOST_LINES ⟨_, rfl⟩) (nomark _))))) (pss_one (ps_ret pe_bl)) pss_nil)
      (pss_cons (ps_set (i := 1) sc_is_turning.nd rfl (Or.inl rfl) (pe_op o_mul (pe_lst (pa_cons pe_bl pa_nil)) (pe_callB (c_len (K := K)) (by rfl) T.b_len (by decide +kernel) (pa_cons (pv 0) pa_nil))))
      (pss_cons (ps_for PassesOwn.never rfl (pi_seq (pv 0)) (pg_name (i := 2) sc_is_turning.nd rfl (Or.inl rfl)) (pss_cons (ps_if (PW.pt (pw_or (pt_not (pt_val (pe_call (ok_is_within T) (hr.mono (by decide)) rfl T.d_is_within.g T.d_is_within.F.kp T.d_is_within.b .nil pass0 (pa_cons (pv 2) (pa_cons pe_int (pa_cons (pe_op o_sub (pe_callB (c_len (K := K)) (by rfl) T.b_len (by decide +kernel) (pa_cons (pv 0) pa_nil)) pe_int) pa_nil)))))) (pw_or1 (pt_tru (pe_ix (i_ix (K := K)) (pv 1) (pv 2) (fun _ _ => rfl)) (by intro _; rfl) (K := K))))) (pss_one (ps_ret pe_bl)) pss_nil)
      (pss_one (ps_asg pe_bl (pg_sub (pv 1) (pv 2) set_list)))))
      (pss_one (ps_ret pe_bl))))), ?_⟩
    have no : ∀ H', Ex H H' → (¬ TurnD d) → Q (.bl false) H' := fun H' e n => k false H' e ⟨(fun z => nomatch z), (fun z => (n z).elim)⟩
    walk_at "go"
    rename_i t1 H1 n1 e1 v1
    refine st_isLT (hx.ex e1).rq (by walk_at "hp") ?_
    refine ⟨_, rfl, ?_⟩
    cases hd : (isListD d || isTupD d) with
    | false =>
      refine st_T rfl ?_
      walk_at "go"
      refine no _ e1 (fun h => ?_)
      obtain ⟨l, h, _⟩ := h
      rcases h with h | h
      · rw [h] at hd; cases hd
      · rw [h] at hd; cases hd
    | true =>
    obtain ⟨a, xs, ds, hv, hs, hr, hd2⟩ := (hx.ex e1).seq hd
    subst hv
    have hl := hr.len
    have td : TurnD d ↔ ∃ l : List Nat, ds = l.map encN ∧ IsT l ∧ l.length ≤ 96 := by
      constructor
      · rintro ⟨l, h, h1, h2⟩
        refine ⟨l, ?_, h1, h2⟩
        rcases hd2 with e | e <;> rcases h with q | q <;> rw [e] at q <;> first | (injection q) | cases q
      · rintro ⟨l, h, h1, h2⟩
        refine ⟨l, ?_, h1, h2⟩
        rw [← h]
        exact hd2
    refine st_F rfl ?_
    walk_at "go"
    refine st_lenQ hs ?_
    walk_at "go"
    refine st_br2 (fun c => ?_) (fun c => ?_)
    · walk_at "go"
      refine no _ e1 (fun h => ?_)
      obtain ⟨l, h, _, h2⟩ := td.mp h
      rw [hl, h, List.length_map] at c
      omega
    walk_at "go"
    rename_i t2 H2 n2 e2 v2
    refine st_lenQ (seqAt_ex e2 hs) ?_
    walk_at "go"
    rename_i q H3 n3 e3 v3
    have ea3 := seqAt_ex (e2.trans e3) hs
    obtain ⟨n, hn⟩ : ∃ n, n = xs.length := ⟨_, rfl⟩
    rw [← hn] at c
    have hqa : q ≠ a := fun e => by
      have := seqAt_ex e2 hs
      unfold seqAt at this
      rw [← e, n3] at this
      cases this
    refine st_isSeq ea3 fun J S hJ hS => ?_
    obtain ⟨zs, rfl, rfl, hz⟩ := hr.zipped
    rw [List.length_map] at hn
    have hv3 : H3 q = some (.lst (((List.range n).map fun v => decide (v ∈ ([] : List Nat))).map V.bl)) := by
      rw [v3]
      congr 2
      rw [List.map_map, List.length_map, ← hn, Int.toNat_natCast]
      refine List.ext_getElem? fun i => ?_
      rw [List.getElem?_map]
      by_cases hi : i < n
      · rw [List.getElem?_range hi, List.getElem?_eq_getElem (by simp; exact hi)]
        simp
      · rw [List.getElem?_eq_none (by simp; omega), List.getElem?_eq_none (by simp; omega)]
        rfl
    have hJ2 := hJ
    rw [List.length_map, ← hn] at hJ2
    refine for_runs hJ2 (fun i σ H' => FrP q H3 H' ∧ (∃ l : List Nat, (zs.map (·.2)).take i = l.map encN ∧ l.Nodup ∧ (∀ v ∈ l, v < n) ∧ H' q = some (.lst (((List.range n).map fun v => decide (v ∈ l)).map V.bl))) ∧ ∃ y, σ = [some (.ref a), some (.ref q), y]) ⟨Fr.refl _, ⟨[], rfl, List.nodup_nil, by simp, hv3⟩, _, rfl⟩ (fun i σ H' _ h => hS H' (seqAt_same' h.1 (fun z => hqa z.symm) ea3)) ?_ ?_
    · rintro i x σ H0 H4 hi ⟨f4, ⟨l, h1, h2, h3, h4⟩, y, rfl⟩ ⟨rfl, hxi⟩
      obtain ⟨z, hzi⟩ : ∃ z, zs[i]? = some z := ⟨zs[i]'(by omega), List.getElem?_eq_getElem _⟩
      rw [List.getElem?_map, hzi] at hxi
      have hxz : x = z.1 := (Option.some.inj hxi).symm
      subst hxz
      have ex4 : Ex H H4 := e1.trans (e2.trans (Ex.comp (M := fun b => b = q) e3 f4 fun b hb => by rw [hb]; exact n3))
      have rz := ((hz z (List.mem_of_getElem? hzi)).ex e2).ex (Ex.comp (M := fun b => b = q) e3 f4 fun b hb => by rw [hb]; exact n3)
      have sa4 := seqAt_eq ea3 (seqAt_same' f4 (fun z => hqa z.symm) ea3)
      have dz : (zs.map (·.2))[i]? = some z.2 := by rw [List.getElem?_map, hzi]; rfl
      walk_at "go"
      refine st_lenQ sa4 ?_
      walk_at "go"
      rw [List.length_map, ← hn]
      refine ⟨z.1, 0, _, rfl, rz.rq.ty, ?_⟩
      cases hb : withinV z.1 0 ((n : Nat) - 1) with
      | false =>
        walk_at "go"
        refine no _ ex4 fun h => ?_
        obtain ⟨m, e, hm, _⟩ := td.mp h
        have hml : m.length = n := by
          have := congrArg List.length e
          rw [List.length_map, List.length_map] at this
          omega
        rw [e, List.getElem?_map] at dz
        cases q : m[i]? with
        | none => rw [q] at dz; cases dz
        | some v =>
          rw [q] at dz
          have hv := hm.lt v (List.mem_of_getElem? q)
          have := (wiN rz ((n : Nat) - 1)).mpr ⟨v, (Option.some.inj dz).symm, by omega⟩
          rw [hb] at this
          cases this
      | true =>
      obtain ⟨v, hv, hvn⟩ := (wiN rz _).mp hb
      have zv : z.1 = .int (v : Nat) := by
        rw [hv] at rz
        unfold encN at rz
        cases hz1 : z.1 <;> rw [hz1] at rz <;> cases rz
        rfl
      walk_at "go"
      rw [zv]
      refine st_ixL h4 (at_mapN (by rw [List.getElem?_map, List.getElem?_range (by omega)]; rfl)) ?_
      walk_at "go"
      by_cases hm : v ∈ l
      · refine st_T (decide_eq_true hm) ?_
        walk_at "go"
        refine no _ ex4 fun h => ?_
        obtain ⟨m, e, hmT, _⟩ := td.mp h
        rw [e, List.getElem?_map] at dz
        have h5 : m.take i = l := encN_inj (by rw [List.map_take, ← e, h1])
        cases q : m[i]? with
        | none => rw [q] at dz; cases dz
        | some u =>
          rw [q, hv] at dz
          have huv : u = v := by
            have := Option.some.inj dz
            unfold encN at this
            injection this with this
            omega
          subst huv
          have hmi := (List.getElem?_eq_some_iff.mp q)
          obtain ⟨hlt, hget⟩ := hmi
          rw [← h5] at hm
          obtain ⟨j, hj, hj2⟩ := List.getElem_of_mem hm
          rw [List.length_take] at hj
          rw [List.getElem_take] at hj2
          have h6 := hmT.nd
          rw [List.nodup_iff_pairwise_ne, List.pairwise_iff_getElem] at h6
          exact h6 j i (by omega) hlt (by omega) (by rw [hj2, hget])
      · refine st_F (decide_eq_false hm) ?_
        walk_at "go"
        refine st_setL h4 (by rw [List.length_map, List.length_map, List.length_range]; exact Evl.ixN_nat (by omega)) ?_
        refine ⟨f4.trans FrP.at, ⟨l ++ [v], ?_, ?_, ?_, ?_⟩, _, rfl⟩
        · rw [List.take_add_one, h1, dz, hv, List.map_append]
          rfl
        · rw [List.nodup_append]
          exact ⟨h2, by simp, fun b hb c hc => by rw [List.mem_singleton.mp hc]; exact fun z => hm (z ▸ hb)⟩
        · intro u hu
          rcases List.mem_append.mp hu with h | h
          · exact h3 u h
          · rw [List.mem_singleton.mp h]; omega
        · rw [upd_same]
          congr 2
          refine List.ext_getElem? fun j => ?_
          rw [List.getElem?_set, List.getElem?_map, List.getElem?_map, List.getElem?_map, List.getElem?_map]
          by_cases hj : j < n
          · rw [List.getElem?_range hj]
            by_cases q : v = j
            · subst q
              rw [if_pos rfl, if_pos (by simp; omega)]
              simp
            · rw [if_neg q]
              simp
              exact fun e => absurd e.symm q
          · rw [List.getElem?_eq_none (by simp; omega), if_neg (by omega)]
            rfl
    · rintro σ H4 ⟨f4, ⟨l, h1, h2, h3, h4⟩, y, rfl⟩
      have ex4 : Ex H H4 := e1.trans (e2.trans (Ex.comp (M := fun b => b = q) e3 f4 fun b hb => by rw [hb]; exact n3))
      walk_at "go"
      refine k true _ ex4 ⟨fun _ => td.mpr ⟨l, ?_, ⟨h2, ?_⟩, ?_⟩, fun _ => rfl⟩
      · rw [← h1, List.take_of_length_le (by rw [List.length_map]; omega)]
      all_goals
        have hll : l.length = n := by
          have := congrArg List.length h1
          rw [List.take_of_length_le (by rw [List.length_map]; omega), List.length_map, List.length_map] at this
          omega
      · rw [hll]; exact h3
      · rw [hll]; omega
def sp_need_turning (K : PySem.W.Frag) : Sp := fun vs H Q E => ∃ (x : V) (d : PyData), vs = [x] ∧ Rn H x d ∧ (¬ TurnD d → RaF K E H "NoTurning" [("found", x)]) ∧ (TurnD d → ∀ H', Ex H H' → Q .non H')
theorem ok_need_turning (T : Tx K mg ad fd tk base tc) : FnOk P w K mg base (L2.CX P w) 4 (ad 11) (fd 11) ["turning"] (sp_need_turning K) := by
  refine T.d_need_turning.F.okX sc_need_turning (fun vs H Q E h => ?_) (fun cdv A outer s H vs Q E hr h => ?_)
  · obtain ⟨x, d, rfl, _⟩ := h
    rfl
  · obtain ⟨x, d, rfl, hx, k0, k1⟩ := h
    refine ⟨_, (pss_one (ps_if (pt_not (pt_val (pe_call (ok_is_turning T) (hr.mono (by decide)) rfl T.d_is_turning.g T.d_is_turning.F.kp T.d_is_turning.b .nil pass0 (pa_cons (pv 0) pa_nil)))) (pss_one (ps_raiseG rfl (ex_NoTurning T) (hr.mono (by decide)) (takes_of rfl rfl rfl rfl) rfl (pa_cons (pv 0) pa_nil))) pss_nil)), ?_⟩
    walk_at "go"
    refine ⟨x, d, rfl, hx, fun b H1 e1 hb => ?_⟩
    cases b with
    | true =>
      walk_at "go"
      exact k1 (hb.mp rfl) _ e1
    | false =>
      have k2 := k0 (fun h => Bool.false_ne_true (hb.mpr h))
      walk_at "go"
      rename_i d2 H2 hd2 e2 hv2
      exact k2 d2 H2 (Ex.free e1 hd2) (e1.trans e2) hv2
theorem within_nat {x : V} {m : Nat} (h : withinV x 0 m = true) : ∃ i : Nat, x = .int (i : Nat) ∧ i ≤ m := by
  cases x with
  | int z =>
    have : 0 ≤ z ∧ z ≤ (m : Int) := by simpa [withinV] using h
    exact ⟨z.toNat, by rw [show ((z.toNat : Nat) : Int) = z by omega], by omega⟩
  | _ => cases h
theorem nat_within {i m : Nat} (h : i ≤ m) : withinV (.int (i : Nat)) 0 m = true := by
  unfold withinV
  exact decide_eq_true (by omega)
theorem nat_no {i m : Nat} (h : i ≤ m) {C : Prop} (k : withinV (.int (i : Nat)) 0 m = false) : C := by rw [nat_within h] at k; cases k
def sp_need_place (K : PySem.W.Frag) : Sp := fun vs H Q E => ∃ (x : V) (m : Int), vs = [x, .int m] ∧ Ty H x ∧ (withinV x 0 m = false → RaF K E H "NoPlace" [("found", x)]) ∧ (withinV x 0 m = true → Q .non H)
theorem ok_need_place (T : Tx K mg ad fd tk base tc) : FnOk P w K mg base (L2.CX P w) 3 (ad 12) (fd 12) ["place", "most"] (sp_need_place K) := by
  refine T.d_need_place.F.okX sc_need_place (fun vs H Q E h => ?_) (fun cdv A outer s H vs Q E hr h => ?_)
  · obtain ⟨x, m, rfl, _⟩ := h
    rfl
  · obtain ⟨x, m, rfl, hx, k0, k1⟩ := h
    refine ⟨_, (pss_one (ps_if (pt_not (pt_val (pe_call (ok_is_within T) (hr.mono (by decide)) rfl T.d_is_within.g T.d_is_within.F.kp T.d_is_within.b .nil pass0 (pa_cons (pv 0) (pa_cons pe_int (pa_cons (pv 1) pa_nil)))))) (pss_one (ps_raiseG rfl (ex_NoPlace T) (hr.mono (by decide)) (takes_of rfl rfl rfl rfl) rfl (pa_cons (pv 0) pa_nil))) pss_nil)), ?_⟩
    walk_at "go"
    refine ⟨x, 0, m, rfl, hx, ?_⟩
    cases hb : withinV x 0 m with
    | true =>
      walk_at "go"
      exact k1 hb
    | false =>
      have k2 := k0 hb
      walk_at "go"
      rename_i d2 H2 hd2 e2 hv2
      exact k2 d2 H2 hd2 e2 hv2
def sp_opposite (K : PySem.W.Frag) : Sp := fun vs H Q E => ∃ (x : V) (d : PyData), vs = [x] ∧ Rn H x d ∧ (¬ TurnD d → RaF K E H "NoTurning" [("found", x)]) ∧ (∀ l : List Nat, (d = .list (l.map encN) ∨ d = .tuple (l.map encN)) → IsT l → l.length ≤ 96 → ∀ q H', Ex H H' → H q = none → H' q = some (.lst ((invT l).map nV)) → Q (.ref q) H')
theorem ok_opposite (T : Tx K mg ad fd tk base tc) : FnOk P w K mg base (L2.CX P w) 5 (ad 13) (fd 13) ["turning"] (sp_opposite K) := by
  refine T.d_opposite.F.okX sc_opposite (fun vs H Q E h => ?_) (fun cdv A outer s H vs Q E hr h => ?_)
  · obtain ⟨x, d, rfl, _⟩ := h
    rfl
  · obtain ⟨x, d, rfl, hx, k0, k1⟩ := h
    refine ⟨_, (pss_cons (ps_expr (pe_call (ok_need_turning T) (hr.mono (by decide)) rfl T.d_need_turning.g T.d_need_turning.F.kp T.d_need_turning.b .nil (passes_call (takes_of rfl rfl rfl rfl) (fun _ _ _ _ h => h)) (pa_cons (pv 0) pa_nil)))
      (pss_cons (ps_set (i := 1) sc_opposite.nd rfl (Or.inl rfl) (pe_op o_mul (pe_lst (pa_cons pe_int pa_nil)) (pe_callB (c_len (K := K)) (by rfl) T.b_len (by decide +kernel) (pa_cons (pv 0) pa_nil))))
      (pss_cons (ps_for (passes_of rfl) rfl (pi_enumQ rfl T.b_enumerate (pa_cons (pv 0) pa_nil)) (pg_tup rfl (pgs_cons (pg_name (i := 2) sc_opposite.nd rfl (Or.inl rfl)) (pgs_cons (pg_name (i := 3) sc_opposite.nd rfl (Or.inl rfl)) pgs_nil))) (pss_one (ps_asg (pv 2) (pg_sub (pv 1) (pv 3) set_list))))
      (pss_one (ps_ret (pv 1)))))), ?_⟩
    walk_at "go"
    refine ⟨x, d, rfl, hx, k0, fun hT H1 e1 => ?_⟩
    obtain ⟨l, hd, hl, hl2⟩ := hT
    have k2 := k1 l hd hl hl2
    obtain ⟨a, rfl, hs⟩ := TurnD.seq hx hd
    have hs1 := seqAt_ex e1 hs
    clear k0 k1
    walk_at "go"
    rename_i t2 H2 n2 e2 v2
    refine st_lenQ (seqAt_ex e2 hs1) ?_
    rw [List.length_map]
    walk_at "go"
    rename_i q H3 n3 e3 v3
    have hs3 := seqAt_ex (e2.trans e3) hs1
    have hqa : q ≠ a := fun e => by
      have := seqAt_ex e2 hs1
      unfold seqAt at this
      rw [← e, n3] at this
      cases this
    refine st_isEnQ hs3 fun J S hJ hS => ?_
    rw [List.length_map] at hJ
    have v3' : H3 q = some (.lst ((List.replicate l.length 0).map nV)) := by
      rw [v3, Int.toNat_natCast]
      congr 2
      rw [List.map_replicate]
      clear k2 hd hl hl2 hx hs hs1 v3 hs3 hJ
      induction l.length with
      | zero => rfl
      | succ n ih => rw [List.replicate_succ, List.flatten_cons, ih, List.replicate_succ]; rfl
    have e13 := e1.trans (e2.trans e3)
    have n03 : H q = none := Ex.free (e1.trans e2) n3
    refine for_runs hJ (fun i σ H' => FrP q H3 H' ∧ (∃ rs : List Nat, rs.length = l.length ∧ (∀ j, j < i → gT rs (gT l j) = j) ∧ H' q = some (.lst (rs.map nV))) ∧ ∃ y z, σ = [some (.ref a), some (.ref q), y, z]) ⟨Fr.refl _, ⟨_, List.length_replicate, fun j h => absurd h (Nat.not_lt_zero _), v3'⟩, _, _, rfl⟩ (fun i σ H' _ h => hS H' (seqAt_same' h.1 (fun z => hqa z.symm) hs3)) ?_ ?_
    · rintro i x σ H4 H5 hi ⟨f4, ⟨rs, h1, h2, h3⟩, y, z, rfl⟩ ⟨T, v, rfl, nT, eT, vT, hv⟩
      obtain ⟨hil, rfl⟩ := nV_at hv
      have h3' := eT.get h3
      walk_at "go"
      have hlt := hl.g_lt hil
      have hxl : ixN (List.map nV rs).length (((gT l i : Nat) : Nat) : Int) = some (gT l i) := by
        rw [List.length_map]
        exact Evl.ixN_nat (by omega)
      refine st_setL h3' hxl ?_
      refine ⟨(f4.trans (Fr.ex eT)).trans FrP.at, ⟨rs.set (gT l i) i, by rw [List.length_set]; exact h1, fun j hj => ?_, ?_⟩, _, _, rfl⟩
      · rw [gT_set (by omega)]
        by_cases q : gT l j = gT l i
        · have : j = i := hl.inj (by omega) hil q
          subst this
          rw [if_pos rfl]
        · rw [if_neg q]
          refine h2 j ?_
          have : j ≠ i := fun e => q (by rw [e])
          omega
      · rw [upd_same, List.map_set]
        rfl
    · rintro σ H4 ⟨f4, ⟨rs, h1, h2, h3⟩, y, z, rfl⟩
      walk_at "go"
      have : rs = invT l := gT_ext (by rw [invT_len, h1]) fun v hv => by
        rw [h1] at hv
        rw [invT_g hv]
        have := h2 (l.idxOf v) (hl.idx_lt hv)
        rwa [hl.g_idx hv] at this
      subst this
      exact k2 q _ (Ex.comp (M := fun b => b = q) e13 f4 fun b hb => by rw [hb]; exact n03) n03 h3
theorem eqv_encN (a b : Nat) : PyData.eqv (encN a) (encN b) = decide (a = b) := by
  unfold encN
  rw [eqv_int]
  rw [Bool.eq_iff_iff, decide_eq_true_eq, decide_eq_true_eq]
  omega
/-- rising, not strictly -/
def Up0 (l : List Nat) : Prop := l.Pairwise (· ≤ ·)
theorem up_drop {l : List Nat} (h : Up0 l) {i : Nat} (hi : i < l.length) : ∀ y ∈ l.drop i, gT l i ≤ y := by
  intro y hy
  rw [List.drop_eq_getElem_cons hi] at hy
  rw [gT_at hi]
  rcases List.mem_cons.mp hy with q | q
  · rw [q]; exact Nat.le_refl _
  · have h2 : (l.drop i).Pairwise (· ≤ ·) := List.Pairwise.sublist (List.drop_sublist i l) h
    rw [List.drop_eq_getElem_cons hi] at h2
    exact (List.pairwise_cons.mp h2).1 y q
theorem drop_mem {l : List Nat} {i y : Nat} (h : y ∈ l.drop (i + 1)) : y ∈ l.drop i := by
  by_cases hi : i < l.length
  · rw [List.drop_eq_getElem_cons hi]; exact List.mem_cons_of_mem _ h
  · rw [List.drop_eq_nil_of_le (by omega)] at h; cases h
theorem up_app1 {c : List Nat} {x : Nat} (h : Up0 c) (k : ∀ y ∈ c, y ≤ x) : Up0 (c ++ [x]) := by
  unfold Up0
  rw [List.pairwise_append]
  exact ⟨h, List.pairwise_singleton _ _, fun a ha b hb => by rw [List.mem_singleton.mp hb]; exact k a ha⟩
/-- what is found so far -/
def MixG (a b : List Nat) (i t : Nat) (c : List Nat) : Prop := t ≤ b.length ∧ c.Perm (a.take i ++ b.take t) ∧ (Up0 a → Up0 b → Up0 c ∧ ∀ x ∈ c, (∀ y ∈ a.drop i, x ≤ y) ∧ ∀ y ∈ b.drop t, x ≤ y)
theorem MixG.right {a b c : List Nat} {i t : Nat} (h : MixG a b i t c) (hi : i < a.length) (ht : t < b.length) (hlt : gT b t < gT a i) : MixG a b i (t + 1) (c ++ [gT b t]) := by
  obtain ⟨h1, h2, h3⟩ := h
  refine ⟨ht, ?_, fun ua ub => ?_⟩
  · rw [List.take_add_one, gT_some ht, ← List.append_assoc]
    exact h2.append_right _
  · obtain ⟨h4, h5⟩ := h3 ua ub
    refine ⟨up_app1 h4 fun y hy => (h5 y hy).2 _ (by rw [List.drop_eq_getElem_cons ht, gT_at ht]; exact List.mem_cons_self), fun x hx => ?_⟩
    rcases List.mem_append.mp hx with q | q
    · exact ⟨(h5 x q).1, fun y hy => (h5 x q).2 y (drop_mem hy)⟩
    · rw [List.mem_singleton.mp q]
      refine ⟨fun y hy => ?_, fun y hy => up_drop ub ht y (drop_mem hy)⟩
      have := up_drop ua hi y hy
      omega
theorem MixG.left {a b c : List Nat} {i t : Nat} (h : MixG a b i t c) (hi : i < a.length) (ht : t < b.length → gT a i ≤ gT b t) : MixG a b (i + 1) t (c ++ [gT a i]) := by
  obtain ⟨h1, h2, h3⟩ := h
  refine ⟨h1, ?_, fun ua ub => ?_⟩
  · rw [List.take_add_one, gT_some hi]
    show (c ++ [gT a i]).Perm (a.take i ++ [gT a i] ++ b.take t)
    refine (h2.append_right _).trans ?_
    rw [List.append_assoc, List.append_assoc]
    exact (List.perm_append_comm).append_left _
  · obtain ⟨h4, h5⟩ := h3 ua ub
    refine ⟨up_app1 h4 fun y hy => (h5 y hy).1 _ (by rw [List.drop_eq_getElem_cons hi, gT_at hi]; exact List.mem_cons_self), fun x hx => ?_⟩
    rcases List.mem_append.mp hx with q | q
    · exact ⟨fun y hy => (h5 x q).1 y (drop_mem hy), (h5 x q).2⟩
    · rw [List.mem_singleton.mp q]
      refine ⟨fun y hy => up_drop ua hi y (drop_mem hy), fun y hy => ?_⟩
      by_cases q2 : t < b.length
      · have := up_drop ub q2 y hy
        have := ht q2
        omega
      · rw [List.drop_eq_nil_of_le (by omega)] at hy
        cases hy
theorem MixG.done {a b c : List Nat} {t : Nat} (h : MixG a b a.length t c) : (c ++ b.drop t).Perm (a ++ b) ∧ (Up0 a → Up0 b → Up0 (c ++ b.drop t)) := by
  obtain ⟨h1, h2, h3⟩ := h
  rw [List.take_length] at h2
  refine ⟨?_, fun ua ub => ?_⟩
  · have := h2.append_right (b.drop t)
    rwa [List.append_assoc, List.take_append_drop] at this
  · obtain ⟨h4, h5⟩ := h3 ua ub
    unfold Up0
    rw [List.pairwise_append]
    exact ⟨h4, List.Pairwise.sublist (List.drop_sublist t b) ub, fun x hx y hy => (h5 x hx).2 y hy⟩
theorem MixG.len {a b c : List Nat} {i t : Nat} (h : MixG a b i t c) : c.length ≤ a.length + b.length := by
  have := h.2.1.length_eq
  rw [List.length_append, List.length_take, List.length_take] at this
  omega
def sp_mixed : Sp := fun vs H Q _ => ∃ (p q : Addr) (a b : List Nat), vs = [.ref p, .ref q] ∧ H p = some (.lst (a.map nV)) ∧ H q = some (.lst (b.map nV)) ∧ a.length ≤ 1000 ∧ b.length ≤ 1000 ∧ ∀ (c : List Nat) r H', Ex H H' → H r = none → H' r = some (.lst (c.map nV)) → c.Perm (a ++ b) → (Up0 a → Up0 b → Up0 c) → Q (.ref r) H'
theorem ok_mixed (T : Tx K mg ad fd tk base tc) : FnOk P w K mg base CX0 1 (ad 14) (fd 14) ["one", "other"] sp_mixed := by
  refine T.d_mixed.F.ok sc_mixed (fun vs H Q E h => ?_) (fun cdv A outer s H vs Q E hr h => ?_)
  · obtain ⟨p, q, a, b, rfl, _⟩ := h
    rfl
  · obtain ⟨p, q, a, b, rfl, hp, hq, hla, hlb, k⟩ := h
    refine ⟨_, (pss_cons (ps_set (i := 2) sc_mixed.nd rfl (Or.inl rfl) (pe_lst pa_nil))
      (pss_cons (ps_set (i := 3) sc_mixed.nd rfl (Or.inl rfl) pe_int)
      (pss_cons (ps_for PassesOwn.never rfl (pi_list (pv 0)) (pg_name (i := 4) sc_mixed.nd rfl (Or.inl rfl)) (pss_cons (ps_while PassesOwn.never (PW.pt (pw_and (pt_cmpR o_lt (pv 3) (pe_callB (c_len (K := K)) (by rfl) T.b_len (by decide +kernel) (pa_cons (pv 1) pa_nil)) (nomark _)) (pw_and1 (pt_cmpR o_lt (pe_ix (i_ix (K := K)) (pv 1) (pv 3) (fun _ _ => rfl)) (pv 4) (nomark _))))) (pss_cons (ps_expr (pe_bm PySem.F.plainAttrs_list PySem.F.slot_list_append PySem.F.type_list_append mt_append (pv 2) (pa_cons (pe_ix (i_ix (K := K)) (pv 1) (pv 3) (fun _ _ => rfl)) pa_nil)))
      (pss_one (ps_aug (i := 3) sc_mixed.nd rfl (Or.inl rfl) pe_int ip_add))))
      (pss_one (ps_expr (pe_bm PySem.F.plainAttrs_list PySem.F.slot_list_append PySem.F.type_list_append mt_append (pv 2) (pa_cons (pv 4) pa_nil))))))
      (pss_one (ps_ret (pe_op o_add (pv 2) (pe_slice (s_sl (K := K)) (pv 1) (po_some (pv 3)) po_none))))))), ?_⟩
    walk_at "go"
    rename_i F H1 n1 e1 v1
    have hp1 := e1.get hp
    have hq1 := e1.get hq
    have hFp : p ≠ F := fun z => by rw [← z, hp] at n1; cases n1
    have hFq : q ≠ F := fun z => by rw [← z, hq] at n1; cases n1
    have ex : ∀ {H'}, FrP F H1 H' → Ex H H' := fun f => Ex.comp (M := fun x => x = F) e1 f fun x hx => by rw [hx]; exact n1
    refine for_runs (runs_list K p _) (fun i σ H' => (∃ (c : List Nat) (t : Nat), FrP F H1 H' ∧ H' F = some (.lst (c.map nV)) ∧ MixG a b i t c ∧ ∃ y, σ = [some (.ref p), some (.ref q), some (.ref F), some (.int (t : Nat)), y])) ⟨[], 0, Fr.refl _, v1, ⟨Nat.zero_le _, by simp, fun _ _ => ⟨List.Pairwise.nil, fun x hx => (List.not_mem_nil hx).elim⟩⟩, _, rfl⟩ (fun i σ H' _ h => by obtain ⟨_, _, f, _⟩ := h; exact lst_of (f.get hFp hp1)) ?_ ?_
    · rintro i x σ H0 H3 hi ⟨c, t, f3, v3, g3, y, rfl⟩ ⟨rfl, hx⟩
      obtain ⟨hia, rfl⟩ := nV_at hx
      unfold nV
      walk_at "go"
      refine while_inv (fun m σ H' => ∃ (c : List Nat) (t : Nat), m = b.length - t ∧ FrP F H1 H' ∧ H' F = some (.lst (c.map nV)) ∧ MixG a b i t c ∧ σ = [some (.ref p), some (.ref q), some (.ref F), some (.int (t : Nat)), some (.int (gT a i : Nat))]) ⟨_, c, t, rfl, f3, v3, g3, rfl⟩ ?_
      rintro m σ H4 ⟨c, t, rfl, f4, v4, g4, rfl⟩
      have hq4 := f4.get hFq hq1
      have hcl := g4.len
      walk_at "go"
      rw [List.length_map]
      have fin : (t < b.length → gT a i ≤ gT b t) → FrP F H1 (upd H4 F (.lst (c.map nV ++ [V.int (gT a i : Nat)]))) ∧ upd H4 F (.lst (c.map nV ++ [V.int (gT a i : Nat)])) F = some (.lst ((c ++ [gT a i]).map nV)) ∧ MixG a b (i + 1) t (c ++ [gT a i]) := fun h => ⟨f4.trans FrP.at, by rw [upd_same, List.map_append]; rfl, g4.left hia h⟩
      refine st_br2 (fun c1 => ?_) (fun c1 => ?_)
      rotate_left
      · obtain ⟨z1, z2, z3⟩ := fin fun h => by omega
        refine wh_F rfl ?_
        walk_at "go"
        refine st_app v4 (by rw [List.length_map]; omega) ?_
        exact ⟨_, t, z1, z2, z3, _, rfl⟩
      have htb : t < b.length := by omega
      walk_at "go"
      refine st_ixL hq4 (at_nV htb) ?_
      unfold nV
      walk_at "go"
      by_cases q1 : gT b t < gT a i
      rotate_left
      · obtain ⟨z1, z2, z3⟩ := fin fun h => by omega
        rw [decide_eq_false (by omega)]
        refine wh_F rfl ?_
        walk_at "go"
        refine st_app v4 (by rw [List.length_map]; omega) ?_
        exact ⟨_, t, z1, z2, z3, _, rfl⟩
      rw [decide_eq_true (by omega)]
      refine wh_T rfl ?_
      have v4' : H4 F = some (.lst (c.map nV)) := v4
      have hq4' : H4 q = some (.lst (b.map nV)) := hq4
      walk_at "go"
      refine st_ixL hq4' (at_nV htb) ?_
      walk_at "go"
      refine st_app v4' (by rw [List.length_map]; omega) ?_
      walk_at "go"
      refine ⟨b.length - (t + 1), by omega, c ++ [gT b t], t + 1, rfl, f4.trans FrP.at, ?_, g4.right hia htb q1, ?_⟩
      · rw [upd_same, List.map_append]; rfl
      · rw [show ((t + 1 : Nat) : Int) = ((t : Nat) : Int) + 1 by omega]
        rfl
    · rintro σ H3 ⟨c, t, f3, v3, g3, y, rfl⟩
      rw [List.length_map] at g3
      have hq3 := f3.get hFq hq1
      have hcl := g3.len
      obtain ⟨g4, g5⟩ := g3.done
      have e03 := ex f3
      walk_at "go"
      rename_i D4 H4 n4 e4 v4
      rw [cutV_from, ← List.map_drop] at v4
      have v34 := e4.get v3
      refine st_addL v34 v4 (by rw [List.length_map, List.length_map, List.length_drop]; omega) ?_
      intro r H5 n5 e5 v5
      refine k (c ++ b.drop t) r H5 (e03.trans (e4.trans e5)) (Ex.free (e03.trans e4) n5) ?_ g4 g5
      rw [v5, List.map_append]
def rowO (r : List Nat) : HO := .lst (r.map nV)
/-- a table of numbers -/
structure Tbl (H : Hp) (p : Addr) (rs : List Addr) (tb : List (List Nat)) : Prop where
  at_ : H p = some (.lst (rs.map V.ref))
  rows : ObjsAt H rs (tb.map rowO)
theorem Tbl.ex {H H' : Hp} {p : Addr} {rs : List Addr} {tb : List (List Nat)} (T : Tbl H p rs tb) (e : Ex H H') : Tbl H' p rs tb := ⟨e.get T.at_, T.rows.ex e⟩
theorem Tbl.len {H : Hp} {p : Addr} {rs : List Addr} {tb : List (List Nat)} (T : Tbl H p rs tb) : rs.length = tb.length := by rw [T.rows.len, List.length_map]
theorem Tbl.row {H : Hp} {p : Addr} {rs : List Addr} {tb : List (List Nat)} (T : Tbl H p rs tb) {i : Nat} (h : i < tb.length) : ∃ r, rs[i]? = some r ∧ H r = some (.lst ((tb[i]).map nV)) := by
  have hl := T.len
  refine ⟨rs[i]'(by omega), List.getElem?_eq_getElem _, T.rows.at i _ _ (List.getElem?_eq_getElem _) ?_⟩
  rw [List.getElem?_map, List.getElem?_eq_getElem h]
  rfl
def encR (r : List Nat) : PyData := .list (r.map encN)
theorem rows_rn {H : Hp} : ∀ {rs : List Addr} {tb : List (List Nat)}, ObjsAt H rs (tb.map rowO) → RnA H (rs.map V.ref) (tb.map encR)
  | [], [], _ => .nil
  | [], _ :: _, h => by cases h
  | _ :: _, [], h => by cases h
  | r :: rs, t :: tb, h => by
    cases h with
    | cons h1 h2 => exact .cons (.lst h1 (rnA_map fun _ _ => .int _)) (rows_rn h2)
theorem Tbl.rn {H : Hp} {p : Addr} {rs : List Addr} {tb : List (List Nat)} (T : Tbl H p rs tb) : Rn H (.ref p) (.list (tb.map encR)) := .lst T.at_ (rows_rn T.rows)
theorem tbl_nd (tb : List (List Nat)) : (PyData.list (tb.map encR)).hasDict = false := by
  simp only [PyData.hasDict]
  refine hasDictA_of fun d hd => ?_
  obtain ⟨r, _, rfl⟩ := List.mem_map.mp hd
  unfold encR
  simp only [PyData.hasDict]
  refine hasDictA_of fun d hd => ?_
  obtain ⟨_, _, rfl⟩ := List.mem_map.mp hd
  rfl
theorem Tbl.rp {H : Hp} {p : Addr} {rs : List Addr} {tb : List (List Nat)} (T : Tbl H p rs tb) : Rp H (.ref p) (.list (tb.map encR)) := T.rn.rp (tbl_nd tb)
theorem up_le {b : List Nat} (h : Up0 b) {i j : Nat} (hij : i ≤ j) (hj : j < b.length) : gT b i ≤ gT b j := by
  by_cases q : i = j
  · rw [q]; exact Nat.le_refl _
  · rw [gT_at (by omega), gT_at hj]
    exact List.pairwise_iff_getElem.mp h i j (by omega) hj (by omega)
theorem count_cut {b : List Nat} {e m : Nat} (hm : m ≤ b.length) (h1 : ∀ i, i < m → gT b i < e) (h2 : ∀ i, m ≤ i → i < b.length → e ≤ gT b i) : b.countP (· < e) = m := by
  have h3 : (b.take m).countP (· < e) = (b.take m).length := List.countP_eq_length.mpr fun x hx => by
    obtain ⟨i, hi, rfl⟩ := List.getElem_of_mem hx
    rw [List.length_take] at hi
    rw [List.getElem_take, ← gT_at (by omega)]
    simpa using h1 i (by omega)
  have h4 : (b.drop m).countP (· < e) = 0 := List.countP_eq_zero.mpr fun x hx => by
    obtain ⟨i, hi, rfl⟩ := List.getElem_of_mem hx
    rw [List.length_drop] at hi
    rw [List.getElem_drop, ← gT_at (by omega)]
    have := h2 (m + i) (by omega) (by omega)
    simp
    omega
  rw [← List.take_append_drop m b, List.countP_append, h3, h4, List.length_take]
  omega
/-- how many of all blocks from i on fulfil p -/
def restP (p : Nat → Bool) (bs : List (List Nat)) (i : Nat) : Nat := ((bs.drop i).map (fun b => b.countP p)).sum
theorem restP_end {p : Nat → Bool} {bs : List (List Nat)} {i : Nat} (h : bs.length ≤ i) : restP p bs i = 0 := by
  unfold restP
  rw [List.drop_eq_nil_of_le h]
  rfl
theorem restP_at {p : Nat → Bool} {bs : List (List Nat)} {i : Nat} (h : i < bs.length) : restP p bs i = (bs[i]).countP p + restP p bs (i + 1) := by
  unfold restP
  rw [List.drop_eq_getElem_cons h, List.map_cons, List.sum_cons]
structure NextF (bs cs : List (List Nat)) : Prop where
  len : cs.length = (bs.length + 1) / 2
  two : ∀ i c, cs[i]? = some c → ∀ (h : 2 * i < bs.length), (∀ (h2 : 2 * i + 1 < bs.length), c.Perm (bs[2 * i] ++ bs[2 * i + 1]) ∧ (Up0 bs[2 * i] → Up0 bs[2 * i + 1] → Up0 c)) ∧ (¬ 2 * i + 1 < bs.length → c = bs[2 * i])
theorem NextF.rest {bs cs : List (List Nat)} (h : NextF bs cs) (p : Nat → Bool) : ∀ (d i : Nat), d = cs.length - i → restP p cs i = restP p bs (2 * i)
  | 0, i, hd => by
    have := h.len
    rw [restP_end (by omega), restP_end (by omega)]
  | d + 1, i, hd => by
    have hl := h.len
    have hi : i < cs.length := by omega
    have h0 : 2 * i < bs.length := by omega
    obtain ⟨h1, h2⟩ := h.two i cs[i] (List.getElem?_eq_getElem hi) h0
    rw [restP_at hi, h.rest p d (i + 1) (by omega), restP_at h0]
    by_cases q : 2 * i + 1 < bs.length
    · obtain ⟨h3, _⟩ := h1 q
      rw [restP_at q, h3.countP_eq, List.countP_append, show 2 * (i + 1) = 2 * i + 1 + 1 by omega]
      omega
    · rw [h2 q, restP_end (i := 2 * i + 1) (by omega), restP_end (by omega)]
theorem NextF.up {bs cs : List (List Nat)} (h : NextF bs cs) (hu : ∀ b ∈ bs, Up0 b) : ∀ c ∈ cs, Up0 c := by
  intro c hc
  obtain ⟨i, hi⟩ := List.getElem?_of_mem hc
  have hl := h.len
  have hic := (List.getElem?_eq_some_iff.mp hi).1
  have h0 : 2 * i < bs.length := by omega
  obtain ⟨h1, h2⟩ := h.two i c hi h0
  by_cases q : 2 * i + 1 < bs.length
  · exact (h1 q).2 (hu _ (List.getElem_mem _)) (hu _ (List.getElem_mem _))
  · rw [h2 q]; exact hu _ (List.getElem_mem _)
theorem le_sum_mem : ∀ {l : List Nat} {x : Nat}, x ∈ l → x ≤ l.sum
  | a :: l, x, h => by
    rw [List.sum_cons]
    rcases List.mem_cons.mp h with q | q
    · omega
    · have := le_sum_mem q; omega
theorem block_le {bs : List (List Nat)} {b : List Nat} (h : b ∈ bs) : b.length ≤ restP (fun _ => true) bs 0 := by
  unfold restP
  rw [List.drop_zero]
  have h1 : b.countP (fun _ => true) = b.length := by simp
  rw [← h1]
  exact le_sum_mem (List.mem_map.mpr ⟨b, h, rfl⟩)
def ones (l : List Nat) : List (List Nat) := l.map fun x => [x]
theorem rest_ones (p : Nat → Bool) (l : List Nat) : ∀ (d i : Nat), d = l.length - i → restP p (ones l) i = (l.drop i).countP p
  | 0, i, hd => by
    rw [restP_end (by unfold ones; rw [List.length_map]; omega), List.drop_eq_nil_of_le (by omega)]
    rfl
  | d + 1, i, hd => by
    have hi : i < l.length := by omega
    have ho : i < (ones l).length := by unfold ones; rw [List.length_map]; exact hi
    rw [restP_at ho, rest_ones p l d (i + 1) (by omega), List.drop_eq_getElem_cons hi]
    have e : (ones l)[i]'ho = [l[i]] := by simp [ones]
    rw [e, List.countP_cons, List.countP_cons, List.countP_nil]
    omega
/-- floors, the last one so far on top -/
structure FlO (l : List Nat) (fs : List (List (List Nat))) : Prop where
  ne : 0 < fs.length
  fst : fs[0]? = some (ones l)
  nxt : ∀ j bs cs, fs[j]? = some bs → fs[j + 1]? = some cs → 2 ≤ bs.length ∧ NextF bs cs
theorem FlO.all {l : List Nat} {fs : List (List (List Nat))} (h : FlO l fs) : ∀ (j : Nat) bs, fs[j]? = some bs → (∀ b ∈ bs, Up0 b) ∧ restP (fun _ => true) bs 0 = l.length
  | 0, bs, hb => by
    rw [h.fst] at hb
    cases hb
    refine ⟨fun b hb => ?_, ?_⟩
    · obtain ⟨x, _, rfl⟩ := List.mem_map.mp hb
      exact List.pairwise_singleton _ _
    · rw [rest_ones _ l _ 0 rfl, List.drop_zero]
      simp
  | j + 1, cs, hc => by
    have hj : j < fs.length := by have := (List.getElem?_eq_some_iff.mp hc).1; omega
    obtain ⟨h1, h2⟩ := h.all j _ (List.getElem?_eq_getElem hj)
    obtain ⟨_, n⟩ := h.nxt j _ cs (List.getElem?_eq_getElem hj) hc
    exact ⟨n.up h1, by rw [n.rest _ _ 0 rfl]; exact h2⟩
theorem FlO.blk {l : List Nat} {fs : List (List (List Nat))} (h : FlO l fs) {j : Nat} {bs : List (List Nat)} (hb : fs[j]? = some bs) {b : List Nat} (hm : b ∈ bs) : Up0 b ∧ b.length ≤ l.length := by
  obtain ⟨h1, h2⟩ := h.all j bs hb
  have := block_le hm
  exact ⟨h1 b hm, by omega⟩
theorem FlO.len {l : List Nat} {fs : List (List (List Nat))} (h : FlO l fs) : ∀ (j : Nat) bs, fs[j]? = some bs → bs.length + j ≤ l.length
  | 0, bs, hb => by
    rw [h.fst] at hb
    cases hb
    unfold ones
    rw [List.length_map]
    omega
  | j + 1, cs, hc => by
    have hj : j < fs.length := by have := (List.getElem?_eq_some_iff.mp hc).1; omega
    have h1 := h.len j _ (List.getElem?_eq_getElem hj)
    obtain ⟨h2, n⟩ := h.nxt j _ cs (List.getElem?_eq_getElem hj) hc
    have := n.len
    omega
/-- the floors as they stand -/
structure FlG (H : Hp) (qs : List Addr) (fs : List (List (List Nat))) : Prop where
  len : qs.length = fs.length
  tb : ∀ (j : Nat) q, qs[j]? = some q → ∃ rs bs, fs[j]? = some bs ∧ Tbl H q rs bs
theorem FlG.ex {H H' : Hp} {qs : List Addr} {fs : List (List (List Nat))} (h : FlG H qs fs) (e : Ex H H') : FlG H' qs fs := ⟨h.len, fun j q hq => by obtain ⟨rs, bs, h1, h2⟩ := h.tb j q hq; exact ⟨rs, bs, h1, h2.ex e⟩⟩
theorem ObjsAt.ex' {H : Hp} {F : Addr} : ∀ {ts : List Addr} {os : List HO}, (∀ x ∈ ts, x ≠ F) → ObjsAt H ts os → ObjsAt (hid F H) ts os
  | _, _, _, .nil => .nil
  | _, _, hm, .cons h r => .cons (hid_get h (hm _ List.mem_cons_self)) (ObjsAt.ex' (fun a ha => hm a (List.mem_cons_of_mem _ ha)) r)
def sp_floors_of : Sp := fun vs H Q _ => ∃ (a : Addr) (l : List Nat), vs = [.ref a] ∧ seqAt H a = some (l.map nV) ∧ l.length ≤ 96 ∧ ∀ fa qs fs H', Ex H H' → H fa = none → H' fa = some (.lst (qs.map V.ref)) → FlG (newO H H') qs fs → FlO l fs → (∀ bs, fs[fs.length - 1]? = some bs → bs.length ≤ 1) → Q (.ref fa) H'
theorem ok_floors_of (T : Tx K mg ad fd tk base tc) : FnOk P w K mg base CX0 2 (ad 15) (fd 15) ["ends"] sp_floors_of := by
  refine T.d_floors_of.F.ok sc_floors_of (fun vs H Q E h => ?_) (fun cdv A outer s H vs Q E hr h => ?_)
  · obtain ⟨a, l, rfl, _⟩ := h
    rfl
  · obtain ⟨a, l, rfl, ha, hl, k⟩ := h
    refine ⟨_, (pss_cons (ps_set (i := 1) sc_floors_of.nd rfl (Or.inl rfl) (pe_lst (pa_cons (pe_lc (own := [("end", 4)]) (g := gName 4) rfl sc_floors_of.nd (pi_seq (pv 0)) (blkOk_by (own := [("end", 4)]) (N := N_floors_of) (sc := defScope s_floors_of) (by decide +kernel)) (fun _ _ _ _ _ => pg_name (i := 4) sc_floors_of.nd rfl (Or.inl rfl)) (fun _ _ _ _ _ => pts_nil) (fun _ _ _ _ _ => (pe_lst (pa_cons (pv 4) pa_nil)))) pa_nil)))
      (pss_cons (ps_while PassesOwn.never (pt_cmpR o_gt (pe_callB (c_len (K := K)) (by rfl) T.b_len (by decide +kernel) (pa_cons (pe_ix (i_ix (K := K)) (pv 1) (pe_un un_neg pe_int) (fun _ _ => rfl)) pa_nil)) pe_int (nomark _)) (pss_cons (ps_set (i := 2) sc_floors_of.nd rfl (Or.inl rfl) (pe_ix (i_ix (K := K)) (pv 1) (pe_un un_neg pe_int) (fun _ _ => rfl)))
      (pss_cons (ps_setLc (i := 3) (own := [("left", 5), ("right", 6)]) (g := gTup K 2 (gCons (gName 5) (gCons (gName 6) gNil))) rfl sc_floors_of.nd rfl rfl (sw_true rfl rfl rfl (by decide +kernel)) (pi_zip rfl T.b_zip (pa_cons (pe_slice3 (pv 2) po_none po_none pe_int (K := K)) (pa_cons (pe_slice3 (pv 2) (po_some pe_int) po_none pe_int (K := K)) pa_nil))) (blkOk_by (own := [("left", 5), ("right", 6)]) (N := N_floors_of) (sc := defScope s_floors_of) (by decide +kernel)) (fun _ _ _ _ _ => (pg_tup rfl (pgs_cons (pg_name (i := 5) sc_floors_of.nd rfl (Or.inl rfl)) (pgs_cons (pg_name (i := 6) sc_floors_of.nd rfl (Or.inl rfl)) pgs_nil)))) (fun _ _ _ _ _ => pts_nil) (fun _ _ _ _ _ => (pe_call (ok_mixed T) (hr.mono (by decide)) rfl T.d_mixed.g T.d_mixed.F.kp T.d_mixed.b .nil pass0 (pa_cons (pv 5) (pa_cons (pv 6) pa_nil)))))
      (pss_cut (ps_if (pt_cmpR (o_eq hr.units) (pe_op o_mod (pe_callB (c_len (K := K)) (by rfl) T.b_len (by decide +kernel) (pa_cons (pv 2) pa_nil)) pe_int) pe_int (nomark _)) (pss_one (ps_expr (pe_bm PySem.F.plainAttrs_list PySem.F.slot_list_append PySem.F.type_list_append mt_append (pv 3) (pa_cons (pe_callTy (c_list rfl (K := K)) (by rfl) T.b_list (by decide +kernel) (pa_cons (pe_ix (i_ix (K := K)) (pv 2) (pe_un un_neg pe_int) (fun _ _ => rfl)) pa_nil)) pa_nil)))) pss_nil)
      (pss_one (ps_expr (pe_bm PySem.F.plainAttrs_list PySem.F.slot_list_append PySem.F.type_list_append mt_append (pv 1) (pa_cons (pv 3) pa_nil))))))))
      (pss_one (ps_ret (pv 1))))), ?_⟩
    walk_at "go"
    refine st_isSeq ha fun J S hJ hS => ?_
    refine lc_objs0 (rv_of hJ) (fun H' e => hS H' (seqAt_same e ha)) (by omega) (fun x => rowO [x]) ?_ ?_
    · intro x H' hx e B h2
      refine ⟨rfl, ?_⟩
      walk_at "go"
      rename_i q H2 n2 e2 v2
      exact h2 q H2 n2 e2 v2
    intro D H1 ts nD e1 vD oD ndD hDn fD
    walk_at "go"
    rename_i F H2 nF e2 vF
    have e12 := e1.trans e2
    have v12 := e2.get vD
    have nF0 : H F = none := Ex.free e1 nF
    have hDF : D ≠ F := fun z => by rw [← z, vD] at nF; cases nF
    have hid0 : Ex H2 (hid F H2) → True := fun _ => trivial
    have eH1 : Ex H1 (hid F H2) := fun b o _ h => hid_get (e2.get h) (fun z => by rw [z, nF] at h; cases h)
    have oD' : ObjsAt H1 ts ((ones l).map rowO) := by
      have : (ones l).map rowO = l.map fun x => rowO [x] := by rw [ones, List.map_map]; rfl
      rw [this]
      exact oD
    have nD0 : H D = none := nD
    have eN : ∀ {G : Hp} {a : Addr} {o : HO}, G a = some o → H a = none → newO H G a = some o := fun h n => newO_get h n
    have G0 : FlG (newO H (hid F H2)) [D] [ones l] := ⟨rfl, fun j q hq => by
      cases j with
      | zero =>
        have : D = q := by simpa using hq
        subst this
        exact ⟨ts, ones l, rfl, newO_get (eH1.get vD) nD0, objs_in (fun b hb o h => newO_get h (fD b hb)) (oD'.ex eH1)⟩
      | succ j => simp at hq⟩
    have O0 : FlO l [ones l] := ⟨by simp, rfl, fun j bs cs _ h => by simp at h⟩
    refine while_inv (fun m σ H' => ∃ (qs : List Addr) (fs : List (List (List Nat))) (bs : List (List Nat)), H' F = some (.lst (qs.map V.ref)) ∧ Ex H (hid F H') ∧ FlG (newO H (hid F H')) qs fs ∧ FlO l fs ∧ fs[fs.length - 1]? = some bs ∧ m = bs.length ∧ ∃ y2 y3, σ = [some (.ref a), some (.ref F), y2, y3, none, none, none]) ⟨_, [D], [ones l], ones l, vF, e1.trans eH1, G0, O0, rfl, rfl, _, _, rfl⟩ ?_
    rintro m σ H3 ⟨qs, fs, bs, hF, eH, hG, hO, hbs, rfl, y2, y3, rfl⟩
    have hne := hO.ne
    have hql := hG.len
    obtain ⟨q, hq⟩ : ∃ q, qs[fs.length - 1]? = some q := ⟨qs[fs.length - 1]'(by omega), List.getElem?_eq_getElem _⟩
    obtain ⟨rs, bs', hb', hT0⟩ := hG.tb _ q hq
    have hT := hT0.ex (newO_ex H (hid F H3))
    have : bs' = bs := by rw [hb'] at hbs; exact Option.some.inj hbs
    subst this
    have hlst : atI (qs.map V.ref) (-1) = some (.ref q) := at_last (n := fs.length - 1) (by rw [List.length_map]; omega) (by rw [List.getElem?_map, hq]; rfl)
    have hqF : q ≠ F := fun z => by
      have := hT.at_
      rw [z] at this
      unfold hid at this
      rw [if_pos rfl] at this
      cases this
    have hq3 := (hid_ex F H3).get hT.at_
    have hrl := hT.len
    have hlen := hO.len _ _ hbs
    walk_at "go"
    refine st_ixL hF hlst ?_
    walk_at "go"
    rw [List.length_map, hrl]
    by_cases c1 : 1 < bs'.length
    rotate_left
    · rw [decide_eq_false (by omega)]
      refine wh_F rfl ?_
      walk_at "go"
      exact k F qs fs H3 (eH.trans (hid_ex F H3)) nF0 hF (hG.ex (newO_mono (hid_ex F H3))) hO fun bs2 h => by rw [hbs] at h; cases h; omega
    rw [decide_eq_true (by omega)]
    refine wh_T rfl ?_
    walk_at "go"
    refine st_ixL hF hlst ?_
    walk_at "go"
    refine st_evL (lstAt_sq (lst_of hq3)) ?_
    intro ev H4 n4 e4 v4
    walk_at "go"
    refine st_odL (lstAt_sq (lst_of (e4.get hq3))) ?_
    intro od H5 n5 e5 v5
    have v45 := e5.get v4
    walk_at "go"
    have hT5 := ((hT.ex (hid_ex F H3)).ex e4).ex e5
    have len1 : (evL (rs.map V.ref)).length = (bs'.length + 1) / 2 := by rw [evL_len, List.length_map, hrl]
    have len2 : (odL (rs.map V.ref)).length = bs'.length / 2 := by rw [odL_len, List.length_map, hrl]
    refine lc_mk (runs_zip K ev od _ _) (fun i x H H' h => by obtain ⟨_, _, _, _, _, h, _⟩ := h; exact h) (fun H' e => ⟨lst_of (e.get v45), lst_of (e.get v5)⟩) (by omega) (fun i o => ∃ c, o = rowO c ∧ ∀ (h2 : 2 * i + 1 < bs'.length), c.Perm (bs'[2 * i] ++ bs'[2 * i + 1]) ∧ (Up0 bs'[2 * i] → Up0 bs'[2 * i + 1] → Up0 c)) ?_ ?_ gTup_mono
    · rintro i x H6 H7 hi e6 ⟨T, v, u, rfl, nT, eT, vT, hv, hu⟩ B hB
      rw [len1, len2] at hi
      have hi2 : 2 * i + 1 < bs'.length := by omega
      obtain ⟨r1, hr1, hv1⟩ := (hT5.ex (e6.trans eT)).row (i := 2 * i) (by omega)
      obtain ⟨r2, hr2, hv2⟩ := (hT5.ex (e6.trans eT)).row (i := 2 * i + 1) hi2
      rw [evL_get, List.getElem?_map, hr1] at hv
      rw [odL_get, List.getElem?_map, hr2] at hu
      cases hv
      cases hu
      have q1 := (hO.blk hbs (List.getElem_mem (l := bs') (n := 2 * i) (by omega))).2
      have q2 := (hO.blk hbs (List.getElem_mem (l := bs') (n := 2 * i + 1) hi2)).2
      walk_at "go"
      refine ⟨rfl, ?_⟩
      walk_at "go"
      refine ⟨r1, r2, _, _, rfl, hv1, hv2, by omega, by omega, fun c r H8 e8 n8 v8 p8 u8 => ?_⟩
      exact hB r H8 _ n8 e8 v8 ⟨c, rfl, fun _ => ⟨p8, u8⟩⟩
    intro A H6 as os nA e6 vA oA hol hor hAn fA
    obtain ⟨cs, rfl, hcs⟩ := objs_choose hor
    rw [List.length_map, len1, len2] at hol
    have e36 : Ex H3 H6 := e4.trans (e5.trans e6)
    have nA3 : H3 A = none := Ex.free (e4.trans e5) nA
    have hFA : A ≠ F := fun z => by rw [z, hF] at nA3; cases nA3
    have e03 : Ex H H3 := eH.trans (hid_ex F H3)
    have nA0 : H A = none := Ex.free e03 nA3
    have asF : ∀ x ∈ as, x ≠ F ∧ H x = none := fun x hx => by
      have h1 := Ex.free (e4.trans e5) (fA x hx)
      refine ⟨fun z => ?_, Ex.free e03 h1⟩
      rw [z, hF] at h1
      cases h1
    have hal : as.length = cs.length := by rw [oA.len, List.length_map]
    walk_at "go"
    refine ⟨fun σ' H' => ∃ (as' : List Addr) (ds : List (List Nat)), Ex H3 H' ∧ H' A = some (.lst (as'.map V.ref)) ∧ ObjsAt H' as' (ds.map rowO) ∧ A ∉ as' ∧ (∀ x ∈ as', x ≠ F ∧ H x = none) ∧ NextF bs' ds ∧ σ' = [some (.ref a), some (.ref F), some (.ref q), some (.ref A), none, none, none], ?_, ?_⟩
    · have hq6 := e36.get hq3
      have twoI : ∀ i c, cs[i]? = some c → ∀ (h : 2 * i < bs'.length), (∀ (h2 : 2 * i + 1 < bs'.length), c.Perm (bs'[2 * i] ++ bs'[2 * i + 1]) ∧ (Up0 bs'[2 * i] → Up0 bs'[2 * i + 1] → Up0 c)) ∧ (¬ 2 * i + 1 < bs'.length → c = bs'[2 * i]) := fun i c hc h => ⟨fun h2 => hcs i c hc h2, fun h2 => by have := (List.getElem?_eq_some_iff.mp hc).1; omega⟩
      refine st_ifS ?_
      walk_at "go"
      rw [List.length_map, hrl]
      refine st_br2 (fun c2 => ?_) (fun c2 => ?_)
      · have hlast : bs'.length - 1 < bs'.length := by omega
        obtain ⟨r1, hr1, hv1⟩ := (hT5.ex e6).row hlast
        walk_at "go"
        refine st_ixL hq6 (at_last (n := bs'.length - 1) (by rw [List.length_map, hrl]; omega) (v := .ref r1) (by rw [List.getElem?_map, hr1]; rfl)) ?_
        walk_at "go"
        rename_i r2 H7 n7 e7 v7
        have vA7 := e7.get vA
        refine st_app vA7 (by rw [List.length_map]; omega) ?_
        have hrA : r2 ≠ A := fun z => by rw [z, vA] at n7; cases n7
        refine ⟨as ++ [r2], cs ++ [bs'[bs'.length - 1]], (e36.trans e7).mut nA3, by rw [upd_same, List.map_append]; rfl, ?_, ?_, ?_, ⟨?_, ?_⟩, rfl⟩
        · rw [List.map_append]
          refine ObjsAt.app ((oA.ex e7).up hAn) (.one ?_)
          rw [upd_ne hrA]
          exact v7
        · rw [List.mem_append, List.mem_singleton]
          rintro (z | z)
          · exact hAn z
          · exact hrA z.symm
        · intro x hx
          rcases List.mem_append.mp hx with z | z
          · exact asF x z
          · rw [List.mem_singleton.mp z]
            refine ⟨fun z2 => ?_, Ex.free (e03.trans e36) n7⟩
            rw [z2, e36.get hF] at n7
            cases n7
        · rw [List.length_append, List.length_singleton]; omega
        · intro i c hc h
          by_cases hi : i < cs.length
          · rw [List.getElem?_append_left hi] at hc
            exact twoI i c hc h
          · rw [List.getElem?_append_right (by omega)] at hc
            have hi0 : i - cs.length = 0 := by
              have := (List.getElem?_eq_some_iff.mp hc).1
              rw [List.length_singleton] at this
              omega
            rw [hi0] at hc
            cases hc
            have hb : bs'.length - 1 = 2 * i := by omega
            exact ⟨fun h2 => by omega, fun _ => by simp only [hb]⟩
      · walk_at "go"
        exact ⟨as, cs, e36, vA, oA, hAn, asF, ⟨by omega, twoI⟩, rfl⟩
    rintro σ' H7 ⟨as', ds, e37, vA7, oA7, hAn7, asF7, hN, rfl⟩
    have hF7 := e37.get hF
    walk_at "go"
    refine st_app hF7 (by rw [List.length_map]; omega) ?_
    have hh : hid F (upd H7 F (.lst (qs.map V.ref ++ [V.ref A]))) = hid F H7 := by
      funext b
      unfold hid
      by_cases h : b = F
      · rw [if_pos h, if_pos h]
      · rw [if_neg h, if_neg h, upd_ne h]
    have eh : Ex (hid F H3) (hid F H7) := hid_frp (Fr.ex e37)
    have hTA : Tbl (newO H (hid F H7)) A as' ds := ⟨newO_get (hid_get vA7 hFA) nA0, objs_in (fun b hb o h => newO_get h (asF7 b hb).2) (ObjsAt.ex' (fun x hx => (asF7 x hx).1) oA7)⟩
    refine ⟨ds.length, by have := hN.len; omega, qs ++ [A], fs ++ [ds], ds, by rw [upd_same, List.map_append]; rfl, by rw [hh]; exact eH.trans eh, ?_, ⟨?_, ?_, ?_⟩, ?_, rfl, _, _, rfl⟩
    · rw [hh]
      refine ⟨by rw [List.length_append, List.length_append, hql]; rfl, fun j q' hq' => ?_⟩
      by_cases hj : j < qs.length
      · rw [List.getElem?_append_left hj] at hq'
        obtain ⟨rs2, bs2, g1, g2⟩ := hG.tb j q' hq'
        exact ⟨rs2, bs2, by rw [List.getElem?_append_left (by omega)]; exact g1, g2.ex (newO_mono eh)⟩
      · rw [List.getElem?_append_right (by omega)] at hq'
        have hj0 : j - qs.length = 0 := by
          have := (List.getElem?_eq_some_iff.mp hq').1
          rw [List.length_singleton] at this
          omega
        rw [hj0] at hq'
        cases hq'
        exact ⟨as', ds, by rw [List.getElem?_append_right (by omega), show j - fs.length = 0 by omega]; rfl, hTA⟩
    · rw [List.length_append]; omega
    · rw [List.getElem?_append_left hne]; exact hO.fst
    · intro j b1 c1' h1 h2
      by_cases hj : j + 1 < fs.length
      · rw [List.getElem?_append_left (by omega)] at h1
        rw [List.getElem?_append_left hj] at h2
        exact hO.nxt j b1 c1' h1 h2
      · have hj2 : j + 1 = fs.length := by
          have := (List.getElem?_eq_some_iff.mp h2).1
          rw [List.length_append, List.length_singleton] at this
          omega
        rw [List.getElem?_append_left (by omega), show j = fs.length - 1 by omega, hbs] at h1
        rw [List.getElem?_append_right (by omega), show j + 1 - fs.length = 0 by omega] at h2
        cases h1
        cases h2
        exact ⟨by omega, hN⟩
    · rw [List.length_append, List.length_singleton, Nat.add_sub_cancel, List.getElem?_append_right (Nat.le_refl _), Nat.sub_self]
      rfl
def sp_lesser : Sp := fun vs H Q _ => ∃ (p : Addr) (b : List Nat) (e : Nat), vs = [.ref p, .int (e : Nat)] ∧ H p = some (.lst (b.map nV)) ∧ Up0 b ∧ b.length ≤ 1000 ∧ Q (.int (b.countP (· < e) : Nat)) H
theorem ok_lesser (T : Tx K mg ad fd tk base tc) : FnOk P w K mg base CX0 1 (ad 16) (fd 16) ["block", "end"] sp_lesser := by
  refine T.d_lesser.F.ok sc_lesser (fun vs H Q E h => ?_) (fun cdv A outer s H vs Q E hr h => ?_)
  · obtain ⟨p, b, e, rfl, _⟩ := h
    rfl
  · obtain ⟨p, b, e, rfl, hp, hu, hl, k⟩ := h
    refine ⟨_, (pss_cons (ps_set (i := 2) sc_lesser.nd rfl (Or.inl rfl) pe_int)
      (pss_cons (ps_set (i := 3) sc_lesser.nd rfl (Or.inl rfl) (pe_callB (c_len (K := K)) (by rfl) T.b_len (by decide +kernel) (pa_cons (pv 0) pa_nil)))
      (pss_cons (ps_while PassesOwn.never (pt_cmpR o_lt (pv 2) (pv 3) (nomark _)) (pss_cons (ps_set (i := 4) sc_lesser.nd rfl (Or.inl rfl) (pe_op o_div (pe_op o_add (pv 2) (pv 3)) pe_int))
      (pss_one (ps_if (pt_cmpR o_lt (pe_ix (i_ix (K := K)) (pv 0) (pv 4) (fun _ _ => rfl)) (pv 1) (nomark _)) (pss_one (ps_set (i := 2) sc_lesser.nd rfl (Or.inl rfl) (pe_op o_add (pv 4) pe_int))) (pss_one (ps_set (i := 3) sc_lesser.nd rfl (Or.inl rfl) (pv 4)))))))
      (pss_one (ps_ret (pv 2)))))), ?_⟩
    walk_at "go"
    rw [List.length_map]
    refine while_inv (fun m σ H' => H' = H ∧ ∃ (lo hi : Nat), m = hi - lo ∧ lo ≤ hi ∧ hi ≤ b.length ∧ (∀ i, i < lo → gT b i < e) ∧ (∀ i, hi ≤ i → i < b.length → e ≤ gT b i) ∧ ∃ y, σ = [some (.ref p), some (.int (e : Nat)), some (.int (lo : Nat)), some (.int (hi : Nat)), y]) ⟨b.length, rfl, 0, b.length, rfl, Nat.zero_le _, Nat.le_refl _, fun i h => absurd h (Nat.not_lt_zero _), fun i h1 h2 => by omega, _, rfl⟩ ?_
    rintro m σ H1 ⟨rfl, lo, hi, rfl, h1, h2, h3, h4, y, rfl⟩
    walk_at "go"
    by_cases q : lo < hi
    rotate_left
    · rw [decide_eq_false (by omega)]
      refine wh_F rfl ?_
      have : lo = hi := by omega
      subst this
      rw [count_cut h2 h3 h4] at k
      walk_at "go"
      exact k
    rw [decide_eq_true (by omega)]
    refine wh_T rfl ?_
    walk_at "go"
    obtain ⟨a, ha⟩ : ∃ a : Nat, (((lo : Nat) : Int) + (hi : Nat)) / 2 = (a : Nat) := ⟨(lo + hi) / 2, by omega⟩
    rw [ha]
    have ha2 : lo ≤ a ∧ a < hi := by omega
    refine st_ixL hp (at_nV (by omega)) ?_
    unfold nV
    walk_at "go"
    refine st_br2 (fun c => ?_) (fun c => ?_)
    · walk_at "go"
      refine ⟨hi - (a + 1), by omega, rfl, a + 1, hi, rfl, by omega, h2, fun i hi2 => ?_, h4, some (.int (a : Nat)), ?_⟩
      · have := up_le hu (i := i) (j := a) (by omega) (by omega)
        omega
      · rw [show ((a + 1 : Nat) : Int) = ((a : Nat) : Int) + 1 by omega]
        rfl
    · walk_at "go"
      refine ⟨a - lo, by omega, rfl, lo, a, rfl, ha2.1, by omega, h3, fun i h5 h6 => ?_, _, rfl⟩
      have := up_le hu (i := a) (j := i) h5 h6
      omega
def TalAt (K : PySem.W.Frag) (H : Hp) (p : Addr) (l : List Nat) : Prop := ∃ (dx fa : Addr) (qs : List Addr) (fs : List (List (List Nat))), H p = some (.ins (clsA K "Tally") dx [("many", .int (l.length : Nat)), ("floors", .ref fa)]) ∧ H fa = some (.lst (qs.map V.ref)) ∧ FlG H qs fs ∧ FlO l fs ∧ (∀ bs, fs[fs.length - 1]? = some bs → bs.length ≤ 1) ∧ IsT l ∧ l.length ≤ 96
theorem TalAt.ex {K : PySem.W.Frag} {H H' : Hp} {p : Addr} {l : List Nat} (h : TalAt K H p l) (e : Ex H H') : TalAt K H' p l := by
  obtain ⟨dx, fa, qs, fs, h1, h2, h3, h4, h5⟩ := h
  exact ⟨dx, fa, qs, fs, e.get h1, e.get h2, h3.ex e, h4, h5⟩
def AsksAt (K : PySem.W.Frag) (H : Hp) (p : Addr) (l : List Nat) (m : Nat) : Prop := ∃ (dx tp ga sa : Addr), H p = some (.ins (clsA K "Asks") dx [("tall", .int (m : Nat)), ("wide", .int ((l.length - m : Nat) : Nat)), ("tally", .ref tp), ("goals", .ref ga), ("starts", .ref sa)]) ∧ TalAt K H tp l ∧ H ga = some (.lst (l.map nV)) ∧ H sa = some (.lst ((invT l).map nV)) ∧ IsT l ∧ l.length ≤ 96 ∧ m ≤ l.length
theorem AsksAt.ex {K : PySem.W.Frag} {H H' : Hp} {p : Addr} {l : List Nat} {m : Nat} (h : AsksAt K H p l m) (e : Ex H H') : AsksAt K H' p l m := by
  obtain ⟨dx, tp, ga, sa, h1, h2, h3, h4, h5⟩ := h
  exact ⟨dx, tp, ga, sa, e.get h1, h2.ex e, e.get h3, e.get h4, h5⟩
/-- how long a window is -/
def winV (l : List Nat) (m f la b e : Nat) : Int := ((e : Nat) : Int) - (b : Nat) - (cntT l (m - f + b) (m - la + e) : Nat)
structure WinOk (m w f la b e : Nat) : Prop where
  h1 : f ≤ la
  h2 : la ≤ m
  h3 : b ≤ e
  h4 : e ≤ w
  h5 : f = 0 ∨ b = 0
  h6 : la = m ∨ e = w
def sp_need_window (K : PySem.W.Frag) : Sp := fun vs H Q E => ∃ (t : Addr) (m w f la b e : Nat), vs = [.int (m : Nat), .int (w : Nat), .ref t] ∧ H t = some (.tup [.int (f : Nat), .int (la : Nat), .int (b : Nat), .int (e : Nat)]) ∧ WinOk m w f la b e ∧ Q .non H
theorem use_span {K : PySem.W.Frag} {G : Hp} {i j m : Nat} {Q : VK} {E : XK} (h1 : i ≤ j) (h2 : j ≤ m) (kk : Q .non G) : sp_need_span K [.int (i : Nat), .int (j : Nat), .int (m : Nat)] G Q E :=
  ⟨_, _, _, rfl, ⟨_, rfl⟩, ⟨_, rfl⟩, (fun h => by rw [nat_span h1 h2] at h; cases h), fun _ => kk⟩
theorem ok_need_window (T : Tx K mg ad fd tk base tc) : FnOk P w K mg base CX0 4 (ad 17) (fd 17) ["tall", "wide", "spans"] (sp_need_window K) := by
  refine T.d_need_window.F.ok sc_need_window (fun vs H Q E h => ?_) (fun cdv A outer s H vs Q E hr h => ?_)
  · obtain ⟨t, m, w, f, la, b, e, rfl, _⟩ := h
    rfl
  · obtain ⟨t, m, w, f, la, b, e, rfl, ht, hk, k⟩ := h
    refine ⟨_, (pss_cons (ps_asg (pv 2) (pg_tup rfl (pgs_cons (pg_name (i := 3) sc_need_window.nd rfl (Or.inl rfl)) (pgs_cons (pg_name (i := 4) sc_need_window.nd rfl (Or.inl rfl)) (pgs_cons (pg_name (i := 5) sc_need_window.nd rfl (Or.inl rfl)) (pgs_cons (pg_name (i := 6) sc_need_window.nd rfl (Or.inl rfl)) pgs_nil))))))
      (pss_cons (ps_expr (pe_call (ok_need_span T) (hr.mono (by decide)) rfl T.d_need_span.g T.d_need_span.F.kp T.d_need_span.b .nil passL (pa_cons (pv 3) (pa_cons (pv 4) (pa_cons (pv 0) pa_nil)))))
      (pss_cons (ps_expr (pe_call (ok_need_span T) (hr.mono (by decide)) rfl T.d_need_span.g T.d_need_span.F.kp T.d_need_span.b .nil passL (pa_cons (pv 5) (pa_cons (pv 6) (pa_cons (pv 1) pa_nil)))))
      (pss_cons (ps_set (i := 7) sc_need_window.nd rfl (Or.inl rfl) (pe_or (pe_cmpR (o_eq hr.units) (pv 3) pe_int (nomark _)) (pe_one (pe_cmpR (o_eq hr.units) (pv 5) pe_int (nomark _)))))
      (pss_cons (ps_set (i := 8) sc_need_window.nd rfl (Or.inl rfl) (pe_or (pe_cmpR (o_eq hr.units) (pv 4) (pv 0) (nomark _)) (pe_one (pe_cmpR (o_eq hr.units) (pv 6) (pv 1) (nomark _)))))
      (pss_one (ps_if (PW.pt (pw_or (pt_not (pt_tru (pv 7) (by intro _; rfl) (K := K))) (pw_or1 (pt_not (pt_tru (pv 8) (by intro _; rfl) (K := K)))))) (pss_one ps_never) pss_nil))))))), ?_⟩
    obtain ⟨h1, h2, h3, h4, h5, h6⟩ := hk
    walk_at "go"
    refine use_span h1 h2 ?_
    walk_at "go"
    refine use_span h3 h4 ?_
    walk_at "go"
    by_cases q1 : f = 0
    · rw [decide_eq_true (by omega)]
      walk_at "go"
      by_cases q2 : la = m
      · rw [decide_eq_true (by omega)]
        walk_at "go"
        exact k
      · rw [decide_eq_false (by omega)]
        walk_at "go"
        rw [decide_eq_true (by omega)]
        walk_at "go"
        exact k
    · rw [decide_eq_false (by omega)]
      walk_at "go"
      by_cases q2 : la = m
      · rw [decide_eq_true (p := ((la : Nat) : Int) = (m : Nat)) (by omega)]
        walk_at "go"
        rw [decide_eq_true (p := ((b : Nat) : Int) = 0) (by omega)]
        walk_at "go"
        exact k
      · rw [decide_eq_false (p := ((la : Nat) : Int) = (m : Nat)) (by omega)]
        walk_at "go"
        rw [decide_eq_true (p := ((b : Nat) : Int) = 0) (by omega)]
        walk_at "go"
        rw [decide_eq_true (p := ((e : Nat) : Int) = (w : Nat)) (by omega)]
        walk_at "go"
        exact k
def sp_Tally_init (K : PySem.W.Frag) : Sp := fun vs H Q E => ∃ (p dx : Addr) (x : V) (d : PyData), vs = [.ref p, x] ∧ H p = some (.ins (clsA K "Tally") dx []) ∧ Rn H x d ∧ (¬ TurnD d → RaF K E H "NoTurning" [("found", x)]) ∧ (∀ l : List Nat, (d = .list (l.map encN) ∨ d = .tuple (l.map encN)) → IsT l → l.length ≤ 96 → ∀ H', Fr (fun b => b = p) H H' → (∀ G, (∀ b o, (H b = none ∨ b = p) → H' b = some o → G b = some o) → TalAt K G p l) → Q .non H')
theorem use_tally {K : PySem.W.Frag} {G : Hp} {p dx : Addr} {x : V} {d : PyData} {l : List Nat} {Q : VK} {E : XK} (hp : G p = some (.ins (clsA K "Tally") dx [])) (hx : Rn G x d) (hd : d = .list (l.map encN) ∨ d = .tuple (l.map encN)) (hl : IsT l) (hl2 : l.length ≤ 96)
    (kk : ∀ G', Fr (fun b => b = p) G G' → (∀ G2, (∀ b o, (G b = none ∨ b = p) → G' b = some o → G2 b = some o) → TalAt K G2 p l) → Q .non G') : sp_Tally_init K [.ref p, x] G Q E :=
  ⟨p, dx, x, d, rfl, hp, hx, fun h => absurd ⟨l, hd, hl, hl2⟩ h, fun m hm _ _ => by
    have : m = l := by
      rcases hd with e | e <;> rcases hm with q | q <;> rw [e] at q
      · injection q with q; exact (encN_inj q).symm
      · cases q
      · cases q
      · injection q with q; exact (encN_inj q).symm
    subst this
    exact kk⟩
theorem ok_Tally_init (T : Tx K mg ad fd tk base tc) : FnOk P w K mg base (L2.CX P w) 5 (ad 18) (fd 18) ["self", "turning"] (sp_Tally_init K) := by
  refine T.d_Tally_init.F.okX sc_Tally_init (fun vs H Q E h => ?_) (fun cdv A outer s H vs Q E hr h => ?_)
  · obtain ⟨p, dx, x, d, rfl, _⟩ := h
    rfl
  · obtain ⟨p, dx, x, d, rfl, hp, hx, k0, k1⟩ := h
    refine ⟨_, (pss_cons (ps_expr (pe_call (ok_need_turning T) (hr.mono (by decide)) rfl T.d_need_turning.g T.d_need_turning.F.kp T.d_need_turning.b .nil (passes_call (takes_of rfl rfl rfl rfl) (fun _ _ _ _ h => h)) (pa_cons (pv 1) pa_nil)))
      (pss_cons (ps_fldK (K := K) (pv 0) (pe_callB (c_len (K := K)) (by rfl) T.b_len (by decide +kernel) (pa_cons (pv 1) pa_nil)) rfl)
      (pss_one (ps_fldK (K := K) (pv 0) (pe_call (ok_floors_of T) (hr.mono (by decide)) rfl T.d_floors_of.g T.d_floors_of.F.kp T.d_floors_of.b .nil pass0 (pa_cons (pv 1) pa_nil)) rfl)))), ?_⟩
    walk_at "go"
    refine ⟨x, d, rfl, hx, k0, fun hT H1 e1 => ?_⟩
    obtain ⟨l, hd, hl, hl2⟩ := hT
    have k2 := k1 l hd hl hl2
    obtain ⟨a, rfl, hs⟩ := TurnD.seq hx hd
    have hs1 := seqAt_ex e1 hs
    have hp1 := e1.get hp
    clear k0 k1
    have hpa : a ≠ p := fun z => by
      unfold seqAt at hs
      rw [z, hp] at hs
      cases hs
    walk_at "go"
    refine st_lenQ hs1 ?_
    rw [List.length_map]
    walk_at "go"
    rw [putF_nil]
    have v2 : upd H1 p (.ins (clsA K "Tally") dx [("many", .int (l.length : Nat))]) p = some (.ins (clsA K "Tally") dx [("many", .int (l.length : Nat))]) := upd_same
    have f2 : Fr (fun b => b = p) H (upd H1 p (.ins (clsA K "Tally") dx [("many", .int (l.length : Nat))])) := (Fr.ex e1).trans FrP.at
    have hs2 : seqAt (upd H1 p (.ins (clsA K "Tally") dx [("many", .int (l.length : Nat))])) a = some (l.map nV) := by
      unfold seqAt
      rw [upd_ne hpa]
      exact hs1
    generalize upd H1 p (.ins (clsA K "Tally") dx [("many", .int (l.length : Nat))]) = H2 at v2 f2 hs2 ⊢
    walk_at "go"
    refine ⟨a, l, rfl, hs2, hl2, fun fa qs fs H3 e3 n3 v3 g3 o3 z3 => ?_⟩
    have v23 := e3.get v2
    walk_at "go"
    rw [putF_ne (by decide +kernel), putF_nil]
    have nq : fa ≠ p := fun z => by rw [z, v2] at n3; cases n3
    have old : ∀ {c b : Addr}, (H c ≠ none ∨ c = p) → H2 b = none → b ≠ c := fun {c b} h nb z => by
      subst z
      rcases h with h | h
      · by_cases q : b = p
        · rw [q, v2] at nb; cases nb
        · cases hc : H b with
          | none => exact h hc
          | some o => rw [f2.get q hc] at nb; cases nb
      · rw [h, v2] at nb; cases nb
    have vfa : upd H3 p (.ins (clsA K "Tally") dx [("many", .int (l.length : Nat)), ("floors", .ref fa)]) fa = some (.lst (qs.map V.ref)) := by rw [upd_ne nq]; exact v3
    have nfa : H fa = none := by
      cases hc : H fa with
      | none => rfl
      | some o => exact absurd rfl (old (c := fa) (.inl (by rw [hc]; simp)) n3)
    refine k2 _ (f2.trans ((Fr.ex e3).trans FrP.at)) fun G hG => ?_
    refine ⟨dx, fa, qs, fs, hG p _ (.inr rfl) upd_same, hG fa _ (.inl nfa) vfa, g3.ex (newO_fr fun b o nb h => ?_), o3, z3, hl, hl2⟩
    have hbp := old (c := p) (.inr rfl) nb
    refine hG b o (.inl ?_) (by rw [upd_ne hbp]; exact h)
    cases hc : H b with
    | none => rfl
    | some o => exact absurd rfl (old (c := b) (.inl (by rw [hc]; simp)) nb)
def sp_Asks_init (K : PySem.W.Frag) : Sp := fun vs H Q E => ∃ (p dx : Addr) (x : V) (d : PyData) (l : List Nat) (m : Nat), vs = [.ref p, x, .int (m : Nat)] ∧ H p = some (.ins (clsA K "Asks") dx []) ∧ Rn H x d ∧ (d = .list (l.map encN) ∨ d = .tuple (l.map encN)) ∧ (IsT l ∧ l.length ≤ 96) ∧ m ≤ l.length ∧ ∀ H', Fr (fun b => b = p) H H' → (∀ G, (∀ b o, (H b = none ∨ b = p) → H' b = some o → G b = some o) → AsksAt K G p l m) → Q .non H'
theorem ok_Asks_init (T : Tx K mg ad fd tk base tc) : FnOk P w K mg base CX0 7 (ad 19) (fd 19) ["self", "lines", "many"] (sp_Asks_init K) := by
  refine T.d_Asks_init.F.ok sc_Asks_init (fun vs H Q E h => ?_) (fun cdv A outer s H vs Q E hr h => ?_)
  · obtain ⟨p, dx, x, d, l, m, rfl, _⟩ := h
    rfl
  · obtain ⟨p, dx, x, d, l, m, rfl, hp, hx, hd, hl, hm, k⟩ := h
    refine ⟨_, (pss_cons (ps_expr (pe_call (ok_need_turning T) (hr.mono (by decide)) rfl T.d_need_turning.g T.d_need_turning.F.kp T.d_need_turning.b .nil passL (pa_cons (pv 1) pa_nil)))
      (pss_cons (ps_expr (pe_call (ok_need_place T) (hr.mono (by decide)) rfl T.d_need_place.g T.d_need_place.F.kp T.d_need_place.b .nil passL (pa_cons (pv 2) (pa_cons (pe_callB (c_len (K := K)) (by rfl) T.b_len (by decide +kernel) (pa_cons (pv 1) pa_nil)) pa_nil))))
      (pss_cons (ps_fldK (K := K) (pv 0) (pv 2) rfl)
      (pss_cons (ps_fldK (K := K) (pv 0) (pe_op o_sub (pe_callB (c_len (K := K)) (by rfl) T.b_len (by decide +kernel) (pa_cons (pv 1) pa_nil)) (pv 2)) rfl)
      (pss_cons (ps_fldK (K := K) (pv 0) (pe_make T.m_Tally (ok_Tally_init T) (hr.mono (by decide)) rfl T.mg_Tally T.d_Tally_init.b .nil passL (pa_cons (pv 1) pa_nil)) rfl)
      (pss_cons (ps_fldK (K := K) (pv 0) (pe_callTy (c_list rfl (K := K)) (by rfl) T.b_list (by decide +kernel) (pa_cons (pv 1) pa_nil)) rfl)
      (pss_one (ps_fldK (K := K) (pv 0) (pe_call (ok_opposite T) (hr.mono (by decide)) rfl T.d_opposite.g T.d_opposite.F.kp T.d_opposite.b .nil passL (pa_cons (pv 1) pa_nil)) rfl)))))))), ?_⟩
    obtain ⟨hl, hl2⟩ := hl
    have hTD : TurnD d := ⟨l, hd, hl, hl2⟩
    obtain ⟨a, rfl, hs⟩ := TurnD.seq hx hd
    have hpa : a ≠ p := fun z => by
      unfold seqAt at hs
      rw [z, hp] at hs
      cases hs
    walk_at "go"
    refine ⟨_, d, rfl, hx, fun h => absurd hTD h, fun _ H1 e1 => ?_⟩
    have hs1 := seqAt_ex e1 hs
    have hp1 := e1.get hp
    have hx1 := hx.ex e1
    walk_at "go"
    refine st_lenQ hs1 ?_
    rw [List.length_map]
    walk_at "go"
    refine ⟨_, _, rfl, ⟨_, rfl⟩, fun h => nat_no hm h, fun _ => ?_⟩
    walk_at "go"
    rw [putF_nil]
    -- from here on all but p stands; what is new is told by newO
    have hpx : ∀ {G : Hp}, Fr (fun b => b = p) H1 G → seqAt G a = some (l.map nV) := fun f => seqAt_eq hs1 (seqAt_same' f hpa hs1)
    have v2 : upd H1 p (.ins (clsA K "Asks") dx [("tall", .int (m : Nat))]) p = some (.ins (clsA K "Asks") dx [("tall", .int (m : Nat))]) := upd_same
    have f2 : Fr (fun b => b = p) H1 (upd H1 p (.ins (clsA K "Asks") dx [("tall", .int (m : Nat))])) := FrP.at
    generalize upd H1 p (.ins (clsA K "Asks") dx [("tall", .int (m : Nat))]) = H2 at v2 f2 ⊢
    walk_at "go"
    refine st_lenQ (hpx f2) ?_
    rw [List.length_map]
    walk_at "go"
    rw [putF_ne (by decide +kernel), putF_nil, show ((l.length : Nat) : Int) - (m : Nat) = ((l.length - m : Nat) : Int) by omega]
    have v3 : upd H2 p (.ins (clsA K "Asks") dx [("tall", .int (m : Nat)), ("wide", .int ((l.length - m : Nat) : Nat))]) p = some (.ins (clsA K "Asks") dx [("tall", .int (m : Nat)), ("wide", .int ((l.length - m : Nat) : Nat))]) := upd_same
    have f3 : Fr (fun b => b = p) H1 (upd H2 p (.ins (clsA K "Asks") dx [("tall", .int (m : Nat)), ("wide", .int ((l.length - m : Nat) : Nat))])) := f2.trans FrP.at
    generalize upd H2 p (.ins (clsA K "Asks") dx [("tall", .int (m : Nat)), ("wide", .int ((l.length - m : Nat) : Nat))]) = H3 at v3 f3 ⊢
    have hx3 : ∀ {G : Hp}, Fr (fun b => b = p) H1 G → Rn G (.ref a) d := fun {G} f => by
      rcases hd with rfl | rfl
      · obtain ⟨s, xs, e, h1, h2⟩ := hx1.listAt
        cases e
        rw [seq_l h1] at hs1
        rw [Option.some.inj hs1] at h1
        exact .lst (f.get hpa h1) (rnA_map (val := nV) (enc := encN) fun _ _ => .int _)
      · obtain ⟨s, xs, e, h1, h2⟩ := hx1.tupAt
        cases e
        rw [seq_t h1] at hs1
        rw [Option.some.inj hs1] at h1
        exact .tup (f.get hpa h1) (rnA_map (val := nV) (enc := encN) fun _ _ => .int _)
    walk_at "go"
    refine st_makeP fun tp dxt H4 ntp e4 v4 => ?_
    have f4 := f3.trans (Fr.ex e4)
    have v34 := e4.get v3
    have hpt : p ≠ tp := fun z => by rw [← z, v3] at ntp; cases ntp
    refine use_tally v4 (hx3 f4) hd hl hl2 fun H5 f5 tal => ?_
    refine ⟨rfl, ?_⟩
    have e35 : Ex H3 H5 := Ex.comp (M := fun b => b = tp) e4 f5 fun b hb => by rw [hb]; exact ntp
    have v5 := e35.get v3
    have f15 := f3.trans (Fr.ex e35)
    walk_at "go"
    rw [putF_ne (by decide +kernel), putF_ne (by decide +kernel), putF_nil]
    obtain ⟨o6, ho6⟩ : ∃ o6, o6 = HO.ins (clsA K "Asks") dx [("tall", .int (m : Nat)), ("wide", .int ((l.length - m : Nat) : Nat)), ("tally", .ref tp)] := ⟨_, rfl⟩
    rw [← ho6]
    have v6 : upd H5 p o6 p = some o6 := upd_same
    have f56 : Fr (fun b => b = p) H5 (upd H5 p o6) := FrP.at
    generalize upd H5 p o6 = H6 at v6 f56 ⊢
    subst ho6
    have f16 := f15.trans f56
    walk_at "go"
    refine st_listQ (hpx f16) ?_
    intro ga H7 nga e7 v7
    have v67 := e7.get v6
    have hpg : ga ≠ p := fun z => by rw [z, v6] at nga; cases nga
    walk_at "go"
    rw [putF_ne (by decide +kernel), putF_ne (by decide +kernel), putF_ne (by decide +kernel), putF_nil]
    obtain ⟨o8, ho8⟩ : ∃ o8, o8 = HO.ins (clsA K "Asks") dx [("tall", .int (m : Nat)), ("wide", .int ((l.length - m : Nat) : Nat)), ("tally", .ref tp), ("goals", .ref ga)] := ⟨_, rfl⟩
    rw [← ho8]
    have v8 : upd H7 p o8 p = some o8 := upd_same
    have f78 : Fr (fun b => b = p) H7 (upd H7 p o8) := FrP.at
    generalize upd H7 p o8 = H8 at v8 f78 ⊢
    subst ho8
    have f18 := (f16.trans (Fr.ex e7)).trans f78
    walk_at "go"
    refine ⟨_, d, rfl, hx3 f18, fun h => absurd hTD h, fun l' hl' _ _ sa H9 e9 n9 v9 => ?_⟩
    have hll : l' = l := by
      rcases hd with e | e <;> rcases hl' with q | q <;> rw [e] at q
      · injection q with q; exact (encN_inj q).symm
      · cases q
      · cases q
      · injection q with q; exact (encN_inj q).symm
    subst hll
    have v89 := e9.get v8
    have hps : sa ≠ p := fun z => by rw [z, v8] at n9; cases n9
    walk_at "go"
    rw [putF_ne (by decide +kernel), putF_ne (by decide +kernel), putF_ne (by decide +kernel), putF_ne (by decide +kernel), putF_nil]
    have fH1 : Fr (fun b => b = p) H H1 := Fr.ex e1
    refine k _ (((fH1.trans f18).trans (Fr.ex e9)).trans FrP.at) fun G hG => ?_
    -- what was free behind the start was free at the start
    have fr : ∀ {G' : Hp} {b : Addr}, Fr (fun b => b = p) H G' → G' p ≠ none → G' b = none → H b = none := fun {G' b} f hp' hb => by
      by_cases q : b = p
      · exact absurd (by rw [← q]; exact hb) hp'
      · exact f.free q hb
    have last : ∀ {b : Addr} {o : HO}, b ≠ p → H9 b = some o → H b = none → G b = some o := fun {b o} hb h n => hG b o (.inl n) (by rw [upd_ne hb]; exact h)
    have f59 : Fr (fun b => b = p) H5 H9 := ((f56.trans (Fr.ex e7)).trans f78).trans (Fr.ex e9)
    refine ⟨dx, tp, ga, sa, hG p _ (.inr rfl) upd_same, tal G fun b o hb h => ?_, last hpg ((f78.trans (Fr.ex e9)).get hpg v7) (fr (fH1.trans f16) (by rw [v6]; simp) nga), last hps v9 (fr (fH1.trans f18) (by rw [v8]; simp) n9), hl, hl2, hm⟩
    have hbp : b ≠ p := fun z => by
      rcases hb with q | q
      · rw [z, v34] at q; cases q
      · exact hpt (z.symm.trans q)
    refine last hbp (f59.get hbp h) ?_
    rcases hb with q | q
    · exact fr (fH1.trans f4) (by rw [v34]; simp) q
    · rw [q]
      exact fr (fH1.trans f3) (by rw [v3]; simp) ntp
def bR (s t : List Nat) (i j a b : Nat) : Bool := decide (s[i]? ≠ t[j]?) && decide (a < b)
/-- a board that is made -/
structure BrdAt (K : PySem.W.Frag) (H : Hp) (p : Addr) (s t : Str) : Prop where
  ex : ∃ dx me sg go, H p = some (.ins (clsA K "Board") dx [("left_row", .str s), ("upper_row", .str t), ("meetings", .ref me), ("signs", .ref sg), ("goals", .ref go)]) ∧ LedAt H me sg go (bR s.cps.toList t.cps.toList) s.length t.length
theorem tabs_fr {T : List (Addr × Str)} {H H' : Hp} {p C dx : Addr} {fs : List (Str × V)} (t : LamX.Tabs T H) (e : FrP p H H') (hp : H p = some (.ins C dx fs)) : LamX.Tabs T H' := fun q hq => by
  obtain ⟨ps, h1, h2, h3⟩ := t q hq
  refine ⟨ps, e.get (fun z => by rw [z, hp] at h1; cases h1) h1, h2, fun pos cv hc => ?_⟩
  obtain ⟨c, e1, e2⟩ := h3 pos cv hc
  exact ⟨c, e1, e.get (fun z => by rw [z, hp] at e2; unfold CodeO at e2; cases e2) e2⟩
theorem LedAt.frp {H H' : Hp} {p C dx : Addr} {fs : List (Str × V)} {me sg go : Addr} {r : Nat → Nat → Nat → Nat → Bool} {m n : Nat} (h : LedAt H me sg go r m n) (e : FrP p H H') (hp : H p = some (.ins C dx fs)) : LedAt H' me sg go r m n := by
  have nl : ∀ {b : Addr} {xs : List V}, H b = some (.lst xs) → ¬ b = p := fun h z => by rw [z, hp] at h; cases h
  have nt : ∀ {b : Addr} {xs : List V}, H b = some (.tup xs) → ¬ b = p := fun h z => by rw [z, hp] at h; cases h
  obtain ⟨rs, h1, h2, h3⟩ := h.me
  refine ⟨e.get (nl h.go) h.go, e.get (nl h.sg) h.sg, rs, e.get (nl h1) h1, h2, fun i row hr => ?_⟩
  obtain ⟨zs, a, b, c⟩ := h3 i row hr
  exact ⟨zs, e.get (nl a) a, fun z hz => e.get (nt (b z hz)) (b z hz), c⟩
def sp_Board_init (K : PySem.W.Frag) (TL : List (Addr × Str)) : Sp := fun vs H Q E => ∃ (p dx : Addr) (x y : V), vs = [.ref p, x, y] ∧ H p = some (.ins (clsA K "Board") dx []) ∧ LamX.Tabs TL H ∧ Rows2 K E H x y fun s t => ∀ H', Fr (fun b => b = p) (noT H) H' → LamX.Tabs TL H' → BrdAt K H' p s t → Q .non H'
theorem ok_Board_init (T : Tx K mg ad fd tk base tc) : FnOk P w K mg base (L2.CX P w) 5 (ad 20) (fd 20) ["self", "side", "top"] (sp_Board_init K (tabsL tc)) := by
  refine T.fc_Board_init.okX sc_Board_init (fun vs H Q E h => ?_) (fun A outer s H vs Q E hr h => ?_)
  · obtain ⟨p, dx, x, y, rfl, _⟩ := h
    rfl
  · obtain ⟨p, dx, x, y, rfl, hp, hT, hR⟩ := h
    refine ⟨_, (pss_cons (ps_expr (pe_call (ok_need_rows T) (hr.mono (by decide)) rfl T.d_need_rows.g T.d_need_rows.F.kp T.d_need_rows.b .nil (passes_call (takes_of rfl rfl rfl rfl) (fun _ _ _ _ h => h)) (pa_cons (pv 1) (pa_cons (pv 2) pa_nil))))
      (pss_cons (ps_fldK (K := K) (pv 0) (pv 1) rfl)
      (pss_cons (ps_fldK (K := K) (pv 0) (pv 2) rfl)
      (pss_cons (ps_set (i := 3) sc_Board_init.nd rfl (Or.inl rfl) (pe_lamb (T := tabsL tc) (params := lamA L_Board_init) (body := lamB L_Board_init) (scope := lamSc L_Board_init) T.tb_Board_init rfl tabs_m_Board_init (tabs_u_Board_init T) rfl (ndef_free (fr := ["side", "top"]) ndf_Board_init)))
      (pss_cons (ps_asg (pe_callCb (mk := fun c => ⟨q_Board_init, lamA L_Board_init, lamB L_Board_init, lamSc L_Board_init, cloFrom _ (lamSc L_Board_init).names [], c⟩) (js := [1, 2]) (ok_led T) (fun _ _ => lok_t (k := 0) (N := ["row", "column", "across", "above", "side", "top"]) (ps := ["row", "column", "across", "above"]) (fr := ["side", "top"]) (nscope_by nsc_Board_init) (fun _ _ us hl => match us, hl with | [_, _, _, _], _ => rfl) (fun _ _ _ _ hr => (pe_and (pe_cmpR (o_ne hr.units) (pe_ix (i_ix (K := K)) (pv 4) (pv 0) (fun _ _ => rfl)) (pe_ix (i_ix (K := K)) (pv 5) (pv 1) (fun _ _ => rfl)) (nomark _)) (pe_one (pe_cmpR o_lt (pv 2) (pv 3) (nomark _)))))) (fun _ => rfl) (fun ok => Caps.made (scope := lamSc L_Board_init) ok (ndef_free (fr := ["side", "top"]) ndf_Board_init) (ndef_fr (fr := ["side", "top"]) ndf_Board_init) rfl) (hr.mono (by decide)) rfl T.d_led.g T.d_led.F.kp T.d_led.b (pa_cons (pe_callB (c_len (K := K)) (by rfl) T.b_len (by decide +kernel) (pa_cons (pv 1) pa_nil)) (pa_cons (pe_callB (c_len (K := K)) (by rfl) T.b_len (by decide +kernel) (pa_cons (pv 2) pa_nil)) (pa_cons (pv 3) pa_nil)))) (pg_tup rfl (pgs_cons (pg_name (i := 4) sc_Board_init.nd rfl (Or.inl rfl)) (pgs_cons (pg_name (i := 5) sc_Board_init.nd rfl (Or.inl rfl)) (pgs_cons (pg_name (i := 6) sc_Board_init.nd rfl (Or.inl rfl)) pgs_nil)))))
      (pss_cons (ps_fldK (K := K) (pv 0) (pv 4) rfl)
      (pss_cons (ps_fldK (K := K) (pv 0) (pv 5) rfl)
      (pss_one (ps_fldK (K := K) (pv 0) (pv 6) rfl))))))))), ?_⟩
    walk_at "go"
    refine ⟨x, y, rfl, hR.imp fun s t ex ey hs ht k H1 e1 => ?_⟩
    subst ex ey
    have hs1 := hs.len
    have ht1 := ht.len
    have hsl : s.cps.toList.length = s.length := Array.length_toList
    have htl : t.cps.toList.length = t.length := Array.length_toList
    have hp1 := e1.get hp
    have hT1 : LamX.Tabs (tabsL tc) H1 := hT.ext fun b o h => e1.get h
    walk_at "go"
    rw [putF_nil, putF_ne (by decide +kernel), putF_nil]
    have v2 : upd (upd H1 p (.ins (clsA K "Board") dx [("left_row", .str s)])) p (.ins (clsA K "Board") dx [("left_row", .str s), ("upper_row", .str t)]) p = some (.ins (clsA K "Board") dx [("left_row", .str s), ("upper_row", .str t)]) := upd_same
    have f2 : FrP p H1 (upd (upd H1 p (.ins (clsA K "Board") dx [("left_row", .str s)])) p (.ins (clsA K "Board") dx [("left_row", .str s), ("upper_row", .str t)])) := FrP.at.trans FrP.at
    generalize upd (upd H1 p (.ins (clsA K "Board") dx [("left_row", .str s)])) p (.ins (clsA K "Board") dx [("left_row", .str s), ("upper_row", .str t)]) = H2 at v2 f2 ⊢
    have hT2 := tabs_fr hT1 f2 hp1
    refine st_lamb hT2 fun fl c' H3 e3 nn3 hT3 n3 l3 c3 => ?_
    have v3 := e3.get v2
    walk_at "go"
    have hc3 := hT3
    refine ⟨fl, c', s.length, t.length, rfl, l3, c3, by omega, by omega, bR s.cps.toList t.cps.toList, ?_, ?_⟩
    · intro i j a b H' Q' hi hj ha hb e q
      refine ⟨rfl, ?_⟩
      have g1 := List.getElem?_eq_getElem (l := s.cps.toList) (i := i) (by omega)
      have g2 := List.getElem?_eq_getElem (l := t.cps.toList) (i := j) (by omega)
      walk_at "go"
      refine st_sign (by omega) (at_nat g1) ?_
      walk_at "go"
      refine st_sign (by omega) (at_nat g2) ?_
      walk_at "go"
      by_cases hq : s.cps.toList[i]'(by omega) = t.cps.toList[j]'(by omega)
      · rw [if_neg (by rw [hq]; simp)]
        have : bR s.cps.toList t.cps.toList i j a b = false := by
          unfold bR
          rw [g1, g2, hq]
          simp
        rw [← this]
        exact q
      · rw [if_pos (by simp only [tx_inj, List.cons.injEq, and_true, hq, decide_false, Bool.not_false])]
        walk_at "go"
        have : bR s.cps.toList t.cps.toList i j a b = decide ((a : Int) < (b : Int)) := by
          unfold bR
          have z : ¬ (some (s.cps.toList[i]'(by omega)) = some (t.cps.toList[j]'(by omega))) := fun e => hq (Option.some.inj e)
          rw [g1, g2, decide_eq_true (p := _ ≠ _) z, Bool.true_and]
          simp
        rw [← this]
        exact q
    intro t4 me sg go H4 e4 n4 v4 hL
    walk_at "go"
    rw [putF_ne (by decide +kernel), putF_ne (by decide +kernel), putF_nil, putF_ne (by decide +kernel), putF_ne (by decide +kernel), putF_ne (by decide +kernel), putF_nil, putF_ne (by decide +kernel), putF_ne (by decide +kernel), putF_ne (by decide +kernel), putF_ne (by decide +kernel), putF_nil]
    have v5 : H4 p = _ := e4.get v3
    have f3 : Fr (fun b => b = p) (noT H) H3 := fun b o n h => e3 b o (f2 b o n (e1 b o (fun z => z) (noT_of h).1)) (noT_of h).2
    refine k _ ((f3.trans (Fr.ex e4)).trans ((FrP.at.trans FrP.at).trans FrP.at)) (tabs_fr (hT3.ext fun b o h => e4.get h) ((FrP.at.trans FrP.at).trans FrP.at) v5) ⟨dx, me, sg, go, upd_same, hL.frp ((FrP.at.trans FrP.at).trans FrP.at) v5⟩
theorem invT_one {m n : Nat} {r : Nat → Nat → Nat → Nat → Bool} : IsT (invT (ledE r m n)) := (ledE_T r m n).inv
/-- where each line ends -/
def brdL (s t : Str) : List Nat := invT (ledE (bR s.cps.toList t.cps.toList) s.length t.length)
theorem brdL_len (s t : Str) : (brdL s t).length = s.length + t.length := by unfold brdL; rw [invT_len, ledE_len]
theorem brdL_T (s t : Str) : IsT (brdL s t) := invT_one
def sp_Board_lines (K : PySem.W.Frag) : Sp := fun vs H Q E => ∃ (p : Addr) (s t : Str), vs = [.ref p] ∧ BrdAt K H p s t ∧ ∀ D H', Ex H H' → H D = none → H' D = some (.lst ((brdL s t).map nV)) → Q (.ref D) H'
theorem ok_Board_lines (T : Tx K mg ad fd tk base tc) : FnOk P w K mg base CX0 1 (ad 21) (fd 21) ["self"] (sp_Board_lines K) := by
  refine T.d_Board_lines.F.ok sc_Board_lines (fun vs H Q E h => ?_) (fun cdv A outer s H vs Q E hr h => ?_)
  · obtain ⟨p, s, t, rfl, _⟩ := h
    rfl
  · obtain ⟨p, s, t, rfl, hp, k⟩ := h
    refine ⟨_, (pss_one (ps_ret (pe_callTy (c_list rfl (K := K)) (by rfl) T.b_list (by decide +kernel) (pa_cons (pe_fldK (K := K) (pv 0) rfl) pa_nil)))), ?_⟩
    obtain ⟨dx, me, sg, go, g1, g2⟩ := hp.ex
    have g3 := g2.go
    walk_at "go"
    rename_i D H1 n1 e1 v1
    exact k D H1 e1 n1 v1
/-- the length of the longest thread of the first i signs of s and the first j of t -/
def Lc (s t : List Nat) : Nat → Nat → Nat
  | 0, _ => 0
  | _ + 1, 0 => 0
  | i + 1, j + 1 => if s[i]? = t[j]? then Lc s t i j + 1 else max (Lc s t i (j + 1)) (Lc s t (i + 1) j)
termination_by i j => i + j
theorem Lc_i0 (s t : List Nat) (j : Nat) : Lc s t 0 j = 0 := by unfold Lc; rfl
theorem Lc_j0 (s t : List Nat) (i : Nat) : Lc s t i 0 = 0 := by cases i <;> (unfold Lc; rfl)
theorem Lc_ss (s t : List Nat) (i j : Nat) : Lc s t (i + 1) (j + 1) = if s[i]? = t[j]? then Lc s t i j + 1 else max (Lc s t i (j + 1)) (Lc s t (i + 1) j) := by
  rw [Lc]
theorem Lc_near (s t : List Nat) : ∀ n i j : Nat, i + j ≤ n → (Lc s t i j ≤ Lc s t (i + 1) j ∧ Lc s t (i + 1) j ≤ Lc s t i j + 1) ∧ Lc s t i j ≤ Lc s t i (j + 1) ∧ Lc s t i (j + 1) ≤ Lc s t i j + 1
  | 0, i, j, h => by
    obtain ⟨rfl, rfl⟩ : i = 0 ∧ j = 0 := by omega
    simp [Lc_i0, Lc_j0]
  | n + 1, i, j, h => by
    have hv : Lc s t i j ≤ Lc s t (i + 1) j ∧ Lc s t (i + 1) j ≤ Lc s t i j + 1 := by
      cases j with
      | zero => simp [Lc_j0]
      | succ j =>
        have ih := Lc_near s t n i j (by omega)
        rw [Lc_ss]
        split <;> omega
    have hh : Lc s t i j ≤ Lc s t i (j + 1) ∧ Lc s t i (j + 1) ≤ Lc s t i j + 1 := by
      cases i with
      | zero => simp [Lc_i0]
      | succ i =>
        have ih := Lc_near s t n i j (by omega)
        rw [Lc_ss]
        split <;> omega
    exact ⟨hv, hh⟩
theorem Lc_up1 (s t : List Nat) (i j : Nat) : Lc s t (i + 1) j ≤ Lc s t i j + 1 := (Lc_near s t _ i j (Nat.le_refl _)).1.2
theorem Lc_ri1 (s t : List Nat) (i j : Nat) : Lc s t i (j + 1) ≤ Lc s t i j + 1 := (Lc_near s t _ i j (Nat.le_refl _)).2.2
/-- a new list of new lists, all of them apart -/
structure TabAt (H0 H : Hp) (p : Addr) (rs : List Addr) (row : Nat → List V) : Prop where
  new : H0 p = none
  at_ : H p = some (.lst (rs.map V.ref))
  non : p ∉ rs
  nd : rs.Nodup
  news : ∀ r ∈ rs, H0 r = none
  rows : ∀ k r, rs[k]? = some r → H r = some (.lst (row k))
theorem TabAt.ex {H0 H H' : Hp} {p : Addr} {rs : List Addr} {row : Nat → List V} (T : TabAt H0 H p rs row) (e : Ex H H') : TabAt H0 H' p rs row :=
  ⟨T.new, e.get T.at_, T.non, T.nd, T.news, fun k r h => e.get (T.rows k r h)⟩
theorem bR_same {s t : List Nat} {i j a b : Nat} (h : s[i]? = t[j]?) : bR s t i j a b = false := by
  unfold bR
  rw [decide_eq_false (fun z => z h)]
  rfl
theorem bR_else {s t : List Nat} {i j a b : Nat} (h : ¬ s[i]? = t[j]?) : bR s t i j a b = decide (a < b) := by
  unfold bR
  rw [decide_eq_true (p := s[i]? ≠ t[j]?) h, Bool.true_and]
theorem brd_row {r : Nat → Nat → Nat → Nat → Bool} {m b i : Nat} (hi : i < m) (h1 : ∀ c, c < b → ledD r m i c < m + b) : ∀ c, c ≤ b → ledA r m i c < m + b := by
  intro c
  induction c with
  | zero => intro _; rw [ledA_0]; omega
  | succ c ih =>
    intro hc
    rw [ledA_s]
    split
    · exact ih (by omega)
    · exact h1 c (by omega)
/-- ahead of the stretch no line is that comes in behind its begin -/
theorem brd_low {r : Nat → Nat → Nat → Nat → Bool} {m b : Nat} : ∀ i : Nat, i ≤ m → (∀ c, c < b → ledD r m i c < m + b) ∧ (i < m → ∀ c, c ≤ b → ledA r m i c < m + b)
  | 0, _ => by
    have h1 : ∀ c, c < b → ledD r m 0 c < m + b := fun c hc => by rw [ledD_0]; omega
    exact ⟨h1, fun hi => brd_row hi h1⟩
  | i + 1, hi => by
    obtain ⟨h1, h2⟩ := brd_low (r := r) (m := m) (b := b) i (by omega)
    have h3 : ∀ c, c < b → ledD r m (i + 1) c < m + b := fun c hc => by
      rw [ledD_s]
      split
      · exact h1 c hc
      · exact h2 (by omega) c (by omega)
    exact ⟨h3, fun hi => brd_row hi h3⟩
theorem num_same {x y z w d a t : Nat} (h1 : w = x + 1) (h2 : y + (if t ≤ d then 1 else 0) = x + 1) (h3 : z = x + (if t ≤ a then 1 else 0)) : w + (if t ≤ a then 1 else 0) = z + 1 ∧ w = y + (if t ≤ d then 1 else 0) := by
  generalize (if t ≤ d then 1 else 0) = p at h2 ⊢
  generalize (if t ≤ a then 1 else 0) = q at h3 ⊢
  omega
theorem num_else {x y z w d a t : Nat} (h1 : w = max y z) (h2 : y + (if t ≤ d then 1 else 0) = x + 1) (h3 : z = x + (if t ≤ a then 1 else 0)) : w + (if t ≤ (if a < d then d else a) then 1 else 0) = z + 1 ∧ w = y + (if t ≤ (if a < d then a else d) then 1 else 0) := by
  by_cases k3 : a < d <;> simp only [k3, if_true, if_false] <;> by_cases k1 : t ≤ d <;> by_cases k2 : t ≤ a <;> simp only [k1, k2, if_true, if_false] at h2 h3 ⊢ <;> omega
/-- one cell -/
theorem brd_cell (s t : List Nat) {m b i c : Nat} (h2 : Lc s (t.drop b) i (c + 1) + (if m + b ≤ ledD (bR s t) m i (b + c) then 1 else 0) = Lc s (t.drop b) i c + 1) (h3 : Lc s (t.drop b) (i + 1) c = Lc s (t.drop b) i c + (if m + b ≤ ledA (bR s t) m i (b + c) then 1 else 0)) :
    Lc s (t.drop b) (i + 1) (c + 1) + (if m + b ≤ ledD (bR s t) m (i + 1) (b + c) then 1 else 0) = Lc s (t.drop b) (i + 1) c + 1 ∧ Lc s (t.drop b) (i + 1) (c + 1) = Lc s (t.drop b) i (c + 1) + (if m + b ≤ ledA (bR s t) m i (b + (c + 1)) then 1 else 0) := by
  have q4 := Lc_ss s (t.drop b) i c
  have q5 : (t.drop b)[c]? = t[b + c]? := List.getElem?_drop
  rw [show b + (c + 1) = (b + c) + 1 by omega, ledA_s, ledD_s, ledS]
  by_cases e : s[i]? = t[b + c]?
  · rw [if_pos (by rw [q5]; exact e)] at q4
    rw [bR_same e, if_neg (c := false = true) (by decide), if_neg (c := false = true) (by decide)]
    exact num_same q4 h2 h3
  · rw [if_neg (by rw [q5]; exact e)] at q4
    rw [bR_else e]
    simp only [decide_eq_true_eq]
    exact num_else q4 h2 h3
theorem brd_acr {s t : List Nat} {m b i : Nat} (hi : i < m) (h1 : ∀ c, Lc s (t.drop b) i (c + 1) + (if m + b ≤ ledD (bR s t) m i (b + c) then 1 else 0) = Lc s (t.drop b) i c + 1) : ∀ c, Lc s (t.drop b) (i + 1) c = Lc s (t.drop b) i c + (if m + b ≤ ledA (bR s t) m i (b + c) then 1 else 0) := by
  intro c
  induction c with
  | zero =>
    have := (brd_low (r := bR s t) (m := m) (b := b) i (by omega)).2 hi b (Nat.le_refl _)
    rw [Lc_j0, Lc_j0, if_neg (by rw [Nat.add_zero]; omega)]
  | succ c ih => exact (brd_cell s t (h1 c) ih).2
/-- within: by the lengths of the stretch's threads -/
theorem brd_in (s t : List Nat) {m b : Nat} : ∀ i : Nat, i ≤ m → ∀ c, Lc s (t.drop b) i (c + 1) + (if m + b ≤ ledD (bR s t) m i (b + c) then 1 else 0) = Lc s (t.drop b) i c + 1
  | 0, _ => fun c => by rw [Lc_i0, Lc_i0, ledD_0, if_pos (by omega)]
  | i + 1, hi => fun c => (brd_cell s t (brd_in s t i (by omega) c) (brd_acr (by omega) (brd_in s t i (by omega)) c)).1
theorem ledE_dn {r : Nat → Nat → Nat → Nat → Bool} {m n e : Nat} (h : e < n) : gT (ledE r m n) e = ledD r m m e := by
  unfold ledE gT
  rw [List.getD_eq_getElem?_getD, List.getElem?_append_left (by rw [List.length_map, List.length_range]; exact h), List.getElem?_map, List.getElem?_range h]
  rfl
/-- how many lines from behind a begin come out ahead of an end -/
theorem brd_lost (s t : List Nat) {m n b : Nat} (hb : b ≤ n) : ∀ k : Nat, b + k ≤ n → cE (ledE (bR s t) m n) (m + b) (b + k) + Lc s (t.drop b) m k = k
  | 0, _ => by
    have : ∀ e, e ≤ b → cE (ledE (bR s t) m n) (m + b) e = 0 := by
      intro e
      induction e with
      | zero => intro _; rfl
      | succ e ih =>
        intro he
        have h1 : gT (ledE (bR s t) m n) e = ledD (bR s t) m m e := ledE_dn (by omega)
        have := (brd_low (r := bR s t) (m := m) (b := b) m (Nat.le_refl _)).1 e (by omega)
        rw [cE_succ, ih (by omega), h1, if_neg (by omega)]
    rw [Lc_j0, Nat.add_zero, Nat.add_zero]
    exact this b (Nat.le_refl _)
  | k + 1, hk => by
    have ih := brd_lost s t (m := m) (n := n) hb k (by omega)
    have h1 : gT (ledE (bR s t) m n) (b + k) = ledD (bR s t) m m (b + k) := ledE_dn (by omega)
    have h2 := brd_in s t (m := m) (b := b) m (Nat.le_refl _) k
    rw [show b + (k + 1) = (b + k) + 1 by omega, cE_succ, h1]
    omega
theorem cutS_from (z : Str) (b : Nat) (h : b ≤ z.length) : (cutS z (some (b : Int)) none).cps.toList = z.cps.toList.drop b := by
  have e : (cutS z (some (b : Int)) none).cps.toList = ((z.cps.toList.drop (HT.sIx z.length 0 (some (b : Int)))).take (HT.sIx z.length z.length none - HT.sIx z.length 0 (some (b : Int)))) := by simp [cutS]
  have e1 : HT.sIx z.length 0 (some (b : Int)) = b := by
    show (if (b : Int) < 0 then ((b : Int) + (z.length : Int)).toNat else min (b : Int).toNat z.length) = b
    rw [if_neg (by omega), Int.toNat_natCast]
    omega
  have e2 : HT.sIx z.length z.length none = z.length := rfl
  rw [e, e1, e2, List.take_of_length_le]
  rw [List.length_drop, Array.length_toList]
  exact Nat.le_refl _
def enN (q : Nat × Nat) : Int × Int := ((q.1 : Int), -(q.2 : Int))
def fallQ (l : List (Nat × Nat)) : Prop := l.Pairwise fun a b => b.2 ≤ a.2 ∧ a ≠ b
theorem RpA.zipped {H : Hp} : ∀ {xs : List V} {ds : List PyData}, RpA H xs ds → ∃ zs : List (V × PyData), xs = zs.map (·.1) ∧ ds = zs.map (·.2) ∧ ∀ z ∈ zs, Rp H z.1 z.2
  | _, _, .nil => ⟨[], rfl, rfl, fun _ h => nomatch h⟩
  | _, _, .cons (v := v) (d := d) a k => by
    obtain ⟨zs, rfl, rfl, h⟩ := RpA.zipped k
    refine ⟨(v, d) :: zs, rfl, rfl, fun z hz => ?_⟩
    rcases List.mem_cons.mp hz with e | e
    · rw [e]; exact a
    · exact h z e
/-- what stands when i of the pairs are seen -/
def HeapSeen (m : List (Nat × Nat)) (n i L : Nat) (b1 b2 : Int) : Prop := fallQ (m.take i) ∧ (∀ y ∈ m.take i, L ≤ y.2) ∧ (L = n ∨ ∃ y ∈ m.take i, y.2 = L) ∧ ((i = 0 ∧ b1 = -1) ∨ ∃ y, m[i - 1]? = some y ∧ 0 < i ∧ b1 = (y.1 : Nat) ∧ b2 = -((y.2 : Nat) : Int))
section
variable {m : List (Nat × Nat)} {n i L : Nat} {b1 b2 : Int} {z : Nat × Nat}
theorem HeapSeen.step (h : HeapSeen m n i L b1 b2) (hs : (m.map enN).Pairwise lexI) (hz : m[i]? = some z) (hn : ¬ (b1 = (z.1 : Nat) ∧ b2 = -((z.2 : Nat) : Int))) (hl : z.2 ≤ L) : HeapSeen m n (i + 1) z.2 (z.1 : Nat) (-((z.2 : Nat) : Int)) := by
  obtain ⟨g1, g2, g3, g4⟩ := h
  have tk : m.take (i + 1) = m.take i ++ [z] := by rw [List.take_add_one, hz]; rfl
  refine ⟨?_, ?_, .inr ⟨z, by rw [tk]; simp, rfl⟩, .inr ⟨z, hz, by omega, rfl, rfl⟩⟩
  · rw [tk]
    unfold fallQ
    rw [List.pairwise_append]
    refine ⟨g1, List.pairwise_singleton _ _, fun a ha b hb => ?_⟩
    have : b = z := by simpa using hb
    subst this
    have := g2 a ha
    refine ⟨by omega, fun e => hn ?_⟩
    subst e
    rcases g4 with ⟨g, _⟩ | ⟨y, q1, q2, q3, q4⟩
    · subst g; rw [List.take_zero] at ha; cases ha
    · obtain ⟨j, hj⟩ := List.getElem?_of_mem ha
      rw [List.getElem?_take] at hj
      split at hj
      · rename_i hji
        rw [List.pairwise_map] at hs
        obtain ⟨p1, r1⟩ := List.getElem?_eq_some_iff.mp hj
        obtain ⟨p2, r2⟩ := List.getElem?_eq_some_iff.mp q1
        obtain ⟨p3, r3⟩ := List.getElem?_eq_some_iff.mp hz
        by_cases hjj : j = i - 1
        · subst hjj
          rw [hj] at q1
          cases q1
          exact ⟨q3, q4⟩
        · have w1 := List.pairwise_iff_getElem.mp hs j (i - 1) p1 p2 (by omega)
          have w2 := List.pairwise_iff_getElem.mp hs (i - 1) i p2 p3 (by omega)
          rw [r1, r2] at w1
          rw [r2, r3] at w2
          unfold lexI enN at w1 w2
          dsimp only at w1 w2
          omega
      · cases hj
  · intro y hy
    rw [tk] at hy
    rcases List.mem_append.mp hy with h | h
    · have := g2 y h; omega
    · have : y = z := by simpa using h
      subst this
      exact Nat.le_refl _
end
theorem brd_hi {r : Nat → Nat → Nat → Nat → Bool} {m : Nat} : ∀ i : Nat, i ≤ m → (∀ c, m - i ≤ ledD r m i c) ∧ (i < m → ∀ c, m - 1 - i ≤ ledA r m i c)
  | 0, _ => by
    have h1 : ∀ c, m - 0 ≤ ledD r m 0 c := fun c => by rw [ledD_0]; omega
    refine ⟨h1, fun hi c => ?_⟩
    induction c with
    | zero => rw [ledA_0]; exact Nat.le_refl _
    | succ c ih =>
      rw [ledA_s]
      split
      · exact ih
      · have := h1 c; omega
  | i + 1, hi => by
    obtain ⟨h1, h2⟩ := brd_hi (r := r) (m := m) i (by omega)
    have h3 : ∀ c, m - (i + 1) ≤ ledD r m (i + 1) c := fun c => by
      rw [ledD_s]
      split
      · have := h1 c; omega
      · have := h2 (by omega) c; omega
    refine ⟨h3, fun hi c => ?_⟩
    induction c with
    | zero => rw [ledA_0]; exact Nat.le_refl _
    | succ c ih =>
      rw [ledA_s]
      split
      · exact ih
      · have := h3 c; omega
theorem brd_cellW (s t : List Nat) {m f b p c : Nat} (h2 : Lc (s.drop f) (t.drop b) p (c + 1) + (if m - f + b ≤ ledD (bR s t) m (f + p) (b + c) then 1 else 0) = Lc (s.drop f) (t.drop b) p c + 1) (h3 : Lc (s.drop f) (t.drop b) (p + 1) c = Lc (s.drop f) (t.drop b) p c + (if m - f + b ≤ ledA (bR s t) m (f + p) (b + c) then 1 else 0)) :
    Lc (s.drop f) (t.drop b) (p + 1) (c + 1) + (if m - f + b ≤ ledD (bR s t) m (f + (p + 1)) (b + c) then 1 else 0) = Lc (s.drop f) (t.drop b) (p + 1) c + 1 ∧ Lc (s.drop f) (t.drop b) (p + 1) (c + 1) = Lc (s.drop f) (t.drop b) p (c + 1) + (if m - f + b ≤ ledA (bR s t) m (f + p) (b + (c + 1)) then 1 else 0) := by
  have q4 := Lc_ss (s.drop f) (t.drop b) p c
  have q5 : (t.drop b)[c]? = t[b + c]? := List.getElem?_drop
  have q6 : (s.drop f)[p]? = s[f + p]? := List.getElem?_drop
  rw [show b + (c + 1) = (b + c) + 1 by omega, show f + (p + 1) = (f + p) + 1 by omega, ledA_s, ledD_s, ledS]
  by_cases e : s[f + p]? = t[b + c]?
  · rw [if_pos (by rw [q5, q6]; exact e)] at q4
    rw [bR_same e, if_neg (c := false = true) (by decide), if_neg (c := false = true) (by decide)]
    exact num_same q4 h2 h3
  · rw [if_neg (by rw [q5, q6]; exact e)] at q4
    rw [bR_else e]
    simp only [decide_eq_true_eq]
    exact num_else q4 h2 h3
theorem brd_acrW {s t : List Nat} {m f b p : Nat} (hb : f = 0 ∨ b = 0) (hi : f + p < m) (h1 : ∀ c, Lc (s.drop f) (t.drop b) p (c + 1) + (if m - f + b ≤ ledD (bR s t) m (f + p) (b + c) then 1 else 0) = Lc (s.drop f) (t.drop b) p c + 1) : ∀ c, Lc (s.drop f) (t.drop b) (p + 1) c = Lc (s.drop f) (t.drop b) p c + (if m - f + b ≤ ledA (bR s t) m (f + p) (b + c) then 1 else 0) := by
  intro c
  induction c with
  | zero =>
    have : ledA (bR s t) m (f + p) (b + 0) < m - f + b := by
      rcases hb with rfl | rfl
      · have := (brd_low (r := bR s t) (m := m) (b := b) (0 + p) (by omega)).2 hi b (Nat.le_refl _)
        rw [Nat.add_zero]
        omega
      · rw [show 0 + 0 = 0 from rfl, ledA_0]
        omega
    rw [Lc_j0, Lc_j0, if_neg (by omega)]
  | succ c ih => exact (brd_cellW s t (h1 c) ih).2
theorem brd_inW (s t : List Nat) {m f b : Nat} (hb : f = 0 ∨ b = 0) (hf : f ≤ m) : ∀ p : Nat, f + p ≤ m → ∀ c, Lc (s.drop f) (t.drop b) p (c + 1) + (if m - f + b ≤ ledD (bR s t) m (f + p) (b + c) then 1 else 0) = Lc (s.drop f) (t.drop b) p c + 1
  | 0, _ => fun c => by
    have : m - f + b ≤ ledD (bR s t) m (f + 0) (b + c) := by
      rcases hb with rfl | rfl
      · rw [show 0 + 0 = 0 from rfl, ledD_0]
        omega
      · have := (brd_hi (r := bR s t) (m := m) f hf).1 (0 + c)
        rw [Nat.add_zero]
        omega
    rw [Lc_i0, Lc_i0, if_pos this]
  | p + 1, hi => fun c => (brd_cellW s t (brd_inW s t hb hf p (by omega) c) (brd_acrW hb (by omega) (brd_inW s t hb hf p (by omega)) c)).1
theorem brd_lostW (s t : List Nat) {m n f b : Nat} (hb : f = 0 ∨ b = 0) (hf : f ≤ m) (hbn : b ≤ n) : ∀ k : Nat, b + k ≤ n → cE (ledE (bR s t) m n) (m - f + b) (b + k) + Lc (s.drop f) (t.drop b) (m - f) k = k
  | 0, _ => by
    have : cE (ledE (bR s t) m n) (m - f + b) b = 0 := by
      rcases hb with rfl | rfl
      · have := brd_lost s t (m := m) (n := n) hbn 0 (by omega)
        rw [Nat.sub_zero]
        rw [Nat.add_zero] at this
        omega
      · rfl
    rw [Lc_j0, Nat.add_zero, Nat.add_zero]
    exact this
  | k + 1, hk => by
    have ih := brd_lostW s t (m := m) (n := n) hb hf hbn k (by omega)
    have h1 : gT (ledE (bR s t) m n) (b + k) = ledD (bR s t) m m (b + k) := ledE_dn (by omega)
    have h2 := brd_inW s t (m := m) hb hf (m - f) (by omega) k
    rw [show f + (m - f) = m by omega] at h2
    rw [show b + (k + 1) = (b + k) + 1 by omega, cE_succ, h1]
    omega
theorem ledE_ri {r : Nat → Nat → Nat → Nat → Bool} {m n j : Nat} (h : j < m) : gT (ledE r m n) (n + j) = ledA r m (m - 1 - j) n := by
  unfold ledE gT
  rw [List.getD_eq_getElem?_getD, List.getElem?_append_right (by rw [List.length_map, List.length_range]; omega), List.length_map, List.length_range, Nat.add_sub_cancel_left, List.getElem?_reverse (by rw [List.length_map, List.length_range]; exact h), List.getElem?_map, List.length_map, List.length_range, List.getElem?_range (by omega)]
  rfl
theorem brd_rightW (s t : List Nat) {m n f b : Nat} (hb : f = 0 ∨ b = 0) (hf : f ≤ m) (hbn : b ≤ n) : ∀ k : Nat, k ≤ m - f → cE (ledE (bR s t) m n) (m - f + b) (n + k) + Lc (s.drop f) (t.drop b) (m - f - k) (n - b) = n - b
  | 0, _ => by
    have := brd_lostW s t (m := m) (n := n) hb hf hbn (n - b) (by omega)
    rw [show b + (n - b) = n by omega] at this
    exact this
  | k + 1, hk => by
    have ih := brd_rightW s t (m := m) (n := n) hb hf hbn k (by omega)
    have h1 : gT (ledE (bR s t) m n) (n + k) = ledA (bR s t) m (m - 1 - k) n := ledE_ri (by omega)
    have h2 := brd_acrW (s := s) (t := t) (m := m) (f := f) (b := b) (p := m - f - (k + 1)) hb (by omega) (brd_inW s t hb hf _ (by omega)) (n - b)
    rw [show f + (m - f - (k + 1)) = m - 1 - k by omega, show b + (n - b) = n by omega, show m - f - (k + 1) + 1 = m - f - k by omega] at h2
    rw [show n + (k + 1) = (n + k) + 1 by omega, cE_succ, h1]
    omega
/-- the counts tell the windows -/
theorem brd_win (s t : Str) {f la b e : Nat} (hfb : f = 0 ∨ b = 0) (hle : la = s.length ∨ e = t.length) (h1 : f ≤ la) (h2 : la ≤ s.length) (h3 : b ≤ e) (h4 : e ≤ t.length) :
    cntT (brdL s t) (s.length - f + b) (s.length - la + e) + Lc (s.cps.toList.drop f) (t.cps.toList.drop b) (la - f) (e - b) = e - b := by
  have hc : cE (ledE (bR s.cps.toList t.cps.toList) s.length t.length) (s.length - f + b) (s.length - la + e) = cntT (brdL s t) (s.length - f + b) (s.length - la + e) := by
    have := cE_cnt (brdL_T s t) (s.length - f + b) (e := s.length - la + e) (by rw [brdL_len]; omega)
    rw [← this]
    unfold brdL
    rw [(ledE_T _ _ _).inv_inv]
  rw [← hc]
  rcases hle with rfl | rfl
  · have := brd_lostW s.cps.toList t.cps.toList (m := s.length) (n := t.length) hfb h1 (by omega) (e - b) (by omega)
    rw [show b + (e - b) = e by omega] at this
    rw [Nat.sub_self, Nat.zero_add]
    exact this
  · have := brd_rightW s.cps.toList t.cps.toList (m := s.length) (n := t.length) hfb (by omega) h3 (s.length - la) (by omega)
    rw [show s.length - f - (s.length - la) = la - f by omega] at this
    rw [show s.length - la + t.length = t.length + (s.length - la) by omega]
    exact this
theorem winV_Lc (s t : Str) {f la b e : Nat} (hfb : f = 0 ∨ b = 0) (hle : la = s.length ∨ e = t.length) (h1 : f ≤ la) (h2 : la ≤ s.length) (h3 : b ≤ e) (h4 : e ≤ t.length) :
    ((e : Nat) : Int) - (b : Nat) - (cntT (brdL s t) (s.length - f + b) (s.length - la + e) : Nat) = (Lc (s.cps.toList.drop f) (t.cps.toList.drop b) (la - f) (e - b) : Nat) := by
  have := brd_win s t hfb hle h1 h2 h3 h4
  omega
theorem keepL {H H' : Hp} {a : Addr} {xs : List V} (h : H a = some (.lst xs)) (e : Ex (noT H) H') : H' a = some (.lst xs) := e.get (noT_get h fun _ z => (by cases z))
/-- a board is made -/
theorem mk_brd {K : PySem.W.Frag} {TL : List (Addr × Str)} {H : Hp} {Q : VK} {E : XK} {s t : Str} (hs : RowS s) (ht : RowS t) (hT : LamX.Tabs TL H) (k : ∀ p H', Ex (noT H) H' → H p = none → LamX.Tabs TL H' → BrdAt K H' p s t → Q (.ref p) H') : MakeP (clsA K "Board") (sp_Board_init K TL) [] E Q [.str s, .str t] H := by
  refine st_makeP fun p dx H1 np e1 v1 => ?_
  refine ⟨p, dx, _, _, rfl, v1, hT.ext fun b o h => e1.get h, .inl ⟨s, t, rfl, rfl, hs, ht, fun H2 f2 hT2 hB => ?_⟩⟩
  refine ⟨rfl, k p H2 ?_ np hT2 hB⟩
  exact Ex.comp (M := fun b => b = p) (noT_mono e1) f2 fun b hb => by
    rw [hb]
    unfold Zb.noT
    rw [np]
def sp_asks_of (K : PySem.W.Frag) (TL : List (Addr × Str)) : Sp := fun vs H Q E => ∃ s t, vs = [.str s, .str t] ∧ RowS s ∧ RowS t ∧ LamX.Tabs TL H ∧ ∀ p H', Ex (noT H) H' → LamX.Tabs TL H' → AsksAt K H' p (brdL s t) s.length → Q (.ref p) H'
theorem ok_asks_of (T : Tx K mg ad fd tk base tc) : FnOk P w K mg base (L2.CX P w) 9 (ad 22) (fd 22) ["side", "top"] (sp_asks_of K (tabsL tc)) := by
  refine T.d_asks_of.F.okX sc_asks_of (fun vs H Q E h => ?_) (fun cdv A outer s H vs Q E hr h => ?_)
  · obtain ⟨s, t, rfl, _⟩ := h
    rfl
  · obtain ⟨s, t, rfl, hs, ht, hT, k⟩ := h
    refine ⟨_, (pss_one (ps_ret (pe_make T.m_Asks (ok_Asks_init T) (hr.mono (by decide)) rfl T.mg_Asks T.d_Asks_init.b .nil pass0 (pa_cons (pe_meth0 (pe_make T.m_Board (ok_Board_init T) (hr.mono (by decide)) rfl T.mg_Board T.d_Board_init.b .nil (passes_call (takes_of rfl rfl rfl rfl) (fun _ _ _ _ h => h)) (pa_cons (pv 0) (pa_cons (pv 1) pa_nil))) T.cl_Board T.d_Board_lines.g (ok_Board_lines T) (hr.mono (by decide)) T.d_Board_lines.b .nil pass0) (pa_cons (pe_callB (c_len (K := K)) (by rfl) T.b_len (by decide +kernel) (pa_cons (pv 0) pa_nil)) pa_nil))))), ?_⟩
    have hs1 := hs.len
    have ht1 := ht.len
    have hl := brdL_len s t
    walk_at "go"
    refine mk_brd hs ht hT fun p H1 e1 np hT1 hB => ?_
    obtain ⟨dx2, me, sg, go, gB, _⟩ := id hB.ex
    walk_at "go"
    refine ⟨p, s, t, rfl, hB, fun D H2 e2 nD v2 => ?_⟩
    walk_at "go"
    refine st_makeP fun p3 dx3 H3 np3 e3 v3 => ?_
    refine ⟨p3, dx3, .ref D, _, brdL s t, s.length, rfl, v3, rnL (e3.get v2), .inl rfl, ⟨brdL_T s t, by omega⟩, by omega, fun H4 f4 hA => ⟨rfl, ?_⟩⟩
    have e24 : Ex H2 H4 := Ex.comp (M := fun b => b = p3) e3 f4 fun b hb => by rw [hb]; exact np3
    have e4 := (e1.trans e2).trans e24
    refine k p3 H4 e4 (hT1.ext fun b o h => (e2.trans e24).get h) (hA H4 fun b o _ h => h)
/-- two plain rows, or the first that is none is refused -/
def Plains2 (K : PySem.W.Frag) (E : XK) (H : Hp) (x y : V) (k : Str → Str → Prop) : Prop := (∃ s t, x = .str s ∧ y = .str t ∧ PlainS s ∧ PlainS t ∧ k s t) ∨
  (Thg H x ∧ Thg H y ∧ ((isPlain x = false ∧ RaR K E H "NoPlain" "found" x) ∨ (isPlain x = true ∧ isPlain y = false ∧ RaR K E H "NoPlain" "found" y)))
theorem Plains2.imp {K : PySem.W.Frag} {E : XK} {H : Hp} {x y : V} {k k' : Str → Str → Prop} (h : Plains2 K E H x y k) (f : ∀ s t, x = .str s → y = .str t → PlainS s → PlainS t → k s t → k' s t) : Plains2 K E H x y k' := by
  rcases h with ⟨s, t, e1, e2, hs, ht, h⟩ | h
  · exact .inl ⟨s, t, e1, e2, hs, ht, f s t e1 e2 hs ht h⟩
  · exact .inr h
def sp_need_plains (K : PySem.W.Frag) : Sp := fun vs H Q E => ∃ x y, vs = [x, y] ∧ Plains2 K E H x y fun _ _ => ∀ H', Ex H H' → Q .non H'
theorem ok_need_plains (T : Tx K mg ad fd tk base tc) : FnOk P w K mg base (L2.CX P w) 4 (ad 23) (fd 23) ["side", "top"] (sp_need_plains K) := by
  refine T.d_need_plains.F.okX sc_need_plains (fun vs H Q E h => ?_) (fun cdv A outer s H vs Q E hr h => ?_)
  · obtain ⟨x, y, rfl, _⟩ := h
    rfl
  · obtain ⟨x, y, rfl, k⟩ := h
    refine ⟨_, (pss_cons (ps_expr (pe_call (ok_need_plain T) (hr.mono (by decide)) rfl T.d_need_plain.g T.d_need_plain.F.kp T.d_need_plain.b .nil (passes_call (takes_of rfl rfl rfl rfl) (fun _ _ _ _ h => h)) (pa_cons (pv 0) pa_nil)))
      (pss_one (ps_expr (pe_call (ok_need_plain T) (hr.mono (by decide)) rfl T.d_need_plain.g T.d_need_plain.F.kp T.d_need_plain.b .nil (passes_call (takes_of rfl rfl rfl rfl) (fun _ _ _ _ h => h)) (pa_cons (pv 1) pa_nil))))), ?_⟩
    walk_at "go"
    rcases k with ⟨s, t, rfl, rfl, hs, ht, k⟩ | ⟨h1, h2, ⟨hb, k⟩ | ⟨ha, hb, k⟩⟩
    · refine ⟨.str s, rfl, .inl ⟨s, rfl, hs, fun H1 e1 => ?_⟩⟩
      walk_at "go"
      refine ⟨.str t, rfl, .inl ⟨t, rfl, ht, fun H2 e2 => ?_⟩⟩
      walk_at "go"
      exact k _ (e1.trans e2)
    · exact ⟨x, rfl, .inr ⟨h1, hb, k⟩⟩
    · obtain ⟨s, rfl, hs⟩ := plainS_of_true ha
      refine ⟨.str s, rfl, .inl ⟨s, rfl, hs, fun H1 e1 => ?_⟩⟩
      walk_at "go"
      exact ⟨y, rfl, .inr ⟨h2.ex e1, hb, k.ex e1⟩⟩
def sp_need_limit (K : PySem.W.Frag) : Sp := fun vs H Q E => ∃ x, vs = [x] ∧ Ty H x ∧ (withinV x 0 48 = false → RaF K E H "NoPlace" [("found", x)]) ∧ (withinV x 0 48 = true → Q .non H)
theorem ok_need_limit (T : Tx K mg ad fd tk base tc) : FnOk P w K mg base (L2.CX P w) 3 (ad 24) (fd 24) ["most"] (sp_need_limit K) := by
  refine T.d_need_limit.F.okX sc_need_limit (fun vs H Q E h => ?_) (fun cdv A outer s H vs Q E hr h => ?_)
  · obtain ⟨x, rfl, _⟩ := h
    rfl
  · obtain ⟨x, rfl, hx, k0, k1⟩ := h
    refine ⟨_, (pss_one (ps_if (pt_not (pt_val (pe_call (ok_is_within T) (hr.mono (by decide)) rfl T.d_is_within.g T.d_is_within.F.kp T.d_is_within.b .nil pass0 (pa_cons (pv 0) (pa_cons pe_int (pa_cons (pe_glob (v := .int 48) rfl T.c_MOST_COST ⟨_, rfl⟩) pa_nil)))))) (pss_one (ps_raiseG rfl (ex_NoPlace T) (hr.mono (by decide)) (takes_of rfl rfl rfl rfl) rfl (pa_cons (pv 0) pa_nil))) pss_nil)), ?_⟩
    walk_at "go"
    refine ⟨x, 0, _, rfl, hx, ?_⟩
    cases hb : withinV x 0 48 with
    | false =>
      have k3 := k0 hb
      walk_at "go"
      rename_i d2 H2 hd2 e2 hv2
      exact k3 d2 H2 hd2 e2 hv2
    | true =>
      have k3 := k1 hb
      walk_at "go"
      exact k3
def Lev (a b : List Nat) : Nat → Nat → Nat
  | 0, j => j
  | i + 1, 0 => i + 1
  | i + 1, j + 1 => min (min (Lev a b (i + 1) j + 1) (Lev a b i (j + 1) + 1)) (Lev a b i j + if a[i]? = b[j]? then 0 else 1)
termination_by i j => i + j
theorem Lev_0 (a b : List Nat) (j : Nat) : Lev a b 0 j = j := by unfold Lev; rfl
theorem Lev_s0 (a b : List Nat) (i : Nat) : Lev a b (i + 1) 0 = i + 1 := by unfold Lev; rfl
theorem Lev_j0 (a b : List Nat) (i : Nat) : Lev a b i 0 = i := by cases i with
  | zero => exact Lev_0 a b 0
  | succ i => exact Lev_s0 a b i
theorem Lev_ss (a b : List Nat) (i j : Nat) : Lev a b (i + 1) (j + 1) = min (min (Lev a b (i + 1) j + 1) (Lev a b i (j + 1) + 1)) (Lev a b i j + if a[i]? = b[j]? then 0 else 1) := by
  rw [Lev]
theorem parts_even : ∀ (l : List Nat) (i : Nat), i < l.length → (parts l)[2 * i]? = some 46
  | [], _, h => absurd h (Nat.not_lt_zero _)
  | a :: l, 0, _ => rfl
  | a :: l, i + 1, h => by
    rw [parts_cons, show 2 * (i + 1) = (2 * i + 1) + 1 by omega, List.getElem?_cons_succ, List.getElem?_cons_succ]
    exact parts_even l i (by simpa using h)
theorem parts_odd : ∀ (l : List Nat) (i : Nat), (parts l)[2 * i + 1]? = l[i]?
  | [], i => by simp [parts]
  | a :: l, 0 => rfl
  | a :: l, i + 1 => by
    rw [parts_cons, show 2 * (i + 1) + 1 = (2 * i + 1 + 1) + 1 by omega, List.getElem?_cons_succ, List.getElem?_cons_succ, List.getElem?_cons_succ]
    exact parts_odd l i
theorem parts_drop : ∀ (l : List Nat) (b : Nat), (parts l).drop (2 * b) = parts (l.drop b)
  | l, 0 => rfl
  | [], b + 1 => by simp [parts]
  | a :: l, b + 1 => by
    rw [parts_cons, show 2 * (b + 1) = (2 * b + 1) + 1 by omega, List.drop_succ_cons, List.drop_succ_cons, List.drop_succ_cons]
    exact parts_drop l b
theorem lev_Lc {a b : List Nat} (ha : 46 ∉ a) (hb : 46 ∉ b) : ∀ N i j : Nat, i + j ≤ N → i ≤ a.length → j ≤ b.length → Lc (parts a) (parts b) (2 * i) (2 * j) + Lev a b i j = i + j
  | N, 0, j, _, _, _ => by rw [Nat.mul_zero, Lc_i0, Lev_0]
  | N, i + 1, 0, _, _, _ => by rw [Nat.mul_zero, Lc_j0, Lev_s0]; omega
  | 0, i + 1, j + 1, h, _, _ => by omega
  | N + 1, i + 1, j + 1, h, hi, hj => by
    have h1 := lev_Lc ha hb N i j (by omega) (by omega) (by omega)
    have h2 := lev_Lc ha hb N i (j + 1) (by omega) (by omega) hj
    have h3 := lev_Lc ha hb N (i + 1) j (by omega) hi (by omega)
    rw [show 2 * (i + 1) = 2 * i + 1 + 1 by omega] at h3 ⊢
    rw [show 2 * (j + 1) = 2 * j + 1 + 1 by omega] at h2 ⊢
    have gi := parts_even a i (by omega)
    have gj := parts_even b j (by omega)
    have oi := parts_odd a i
    have oj := parts_odd b j
    have ai : a[i]? = some (a[i]'(by omega)) := List.getElem?_eq_getElem _
    have bj : b[j]? = some (b[j]'(by omega)) := List.getElem?_eq_getElem _
    have an : a[i]'(by omega) ≠ 46 := fun z => ha (by rw [← z]; exact List.getElem_mem _)
    have bn : b[j]'(by omega) ≠ 46 := fun z => hb (by rw [← z]; exact List.getElem_mem _)
    have E1 : Lc (parts a) (parts b) (2 * i + 1) (2 * j + 1) = Lc (parts a) (parts b) (2 * i) (2 * j) + 1 := by rw [Lc_ss, if_pos (by rw [gi, gj])]
    have E2 : Lc (parts a) (parts b) (2 * i + 1) (2 * j + 1 + 1) = max (Lc (parts a) (parts b) (2 * i) (2 * j + 1 + 1)) (Lc (parts a) (parts b) (2 * i + 1) (2 * j + 1)) := by
      rw [Lc_ss, if_neg (by rw [gi, oj, bj]; exact fun z => bn (Option.some.inj z).symm)]
    have E3 : Lc (parts a) (parts b) (2 * i + 1 + 1) (2 * j + 1) = max (Lc (parts a) (parts b) (2 * i + 1) (2 * j + 1)) (Lc (parts a) (parts b) (2 * i + 1 + 1) (2 * j)) := by
      rw [Lc_ss, if_neg (by rw [oi, gj, ai]; exact fun z => an (Option.some.inj z))]
    have E4 : Lc (parts a) (parts b) (2 * i + 1 + 1) (2 * j + 1 + 1) = if a[i]? = b[j]? then Lc (parts a) (parts b) (2 * i + 1) (2 * j + 1) + 1 else max (Lc (parts a) (parts b) (2 * i + 1) (2 * j + 1 + 1)) (Lc (parts a) (parts b) (2 * i + 1 + 1) (2 * j + 1)) := by
      rw [Lc_ss, oi, oj]
    have n1 := Lc_ri1 (parts a) (parts b) (2 * i) (2 * j)
    have n2 := Lc_ri1 (parts a) (parts b) (2 * i) (2 * j + 1)
    have n3 := Lc_up1 (parts a) (parts b) (2 * i) (2 * j)
    have n4 := Lc_up1 (parts a) (parts b) (2 * i + 1) (2 * j)
    rw [E4, Lev_ss]
    by_cases e : a[i]? = b[j]?
    · rw [if_pos e, if_pos e, E1]
      omega
    · rw [if_neg e, if_neg e, E2, E3, E1]
      omega
/-- the costs of all stretches that begin at b -/
def levRow (s t : List Nat) (b : Nat) : List Int := (List.range (t.length - b + 1)).map fun j => ((Lev s (t.drop b) s.length j : Nat) : Int)
/-- a stretch with its worth, begin, end -/
structure S3 where
  w : Int
  b : Nat
  e : Nat
deriving DecidableEq
def encS (z : S3) : PyData := .tuple [.int z.w, .int (z.b : Nat), .int (z.e : Nat)]
def sO (z : S3) : HO := .tup [.int z.w, .int (z.b : Nat), .int (z.e : Nat)]
abbrev TZ := Addr × S3
abbrev tV (z : TZ) : V := .ref z.1
/-- each of these stands as its tuple -/
def TT (H : Hp) (zs : List TZ) : Prop := ∀ z ∈ zs, H z.1 = some (sO z.2)
structure SpOk (M : Nat) (z : S3) : Prop where
  w1 : 1 ≤ z.w
  w2 : z.w ≤ 1000000
  be : z.b < z.e
  eM : z.e ≤ M
theorem TT.ex {H H' : Hp} {zs : List TZ} (h : TT H zs) (e : Ex H H') : TT H' zs := fun z hz => e.get (h z hz)
theorem TT.up {H : Hp} {zs : List TZ} {D : Addr} {xs : List V} {u : HO} (h : TT H zs) (hD : H D = some (.lst xs)) : TT (upd H D u) zs := fun z hz => by
  rw [upd_ne fun e => ?_]
  · exact h z hz
  · have := h z hz
    rw [e, hD] at this
    cases this
theorem TT.sub {H : Hp} {zs ys : List TZ} (h : TT H zs) (e : ∀ z ∈ ys, z ∈ zs) : TT H ys := fun z hz => h z (e z hz)
theorem TT.app {H : Hp} {zs ys : List TZ} (h : TT H zs) (k : TT H ys) : TT H (zs ++ ys) := fun z hz => by
  rcases List.mem_append.mp hz with q | q
  · exact h z q
  · exact k z q
theorem TT.rn1 {H : Hp} {z : TZ} (h : H z.1 = some (sO z.2)) : Rn H (tV z) (encS z.2) := .tup h (.cons (.int _) (.cons (.int _) (.cons (.int _) .nil)))
theorem TT.rn {H : Hp} {zs : List TZ} (h : TT H zs) : RnA H (zs.map tV) (zs.map fun z => encS z.2) := rnA_map fun z hz => TT.rn1 (h z hz)
theorem TT.rnL {H : Hp} {zs : List TZ} {a : Addr} (h : TT H zs) (ha : H a = some (.lst (zs.map tV))) : Rn H (.ref a) (.list (zs.map fun z => encS z.2)) := .lst ha h.rn
theorem encS_noDict (zs : List TZ) : (PyData.list (zs.map fun z => encS z.2)).hasDict = false := by
  simp only [PyData.hasDict]
  exact hasDictA_of fun d hd => by
    obtain ⟨z, _, rfl⟩ := List.mem_map.mp hd
    rfl
theorem TT.rpL {H : Hp} {zs : List TZ} {a : Addr} (h : TT H zs) (ha : H a = some (.lst (zs.map tV))) : Rp H (.ref a) (.list (zs.map fun z => encS z.2)) := (h.rnL ha).rp (encS_noDict zs)
/-- the sums from the first place on -/
structure IsTa (zs : List S3) (M : Nat) (T : Nat → Int) : Prop where
  t0 : T 0 = 0
  up : ∀ e, e < M → T e ≤ T (e + 1)
  ge : ∀ z ∈ zs, T z.b + z.w ≤ T z.e
/-- the sums from the last place back -/
structure IsB (zs : List S3) (M : Nat) (B : Nat → Int) : Prop where
  bM : B M = 0
  up : ∀ p, p < M → B (p + 1) ≤ B p
  ge : ∀ z ∈ zs, z.w + B z.e ≤ B z.b
def TStep (zs : List S3) (T : Nat → Int) (e : Nat) : Prop := T (e + 1) = T e ∨ ∃ z ∈ zs, z.e = e + 1 ∧ T (e + 1) = T z.b + z.w
def BStep (zs : List S3) (B : Nat → Int) (p : Nat) : Prop := B p = B (p + 1) ∨ ∃ z ∈ zs, z.b = p ∧ B p = z.w + B z.e
theorem T_le_B {zs : List S3} {M : Nat} {T B : Nat → Int} (hok : ∀ z ∈ zs, z.b < z.e ∧ z.e ≤ M) (hT0 : T 0 = 0) (hT : ∀ e, e < M → TStep zs T e) (hB : IsB zs M B) : T M ≤ B 0 := by
  have h : ∀ n e, e ≤ n → e ≤ M → T e + B e ≤ B 0 := by
    intro n
    induction n with
    | zero => intro e h1 _; have : e = 0 := by omega
              subst this; omega
    | succ n ih =>
      intro e h1 h2
      cases e with
      | zero => omega
      | succ e =>
        rcases hT e (by omega) with h | ⟨z, hz, h3, h4⟩
        · have a := ih e (by omega) (by omega)
          have b := hB.up e (by omega)
          omega
        · obtain ⟨k1, k2⟩ := hok z hz
          have a := ih z.b (by omega) (by omega)
          have b := hB.ge z hz
          rw [h3] at b
          omega
  have := h M M (Nat.le_refl _) (Nat.le_refl _)
  rw [hB.bM] at this
  omega
theorem B_le_T {zs : List S3} {M : Nat} {T B : Nat → Int} (hok : ∀ z ∈ zs, z.b < z.e ∧ z.e ≤ M) (hT : IsTa zs M T) (hBM : B M = 0) (hB : ∀ p, p < M → BStep zs B p) : B 0 ≤ T M := by
  have h : ∀ n p, M - p ≤ n → p ≤ M → B p + T p ≤ T M := by
    intro n
    induction n with
    | zero => intro p h1 h2; have : p = M := by omega
              subst this; omega
    | succ n ih =>
      intro p h1 h2
      by_cases hp : p = M
      · subst hp; omega
      · rcases hB p (by omega) with h | ⟨z, hz, h3, h4⟩
        · have a := ih (p + 1) (by omega) (by omega)
          have b := hT.up p (by omega)
          omega
        · obtain ⟨k1, k2⟩ := hok z hz
          have a := ih z.e (by omega) (by omega)
          have b := hT.ge z hz
          rw [h3] at b
          omega
  have := h M 0 (by omega) (Nat.zero_le _)
  rw [hT.t0] at this
  omega
/-- the worths of the chosen, by their places in the list -/
def wS (zs : List S3) (c : Nat) : Int := match zs[c]? with
  | some z => z.w
  | none => 0
def apartS (a b : S3) : Prop := a.e ≤ b.b ∨ b.e ≤ a.b
/-- a choice apart: places in the list, no two of one another's places -/
structure Choice (zs : List S3) (cs : List Nat) : Prop where
  lt : ∀ c ∈ cs, c < zs.length
  ap : cs.Pairwise fun a b => ∀ x y, zs[a]? = some x → zs[b]? = some y → apartS x y
theorem apartS_sym {a b : S3} (h : apartS a b) : apartS b a := Or.symm h
theorem Choice.perm {zs : List S3} {cs ds : List Nat} (h : Choice zs cs) (p : ds.Perm cs) : Choice zs ds := ⟨fun c hc => h.lt c (p.mem_iff.mp hc), (p.pairwise_iff (fun {x y} h a b h1 h2 => apartS_sym (h b a h2 h1))).mpr h.ap⟩
/-- chosen ones are different places -/
theorem Choice.nodup {zs : List S3} {cs : List Nat} {M : Nat} (h : Choice zs cs) (hok : ∀ z ∈ zs, z.b < z.e ∧ z.e ≤ M) : cs.Nodup := by
  have : cs.Pairwise fun a b => (∀ x y, zs[a]? = some x → zs[b]? = some y → apartS x y) ∧ a < zs.length := List.Pairwise.imp_of_mem (fun {a b} ha hb h' => ⟨h', h.lt a ha⟩) h.ap
  refine this.imp fun {a b} hab e => ?_
  subst e
  obtain ⟨z, hz⟩ : ∃ z, zs[a]? = some z := ⟨zs[a]'hab.2, List.getElem?_eq_getElem _⟩
  have := hok z (List.mem_of_getElem? hz)
  have h2 := hab.1 z z hz hz
  unfold apartS at h2
  omega
def nrowP (s t : List Nat) (q b j : Nat) : List S3 := ((List.range j).filter fun k => decide (0 < k ∧ Lev s (t.drop b) s.length k ≤ q)).map fun k => ⟨((Lev s (t.drop b) s.length k : Nat) : Int), b, b + k⟩
def nearP (s t : List Nat) (q i : Nat) : List S3 := (List.range i).flatMap fun b => nrowP s t q b (t.length - b + 1)
def nearL (s t : List Nat) (q : Nat) : List S3 := nearP s t q (t.length + 1)
theorem nrowP_0 (s t : List Nat) (q b : Nat) : nrowP s t q b 0 = [] := rfl
theorem nrowP_1 (s t : List Nat) (q b : Nat) : nrowP s t q b 1 = [] := by
  unfold nrowP
  rw [List.range_succ, List.range_zero, List.nil_append, List.filter_cons_of_neg (by simp), List.filter_nil, List.map_nil]
theorem nrowP_s (s t : List Nat) (q b j : Nat) : nrowP s t q b (j + 1) = nrowP s t q b j ++ if 0 < j ∧ Lev s (t.drop b) s.length j ≤ q then [⟨((Lev s (t.drop b) s.length j : Nat) : Int), b, b + j⟩] else [] := by
  unfold nrowP
  rw [List.range_succ, List.filter_append, List.map_append]
  congr 1
  by_cases h : 0 < j ∧ Lev s (t.drop b) s.length j ≤ q
  · rw [if_pos h, List.filter_cons_of_pos (p := fun k => decide (0 < k ∧ Lev s (t.drop b) s.length k ≤ q)) (decide_eq_true h), List.filter_nil, List.map_cons, List.map_nil]
  · rw [if_neg h, List.filter_cons_of_neg (p := fun k => decide (0 < k ∧ Lev s (t.drop b) s.length k ≤ q)) (by rw [decide_eq_false h]; decide), List.filter_nil, List.map_nil]
theorem nearP_0 (s t : List Nat) (q : Nat) : nearP s t q 0 = [] := rfl
theorem nearP_s (s t : List Nat) (q i : Nat) : nearP s t q (i + 1) = nearP s t q i ++ nrowP s t q i (t.length - i + 1) := by
  unfold nearP
  rw [List.range_succ, List.flatMap_append]
  simp
theorem nearL_n (s t : List Nat) (q : Nat) : nearL s t q = nearP s t q t.length := by
  unfold nearL
  rw [nearP_s, Nat.sub_self, nrowP_1, List.append_nil]
theorem nrowP_len (s t : List Nat) (q b j : Nat) : (nrowP s t q b j).length ≤ j - 1 := by
  induction j with
  | zero => exact Nat.le_refl _
  | succ j ih =>
    rw [nrowP_s, List.length_append]
    split
    · rename_i h
      rw [List.length_singleton]
      omega
    · rw [List.length_nil]
      omega
theorem nearP_len (s t : List Nat) (q : Nat) : ∀ i, (nearP s t q i).length ≤ ((List.range i).map fun b => t.length - b).sum
  | 0 => Nat.le_refl _
  | i + 1 => by
    have ih := nearP_len s t q i
    have h := nrowP_len s t q i (t.length - i + 1)
    rw [nearP_s, List.length_append, List.range_succ, List.map_append, List.sum_append, List.map_cons, List.map_nil, List.sum_cons, List.sum_nil]
    omega
theorem sum_300 : ∀ n, n < 25 → ((List.range (n + 1)).map fun b => n - b).sum ≤ 300 := by decide +kernel
theorem nearL_len (s t : List Nat) (q : Nat) (ht : t.length ≤ 24) : (nearL s t q).length ≤ 300 := Nat.le_trans (nearP_len s t q _) (sum_300 _ (by omega))
theorem gTup3_mono {K : PySem.W.Frag} {n i j l : Nat} : ∀ v σ H (P P' : L2.St → Hp → Prop), (∀ σ H, P σ H → P' σ H) → gTup K n (gCons (gName i) (gCons (gName j) (gCons (gName l) gNil))) v σ H P → gTup K n (gCons (gName i) (gCons (gName j) (gCons (gName l) gNil))) v σ H P' := by
  intro v σ H P P' k h
  obtain ⟨a, xs, h1, h2, h3, v1, r1, e1, v2, r2, e2, v3, r3, e3, e4, h4⟩ := h
  exact ⟨a, xs, h1, h2, h3, v1, r1, e1, v2, r2, e2, v3, r3, e3, e4, k _ _ h4⟩
theorem tz_of {H : Hp} : ∀ {ss : List S3} (ts : List Addr), ObjsAt H ts (ss.map sO) → ∃ ws : List TZ, ws.map tV = ts.map V.ref ∧ TT H ws ∧ ws.map (·.2) = ss
  | [], [], _ => ⟨[], rfl, (fun _ h => (by cases h)), rfl⟩
  | [], _ :: _, h => by cases h
  | _ :: _, [], h => by cases h
  | s :: ss, t :: ts, h => by
    cases h with
    | cons h1 h2 =>
      obtain ⟨ws, a, b, c⟩ := tz_of ts h2
      refine ⟨(t, s) :: ws, by rw [List.map_cons, List.map_cons, a], fun z hz => ?_, by rw [List.map_cons, c]⟩
      rcases List.mem_cons.mp hz with rfl | hz
      · exact h1
      · exact b z hz
theorem sum_bound (n : Nat) : ∀ i, ((List.range i).map fun b => n - b).sum ≤ i * n
  | 0 => Nat.zero_le _
  | i + 1 => by
    have ih := sum_bound n i
    rw [List.range_succ, List.map_append, List.sum_append, List.map_cons, List.map_nil, List.sum_cons, List.sum_nil, Nat.succ_mul]
    omega
theorem nearP_mem {s t : List Nat} {q i : Nat} (hi : i ≤ t.length + 1) {z : S3} (h : z ∈ nearP s t q i) : z.b < z.e ∧ z.e ≤ t.length ∧ 0 ≤ z.w ∧ z.w ≤ (q : Int) := by
  unfold nearP at h
  obtain ⟨b, hb, h⟩ := List.mem_flatMap.mp h
  have hb := List.mem_range.mp hb
  unfold nrowP at h
  obtain ⟨k, hk, rfl⟩ := List.mem_map.mp h
  obtain ⟨h1, h2⟩ := List.mem_filter.mp hk
  have h1 := List.mem_range.mp h1
  have h2 := of_decide_eq_true h2
  show b < b + k ∧ b + k ≤ t.length ∧ (0 : Int) ≤ ((Lev s (t.drop b) s.length k : Nat) : Int) ∧ ((Lev s (t.drop b) s.length k : Nat) : Int) ≤ (q : Int)
  omega
def lexS (a b : S3) : Prop := lexI3 (a.w, ((a.b : Nat) : Int), ((a.e : Nat) : Int)) (b.w, ((b.b : Nat) : Int), ((b.e : Nat) : Int))
structure NearOk (ys : List S3) (s t : List Nat) (q : Nat) : Prop where
  perm : ys.Perm (nearL s t q)
  srt : ys.Pairwise lexS
theorem lexS_uniq : ∀ {l m : List S3}, l.Pairwise lexS → m.Pairwise lexS → l.Perm m → l = m
  | [], m, _, _, h => (List.Perm.eq_nil h.symm).symm
  | x :: l, [], _, _, h => absurd h.length_eq (by simp)
  | x :: l, y :: m, hl, hm, h => by
    have e : x = y := by
      rcases List.mem_cons.mp (h.mem_iff.mp List.mem_cons_self) with e | hx
      · exact e
      · rcases List.mem_cons.mp (h.mem_iff.mpr List.mem_cons_self) with e | hy
        · exact e.symm
        · have a := (List.pairwise_cons.mp hm).1 x hx
          have b := (List.pairwise_cons.mp hl).1 y hy
          unfold lexS lexI3 at a b
          cases x
          cases y
          simp only at a b
          congr 1 <;> omega
    subst e
    rw [lexS_uniq (List.pairwise_cons.mp hl).2 (List.pairwise_cons.mp hm).2 h.cons_inv]
theorem NearOk.uniq {ys zs : List S3} {s t : List Nat} {q : Nat} (h : NearOk ys s t q) (k : NearOk zs s t q) : ys = zs := lexS_uniq h.srt k.srt (h.perm.trans k.perm.symm)
theorem st_sortS {K : PySem.W.Frag} {H : Hp} {Q : VK} {p : Addr} {zs : List TZ} (h1 : SqL K H p (zs.map tV)) (ht : TT H zs) (h : ∀ (ys : List TZ) q H', ys.Perm zs → (ys.map (·.2)).Pairwise lexS → H q = none → Ex H H' → H' q = some (.lst (ys.map tV)) → Q (.ref q) H') : rSorted3 K [.ref p] H Q := by
  let f : TZ → ZT := fun z => (z.1, (z.2.w, ((z.2.b : Nat) : Int), ((z.2.e : Nat) : Int)))
  have hf : ∀ l : List TZ, (l.map f).map z3V = l.map tV := fun l => by rw [List.map_map]; rfl
  refine st_sort3 (zs := zs.map f) (by rw [hf]; exact h1) (fun z hz => ?_) fun ys q H' hp hs hq e hv => ?_
  · obtain ⟨y, hy, rfl⟩ := List.mem_map.mp hz
    exact ht y hy
  · obtain ⟨ws, hw, rfl⟩ := perm_mapV f ys zs hp
    refine h ws q H' hw ?_ hq e (by rw [hv, hf])
    rw [List.map_map] at hs
    rw [List.pairwise_map] at hs ⊢
    exact hs
/-- the worth of a near stretch -/
def spanS (q : Nat) (z : S3) : S3 := ⟨(q : Int) + 1 - z.w, z.b, z.e⟩
theorem NearOk.span {ys : List S3} {s t : List Nat} {q : Nat} (h : NearOk ys s t q) (hq : q ≤ 48) {z : S3} (hz : z ∈ ys.map (spanS q)) : SpOk t.length z := by
  obtain ⟨y, hy, rfl⟩ := List.mem_map.mp hz
  obtain ⟨h1, h2, h3, h4⟩ := nearP_mem (Nat.le_refl _) (h.perm.mem_iff.mp hy)
  exact ⟨by show 1 ≤ (q : Int) + 1 - y.w; omega, by show (q : Int) + 1 - y.w ≤ 1000000; omega, h1, h2⟩
theorem NearOk.len {ys : List S3} {s t : List Nat} {q : Nat} (h : NearOk ys s t q) (ht : t.length ≤ 24) : ys.length ≤ 300 := by
  rw [h.perm.length_eq]
  exact nearL_len s t q ht
def gainL (l : List Nat) (m b : Nat) : List Nat := ((List.range (l.length - m - b)).filter fun i => decide (gT (invT l) (b + i) < m + b)).map fun i => b + i
def winRow (l : List Nat) (m b : Nat) : List Int := (List.range (l.length - m - b + 1)).map fun j => winV l m 0 m b (b + j)
def winO (l : List Nat) (m b : Nat) : HO := .lst ((winRow l m b).map V.int)
theorem win_next {l : List Nat} (h : IsT l) {m b e : Nat} (hbe : b ≤ e) (he : e < l.length - m) : winV l m 0 m b (e + 1) = winV l m 0 m b e + (if gT (invT l) e < m + b then 1 else 0) := by
  unfold winV
  rw [Nat.sub_zero, Nat.sub_self, Nat.zero_add, Nat.zero_add]
  have h1 : cntT l (m + b) (e + 1) = cntT l (m + b) e + (if m + b ≤ l.idxOf e then 1 else 0) := by
    unfold cntT
    rw [countP_lt_succ, count_drop h (by omega)]
  rw [h1, invT_g (by omega)]
  by_cases q : m + b ≤ l.idxOf e
  · rw [if_pos q, if_neg (by omega)]; omega
  · rw [if_neg q, if_pos (by omega)]; omega
theorem gain_any {l : List Nat} {m b e : Nat} (hbe : b ≤ e) (he : e < l.length - m) : (((gainL l m b).map encN).any fun y => PyData.eqv y (encN e)) = decide (gT (invT l) e < m + b) := by
  rw [Bool.eq_iff_iff, List.any_eq_true, decide_eq_true_eq]
  constructor
  · rintro ⟨d, hd, h⟩
    obtain ⟨x, hx, rfl⟩ := List.mem_map.mp hd
    rw [eqv_encN, decide_eq_true_eq] at h
    subst h
    obtain ⟨i, hi, rfl⟩ := List.mem_map.mp hx
    simpa using (List.mem_filter.mp hi).2
  · intro h
    refine ⟨encN e, List.mem_map.mpr ⟨e, List.mem_map.mpr ⟨e - b, List.mem_filter.mpr ⟨List.mem_range.mpr (by omega), ?_⟩, by omega⟩, rfl⟩, by rw [eqv_encN]; exact decide_eq_true rfl⟩
    rw [show b + (e - b) = e by omega]
    exact decide_eq_true h
/-- the costs that are kept -/
structure CostsAt (K : PySem.W.Frag) (H : Hp) (p : Addr) (s t : Str) : Prop where
  ex : ∃ (dx cs : Addr) (rs : List Addr), H p = some (.ins (clsA K "Costs") dx [("turned_row", .str s), ("goal_row", .str t), ("wide", .int (t.length : Nat)), ("costs", .ref cs)]) ∧ H cs = some (.lst (rs.map V.ref)) ∧ ObjsAt H rs ((List.range (t.length + 1)).map fun b => .lst ((levRow s.cps.toList t.cps.toList b).map V.int)) ∧ rs.Nodup ∧ cs ∉ rs
theorem plain_pt {s : Str} (h : PlainS s) : 46 ∉ s.cps.toList := by
  have h : (isRow (.str s) && (decide (s.length ≤ 24) && !decide (46 ∈ s.cps.toList))) = true := h
  rw [Bool.and_eq_true, Bool.and_eq_true, Bool.not_eq_true'] at h
  exact of_decide_eq_false h.2.2
theorem plain_row {s : Str} (h : PlainS s) : RowS s := by
  have h : (isRow (.str s) && (decide (s.length ≤ 24) && !decide (46 ∈ s.cps.toList))) = true := h
  rw [Bool.and_eq_true] at h
  exact h.1
theorem parts_mem {l : List Nat} {c : Nat} (h : c ∈ parts l) : c = 46 ∨ c ∈ l := by
  induction l with
  | nil => cases h
  | cons a l ih =>
    rw [parts_cons] at h
    rcases List.mem_cons.mp h with h | h
    · exact .inl h
    · rcases List.mem_cons.mp h with h | h
      · exact .inr (by rw [h]; exact List.mem_cons_self)
      · exact (ih h).imp_right (List.mem_cons_of_mem _)
theorem parts_row {s : Str} (h : PlainS s) : RowS (tx (parts s.cps.toList)) := by
  have hr : (decide (s.length ≤ 48) && s.cps.toList.all rowSign) = true := plain_row h
  rw [Bool.and_eq_true] at hr
  show (decide ((tx (parts s.cps.toList)).length ≤ 48) && (tx (parts s.cps.toList)).cps.toList.all rowSign) = true
  rw [Bool.and_eq_true, decide_eq_true_eq, tx_length, tx_toList, parts_len]
  refine ⟨by have := h.len2; omega, List.all_eq_true.mpr fun c hc => ?_⟩
  rcases parts_mem hc with h | h
  · rw [h]; decide
  · exact List.all_eq_true.mp hr.2 c h
/-- a row of the table, cut to even places, is what the costs come of -/
theorem table_lev {s t : Str} (hs : PlainS s) (ht : PlainS t) {b j : Nat} (hb : b ≤ t.length) (hj : j ≤ t.length - b) :
    ((s.length : Int) + (j : Int)) - winV (brdL (tx (parts s.cps.toList)) (tx (parts t.cps.toList))) (2 * s.length) 0 (2 * s.length) (2 * b) (2 * b + 2 * j) = ((Lev s.cps.toList (t.cps.toList.drop b) s.length j : Nat) : Int) := by
  have hsl : s.cps.toList.length = s.length := Array.length_toList
  have htl : t.cps.toList.length = t.length := Array.length_toList
  have l1 : (tx (parts s.cps.toList)).length = 2 * s.length := by rw [tx_length, parts_len, hsl]
  have l2 : (tx (parts t.cps.toList)).length = 2 * t.length := by rw [tx_length, parts_len, htl]
  have w := winV_Lc (tx (parts s.cps.toList)) (tx (parts t.cps.toList)) (f := 0) (la := 2 * s.length) (b := 2 * b) (e := 2 * b + 2 * j) (.inl rfl) (.inl l1.symm) (Nat.zero_le _) (by omega) (by omega) (by omega)
  rw [l1] at w
  unfold winV
  rw [w, tx_toList, tx_toList, List.drop_zero, parts_drop, Nat.sub_zero, Nat.add_sub_cancel_left]
  have hd : 46 ∉ t.cps.toList.drop b := fun z => plain_pt ht (List.mem_of_mem_drop z)
  have := lev_Lc (plain_pt hs) hd _ s.length j (Nat.le_refl _) (by omega) (by rw [List.length_drop]; omega)
  omega
def sp_ranked (K : PySem.W.Frag) : Sp := fun vs H Q E => ∃ (D : Addr) (rs : List Addr) (s t : Str) (q : Nat), vs = [.ref D, .int (q : Nat)] ∧ H D = some (.lst (rs.map V.ref)) ∧ ObjsAt H rs ((List.range (t.length + 1)).map fun b => .lst ((levRow s.cps.toList t.cps.toList b).map V.int)) ∧ t.length ≤ 24 ∧ q ≤ 48 ∧ s.cps.toList.length = s.length ∧ ∀ a (zs : List TZ) H', Ex H H' → H a = none → H' a = some (.lst (zs.map tV)) → TT H' zs → NearOk (zs.map (·.2)) s.cps.toList t.cps.toList q → Q (.ref a) H'
theorem ok_ranked (T : Tx K mg ad fd tk base tc) : FnOk P w K mg base CX0 1 (ad 25) (fd 25) ["costs", "most"] (sp_ranked K) := by
  refine T.d_ranked.F.ok sc_ranked (fun vs H Q E h => ?_) (fun cdv A outer s H vs Q E hr h => ?_)
  · obtain ⟨D, rs, s, t, q, rfl, _⟩ := h
    rfl
  · obtain ⟨D, rs, s, t, q, rfl, hD, hO, hl, hq, hpl, k⟩ := h
    refine ⟨_, (pss_cons (ps_set (i := 2) sc_ranked.nd rfl (Or.inl rfl) (pe_lst pa_nil))
      (pss_cons (ps_for PassesOwn.never rfl (pi_enum rfl T.b_enumerate (pa_cons (pv 0) pa_nil)) (pg_tup rfl (pgs_cons (pg_name (i := 3) sc_ranked.nd rfl (Or.inl rfl)) (pgs_cons (pg_name (i := 4) sc_ranked.nd rfl (Or.inl rfl)) pgs_nil))) (pss_one (ps_for PassesOwn.never rfl (pi_enum rfl T.b_enumerate (pa_cons (pv 4) pa_nil)) (pg_tup rfl (pgs_cons (pg_name (i := 5) sc_ranked.nd rfl (Or.inl rfl)) (pgs_cons (pg_name (i := 6) sc_ranked.nd rfl (Or.inl rfl)) pgs_nil))) (pss_one (ps_if (PW.pt (pw_and (pt_cmpR o_gt (pv 5) pe_int (nomark _)) (pw_and1 (pt_cmpR o_le (pv 6) (pv 1) (nomark _))))) (pss_one (ps_expr (pe_bm PySem.F.plainAttrs_list PySem.F.slot_list_append PySem.F.type_list_append mt_append (pv 2) (pa_cons (pe_tup (pa_cons (pv 6) (pa_cons (pv 3) (pa_cons (pe_op o_add (pv 3) (pv 5)) pa_nil)))) pa_nil)))) pss_nil)))))
      (pss_one (ps_ret (pe_callB (c_sort3 (K := K)) (by rfl) T.b_sorted (by decide +kernel) (pa_cons (pv 2) pa_nil)))))), ?_⟩
    have htl : t.cps.toList.length = t.length := Array.length_toList
    have hrl : rs.length = t.length + 1 := by
      have := hO.len
      rw [List.length_map, List.length_range] at this
      exact this
    walk_at "go"
    rename_i F H1 nF e1 vF
    have hD1 := e1.get hD
    have DF : D ≠ F := ne_of_none hD nF
    have lv : ∀ b, ((levRow s.cps.toList t.cps.toList b).map V.int).length = t.length - b + 1 := fun b => by
      unfold levRow
      rw [List.length_map, List.length_map, List.length_range, htl]
    refine for_runs (runs_enum K D _) (fun i σ H' => (Fr (fun b => b = F) H1 H' ∧ ∃ zs : List TZ, H' F = some (.lst (zs.map tV)) ∧ TT H' zs ∧ zs.map (·.2) = nearP s.cps.toList t.cps.toList q i) ∧ ∃ y3 y4 y5 y6, σ = [some (.ref D), some (.int (q : Nat)), some (.ref F), y3, y4, y5, y6]) ⟨⟨Fr.refl _, [], vF, fun _ h => (by cases h), (nearP_0 s.cps.toList t.cps.toList q).symm⟩, _, _, _, _, rfl⟩ (fun i σ H' _ h => lst_of (h.1.1.get DF hD1)) ?_ ?_
    · rintro i x σ H2 H3 hi ⟨⟨f2, zs, z1, z2, z3⟩, y3, y4, y5, y6, rfl⟩ ⟨Tt, v, rfl, nT, eT, vT, hv⟩
      rw [List.length_map, hrl] at hi
      have hri : rs[i]? = some (rs[i]'(by omega)) := List.getElem?_eq_getElem _
      rw [List.getElem?_map, hri] at hv
      cases hv
      generalize hrow : rs[i]'(by omega) = row at vT
      have hro : H row = some (.lst ((levRow s.cps.toList t.cps.toList i).map V.int)) := hO.at i row _ (by rw [hri, hrow]) (by rw [List.getElem?_map, List.getElem?_range hi]; rfl)
      have rF : row ≠ F := fun z => by rw [z, nF] at hro; cases hro
      have hro3 := eT.get (f2.get rF (e1.get hro))
      have f3 : Fr (fun b => b = F) H1 H3 := f2.trans (Fr.ex eT)
      have z1' := eT.get z1
      have z2' := z2.ex eT
      walk_at "go"
      refine for_runs (runs_enum K row _) (fun j σ H' => (Fr (fun b => b = F) H1 H' ∧ ∃ zs : List TZ, H' F = some (.lst (zs.map tV)) ∧ TT H' zs ∧ zs.map (·.2) = nearP s.cps.toList t.cps.toList q i ++ nrowP s.cps.toList t.cps.toList q i j) ∧ ∃ y5 y6, σ = [some (.ref D), some (.int (q : Nat)), some (.ref F), some (.int (i : Nat)), some (.ref row), y5, y6]) ⟨⟨f3, zs, z1', z2', by rw [z3, nrowP_0, List.append_nil]⟩, _, _, rfl⟩ (fun i σ H' _ h => lst_of (h.1.1.get rF (e1.get hro))) ?_ ?_
      · rintro j x σ H4 H5 hj ⟨⟨f4, ws, w1, w2, w3⟩, y5, y6, rfl⟩ ⟨Tu, u, rfl, nU, eU, vU, hu⟩
        rw [lv] at hj
        have hu2 : u = V.int ((Lev s.cps.toList (t.cps.toList.drop i) s.length j : Nat) : Int) := by
          unfold levRow at hu
          rw [List.map_map, List.getElem?_map, htl, List.getElem?_range hj] at hu
          have := Option.some.inj hu
          rw [← this, ← hpl]
          rfl
        subst hu2
        have f5 : Fr (fun b => b = F) H1 H5 := f4.trans (Fr.ex eU)
        have w1' := eU.get w1
        have w2' := w2.ex eU
        have hwl : ws.length ≤ 10000 := by
          have h1 := congrArg List.length w3
          rw [List.length_map, List.length_append] at h1
          have h2 := nearP_len s.cps.toList t.cps.toList q i
          have h3 := nrowP_len s.cps.toList t.cps.toList q i j
          have h4 := sum_bound t.cps.toList.length i
          rw [htl] at h4 h2
          have h5 : i * t.length ≤ 25 * 24 := Nat.mul_le_mul (by omega) (by omega)
          omega
        have hstep := nrowP_s s.cps.toList t.cps.toList q i j
        rw [hpl] at hstep
        walk_at "go"
        by_cases c1 : 0 < j
        · rw [if_pos (by simpa using c1)]
          walk_at "go"
          by_cases c2 : Lev s.cps.toList (t.cps.toList.drop i) s.length j ≤ q
          · rw [if_pos (by simpa using c2)]
            walk_at "go"
            rename_i W H6 nW e6 vW
            rw [if_pos ⟨c1, c2⟩] at hstep
            refine st_app (e6.get w1') (by rw [List.length_map]; omega) ?_
            have vW' : H6 W = some (sO ⟨((Lev s.cps.toList (t.cps.toList.drop i) s.length j : Nat) : Int), i, i + j⟩) := by
              rw [vW]
              rfl
            refine ⟨⟨(f5.trans (Fr.ex e6)).trans (Fr.at rfl), ws ++ [(W, ⟨((Lev s.cps.toList (t.cps.toList.drop i) s.length j : Nat) : Int), i, i + j⟩)], by rw [upd_same, List.map_append]; rfl, ?_, ?_⟩, _, _, rfl⟩
            · refine TT.up (TT.app (w2'.ex e6) fun z hz => ?_) (e6.get w1')
              rw [List.mem_singleton.mp hz]
              exact vW'
            · rw [List.map_append, w3, hstep, List.append_assoc]
              rfl
          · rw [if_neg (by simpa using c2)]
            rw [if_neg fun h => c2 h.2, List.append_nil] at hstep
            walk_at "go"
            exact ⟨⟨f5, ws, w1', w2', by rw [w3, hstep]⟩, _, _, rfl⟩
        · rw [if_neg (by simpa using c1)]
          rw [if_neg fun h => c1 h.1, List.append_nil] at hstep
          walk_at "go"
          exact ⟨⟨f5, ws, w1', w2', by rw [w3, hstep]⟩, _, _, rfl⟩
      · rintro σ H4 ⟨⟨f4, ws, w1, w2, w3⟩, y5, y6, rfl⟩
        rw [lv] at w3
        walk_at "go"
        refine ⟨⟨f4, ws, w1, w2, ?_⟩, _, _, _, _, rfl⟩
        rw [w3, nearP_s, htl]
    · rintro σ H2 ⟨⟨f2, zs, z1, z2, z3⟩, y3, y4, y5, y6, rfl⟩
      rw [List.length_map, hrl] at z3
      walk_at "go"
      refine st_sortS (lstAt_sq (lst_of z1)) z2 fun ys a H3 hp hs na e3 va => ?_
      have e02 : Ex H H2 := Ex.comp (M := fun b => b = F) e1 f2 fun b hb => by rw [hb]; exact nF
      refine k a ys H3 (e02.trans e3) (Ex.free e02 na) va (fun z hz => e3.get (z2 z (hp.mem_iff.mp hz))) ⟨?_, hs⟩
      have h1 := hp.map (·.2)
      rw [z3] at h1
      unfold nearL
      rw [htl]
      exact h1
def sp_Asks_gains (K : PySem.W.Frag) : Sp := fun vs H Q E => ∃ (p : Addr) (l : List Nat) (m b : Nat), vs = [.ref p, .int (b : Nat)] ∧ AsksAt K H p l m ∧ b ≤ l.length - m ∧ ∀ D H', Ex H H' → H D = none → H' D = some (.lst ((gainL l m b).map nV)) → Q (.ref D) H'
theorem ok_Asks_gains (T : Tx K mg ad fd tk base tc) : FnOk P w K mg base CX0 4 (ad 26) (fd 26) ["self", "begin"] (sp_Asks_gains K) := by
  refine T.d_Asks_gains.F.ok sc_Asks_gains (fun vs H Q E h => ?_) (fun cdv A outer s H vs Q E hr h => ?_)
  · obtain ⟨p, l, m, b, rfl, _⟩ := h
    rfl
  · obtain ⟨p, l, m, b, rfl, hp, h1, k⟩ := h
    refine ⟨_, (pss_cons (ps_expr (pe_call (ok_need_place T) (hr.mono (by decide)) rfl T.d_need_place.g T.d_need_place.F.kp T.d_need_place.b .nil passL (pa_cons (pv 1) (pa_cons (pe_fldK (K := K) (pv 0) rfl) pa_nil))))
      (pss_one (ps_ret (pe_lc (own := [("at", 2)]) (g := gName 2) rfl sc_Asks_gains.nd (pi_range2 rfl T.b_range (pa_cons (pv 1) (pa_cons (pe_fldK (K := K) (pv 0) rfl) pa_nil))) (blkOk_by (own := [("at", 2)]) (N := N_Asks_gains) (sc := defScope s_Asks_gains) (by decide +kernel)) (fun _ _ _ _ _ => pg_name (i := 2) sc_Asks_gains.nd rfl (Or.inl rfl)) (fun _ _ _ _ _ => pts_one (pt_cmpR o_lt (pe_ix (i_ix (K := K)) (pe_fldK (K := K) (pv 0) rfl) (pv 2) (fun _ _ => rfl)) (pe_op o_add (pe_fldK (K := K) (pv 0) rfl) (pv 1)) (nomark _))) (fun _ _ _ _ _ => (pv 2)))))), ?_⟩
    obtain ⟨dx, tp, ga, sa, g1, g2, g3, g4, g5, g6, g7⟩ := hp
    walk_at "go"
    refine ⟨_, _, rfl, ⟨_, rfl⟩, fun h => nat_no h1 h, fun _ => ?_⟩
    walk_at "go"
    rw [show (((l.length - m : Nat) : Int) - (b : Nat)).toNat = l.length - m - b by omega]
    refine lc_pure (rv_range (b : Nat) _) (fun _ _ => trivial) (by rw [List.length_range]; omega) (fun i => decide (gT (invT l) (b + i) < m + b)) (fun i => nV (b + i)) ?_ ?_
    · intro i H' hi e B A' k1 k2
      have hi := List.mem_range.mp hi
      have g1' := e.get g1
      have g4' := e.get g4
      refine ⟨rfl, ?_⟩
      rw [show ((b : Nat) : Int) + (i : Nat) = ((b + i : Nat) : Int) by omega]
      walk_at "go"
      refine st_ixL g4' (at_nV (by rw [invT_len]; omega)) ?_
      unfold nV
      walk_at "go"
      refine st_br2 (fun c => ?_) (fun c => ?_)
      · walk_at "go"
        exact k1 (decide_eq_true (by omega)) _ (Fr.refl _)
      · exact k2 (decide_eq_false (by omega)) _ (Fr.refl _)
    · intro D H1 nD e1 vD
      refine k D H1 e1 nD ?_
      rw [vD, gainL, List.map_map]
      rfl
def sp_Tally_from_on (K : PySem.W.Frag) : Sp := fun vs H Q _ => ∃ (p : Addr) (l : List Nat) (b e : Nat), vs = [.ref p, .int (b : Nat), .int (e : Nat)] ∧ TalAt K H p l ∧ b ≤ 1000 ∧ Q (.int (cntT l b e : Nat)) H
theorem ok_Tally_from_on (T : Tx K mg ad fd tk base tc) : FnOk P w K mg base CX0 2 (ad 27) (fd 27) ["self", "begin", "end"] (sp_Tally_from_on K) := by
  refine T.d_Tally_from_on.F.ok sc_Tally_from_on (fun vs H Q E h => ?_) (fun cdv A outer s H vs Q E hr h => ?_)
  · obtain ⟨p, l, b, e, rfl, _⟩ := h
    rfl
  · obtain ⟨p, l, b, e, rfl, hp, hb, k⟩ := h
    refine ⟨_, (pss_cons (ps_set (i := 3) sc_Tally_from_on.nd rfl (Or.inl rfl) pe_int)
      (pss_cons (ps_set (i := 4) sc_Tally_from_on.nd rfl (Or.inl rfl) (pv 1))
      (pss_cons (ps_for PassesOwn.never rfl (pi_list (pe_fldK (K := K) (pv 0) rfl)) (pg_name (i := 5) sc_Tally_from_on.nd rfl (Or.inl rfl)) (pss_cons (ps_if (pt_cmpR o_ge (pv 4) (pe_callB (c_len (K := K)) (by rfl) T.b_len (by decide +kernel) (pa_cons (pv 5) pa_nil)) (nomark _)) (pss_one (ps_ret (pv 3))) pss_nil)
      (pss_cut (ps_if (PW.pt (pw_or (pt_cmpR (o_eq hr.units) (pe_op o_mod (pv 4) pe_int) pe_int (nomark _)) (pw_or1 (pt_cmpR (o_eq hr.units) (pe_callB (c_len (K := K)) (by rfl) T.b_len (by decide +kernel) (pa_cons (pv 5) pa_nil)) pe_int (nomark _))))) (pss_cons (ps_aug (i := 3) sc_Tally_from_on.nd rfl (Or.inl rfl) (pe_call (ok_lesser T) (hr.mono (by decide)) rfl T.d_lesser.g T.d_lesser.F.kp T.d_lesser.b .nil pass0 (pa_cons (pe_ix (i_ix (K := K)) (pv 5) (pv 4) (fun _ _ => rfl)) (pa_cons (pv 2) pa_nil))) ip_add)
      (pss_one (ps_aug (i := 4) sc_Tally_from_on.nd rfl (Or.inl rfl) pe_int ip_add))) pss_nil)
      (pss_one (ps_set (i := 4) sc_Tally_from_on.nd rfl (Or.inl rfl) (pe_op o_div (pv 4) pe_int))))))
      (pss_one (ps_ret (pv 3)))))), ?_⟩
    obtain ⟨dx, fa, qs, fs, h1, h2, h3, h4, h5, h6, h7⟩ := hp
    have hql := h3.len
    walk_at "go"
    have start : restP (fun x => decide (x < e)) (ones l) b = cntT l b e := rest_ones _ l _ b rfl
    refine for_runs (runs_list K fa _) (fun j σ H' => H' = H ∧ ∃ (tot at_ : Nat), ((∃ bs, fs[j]? = some bs ∧ tot + restP (fun x => decide (x < e)) bs at_ = cntT l b e) ∨ (j = fs.length ∧ tot = cntT l b e)) ∧ at_ ≤ 1001 ∧ ∃ y, σ = [some (.ref p), some (.int (b : Nat)), some (.int (e : Nat)), some (.int (tot : Nat)), some (.int (at_ : Nat)), y]) ⟨rfl, 0, b, .inl ⟨_, h4.fst, by rw [start]; omega⟩, by omega, _, rfl⟩ (fun j σ H' _ h => by rw [h.1]; exact lst_of h2) ?_ ?_
    rotate_left
    · rintro σ H' ⟨rfl, tot, at_, hc, _, y, rfl⟩
      rw [List.length_map, hql] at hc
      have ht : tot = cntT l b e := by
        rcases hc with ⟨bs, hbs, _⟩ | ⟨_, h⟩
        · have := (List.getElem?_eq_some_iff.mp hbs).1
          omega
        · exact h
      subst ht
      walk_at "go"
      exact k
    rintro j x σ H0 H' hj ⟨hH, tot, at_, hc, hat, y, rfl⟩ ⟨hH2, hx⟩
    have hH3 := (hH2.trans hH).symm
    clear hH2 hH
    subst hH3
    rw [List.length_map, hql] at hj
    obtain ⟨q, hq⟩ : ∃ q, qs[j]? = some q := ⟨qs[j]'(by omega), List.getElem?_eq_getElem _⟩
    rw [List.getElem?_map, hq] at hx
    cases hx
    obtain ⟨bs, hbs, hrest⟩ : ∃ bs, fs[j]? = some bs ∧ tot + restP (fun x => decide (x < e)) bs at_ = cntT l b e := by
      rcases hc with h | ⟨h, _⟩
      · exact h
      · omega
    obtain ⟨rs, bs', hb', hT⟩ := h3.tb j q hq
    have : bs' = bs := by rw [hb'] at hbs; exact Option.some.inj hbs
    subst this
    have hrl := hT.len
    have hTa := hT.at_
    have hlen := h4.len _ _ hbs
    walk_at "go"
    rw [List.length_map, hrl]
    refine st_br2 (fun c1 => ?_) (fun c1 => ?_)
    · rw [restP_end (by omega)] at hrest
      have ht : tot = cntT l b e := by omega
      subst ht
      walk_at "go"
      exact k
    have hal : at_ < bs'.length := by omega
    have step := restP_at (p := fun x => decide (x < e)) hal
    have next : ∀ cs, fs[j + 1]? = some cs → 2 ≤ bs'.length ∧ ∀ i, restP (fun x => decide (x < e)) cs i = restP (fun x => decide (x < e)) bs' (2 * i) := fun cs hcs => by
      obtain ⟨g1, g2⟩ := h4.nxt j _ _ hbs hcs
      exact ⟨g1, fun i => g2.rest _ _ i rfl⟩
    have last : ¬ j + 1 < fs.length → bs'.length ≤ 1 := fun h => h5 _ (by rw [show fs.length - 1 = j by omega]; exact hbs)
    walk_at "go"
    refine ⟨fun σ' H' => H' = H ∧ ∃ (tot at_ : Nat), ((∃ cs, fs[j + 1]? = some cs ∧ tot + restP (fun x => decide (x < e)) cs (at_ / 2) = cntT l b e) ∨ (j + 1 = fs.length ∧ tot = cntT l b e)) ∧ at_ ≤ 1001 ∧ σ' = [some (.ref p), some (.int (b : Nat)), some (.int (e : Nat)), some (.int (tot : Nat)), some (.int (at_ : Nat)), some (.ref q)], ?_, ?_⟩
    rotate_left
    · rintro σ' H' ⟨rfl, tot', at', hc', hat', rfl⟩
      walk_at "go"
      refine ⟨rfl, tot', at' / 2, hc', by omega, some (.ref q), ?_⟩
      rw [show ((at' / 2 : Nat) : Int) = ((at' : Nat) : Int) / 2 by omega]
      rfl
    obtain ⟨r, hr1, hr2⟩ := hT.row hal
    have hblk := h4.blk hbs (List.getElem_mem hal)
    have fin : at_ % 2 = 1 ∨ bs'.length = 1 → ((∃ cs, fs[j + 1]? = some cs ∧ (tot + bs'[at_].countP (fun x => decide (x < e))) + restP (fun x => decide (x < e)) cs ((at_ + 1) / 2) = cntT l b e) ∨ (j + 1 = fs.length ∧ tot + bs'[at_].countP (fun x => decide (x < e)) = cntT l b e)) := fun hc => by
      by_cases hj2 : j + 1 < fs.length
      · obtain ⟨g1, g2⟩ := next _ (List.getElem?_eq_getElem hj2)
        refine .inl ⟨_, List.getElem?_eq_getElem hj2, ?_⟩
        rw [g2, show 2 * ((at_ + 1) / 2) = at_ + 1 by omega]
        omega
      · have := last hj2
        rw [restP_end (i := at_ + 1) (by omega)] at step
        exact .inr ⟨by omega, by omega⟩
    have stay : ¬ (at_ % 2 = 1) → ¬ (bs'.length = 1) → ((∃ cs, fs[j + 1]? = some cs ∧ tot + restP (fun x => decide (x < e)) cs (at_ / 2) = cntT l b e) ∨ (j + 1 = fs.length ∧ tot = cntT l b e)) := fun c2 c3 => by
      by_cases hj2 : j + 1 < fs.length
      · obtain ⟨g1, g2⟩ := next _ (List.getElem?_eq_getElem hj2)
        refine .inl ⟨_, List.getElem?_eq_getElem hj2, ?_⟩
        rw [g2, show 2 * (at_ / 2) = at_ by omega]
        exact hrest
      · have := last hj2
        omega
    refine st_ifS ?_
    walk_at "go"
    by_cases c2 : at_ % 2 = 1
    · rw [decide_eq_true (by omega)]
      walk_at "go"
      refine st_ixL hTa (v := .ref r) (at_nat (by rw [List.getElem?_map, hr1]; rfl)) ?_
      walk_at "go"
      refine ⟨r, _, e, rfl, hr2, hblk.1, by omega, ?_⟩
      walk_at "go"
      refine ⟨rfl, _, at_ + 1, fin (.inl c2), by omega, ?_⟩
      rw [show ((at_ + 1 : Nat) : Int) = ((at_ : Nat) : Int) + 1 by omega, Int.natCast_add]
      rfl
    · rw [decide_eq_false (by omega)]
      walk_at "go"
      rw [List.length_map, hrl]
      by_cases c3 : bs'.length = 1
      · rw [decide_eq_true (by omega)]
        walk_at "go"
        refine st_ixL hTa (v := .ref r) (at_nat (by rw [List.getElem?_map, hr1]; rfl)) ?_
        walk_at "go"
        refine ⟨r, _, e, rfl, hr2, hblk.1, by omega, ?_⟩
        walk_at "go"
        refine ⟨rfl, _, at_ + 1, fin (.inr c3), by omega, ?_⟩
        rw [show ((at_ + 1 : Nat) : Int) = ((at_ : Nat) : Int) + 1 by omega, Int.natCast_add]
        rfl
      · rw [decide_eq_false (by omega)]
        walk_at "go"
        exact ⟨rfl, tot, at_, stay c2 c3, hat, rfl⟩
def sp_Tally_below (K : PySem.W.Frag) : Sp := fun vs H Q E => ∃ (p : Addr) (l : List Nat) (b e : V), vs = [.ref p, b, e] ∧ TalAt K H p l ∧ Ty H b ∧ Ty H e ∧ (withinV b 0 l.length = false → RaF K E H "NoPlace" [("found", b)]) ∧ (withinV b 0 l.length = true → withinV e 0 l.length = false → RaF K E H "NoPlace" [("found", e)]) ∧ (∀ i j : Nat, b = .int (i : Nat) → e = .int (j : Nat) → i ≤ l.length → j ≤ l.length → Q (.int (cntT l i j : Nat)) H)
theorem ok_Tally_below (T : Tx K mg ad fd tk base tc) : FnOk P w K mg base (L2.CX P w) 4 (ad 28) (fd 28) ["self", "begin", "end"] (sp_Tally_below K) := by
  refine T.d_Tally_below.F.okX sc_Tally_below (fun vs H Q E h => ?_) (fun cdv A outer s H vs Q E hr h => ?_)
  · obtain ⟨p, l, b, e, rfl, _⟩ := h
    rfl
  · obtain ⟨p, l, b, e, rfl, hp, hb, he, k0, k1, k2⟩ := h
    refine ⟨_, (pss_cons (ps_expr (pe_call (ok_need_place T) (hr.mono (by decide)) rfl T.d_need_place.g T.d_need_place.F.kp T.d_need_place.b .nil (passes_call (takes_of rfl rfl rfl rfl) (fun _ _ _ _ h => h)) (pa_cons (pv 1) (pa_cons (pe_fldK (K := K) (pv 0) rfl) pa_nil))))
      (pss_cons (ps_expr (pe_call (ok_need_place T) (hr.mono (by decide)) rfl T.d_need_place.g T.d_need_place.F.kp T.d_need_place.b .nil (passes_call (takes_of rfl rfl rfl rfl) (fun _ _ _ _ h => h)) (pa_cons (pv 2) (pa_cons (pe_fldK (K := K) (pv 0) rfl) pa_nil))))
      (pss_one (ps_ret (pe_meth (pv 0) T.cl_Tally T.d_Tally_from_on.g (ok_Tally_from_on T) (hr.mono (by decide)) T.d_Tally_from_on.b .nil pass0 (pa_cons (pv 1) (pa_cons (pv 2) pa_nil))))))), ?_⟩
    obtain ⟨dx, fa, qs, fs, h1, _, _, _, _, _, h7⟩ := id hp
    walk_at "go"
    refine ⟨b, _, rfl, hb, k0, fun hbt => ?_⟩
    walk_at "go"
    refine ⟨e, _, rfl, he, k1 hbt, fun het => ?_⟩
    obtain ⟨i, rfl, hi⟩ := within_nat hbt
    obtain ⟨j, rfl, hj⟩ := within_nat het
    walk_at "go"
    exact ⟨p, l, i, j, rfl, hp, by omega, k2 i j rfl rfl hi hj⟩
def sp_Asks_window (K : PySem.W.Frag) : Sp := fun vs H Q E => ∃ (p : Addr) (l : List Nat) (m f la b e : Nat), vs = [.ref p, .int (f : Nat), .int (la : Nat), .int (b : Nat), .int (e : Nat)] ∧ AsksAt K H p l m ∧ WinOk m (l.length - m) f la b e ∧ ∀ H', Ex H H' → Q (.int (winV l m f la b e)) H'
theorem ok_Asks_window (T : Tx K mg ad fd tk base tc) : FnOk P w K mg base CX0 5 (ad 29) (fd 29) ["self", "first", "last", "begin", "end"] (sp_Asks_window K) := by
  refine T.d_Asks_window.F.ok sc_Asks_window (fun vs H Q E h => ?_) (fun cdv A outer s H vs Q E hr h => ?_)
  · obtain ⟨p, l, m, f, la, b, e, rfl, _⟩ := h
    rfl
  · obtain ⟨p, l, m, f, la, b, e, rfl, hp, hk, k⟩ := h
    refine ⟨_, (pss_cons (ps_expr (pe_call (ok_need_window T) (hr.mono (by decide)) rfl T.d_need_window.g T.d_need_window.F.kp T.d_need_window.b .nil pass0 (pa_cons (pe_fldK (K := K) (pv 0) rfl) (pa_cons (pe_fldK (K := K) (pv 0) rfl) (pa_cons (pe_tup (pa_cons (pv 1) (pa_cons (pv 2) (pa_cons (pv 3) (pa_cons (pv 4) pa_nil))))) pa_nil)))))
      (pss_one (ps_ret (pe_op o_sub (pe_op o_sub (pv 4) (pv 3)) (pe_meth (pe_fldK (K := K) (pv 0) rfl) T.cl_Tally T.d_Tally_below.g (ok_Tally_below T) (hr.mono (by decide)) T.d_Tally_below.b .nil passL (pa_cons (pe_op o_add (pe_op o_sub (pe_fldK (K := K) (pv 0) rfl) (pv 1)) (pv 3)) (pa_cons (pe_op o_add (pe_op o_sub (pe_fldK (K := K) (pv 0) rfl) (pv 2)) (pv 4)) pa_nil))))))), ?_⟩
    obtain ⟨dx, tp, ga, sa, h1, h2, h3, h4, h5, h6, h7⟩ := hp
    obtain ⟨g1, g2, g3, g4, g5, g6⟩ := id hk
    walk_at "go"
    rename_i t H1 n1 e1 v1
    refine ⟨t, m, l.length - m, f, la, b, e, rfl, v1, hk, ?_⟩
    have h1' := e1.get h1
    have h2' := h2.ex e1
    obtain ⟨_, _, _, _, hins, _⟩ := id h2'
    walk_at "go"
    rw [show ((m : Nat) : Int) - (f : Nat) + (b : Nat) = ((m - f + b : Nat) : Int) by omega, show ((m : Nat) : Int) - (la : Nat) + (e : Nat) = ((m - la + e : Nat) : Int) by omega]
    refine ⟨tp, l, _, _, rfl, h2', ⟨_, rfl⟩, ⟨_, rfl⟩, fun h => nat_no (by omega) h, fun _ h => nat_no (by omega) h, fun i j hi hj _ _ => ?_⟩
    have q1 : i = m - f + b := by have := V.int.inj hi; omega
    have q2 : j = m - la + e := by have := V.int.inj hj; omega
    subst q1
    subst q2
    walk_at "go"
    exact k _ e1
def sp_Asks_stretch (K : PySem.W.Frag) : Sp := fun vs H Q E => ∃ (p : Addr) (l : List Nat) (m b e : Nat), vs = [.ref p, .int (b : Nat), .int (e : Nat)] ∧ AsksAt K H p l m ∧ b ≤ e ∧ e ≤ l.length - m ∧ ∀ H', Ex H H' → Q (.int (winV l m 0 m b e)) H'
theorem ok_Asks_stretch (T : Tx K mg ad fd tk base tc) : FnOk P w K mg base CX0 6 (ad 30) (fd 30) ["self", "begin", "end"] (sp_Asks_stretch K) := by
  refine T.d_Asks_stretch.F.ok sc_Asks_stretch (fun vs H Q E h => ?_) (fun cdv A outer s H vs Q E hr h => ?_)
  · obtain ⟨p, l, m, b, e, rfl, _⟩ := h
    rfl
  · obtain ⟨p, l, m, b, e, rfl, hp, h1, h2, k⟩ := h
    refine ⟨_, (pss_cons (ps_expr (pe_call (ok_need_span T) (hr.mono (by decide)) rfl T.d_need_span.g T.d_need_span.F.kp T.d_need_span.b .nil passL (pa_cons (pv 1) (pa_cons (pv 2) (pa_cons (pe_fldK (K := K) (pv 0) rfl) pa_nil)))))
      (pss_one (ps_ret (pe_meth (pv 0) T.cl_Asks T.d_Asks_window.g (ok_Asks_window T) (hr.mono (by decide)) T.d_Asks_window.b .nil pass0 (pa_cons pe_int (pa_cons (pe_fldK (K := K) (pv 0) rfl) (pa_cons (pv 1) (pa_cons (pv 2) pa_nil)))))))), ?_⟩
    obtain ⟨dx, tp, ga, sa, g1, g2⟩ := id hp
    walk_at "go"
    refine use_span h1 h2 ?_
    walk_at "go"
    exact ⟨p, l, m, 0, m, b, e, rfl, hp, ⟨Nat.zero_le _, Nat.le_refl _, h1, h2, .inl rfl, .inl rfl⟩, k⟩
def sp_Asks_table (K : PySem.W.Frag) : Sp := fun vs H Q E => ∃ (p : Addr) (l : List Nat) (m : Nat), vs = [.ref p] ∧ AsksAt K H p l m ∧ ∀ D rs H', Ex H H' → H D = none → H' D = some (.lst (rs.map V.ref)) → ObjsAt H' rs ((List.range (l.length - m + 1)).map (winO l m)) → D ∉ rs → (∀ r ∈ rs, H r = none) → rs.Nodup → Q (.ref D) H'
theorem ok_Asks_table (T : Tx K mg ad fd tk base tc) : FnOk P w K mg base CX0 7 (ad 31) (fd 31) ["self"] (sp_Asks_table K) := by
  refine T.d_Asks_table.F.ok sc_Asks_table (fun vs H Q E h => ?_) (fun cdv A outer s H vs Q E hr h => ?_)
  · obtain ⟨p, l, m, rfl, _⟩ := h
    rfl
  · obtain ⟨p, l, m, rfl, hp, k⟩ := h
    refine ⟨_, (pss_cons (ps_set (i := 1) sc_Asks_table.nd rfl (Or.inl rfl) (pe_lst pa_nil))
      (pss_cons (ps_for PassesOwn.never rfl (pi_range1 rfl T.b_range (pa_cons (pe_op o_add (pe_fldK (K := K) (pv 0) rfl) pe_int) pa_nil)) (pg_name (i := 2) sc_Asks_table.nd rfl (Or.inl rfl)) (pss_cons (ps_set (i := 3) sc_Asks_table.nd rfl (Or.inl rfl) (pe_lst (pa_cons (pe_meth (pv 0) T.cl_Asks T.d_Asks_stretch.g (ok_Asks_stretch T) (hr.mono (by decide)) T.d_Asks_stretch.b .nil pass0 (pa_cons (pv 2) (pa_cons (pv 2) pa_nil))) pa_nil)))
      (pss_cons (ps_set (i := 4) sc_Asks_table.nd rfl (Or.inl rfl) (pe_meth (pv 0) T.cl_Asks T.d_Asks_gains.g (ok_Asks_gains T) (hr.mono (by decide)) T.d_Asks_gains.b .nil pass0 (pa_cons (pv 2) pa_nil)))
      (pss_cons (ps_for PassesOwn.never rfl (pi_range2 rfl T.b_range (pa_cons (pv 2) (pa_cons (pe_fldK (K := K) (pv 0) rfl) pa_nil))) (pg_name (i := 5) sc_Asks_table.nd rfl (Or.inl rfl)) (pss_one (ps_expr (pe_bm PySem.F.plainAttrs_list PySem.F.slot_list_append PySem.F.type_list_append mt_append (pv 3) (pa_cons (pe_op o_add (pe_ix (i_ix (K := K)) (pv 3) (pe_un un_neg pe_int) (fun _ _ => rfl)) (pe_callTy c_int (by rfl) T.b_int (by decide +kernel) (pa_cons (pe_cmpR (o_in hr.units) (pv 5) (pv 4) rfl) pa_nil))) pa_nil)))))
      (pss_one (ps_expr (pe_bm PySem.F.plainAttrs_list PySem.F.slot_list_append PySem.F.type_list_append mt_append (pv 1) (pa_cons (pv 3) pa_nil))))))))
      (pss_one (ps_ret (pv 1))))), ?_⟩
    obtain ⟨dx, tp, ga, sa, g1, g2, g3, g4, g5, g6, g7⟩ := id hp
    walk_at "go"
    rename_i F H1 n1 e1 v1
    have g1' := e1.get g1
    walk_at "go"
    rw [show (((l.length - m : Nat) : Int) + 1).toNat = l.length - m + 1 by omega]
    refine for_runs (runs_range 0 _) (fun i σ H' => (FrP F H1 H' ∧ ∃ rs : List Addr, H' F = some (.lst (rs.map V.ref)) ∧ ObjsAt H' rs ((List.range i).map (winO l m)) ∧ F ∉ rs ∧ (∀ r ∈ rs, H r = none) ∧ rs.Nodup) ∧ ∃ y2 y3 y4 y5, σ = [some (.ref p), some (.ref F), y2, y3, y4, y5]) ⟨⟨Fr.refl _, [], v1, .nil, by simp, by simp, List.nodup_nil⟩, _, _, _, _, rfl⟩ (fun _ _ _ _ _ => trivial) ?_ ?_
    rotate_left
    · rintro σ H2 ⟨⟨f2, rs, h1, h2, h3, h4, h5⟩, y2, y3, y4, y5, rfl⟩
      walk_at "go"
      exact k F rs H2 (Ex.comp (M := fun b => b = F) e1 f2 fun b hb => by rw [hb]; exact n1) n1 h1 h2 h3 h4 h5
    rintro b x σ H0 H2 hb ⟨⟨f2, rs, h1, h2, h3, h4, h5⟩, y2, y3, y4, y5, rfl⟩ ⟨rfl, rfl⟩
    have e02 : Ex H H2 := Ex.comp (M := fun b => b = F) e1 f2 fun b hb => by rw [hb]; exact n1
    have hp2 := hp.ex e02
    have g2' := e02.get g1
    have hrl := h2.len
    rw [List.length_map, List.length_range] at hrl
    rw [show (0 : Int) + ((b : Nat) : Int) = (b : Nat) by omega]
    walk_at "go"
    refine ⟨p, l, m, b, b, rfl, hp2, Nat.le_refl _, by omega, fun H3 e3 => ?_⟩
    have hp3 := hp2.ex e3
    have g3' := e3.get g2'
    walk_at "go"
    rename_i R H4 n4 e4 v4
    have hp4 := hp3.ex e4
    have g4' := e4.get g3'
    refine ⟨p, l, m, b, rfl, hp4, by omega, fun G H5 e5 n5 v5 => ?_⟩
    have g5' := e5.get g4'
    have v45 := e5.get v4
    have hRG : G ≠ R := fun z => by rw [z, v4] at n5; cases n5
    walk_at "go"
    rw [show (((l.length - m : Nat) : Int) - (b : Nat)).toNat = l.length - m - b by omega]
    refine for_runs (runs_range (b : Nat) _) (fun j σ H' => (FrP R H5 H' ∧ H' R = some (.lst (((List.range (j + 1)).map fun j => winV l m 0 m b (b + j)).map V.int))) ∧ ∃ y5, σ = [some (.ref p), some (.ref F), some (.int (b : Nat)), some (.ref R), some (.ref G), y5]) ⟨⟨Fr.refl _, v45⟩, _, rfl⟩ (fun _ _ _ _ _ => trivial) ?_ ?_
    · rintro j x σ H0' H6 hj ⟨⟨f6, v6⟩, y5, rfl⟩ ⟨rfl, rfl⟩
      rw [show ((b : Nat) : Int) + (j : Nat) = ((b + j : Nat) : Int) by omega]
      have v5' := f6.get hRG v5
      have hl1 : (((List.range (j + 1)).map fun j => winV l m 0 m b (b + j)).map V.int).length = j + 1 := by simp
      walk_at "go"
      refine st_ixL v6 (at_last (n := j) hl1 (v := .int (winV l m 0 m b (b + j))) (by rw [List.getElem?_map, List.getElem?_map, List.getElem?_range (by omega)]; rfl)) ?_
      walk_at "go"
      refine st_inL (seq_l v5') (rpA_map (val := nV) (enc := encN) fun _ _ => .int _) (d := encN (b + j)) (.int _) (by simp [encN, PyData.depth]) ?_
      rw [gain_any (by omega) (by omega)]
      walk_at "go"
      refine st_app v6 (by rw [hl1]; omega) ?_
      refine ⟨⟨f6.trans FrP.at, ?_⟩, _, rfl⟩
      rw [upd_same, List.range_succ (n := j + 1), List.map_append, List.map_append]
      have := win_next g5 (m := m) (b := b) (e := b + j) (by omega) (by omega)
      have hw : winV l m 0 m b (b + (j + 1)) = winV l m 0 m b (b + j) + (if decide (gT (invT l) (b + j) < m + b) = true then 1 else 0) := by
        rw [show b + (j + 1) = b + j + 1 by omega, this]
        simp only [decide_eq_true_eq]
      show _ = some (HO.lst (_ ++ [V.int (winV l m 0 m b (b + (j + 1)))]))
      rw [hw]
    · rintro σ H6 ⟨⟨f6, v6⟩, y5, rfl⟩
      have hRF : R ≠ F := fun z => by rw [z, e3.get h1] at n4; cases n4
      have nR2 : H2 R = none := Ex.free e3 n4
      have nR : H R = none := Ex.free e02 nR2
      have e26 : Ex H2 H6 := Ex.comp (M := fun b => b = R) (e3.trans (e4.trans e5)) f6 fun b hb => by rw [hb]; exact nR2
      have hF6 := e26.get h1
      have hRr : R ∉ rs := fun z => by
        obtain ⟨i, hi⟩ := List.getElem?_of_mem z
        have hir := (List.getElem?_eq_some_iff.mp hi).1
        have := h2.at i R _ hi (by rw [List.getElem?_map, List.getElem?_range (by omega)]; rfl)
        rw [nR2] at this
        cases this
      walk_at "go"
      refine st_app hF6 (by rw [List.length_map]; omega) ?_
      refine ⟨⟨fun x o hx h => by rw [upd_ne hx]; exact e26.get (f2 x o hx h), rs ++ [R], by rw [upd_same, List.map_append]; rfl, ?_, ?_, ?_, ?_⟩, _, _, _, _, rfl⟩
      · rw [List.range_succ, List.map_append]
        refine ObjsAt.app ((h2.ex e26).up h3) (.one ?_)
        rw [upd_ne hRF]
        exact v6
      · rw [List.mem_append, List.mem_singleton]
        rintro (z | z)
        · exact h3 z
        · exact hRF z.symm
      · intro r hr
        rcases List.mem_append.mp hr with z | z
        · exact h4 r z
        · rw [List.mem_singleton.mp z]; exact nR
      · rw [List.nodup_append]
        exact ⟨h5, by simp, fun x hx y hy => by rw [List.mem_singleton.mp hy]; exact fun z => hRr (z ▸ hx)⟩
def sp_Costs_init (K : PySem.W.Frag) (TL : List (Addr × Str)) : Sp := fun vs H Q E => ∃ (p dx : Addr) (x y : V), vs = [.ref p, x, y] ∧ H p = some (.ins (clsA K "Costs") dx []) ∧ LamX.Tabs TL H ∧ Plains2 K E H x y fun s t => ∀ H', Fr (fun b => b = p) (noT H) H' → LamX.Tabs TL H' → CostsAt K H' p s t → Q .non H'
theorem mk_costs {K : PySem.W.Frag} {TL : List (Addr × Str)} {H : Hp} {Q : VK} {E : XK} {x y : V} (hT : LamX.Tabs TL H) (hR : Plains2 K E H x y fun s t => ∀ p H', Ex (noT H) H' → H p = none → LamX.Tabs TL H' → CostsAt K H' p s t → Q (.ref p) H') : MakeP (clsA K "Costs") (sp_Costs_init K TL) [] E Q [x, y] H := by
  refine st_makeP fun p dx H1 np e1 v1 => ?_
  refine ⟨p, dx, _, _, rfl, v1, hT.ext fun b o h => e1.get h, ?_⟩
  rcases hR with ⟨s, t, rfl, rfl, hs, ht, k⟩ | ⟨h1, h2, h⟩
  · refine .inl ⟨s, t, rfl, rfl, hs, ht, fun H2 f2 hT2 hB => ?_⟩
    refine ⟨rfl, k p H2 ?_ np hT2 hB⟩
    exact Ex.comp (M := fun b => b = p) (noT_mono e1) f2 fun b hb => by
      rw [hb]
      unfold Zb.noT
      rw [np]
  · refine .inr ⟨h1.ex e1, h2.ex e1, ?_⟩
    rcases h with ⟨a, b⟩ | ⟨a, b, c⟩
    · exact .inl ⟨a, b.ex e1⟩
    · exact .inr ⟨a, b, c.ex e1⟩
theorem ok_Costs_init (T : Tx K mg ad fd tk base tc) : FnOk P w K mg base (L2.CX P w) 10 (ad 32) (fd 32) ["self", "side", "top"] (sp_Costs_init K (tabsL tc)) := by
  refine T.d_Costs_init.F.okX sc_Costs_init (fun vs H Q E h => ?_) (fun cdv A outer s H vs Q E hr h => ?_)
  · obtain ⟨p, dx, x, y, rfl, _⟩ := h
    rfl
  · obtain ⟨p, dx, x, y, rfl, hp, hT, hR⟩ := h
    refine ⟨_, (pss_cons (ps_expr (pe_call (ok_need_plains T) (hr.mono (by decide)) rfl T.d_need_plains.g T.d_need_plains.F.kp T.d_need_plains.b .nil (passes_call (takes_of rfl rfl rfl rfl) (fun _ _ _ _ h => h)) (pa_cons (pv 1) (pa_cons (pv 2) pa_nil))))
      (pss_cons (ps_fldK (K := K) (pv 0) (pv 1) rfl)
      (pss_cons (ps_fldK (K := K) (pv 0) (pv 2) rfl)
      (pss_cons (ps_fldK (K := K) (pv 0) (pe_callB (c_len (K := K)) (by rfl) T.b_len (by decide +kernel) (pa_cons (pv 2) pa_nil)) rfl)
      (pss_cons (ps_set (i := 3) sc_Costs_init.nd rfl (Or.inl rfl) (pe_meth0 (pe_call (ok_asks_of T) (hr.mono (by decide)) rfl T.d_asks_of.g T.d_asks_of.F.kp T.d_asks_of.b .nil (passes_call (takes_of rfl rfl rfl rfl) (fun _ _ _ _ h => h)) (pa_cons (pe_call (ok_parted T) (hr.mono (by decide)) rfl T.d_parted.g T.d_parted.F.kp T.d_parted.b .nil (passes_call (takes_of rfl rfl rfl rfl) (fun _ _ _ _ h => h)) (pa_cons (pv 1) pa_nil)) (pa_cons (pe_call (ok_parted T) (hr.mono (by decide)) rfl T.d_parted.g T.d_parted.F.kp T.d_parted.b .nil (passes_call (takes_of rfl rfl rfl rfl) (fun _ _ _ _ h => h)) (pa_cons (pv 2) pa_nil)) pa_nil))) T.cl_Asks T.d_Asks_table.g (ok_Asks_table T) (hr.mono (by decide)) T.d_Asks_table.b .nil pass0))
      (pss_cons (ps_fldK (K := K) (pv 0) (pe_lst pa_nil) rfl)
      (pss_one (ps_for (passes_of rfl) rfl (pi_range1 rfl T.b_range (pa_cons (pe_op o_add (pe_fldK (K := K) (pv 0) rfl) pe_int) pa_nil)) (pg_name (i := 4) sc_Costs_init.nd rfl (Or.inl rfl)) (pss_cons (ps_set (i := 5) sc_Costs_init.nd rfl (Or.inl rfl) (pe_slice3 (pe_ix (i_ix (K := K)) (pv 3) (pe_op o_mul pe_int (pv 4)) (fun _ _ => rfl)) po_none po_none pe_int (K := K)))
      (pss_one (ps_expr (pe_bm PySem.F.plainAttrs_list PySem.F.slot_list_append PySem.F.type_list_append mt_append (pe_fldK (K := K) (pv 0) rfl) (pa_cons (pe_lc (own := [("at", 6), ("many", 7)]) (g := gTup K 2 (gCons (gName 6) (gCons (gName 7) gNil))) rfl sc_Costs_init.nd (pi_enum rfl T.b_enumerate (pa_cons (pv 5) pa_nil)) (blkOk_by (own := [("at", 6), ("many", 7)]) (N := N_Costs_init) (sc := defScope s_Costs_init) (by decide +kernel)) (fun _ _ _ _ _ => (pg_tup rfl (pgs_cons (pg_name (i := 6) sc_Costs_init.nd rfl (Or.inl rfl)) (pgs_cons (pg_name (i := 7) sc_Costs_init.nd rfl (Or.inl rfl)) pgs_nil)))) (fun _ _ _ _ _ => pts_nil) (fun _ _ _ _ _ => (pe_op o_sub (pe_op o_add (pe_callB (c_len (K := K)) (by rfl) T.b_len (by decide +kernel) (pa_cons (pv 1) pa_nil)) (pv 6)) (pv 7)))) pa_nil))))))))))))), ?_⟩
    walk_at "go"
    refine ⟨x, y, rfl, hR.imp fun s t ex ey hs ht k H1 e1 => ?_⟩
    subst ex ey
    have ls := hs.len
    have lt := ht.len
    have hsl : s.cps.toList.length = s.length := Array.length_toList
    have htl : t.cps.toList.length = t.length := Array.length_toList
    have hp1 := e1.get hp
    have hT1 : LamX.Tabs (tabsL tc) H1 := hT.ext fun b o h => e1.get h
    walk_at "go"
    rw [putF_nil, putF_ne (by decide +kernel), putF_nil, putF_ne (by decide +kernel), putF_ne (by decide +kernel), putF_nil]
    have v2 : upd (upd (upd H1 p (.ins (clsA K "Costs") dx [("turned_row", .str s)])) p (.ins (clsA K "Costs") dx [("turned_row", .str s), ("goal_row", .str t)])) p (.ins (clsA K "Costs") dx [("turned_row", .str s), ("goal_row", .str t), ("wide", .int (t.length : Nat))]) p = some (.ins (clsA K "Costs") dx [("turned_row", .str s), ("goal_row", .str t), ("wide", .int (t.length : Nat))]) := upd_same
    have f2 : FrP p H1 (upd (upd (upd H1 p (.ins (clsA K "Costs") dx [("turned_row", .str s)])) p (.ins (clsA K "Costs") dx [("turned_row", .str s), ("goal_row", .str t)])) p (.ins (clsA K "Costs") dx [("turned_row", .str s), ("goal_row", .str t), ("wide", .int (t.length : Nat))])) := (FrP.at.trans FrP.at).trans FrP.at
    generalize upd (upd (upd H1 p (.ins (clsA K "Costs") dx [("turned_row", .str s)])) p (.ins (clsA K "Costs") dx [("turned_row", .str s), ("goal_row", .str t)])) p (.ins (clsA K "Costs") dx [("turned_row", .str s), ("goal_row", .str t), ("wide", .int (t.length : Nat))]) = H2 at v2 f2 ⊢
    have hT2 := tabs_fr hT1 f2 hp1
    refine ⟨.str s, rfl, .inl ⟨s, rfl, hs, fun H3 e3 => ?_⟩⟩
    walk_at "go"
    refine ⟨.str t, rfl, .inl ⟨t, rfl, ht, fun H4 e4 => ?_⟩⟩
    walk_at "go"
    have e24 := e3.trans e4
    have l1 : (tx (parts s.cps.toList)).length = 2 * s.length := by rw [tx_length, parts_len, hsl]
    have l2 : (tx (parts t.cps.toList)).length = 2 * t.length := by rw [tx_length, parts_len, htl]
    refine ⟨_, _, rfl, parts_row hs, parts_row ht, hT2.ext fun b o h => e24.get h, fun pa H5 e5 hT5 hA => ?_⟩
    obtain ⟨dx5, tp, ga, sa, gA, _⟩ := id hA
    have v5 : H5 p = _ := e5.get (noT_get (e24.get v2) fun _ z => (by cases z))
    walk_at "go"
    refine ⟨pa, _, _, rfl, hA, fun D rs H6 e6 nD vD oD nDr nrs ndrs => ?_⟩
    have v6 := e6.get v5
    rw [l1, brdL_len, l1, l2, show 2 * s.length + 2 * t.length - 2 * s.length + 1 = 2 * t.length + 1 by omega] at oD
    walk_at "go"
    rename_i C H7 nC e7 vC
    rw [putF_ne (by decide +kernel), putF_ne (by decide +kernel), putF_ne (by decide +kernel), putF_nil]
    have v7 := e7.get v6
    have pC : C ≠ p := (ne_of_none v6 nC).symm
    have v8 : upd H7 p (.ins (clsA K "Costs") dx [("turned_row", .str s), ("goal_row", .str t), ("wide", .int (t.length : Nat)), ("costs", .ref C)]) p = some (.ins (clsA K "Costs") dx [("turned_row", .str s), ("goal_row", .str t), ("wide", .int (t.length : Nat)), ("costs", .ref C)]) := upd_same
    have f8 : FrP p H7 (upd H7 p (.ins (clsA K "Costs") dx [("turned_row", .str s), ("goal_row", .str t), ("wide", .int (t.length : Nat)), ("costs", .ref C)])) := FrP.at
    generalize upd H7 p (.ins (clsA K "Costs") dx [("turned_row", .str s), ("goal_row", .str t), ("wide", .int (t.length : Nat)), ("costs", .ref C)]) = H8 at v8 f8 ⊢
    have hT7 : LamX.Tabs (tabsL tc) H7 := hT5.ext fun b o h => (e6.trans e7).get h
    have hT8 := tabs_fr hT7 f8 v7
    have vC8 := f8.get pC vC
    have lp : ∀ {b : Addr} {xs : List V}, H7 b = some (.lst xs) → ¬ b = p := fun h z => by rw [z, v7] at h; cases h
    have vD8 := f8.get (lp (e7.get vD)) (e7.get vD)
    have oD8 := (oD.ex e7).fr f8 fun r hr z => by
      obtain ⟨i, hi⟩ := List.getElem?_of_mem hr
      have hl := oD.len
      have hi2 := (List.getElem?_eq_some_iff.mp hi).1
      have h := (oD.ex e7).at i r _ hi (List.getElem?_eq_getElem (by omega))
      rw [z, v7, List.getElem_map] at h
      cases h
    have DC : D ≠ C := ne_of_none vD nC
    have rC : C ∉ rs := fun z => by
      obtain ⟨i, hi⟩ := List.getElem?_of_mem z
      have hl := oD.len
      have hi2 := (List.getElem?_eq_some_iff.mp hi).1
      have h := oD.at i C _ hi (List.getElem?_eq_getElem (by omega))
      rw [nC] at h
      cases h
    have rl : rs.length = 2 * t.length + 1 := by
      have := oD.len
      rw [List.length_map, List.length_range] at this
      exact this
    have e07 : Fr (fun b => b = p) (noT H) H7 := fun b o nb h => by
      have h0 := noT_of h
      have h2 := f2 b o nb (e1.get h0.1)
      exact (e6.trans e7).get (e5.get (noT_get (e24.get h2) h0.2))
    have nC0 : noT H C = none := by
      cases hh : noT H C with
      | none => rfl
      | some o => exact absurd (e07 C o pC hh) (by rw [vC]; intro z; cases z; cases hh2 : H C with
        | none => unfold Zb.noT at hh; rw [hh2] at hh; cases hh
        | some o2 =>
          have h0 := noT_of hh
          have h2 := f2 C _ pC (e1.get h0.1)
          have h6 := e6.get (e5.get (noT_get (e24.get h2) h0.2))
          rw [nC] at h6
          cases h6)
    clear v2 f2 hT2 e3 e4 e24 v5 gA hA hT5 v6 vD oD vC hT1 e1 hp1
    walk_at "go"
    rw [show ((t.length : Int) + 1).toNat = t.length + 1 by omega]
    refine for_runs (runs_range 0 (t.length + 1)) (fun i σ H' => FrP C H8 H' ∧ (∃ cs : List Addr, H' C = some (.lst (cs.map V.ref)) ∧ ObjsAt H' cs ((List.range i).map fun b => .lst ((levRow s.cps.toList t.cps.toList b).map V.int)) ∧ cs.Nodup ∧ C ∉ cs) ∧ ∃ y4 y5 y6 y7, σ = [some (.ref p), some (.str s), some (.str t), some (.ref D), y4, y5, y6, y7]) ⟨Fr.refl _, ⟨[], vC8, .nil, List.nodup_nil, List.not_mem_nil⟩, _, _, _, _, rfl⟩ (fun _ _ _ _ _ => trivial) ?_ ?_
    · rintro i x σ H9 H10 hi ⟨f9, ⟨cs, c1, c2, c3, c4⟩, y4, y5, y6, y7, rfl⟩ ⟨rfl, rfl⟩
      have hcl : cs.length = i := by
        have := c2.len
        rw [List.length_map, List.length_range] at this
        exact this
      rw [Int.zero_add]
      have vD10 := f9.get DC vD8
      have v10 := f9.get (fun z => pC z.symm) v8
      have hr : rs[2 * i]? = some (rs[2 * i]'(by omega)) := List.getElem?_eq_getElem _
      have hro := (oD8.fr f9 fun r hr z => rC (by rw [← z]; exact hr)).at (2 * i) _ _ hr (by rw [List.getElem?_map, List.getElem?_range (by omega)]; rfl)
      have hro' : H10 (rs[2 * i]'(by omega)) = some (.lst ((winRow (brdL (tx (parts s.cps.toList)) (tx (parts t.cps.toList))) (2 * s.length) (2 * i)).map V.int)) := hro
      walk_at "go"
      rw [show (2 : Int) * (i : Int) = ((2 * i : Nat) : Int) by omega]
      refine st_ixL vD10 (refs_at hr) ?_
      walk_at "go"
      refine st_evL (lstAt_sq (lst_of hro')) fun q H11 nq e11 vq => ?_
      have v11 := e11.get v10
      have lw : ((winRow (brdL (tx (parts s.cps.toList)) (tx (parts t.cps.toList))) (2 * s.length) (2 * i)).map V.int).length = 2 * (t.length - i) + 1 := by
        unfold winRow
        rw [List.length_map, List.length_map, List.length_range, brdL_len, l1, l2]
        omega
      have le := evL_len ((winRow (brdL (tx (parts s.cps.toList)) (tx (parts t.cps.toList))) (2 * s.length) (2 * i)).map V.int)
      rw [lw, show (2 * (t.length - i) + 1 + 1) / 2 = t.length - i + 1 by omega] at le
      have ge : ∀ j, j ≤ t.length - i → (evL ((winRow (brdL (tx (parts s.cps.toList)) (tx (parts t.cps.toList))) (2 * s.length) (2 * i)).map V.int))[j]? = some (V.int (winV (brdL (tx (parts s.cps.toList)) (tx (parts t.cps.toList))) (2 * s.length) 0 (2 * s.length) (2 * i) (2 * i + 2 * j))) := fun j hj => by
        rw [evL_get]
        unfold winRow
        rw [List.map_map, List.getElem?_map, List.getElem?_range (by rw [brdL_len, l1, l2]; omega)]
        rfl
      walk_at "go"
      refine lc_turns (runs_enum K q _) (fun i x H H' h => by obtain ⟨_, _, _, _, h, _⟩ := h; exact h) (fun H' e => lst_of (e.get vq)) (by rw [le]; omega) (fun j => V.int ((Lev s.cps.toList (t.cps.toList.drop i) s.length j : Nat) : Int)) ?_ ?_ gTup_mono
      · rintro j x H12 H13 hj e12 ⟨Tt, v, rfl, nT, eT, vT, hv⟩ B h2'
        rw [le] at hj
        rw [ge j (by omega)] at hv
        cases hv
        walk_at "go"
        refine ⟨rfl, ?_⟩
        walk_at "go"
        have hh := h2' _ (Fr.refl _)
        rw [← table_lev hs ht (b := i) (j := j) (by omega) (by omega)] at hh
        exact hh
      intro r H12 nr e12 vr
      rw [le] at vr
      have e1012 := e11.trans e12
      have c1' := e1012.get c1
      have rC' : r ≠ C := (ne_of_none (e11.get c1) nr).symm
      have nr0 : H10 r = none := Ex.free e11 nr
      walk_at "go"
      refine st_app c1' (by rw [List.length_map, hcl]; omega) ?_
      refine ⟨(f9.trans (Fr.ex e1012)).trans FrP.at, ⟨cs ++ [r], by rw [upd_same, List.map_append]; rfl, ?_, ?_, ?_⟩, _, _, _, _, rfl⟩
      · rw [List.range_succ, List.map_append]
        refine ObjsAt.app ((c2.ex e1012).up c4) (.one ?_)
        rw [upd_ne rC', vr]
        show _ = some (HO.lst ((levRow s.cps.toList t.cps.toList i).map V.int))
        unfold levRow
        rw [List.map_map, htl, hsl]
        rfl
      · rw [List.nodup_append]
        exact ⟨c3, by simp, fun b hb c hc => by
          rw [List.mem_singleton.mp hc]
          rintro rfl
          obtain ⟨k, hk⟩ := List.getElem?_of_mem hb
          have hk2 := (List.getElem?_eq_some_iff.mp hk).1
          have h := c2.at k b _ hk (List.getElem?_eq_getElem (by rw [← c2.len]; exact hk2))
          rw [nr0] at h
          cases h⟩
      · rw [List.mem_append, List.mem_singleton]
        rintro (z | z)
        · exact c4 z
        · exact rC' z.symm
    · rintro σ H9 ⟨f9, ⟨cs, c1, c2, c3, c4⟩, y4, y5, y6, y7, rfl⟩
      walk_at "go"
      refine k H9 ?_ ?_ ⟨dx, C, cs, f9.get (fun z => pC z.symm) v8, c1, c2, c3, c4⟩
      · intro b o nb h
        have h7 := e07 b o nb h
        refine f9 b o (fun z => ?_) (f8 b o nb h7)
        rw [z, nC0] at h
        cases h
      · intro q hq
        obtain ⟨ps, h1, h2, h3⟩ := hT8 q hq
        refine ⟨ps, f9.get (fun z => by rw [z, vC8] at h1; cases h1) h1, h2, fun pos cv hc => ?_⟩
        obtain ⟨c, e1, e2⟩ := h3 pos cv hc
        exact ⟨c, e1, f9.get (fun z => by rw [z, vC8] at e2; unfold CodeO at e2; cases e2) e2⟩
def sp_Costs_rows_of (K : PySem.W.Frag) : Sp := fun vs H Q E => ∃ (p : Addr) (s t : Str), vs = [.ref p] ∧ CostsAt K H p s t ∧ t.length ≤ 24 ∧ ∀ D rs H', Ex H H' → H D = none → H' D = some (.lst (rs.map V.ref)) → ObjsAt H' rs ((List.range (t.length + 1)).map fun b => .lst ((levRow s.cps.toList t.cps.toList b).map V.int)) → (∀ r ∈ rs, H r = none) → Q (.ref D) H'
theorem ok_Costs_rows_of (T : Tx K mg ad fd tk base tc) : FnOk P w K mg base CX0 1 (ad 33) (fd 33) ["self"] (sp_Costs_rows_of K) := by
  refine T.d_Costs_rows_of.F.ok sc_Costs_rows_of (fun vs H Q E h => ?_) (fun cdv A outer s H vs Q E hr h => ?_)
  · obtain ⟨p, s, t, rfl, _⟩ := h
    rfl
  · obtain ⟨p, s, t, rfl, hp, hl, k⟩ := h
    refine ⟨_, (pss_one (ps_ret (pe_lc (own := [("row", 1)]) (g := gName 1) rfl sc_Costs_rows_of.nd (pi_list (pe_fldK (K := K) (pv 0) rfl)) (blkOk_by (own := [("row", 1)]) (N := N_Costs_rows_of) (sc := defScope s_Costs_rows_of) (by decide +kernel)) (fun _ _ _ _ _ => pg_name (i := 1) sc_Costs_rows_of.nd rfl (Or.inl rfl)) (fun _ _ _ _ _ => pts_nil) (fun _ _ _ _ _ => (pe_callTy (c_list rfl (K := K)) (by rfl) T.b_list (by decide +kernel) (pa_cons (pv 1) pa_nil)))))), ?_⟩
    obtain ⟨dx, cs, rs, h1, h2, h3, h4, h5⟩ := hp.ex
    have hrl : rs.length = t.length + 1 := by
      have := h3.len
      rw [List.length_map, List.length_range] at this
      exact this
    walk_at "go"
    refine lc_objs0 (rv_list K cs ((List.range (t.length + 1)).map fun b => (rs.getD b 0, b)) (fun z => V.ref z.1)) (fun H' e => ?_) (by rw [List.length_map, List.length_range]; omega) (fun z => HO.lst ((levRow s.cps.toList t.cps.toList z.2).map V.int)) ?_ ?_
    · have hm : ((List.range (t.length + 1)).map fun b => (rs.getD b 0, b)).map (fun z => V.ref z.1) = rs.map V.ref := by
        rw [List.map_map]
        refine List.ext_getElem? fun i => ?_
        rw [List.getElem?_map, List.getElem?_map]
        by_cases h : i < t.length + 1
        · rw [List.getElem?_range h, List.getElem?_eq_getElem (by omega)]
          show some (V.ref (rs.getD i 0)) = _
          rw [List.getD_eq_getElem?_getD, List.getElem?_eq_getElem (by omega)]
          rfl
        · rw [List.getElem?_eq_none (by rw [List.length_range]; omega), List.getElem?_eq_none (l := rs) (by omega)]
          rfl
      exact lst_of (by rw [hm]; exact e.get h2)
    · intro z H' hz e B hB
      obtain ⟨b, hb, rfl⟩ := List.mem_map.mp hz
      have hb := List.mem_range.mp hb
      have hrow := (h3.ex e).at b (rs.getD b 0) _ (by rw [List.getD_eq_getElem?_getD, List.getElem?_eq_getElem (by omega)]; rfl) (by rw [List.getElem?_map, List.getElem?_range hb]; rfl)
      walk_at "go"
      refine ⟨rfl, ?_⟩
      walk_at "go"
      rename_i q G n e' v
      exact hB q G n e' v
    · intro D H' ts hD e h1' h2' _ _ h5'
      rw [List.map_map] at h2'
      exact k D ts H' e hD h1' h2' h5'
/-- two plain rows and a limit, or the first that is none is refused -/
def Near3 (K : PySem.W.Frag) (E : XK) (H : Hp) (x y z : V) (k : Str → Str → Nat → Prop) : Prop := Plains2 K E H x y fun s t => (∃ q : Nat, z = .int (q : Nat) ∧ q ≤ 48 ∧ k s t q) ∨ (withinV z 0 48 = false ∧ RaF K E H "NoPlace" [("found", z)])
def sp_near (K : PySem.W.Frag) (TL : List (Addr × Str)) : Sp := fun vs H Q E => ∃ (x y z : V), vs = [x, y, z] ∧ LamX.Tabs TL H ∧ Ty H z ∧ Near3 K E H x y z fun s t q => ∀ a (zs : List TZ) H', Ex (noT H) H' → LamX.Tabs TL H' → H' a = some (.lst (zs.map tV)) → TT H' zs → NearOk (zs.map (·.2)) s.cps.toList t.cps.toList q → Q (.ref a) H'
theorem ok_near (T : Tx K mg ad fd tk base tc) : FnOk P w K mg base (L2.CX P w) 12 (ad 34) (fd 34) ["side", "top", "most"] (sp_near K (tabsL tc)) := by
  refine T.d_near.F.okX sc_near (fun vs H Q E h => ?_) (fun cdv A outer s H vs Q E hr h => ?_)
  · obtain ⟨x, y, z, rfl, _⟩ := h
    rfl
  · obtain ⟨x, y, z, rfl, hT, hz, hR⟩ := h
    refine ⟨_, (pss_cons (ps_expr (pe_call (ok_need_plain T) (hr.mono (by decide)) rfl T.d_need_plain.g T.d_need_plain.F.kp T.d_need_plain.b .nil (passes_call (takes_of rfl rfl rfl rfl) (fun _ _ _ _ h => h)) (pa_cons (pv 0) pa_nil)))
      (pss_cons (ps_expr (pe_call (ok_need_plain T) (hr.mono (by decide)) rfl T.d_need_plain.g T.d_need_plain.F.kp T.d_need_plain.b .nil (passes_call (takes_of rfl rfl rfl rfl) (fun _ _ _ _ h => h)) (pa_cons (pv 1) pa_nil)))
      (pss_cons (ps_expr (pe_call (ok_need_limit T) (hr.mono (by decide)) rfl T.d_need_limit.g T.d_need_limit.F.kp T.d_need_limit.b .nil (passes_call (takes_of rfl rfl rfl rfl) (fun _ _ _ _ h => h)) (pa_cons (pv 2) pa_nil)))
      (pss_one (ps_ret (pe_call (ok_ranked T) (hr.mono (by decide)) rfl T.d_ranked.g T.d_ranked.F.kp T.d_ranked.b .nil pass0 (pa_cons (pe_meth0 (pe_make T.m_Costs (ok_Costs_init T) (hr.mono (by decide)) rfl T.mg_Costs T.d_Costs_init.b .nil (passes_call (takes_of rfl rfl rfl rfl) (fun _ _ _ _ h => h)) (pa_cons (pv 0) (pa_cons (pv 1) pa_nil))) T.cl_Costs T.d_Costs_rows_of.g (ok_Costs_rows_of T) (hr.mono (by decide)) T.d_Costs_rows_of.b .nil pass0) (pa_cons (pv 2) pa_nil)))))))), ?_⟩
    walk_at "go"
    rcases hR with ⟨s, t, rfl, rfl, hs, ht, k⟩ | ⟨h1, h2, ⟨hb, k⟩ | ⟨ha, hb, k⟩⟩
    rotate_left
    · exact ⟨x, rfl, .inr ⟨h1, hb, k⟩⟩
    · obtain ⟨s, rfl, hs⟩ := plainS_of_true ha
      refine ⟨.str s, rfl, .inl ⟨s, rfl, hs, fun H1 e1 => ?_⟩⟩
      walk_at "go"
      exact ⟨y, rfl, .inr ⟨h2.ex e1, hb, k.ex e1⟩⟩
    refine ⟨.str s, rfl, .inl ⟨s, rfl, hs, fun H1 e1 => ?_⟩⟩
    walk_at "go"
    refine ⟨.str t, rfl, .inl ⟨t, rfl, ht, fun H2 e2 => ?_⟩⟩
    have e02 := e1.trans e2
    have hT2 : LamX.Tabs (tabsL tc) H2 := hT.ext fun b o h => e02.get h
    walk_at "go"
    rcases k with ⟨q, rfl, hq, k⟩ | ⟨hw, k⟩
    rotate_left
    · exact ⟨z, rfl, hz.ex e02, fun _ => k.ex e02, fun h => by (rw [hw] at h; cases h)⟩
    refine ⟨_, rfl, ty_int _, fun h => ?_, fun _ => ?_⟩
    · rw [show withinV (.int ((q : Nat) : Int)) 0 48 = true from decide_eq_true (by omega)] at h
      cases h
    walk_at "go"
    refine mk_costs hT2 (.inl ⟨s, t, rfl, rfl, hs, ht, fun p H3 e3 np hT3 hC => ?_⟩)
    obtain ⟨dx, cs, rs0, gC, _⟩ := id hC.ex
    walk_at "go"
    refine ⟨p, s, t, rfl, hC, ht.len, fun D rs H4 e4 nD vD oD nr => ?_⟩
    walk_at "go"
    refine ⟨D, rs, s, t, q, rfl, vD, oD, ht.len, hq, Array.length_toList, fun a zs H5 e5 na va ta hN => ?_⟩
    have e05 : Ex (noT H) H5 := fun b o nb h => by
      have h0 := noT_of h
      exact (e4.trans e5).get (e3.get (noT_get (e02.get h0.1) h0.2))
    exact k a zs H5 e05 (hT3.ext fun b o h => (e4.trans e5).get h) va ta hN
theorem wi_rn {H : Hp} {x : V} {d : PyData} (h : Rn H x d) (lo hi : Int) : withinV x lo hi = true ↔ ∃ i, d = .int i ∧ lo ≤ i ∧ i ≤ hi := by
  cases h <;> simp [withinV]
def WorthyD (M : Nat) (d : PyData) : Prop := ∃ z, d = encS z ∧ SpOk M z
def sp_is_worthy : Sp := fun vs H Q _ => ∃ (M : Nat) (x : V) (d : PyData), vs = [.int (M : Nat), x] ∧ M ≤ 1000 ∧ Rn H x d ∧ ∀ b, (b = true ↔ WorthyD M d) → Q (.bl b) H
theorem ok_is_worthy (T : Tx K mg ad fd tk base tc) : FnOk P w K mg base CX0 3 (ad 35) (fd 35) ["many", "thing"] sp_is_worthy := by
  refine T.d_is_worthy.F.ok sc_is_worthy (fun vs H Q E h => ?_) (fun cdv A outer s H vs Q E hr h => ?_)
  · obtain ⟨M, x, d, rfl, _⟩ := h
    rfl
  · obtain ⟨M, x, d, rfl, hM, hx, k⟩ := h
    refine ⟨_, (pss_cons (ps_if (PW.pt (pw_or (pt_not (pt_val (pe_callB c_is (by rfl) T.b_isinstance (by decide +kernel) (pa_cons (pv 1) (pa_cons (pe_bltn (v := .ty "tuple") rfl T.b_tuple (by decide +kernel) rfl) pa_nil))))) (pw_or1 (pt_cmpR (o_ne hr.units) (pe_callB (c_len (K := K)) (by rfl) T.b_len (by decide +kernel) (pa_cons (pv 1) pa_nil)) pe_int (nomark _))))) (pss_one (ps_ret pe_bl)) pss_nil)
      (pss_cons (ps_asg (pv 1) (pg_tup rfl (pgs_cons (pg_name (i := 2) sc_is_worthy.nd rfl (Or.inl rfl)) (pgs_cons (pg_name (i := 3) sc_is_worthy.nd rfl (Or.inl rfl)) (pgs_cons (pg_name (i := 4) sc_is_worthy.nd rfl (Or.inl rfl)) pgs_nil)))))
      (pss_one (ps_ret (pe_and (pe_call (ok_is_within T) (hr.mono (by decide)) rfl T.d_is_within.g T.d_is_within.F.kp T.d_is_within.b .nil pass0 (pa_cons (pv 2) (pa_cons pe_int (pa_cons (pe_glob (v := .int 1000000) rfl T.c_MOST_WORTH ⟨_, rfl⟩) pa_nil)))) (pe_and (pe_call (ok_is_within T) (hr.mono (by decide)) rfl T.d_is_within.g T.d_is_within.F.kp T.d_is_within.b .nil pass0 (pa_cons (pv 4) (pa_cons pe_int (pa_cons (pv 0) pa_nil)))) (pe_one (pe_call (ok_is_within T) (hr.mono (by decide)) rfl T.d_is_within.g T.d_is_within.F.kp T.d_is_within.b .nil pass0 (pa_cons (pv 3) (pa_cons pe_int (pa_cons (pe_op o_sub (pv 4) pe_int) pa_nil))))))))))), ?_⟩
    have no : (¬ WorthyD M d) → Q (.bl false) H := fun n => k false ⟨(fun z => nomatch z), (fun z => (n z).elim)⟩
    walk_at "go"
    refine st_isTupD hx.rq ?_
    refine ⟨_, rfl, ?_⟩
    by_cases hd : ∃ ds, d = .tuple ds
    rotate_left
    · refine st_T ?_ ?_
      · cases d <;> first | rfl | exact absurd ⟨_, rfl⟩ hd
      walk_at "go"
      refine no (fun h => ?_)
      obtain ⟨z, e, _⟩ := h
      exact hd ⟨_, e⟩
    obtain ⟨ds, rfl⟩ := hd
    obtain ⟨a, xs, hv, h1, h2⟩ := hx.tupAt
    subst hv
    have hl := h2.len
    refine st_F rfl ?_
    walk_at "go"
    refine st_brn (fun c => ?_) (fun c => ?_)
    · walk_at "go"
      refine no (fun h => ?_)
      obtain ⟨z, e, _⟩ := h
      unfold encS at e
      injection e with e
      apply c
      rw [hl, e]
      rfl
    have c2 : xs.length = 3 := by omega
    obtain ⟨x0, x1, x2, rfl⟩ : ∃ x0 x1 x2, xs = [x0, x1, x2] := by
      match xs, c2 with
      | [x0, x1, x2], _ => exact ⟨x0, x1, x2, rfl⟩
    obtain ⟨d0, d1, d2, rfl, r0, r1, r2⟩ : ∃ d0 d1 d2, ds = [d0, d1, d2] ∧ Rn H x0 d0 ∧ Rn H x1 d1 ∧ Rn H x2 d2 := by
      match ds, h2 with
      | [d0, d1, d2], .cons r0 (.cons r1 (.cons r2 .nil)) => exact ⟨d0, d1, d2, rfl, r0, r1, r2⟩
    have enc : ∀ {z : S3}, PyData.tuple [d0, d1, d2] = encS z → d0 = .int z.w ∧ d1 = .int (z.b : Nat) ∧ d2 = .int (z.e : Nat) := fun {z} e => by
      unfold encS at e
      injection e with e
      injection e with e0 e
      injection e with e1 e
      injection e with e2 _
      exact ⟨e0, e1, e2⟩
    walk_at "go"
    refine ⟨x0, 1, 1000000, rfl, r0.rq.ty, ?_⟩
    cases hb0 : withinV x0 1 1000000 with
    | false =>
      walk_at "go"
      refine no (fun h => ?_)
      obtain ⟨z, e, ok⟩ := h
      have := (wi_rn r0 1 1000000).mpr ⟨z.w, (enc e).1, ok.w1, ok.w2⟩
      rw [hb0] at this
      cases this
    | true =>
      obtain ⟨w, rfl, w1, w2⟩ := (wi_rn r0 _ _).mp hb0
      walk_at "go"
      refine ⟨x2, 1, (M : Int), rfl, r2.rq.ty, ?_⟩
      cases hb2 : withinV x2 1 (M : Int) with
      | false =>
        walk_at "go"
        refine no (fun h => ?_)
        obtain ⟨z, e, ok⟩ := h
        have h1 := ok.be
        have h2 := ok.eM
        have := (wi_rn r2 1 (M : Int)).mpr ⟨(z.e : Nat), (enc e).2.2, by omega, by omega⟩
        rw [hb2] at this
        cases this
      | true =>
        obtain ⟨e, rfl, e1, e2⟩ := (wi_rn r2 _ _).mp hb2
        cases r2
        walk_at "go"
        refine ⟨x1, 0, e - 1, rfl, r1.rq.ty, ?_⟩
        cases hb1 : withinV x1 0 (e - 1) with
        | false =>
          refine no (fun h => ?_)
          obtain ⟨z, ee, ok⟩ := h
          have h1 := ok.be
          obtain ⟨_, f1, f2⟩ := enc ee
          injection f2 with f2
          have := (wi_rn r1 0 (e - 1)).mpr ⟨(z.b : Nat), f1, by omega, by omega⟩
          rw [hb1] at this
          cases this
        | true =>
          obtain ⟨b, rfl, b1, b2⟩ := (wi_rn r1 _ _).mp hb1
          refine k true ⟨fun _ => ⟨⟨w, b.toNat, e.toNat⟩, ?_, ⟨w1, w2, by show b.toNat < e.toNat; omega, by show e.toNat ≤ M; omega⟩⟩, fun _ => rfl⟩
          unfold encS
          dsimp only
          rw [show ((b.toNat : Nat) : Int) = b by omega, show ((e.toNat : Nat) : Int) = e by omega]
/-- stretches that may be asked of -/
def GoodSpans (M : Nat) (d : PyData) : Prop := ∃ l : List S3, d = .list (l.map encS) ∧ l.length ≤ 400 ∧ ∀ z ∈ l, SpOk M z
theorem list_inj3 {a b : List PyData} (h : PyData.list a = .list b) : a = b := by injection h
theorem worthy_all {M : Nat} : ∀ zs : List (V × PyData), (∀ z ∈ zs, WorthyD M z.2) → ∃ l : List S3, zs.map (·.2) = l.map encS ∧ ∀ z ∈ l, SpOk M z
  | [], _ => ⟨[], rfl, fun _ h => nomatch h⟩
  | z :: zs, h => by
    obtain ⟨l, e, k⟩ := worthy_all zs fun y hy => h y (List.mem_cons_of_mem _ hy)
    obtain ⟨s, e1, e2⟩ := h z List.mem_cons_self
    refine ⟨s :: l, by rw [List.map_cons, List.map_cons, e1, e], fun y hy => ?_⟩
    rcases List.mem_cons.mp hy with e | e
    · rw [e]; exact e2
    · exact k y e
def sp_need_stretches (K : PySem.W.Frag) : Sp := fun vs H Q E => ∃ (m v : V) (d : PyData), vs = [m, v] ∧ Ty H m ∧ Rn H v d ∧
  (withinV m 0 24 = false → RaF K E H "NoPlace" [("found", m)]) ∧ (∀ M : Nat, m = .int (M : Nat) → M ≤ 24 → (GoodSpans M d → ∀ H', Ex H H' → Q .non H') ∧ (¬ GoodSpans M d → RaF K E H "NoStretches" [("found", v)]))
theorem ok_need_stretches (T : Tx K mg ad fd tk base tc) : FnOk P w K mg base (L2.CX P w) 4 (ad 36) (fd 36) ["many", "stretches"] (sp_need_stretches K) := by
  refine T.d_need_stretches.F.okX sc_need_stretches (fun vs H Q E h => ?_) (fun cdv A outer s H vs Q E hr h => ?_)
  · obtain ⟨m, v, d, rfl, _⟩ := h
    rfl
  · obtain ⟨m, v, d, rfl, hm, hx, k0, k1⟩ := h
    refine ⟨_, (pss_cons (ps_if (pt_not (pt_val (pe_call (ok_is_within T) (hr.mono (by decide)) rfl T.d_is_within.g T.d_is_within.F.kp T.d_is_within.b .nil pass0 (pa_cons (pv 0) (pa_cons pe_int (pa_cons (pe_glob (v := .int 24) rfl T.c_MOST_LETTERS ⟨_, rfl⟩) pa_nil)))))) (pss_one (ps_raiseG rfl (ex_NoPlace T) (hr.mono (by decide)) (takes_of rfl rfl rfl rfl) rfl (pa_cons (pv 0) pa_nil))) pss_nil)
      (pss_cons (ps_if (PW.pt (pw_or (pt_not (pt_val (pe_callB c_is (by rfl) T.b_isinstance (by decide +kernel) (pa_cons (pv 1) (pa_cons (pe_bltn (v := .ty "list") rfl T.b_list (by decide +kernel) rfl) pa_nil))))) (pw_or1 (pt_cmpR o_gt (pe_callB (c_len (K := K)) (by rfl) T.b_len (by decide +kernel) (pa_cons (pv 1) pa_nil)) (pe_glob (v := .int 400) rfl T.c_MOST_STRETCHES ⟨_, rfl⟩) (nomark _))))) (pss_one (ps_raiseG rfl (ex_NoStretches T) (hr.mono (by decide)) (takes_of rfl rfl rfl rfl) rfl (pa_cons (pv 1) pa_nil))) pss_nil)
      (pss_one (ps_if (pt_not (pt_val (pe_callB (c_all rfl) (by rfl) T.b_all (by decide +kernel) (pa_cons (pe_lc (own := [("stretch", 2)]) (g := gName 2) rfl sc_need_stretches.nd (pi_list (pv 1)) (blkOk_by (own := [("stretch", 2)]) (N := N_need_stretches) (sc := defScope s_need_stretches) (by decide +kernel)) (fun _ _ _ _ _ => pg_name (i := 2) sc_need_stretches.nd rfl (Or.inl rfl)) (fun _ _ _ _ _ => pts_nil) (fun _ _ _ _ _ => (pe_call (ok_is_worthy T) (hr.mono (by decide)) rfl T.d_is_worthy.g T.d_is_worthy.F.kp T.d_is_worthy.b .nil pass0 (pa_cons (pv 0) (pa_cons (pv 2) pa_nil))))) pa_nil)))) (pss_one (ps_raiseG rfl (ex_NoStretches T) (hr.mono (by decide)) (takes_of rfl rfl rfl rfl) rfl (pa_cons (pv 1) pa_nil))) pss_nil)))), ?_⟩
    walk_at "go"
    refine ⟨m, 0, 24, rfl, hm, ?_⟩
    cases hb : withinV m 0 24 with
    | false =>
      have k2 := k0 hb
      walk_at "go"
      rename_i d2 H2 hd2 e2 hv2
      exact k2 d2 H2 hd2 e2 hv2
    | true =>
      obtain ⟨M, rfl, hM⟩ : ∃ M : Nat, m = .int (M : Nat) ∧ M ≤ 24 := by
        unfold withinV at hb
        split at hb
        · rename_i i
          have hb := of_decide_eq_true hb
          exact ⟨i.toNat, by rw [show ((i.toNat : Nat) : Int) = i by omega], by omega⟩
        · cases hb
      obtain ⟨kg, kb⟩ := k1 M rfl hM
      walk_at "go"
      refine st_isListD hx.rq ?_
      refine ⟨_, rfl, ?_⟩
      by_cases hd : ∃ ds, d = .list ds
      rotate_left
      · have k2 := kb (fun h => by obtain ⟨l, e, _⟩ := h; exact hd ⟨_, e⟩)
        refine st_T ?_ ?_
        · cases d <;> first | rfl | exact absurd ⟨_, rfl⟩ hd
        walk_at "go"
        rename_i d2 H2 hd2 e2 hv2
        exact k2 d2 H2 hd2 e2 hv2
      obtain ⟨ds, rfl⟩ := hd
      obtain ⟨a, xs, hv, ha, hxs⟩ := hx.listAt
      subst hv
      obtain ⟨zs, rfl, rfl, hzs⟩ := hxs.zipped
      refine st_F rfl ?_
      walk_at "go"
      refine st_br2 (fun c => ?_) (fun c => ?_)
      · rw [List.length_map] at c
        have k2 := kb (fun h => by
          obtain ⟨l, e, h2, _⟩ := h
          have := congrArg List.length (list_inj3 e)
          rw [List.length_map, List.length_map] at this
          omega)
        walk_at "go"
        rename_i d2 H2 hd2 e2 hv2
        exact k2 d2 H2 hd2 e2 hv2
      rw [List.length_map] at c
      walk_at "go"
      refine lc_map (rv_list K a zs (·.1)) (fun H' e => lst_of (e.get ha)) (by omega) (fun z => .bl (@decide (WorthyD M z.2) (Classical.propDecidable _))) ?_ ?_
      · intro z H' hzm e B h1
        refine ⟨rfl, ?_⟩
        have h1' := h1 _ (Fr.refl _)
        have hz := (hzs z hzm).ex e
        walk_at "go"
        refine ⟨M, z.1, z.2, rfl, by omega, hz, fun b hb => ?_⟩
        have : b = @decide (WorthyD M z.2) (Classical.propDecidable _) := by
          rw [Bool.eq_iff_iff, hb]
          simp
        rw [this]
        exact h1'
      · intro D H1 hD e1 hd1
        walk_at "go"
        refine st_all (bs := zs.map fun z => @decide (WorthyD M z.2) (Classical.propDecidable _)) hd1 (by rw [List.map_map]; rfl) ?_
        walk_at "go"
        refine st_br (fun c2 => ?_) (fun c2 => ?_)
        · have k2 := kb (fun h => by
            obtain ⟨l, e, _, h3⟩ := h
            have e := list_inj3 e
            simp at c2
            obtain ⟨z1, z2, hz, hn⟩ := c2
            apply hn
            have hm : z2 ∈ l.map encS := by rw [← e]; exact List.mem_map.mpr ⟨_, hz, rfl⟩
            obtain ⟨q, hq, rfl⟩ := List.mem_map.mp hm
            exact ⟨q, rfl, h3 q hq⟩)
          walk_at "go"
          rename_i d2 H2 hd2 e2 hv2
          exact k2 d2 H2 (Ex.free e1 hd2) (e1.trans e2) hv2
        · walk_at "go"
          refine kg ?_ _ e1
          have hall : ∀ z ∈ zs, WorthyD M z.2 := fun z hz => by
            simp at c2
            exact c2 _ _ hz
          obtain ⟨l, e, h⟩ := worthy_all zs hall
          refine ⟨l, by rw [e], ?_, h⟩
          have := congrArg List.length e
          rw [List.length_map, List.length_map] at this
          omega
/-- the list at d of lists at hs of things at tss: row l holds these, by o -/
structure RowsAt {α : Type} (o : α → HO) (H0 H : Hp) (d : Addr) (hs : List Addr) (tss : List (List Addr)) (n : Nat) (lv : Nat → List α) : Prop where
  new : H0 d = none
  at_ : H d = some (.lst (hs.map V.ref))
  len : tss.length = n
  rows : ObjsAt H hs (tss.map fun ts => .lst (ts.map V.ref))
  nd : hs.Nodup
  non : d ∉ hs
  news : ∀ h ∈ hs, H0 h = none
  tups : ∀ l ts, tss[l]? = some ts → ObjsAt H ts ((lv l).map o)
section
variable {α : Type} {o : α → HO} {H0 H H' : Hp} {d : Addr} {hs : List Addr} {tss : List (List Addr)} {n : Nat} {lv : Nat → List α}
theorem objs_nlst (ho : ∀ x ys, o x ≠ .lst ys) {ts : List Addr} {qs : List α} {r : Addr} {xs : List V} (h : ObjsAt H ts (qs.map o)) (hr : H r = some (.lst xs)) : r ∉ ts := fun z => by
  obtain ⟨u, hu, hv⟩ := h.mem z
  obtain ⟨q, _, rfl⟩ := List.mem_map.mp hu
  rw [hr] at hv
  exact ho q xs (Option.some.inj hv).symm
theorem RowsAt.ex (h : RowsAt o H0 H d hs tss n lv) (e : Ex H H') : RowsAt o H0 H' d hs tss n lv :=
  ⟨h.new, e.get h.at_, h.len, h.rows.ex e, h.nd, h.non, h.news, fun l ts h1 => (h.tups l ts h1).ex e⟩
theorem RowsAt.put (ho : ∀ x ys, o x ≠ .lst ys) {l : Nat} {q : α} {T r : Addr} {ts : List Addr} (h : RowsAt o H0 H d hs tss n lv) (hT : H T = some (o q)) (hr : hs[l]? = some r) (hts : tss[l]? = some ts) :
    RowsAt o H0 (upd H r (.lst (ts.map V.ref ++ [V.ref T]))) d hs (tss.set l (ts ++ [T])) n (fun k => if k = l then lv k ++ [q] else lv k) := by
  have hrm := List.mem_of_getElem? hr
  have hrd : d ≠ r := fun z => h.non (z ▸ hrm)
  have hrr := h.rows.at _ _ _ hr (by rw [List.getElem?_map, hts]; rfl)
  have hTr : T ≠ r := fun z => by
    rw [z, hrr] at hT
    exact ho q _ (Option.some.inj hT).symm
  refine ⟨h.new, by rw [upd_ne hrd]; exact h.at_, by rw [List.length_set]; exact h.len, ?_, h.nd, h.non, h.news, ?_⟩
  · have := h.rows.set (u := .lst (ts.map V.ref ++ [V.ref T])) h.nd hr
    rw [List.map_set, List.map_append]
    exact this
  · intro k us hl
    by_cases e : k = l
    · subst e
      rw [List.getElem?_set_self (List.getElem?_eq_some_iff.mp hts).1] at hl
      cases hl
      rw [if_pos rfl, List.map_append]
      refine ObjsAt.app (.up (objs_nlst ho (h.tups _ _ hts) hrr) (h.tups _ _ hts)) (.one ?_)
      rw [upd_ne hTr]
      exact hT
    · rw [List.getElem?_set_ne (Ne.symm e)] at hl
      rw [if_neg e]
      exact .up (objs_nlst ho (h.tups _ _ hl) hrr) (h.tups _ _ hl)
theorem RowsAt.mut (h : RowsAt o H0 H d hs tss n lv) (e : Ex H0 H') {r : Addr} {u : HO} (hr : r ∈ hs) : Ex H0 (upd H' r u) := e.mut (h.news r hr)
theorem RowsAt.up (ho : ∀ x ys, o x ≠ .lst ys) {x : Addr} {xs : List V} {u : HO} (h : RowsAt o H0 H d hs tss n lv) (h1 : d ≠ x) (h2 : x ∉ hs) (h3 : H x = some (.lst xs)) : RowsAt o H0 (upd H x u) d hs tss n lv :=
  ⟨h.new, by rw [upd_ne h1]; exact h.at_, h.len, .up h2 h.rows, h.nd, h.non, h.news, fun l ts hl => .up (objs_nlst ho (h.tups l ts hl) h3) (h.tups l ts hl)⟩
theorem RowsAt.mem_ex (h : RowsAt o H0 H d hs tss n lv) {x : Addr} (hx : H x = none) : x ∉ hs := fun z => by
  obtain ⟨u, hu, hv⟩ := h.rows.mem z
  rw [hx] at hv
  cases hv
theorem RowsAt.cong {lv' : Nat → List α} (h : RowsAt o H0 H d hs tss n lv) (e : ∀ l, l < n → lv l = lv' l) : RowsAt o H0 H d hs tss n lv' :=
  ⟨h.new, h.at_, h.len, h.rows, h.nd, h.non, h.news, fun l ts h1 => by
    have := (List.getElem?_eq_some_iff.mp h1).1
    rw [← e l (by rw [← h.len]; exact this)]
    exact h.tups l ts h1⟩
end
def LastOk (ss : List S3) (T : Nat → Int) (e : Nat) (v : V) : Prop := (v = .non ∧ T (e + 1) = T e) ∨ ∃ (c : Nat) (z : S3), v = .int (c : Nat) ∧ ss[c]? = some z ∧ z.e = e + 1 ∧ T (e + 1) = T z.b + z.w
/-- the stretches that end at e, among the first i, with their places -/
def ixs (ss : List S3) (e i : Nat) : List (S3 × Nat) := (ss.zipIdx.take i).filter fun q => decide (q.1.e = e)
theorem ixs_0 (ss : List S3) (e : Nat) : ixs ss e 0 = [] := by simp [ixs]
theorem ixs_s (ss : List S3) (e i : Nat) {z : S3} (h : ss[i]? = some z) : ixs ss e (i + 1) = if e = z.e then ixs ss e i ++ [(z, i)] else ixs ss e i := by
  have hz : ss.zipIdx[i]? = some (z, i) := by rw [List.getElem?_zipIdx, h]; simp
  have tk : ss.zipIdx.take (i + 1) = ss.zipIdx.take i ++ [(z, i)] := by rw [List.take_add_one, hz]; rfl
  unfold ixs
  rw [tk, List.filter_append]
  by_cases e1 : e = z.e
  · rw [if_pos e1, List.filter_cons_of_pos (by simp [e1])]
    rfl
  · rw [if_neg e1, List.filter_cons_of_neg (by simp; exact fun x => e1 x.symm), List.filter_nil, List.append_nil]
theorem ixs_mem {ss : List S3} {e : Nat} {q : S3 × Nat} : q ∈ ixs ss e ss.length ↔ ss[q.2]? = some q.1 ∧ q.1.e = e := by
  have hl : ss.zipIdx.take ss.length = ss.zipIdx := List.take_of_length_le (by rw [List.length_zipIdx]; exact Nat.le_refl _)
  unfold ixs
  rw [hl, List.mem_filter, decide_eq_true_eq]
  have : q ∈ ss.zipIdx ↔ ss[q.2]? = some q.1 := by
    obtain ⟨a, b⟩ := q
    rw [List.mem_zipIdx_iff_getElem?]
  rw [this]
def ixO (q : S3 × Nat) : HO := .tup [.int (q.2 : Nat), .int q.1.w, .int (q.1.b : Nat)]
/-- the sums are right so far -/
structure PartT (ss : List S3) (ts : List Int) (ls : List V) (i : Nat) : Prop where
  tl : ts.length = i + 1
  ll : ls.length = i + 1
  t0 : ts.getD 0 0 = 0
  up : ∀ e, e < i → ts.getD e 0 ≤ ts.getD (e + 1) 0
  ge : ∀ z ∈ ss, z.e ≤ i → ts.getD z.b 0 + z.w ≤ ts.getD z.e 0
  la : ∀ e, e < i → ∃ v, ls[e + 1]? = some v ∧ LastOk ss (fun e => ts.getD e 0) e v
theorem getD_lt {ts : List Int} {x : Int} {e : Nat} (h : e < ts.length) : (ts ++ [x]).getD e 0 = ts.getD e 0 := by
  rw [List.getD_eq_getElem?_getD, List.getD_eq_getElem?_getD, List.getElem?_append_left h]
theorem getD_eq {ts : List Int} {x : Int} : (ts ++ [x]).getD ts.length 0 = x := by
  rw [List.getD_eq_getElem?_getD, List.getElem?_append_right (Nat.le_refl _)]
  simp
theorem PartT.step {ss : List S3} {ts : List Int} {ls : List V} {i : Nat} {x : Int} {v : V} (h : PartT ss ts ls i) (hok : ∀ z ∈ ss, z.b < z.e) (h1 : ts.getD i 0 ≤ x) (h2 : ∀ z ∈ ss, z.e = i + 1 → ts.getD z.b 0 + z.w ≤ x)
    (h3 : (v = .non ∧ x = ts.getD i 0) ∨ ∃ (c : Nat) (z : S3), v = .int (c : Nat) ∧ ss[c]? = some z ∧ z.e = i + 1 ∧ x = ts.getD z.b 0 + z.w) : PartT ss (ts ++ [x]) (ls ++ [v]) (i + 1) := by
  have hl := h.tl
  have gl : ∀ e, e ≤ i → (ts ++ [x]).getD e 0 = ts.getD e 0 := fun e he => getD_lt (by omega)
  have ge : (ts ++ [x]).getD (i + 1) 0 = x := by rw [← hl]; exact getD_eq
  refine ⟨by rw [List.length_append, hl]; rfl, by rw [List.length_append, h.ll]; rfl, by rw [gl 0 (Nat.zero_le _)]; exact h.t0, fun e he => ?_, fun z hz he => ?_, fun e he => ?_⟩
  · by_cases q : e = i
    · subst q; rw [gl e (Nat.le_refl _), ge]; exact h1
    · rw [gl e (by omega), gl (e + 1) (by omega)]; exact h.up e (by omega)
  · have hb := hok z hz
    by_cases q : z.e = i + 1
    · rw [gl z.b (by omega), q, ge]; exact h2 z hz q
    · rw [gl z.b (by omega), gl z.e (by omega)]; exact h.ge z hz (by omega)
  · by_cases q : e = i
    · subst q
      refine ⟨v, by rw [List.getElem?_append_right (by rw [h.ll]; exact Nat.le_refl _), h.ll]; simp, ?_⟩
      rcases h3 with ⟨rfl, h3⟩ | ⟨c, z, rfl, h4, h5, h6⟩
      · exact .inl ⟨rfl, by dsimp only; rw [ge, gl e (Nat.le_refl _)]; exact h3⟩
      · have hb := hok z (List.mem_of_getElem? h4)
        exact .inr ⟨c, z, rfl, h4, h5, by dsimp only; rw [ge, gl z.b (by omega)]; exact h6⟩
    · obtain ⟨u, hu, hL⟩ := h.la e (by omega)
      refine ⟨u, by rw [List.getElem?_append_left (by rw [h.ll]; omega)]; exact hu, ?_⟩
      rcases hL with ⟨rfl, h3⟩ | ⟨c, z, rfl, h4, h5, h6⟩
      · exact .inl ⟨rfl, by dsimp only at h3 ⊢; rw [gl e (by omega), gl (e + 1) (by omega)]; exact h3⟩
      · have hb := hok z (List.mem_of_getElem? h4)
        exact .inr ⟨c, z, rfl, h4, h5, by dsimp only at h6 ⊢; rw [gl (e + 1) (by omega), gl z.b (by omega)]; exact h6⟩
def sp_totals_of : Sp := fun vs H Q _ => ∃ (M : Nat) (p : Addr) (zs : List TZ), vs = [.int (M : Nat), .ref p] ∧ M ≤ 24 ∧ H p = some (.lst (zs.map tV)) ∧ TT H zs ∧ zs.length ≤ 400 ∧ (∀ z ∈ zs, SpOk M z.2) ∧
  ∀ a tp lp (ts : List Int) (ls : List V) H', Ex H H' → H' a = some (.tup [.ref tp, .ref lp]) → H' tp = some (.lst (ts.map V.int)) → H' lp = some (.lst ls) → PartT (zs.map (·.2)) ts ls M → Q (.ref a) H'
theorem ok_totals_of (T : Tx K mg ad fd tk base tc) : FnOk P w K mg base CX0 1 (ad 37) (fd 37) ["many", "stretches"] sp_totals_of := by
  refine T.d_totals_of.F.ok sc_totals_of (fun vs H Q E h => ?_) (fun cdv A outer s H vs Q E hr h => ?_)
  · obtain ⟨M, p, zs, rfl, _⟩ := h
    rfl
  · obtain ⟨M, p, zs, rfl, hM, hp, htt, hl, hok, k⟩ := h
    refine ⟨_, (pss_cons (ps_setLc (i := 2) (own := [("k", 11)]) (g := gName 11) rfl sc_totals_of.nd rfl rfl (sw_true rfl rfl rfl (by decide +kernel)) (pi_range1 rfl T.b_range (pa_cons (pe_op o_add (pv 0) pe_int) pa_nil)) (blkOk_by (own := [("k", 11)]) (N := N_totals_of) (sc := defScope s_totals_of) (by decide +kernel)) (fun _ _ _ _ _ => pg_name (i := 11) sc_totals_of.nd rfl (Or.inl rfl)) (fun _ _ _ _ _ => pts_nil) (fun _ _ _ _ _ => (pe_lst pa_nil)))
      (pss_cons (ps_for PassesOwn.never rfl (pi_enum rfl T.b_enumerate (pa_cons (pv 1) pa_nil)) (pg_tup rfl (pgs_cons (pg_name (i := 3) sc_totals_of.nd rfl (Or.inl rfl)) (pgs_cons (pg_tup rfl (pgs_cons (pg_name (i := 4) sc_totals_of.nd rfl (Or.inl rfl)) (pgs_cons (pg_name (i := 5) sc_totals_of.nd rfl (Or.inl rfl)) (pgs_cons (pg_name (i := 6) sc_totals_of.nd rfl (Or.inl rfl)) pgs_nil)))) pgs_nil))) (pss_one (ps_expr (pe_bm PySem.F.plainAttrs_list PySem.F.slot_list_append PySem.F.type_list_append mt_append (pe_ix (i_ix (K := K)) (pv 2) (pv 6) (fun _ _ => rfl)) (pa_cons (pe_tup (pa_cons (pv 3) (pa_cons (pv 4) (pa_cons (pv 5) pa_nil)))) pa_nil)))))
      (pss_cons (ps_set (i := 7) sc_totals_of.nd rfl (Or.inl rfl) (pe_lst (pa_cons pe_int pa_nil)))
      (pss_cons (ps_set (i := 8) sc_totals_of.nd rfl (Or.inl rfl) (pe_lst (pa_cons pe_non pa_nil)))
      (pss_cons (ps_for PassesOwn.never rfl (pi_range2 rfl T.b_range (pa_cons pe_int (pa_cons (pe_op o_add (pv 0) pe_int) pa_nil))) (pg_name (i := 6) sc_totals_of.nd rfl (Or.inl rfl)) (pss_cons (ps_set (i := 9) sc_totals_of.nd rfl (Or.inl rfl) (pe_ix (i_ix (K := K)) (pv 7) (pe_op o_sub (pv 6) pe_int) (fun _ _ => rfl)))
      (pss_cons (ps_set (i := 10) sc_totals_of.nd rfl (Or.inl rfl) pe_non)
      (pss_cons (ps_for PassesOwn.never rfl (pi_list (pe_ix (i_ix (K := K)) (pv 2) (pv 6) (fun _ _ => rfl))) (pg_tup rfl (pgs_cons (pg_name (i := 3) sc_totals_of.nd rfl (Or.inl rfl)) (pgs_cons (pg_name (i := 4) sc_totals_of.nd rfl (Or.inl rfl)) (pgs_cons (pg_name (i := 5) sc_totals_of.nd rfl (Or.inl rfl)) pgs_nil)))) (pss_one (ps_if (pt_cmpR o_gt (pe_op o_add (pe_ix (i_ix (K := K)) (pv 7) (pv 5) (fun _ _ => rfl)) (pv 4)) (pv 9) (nomark _)) (pss_cons (ps_set (i := 9) sc_totals_of.nd rfl (Or.inl rfl) (pe_op o_add (pe_ix (i_ix (K := K)) (pv 7) (pv 5) (fun _ _ => rfl)) (pv 4)))
      (pss_one (ps_set (i := 10) sc_totals_of.nd rfl (Or.inl rfl) (pv 3)))) pss_nil)))
      (pss_cons (ps_expr (pe_bm PySem.F.plainAttrs_list PySem.F.slot_list_append PySem.F.type_list_append mt_append (pv 7) (pa_cons (pv 9) pa_nil)))
      (pss_one (ps_expr (pe_bm PySem.F.plainAttrs_list PySem.F.slot_list_append PySem.F.type_list_append mt_append (pv 8) (pa_cons (pv 10) pa_nil)))))))))
      (pss_one (ps_ret (pe_tup (pa_cons (pv 7) (pa_cons (pv 8) pa_nil)))))))))), ?_⟩
    have ho : ∀ (x : S3 × Nat) ys, ixO x ≠ .lst ys := fun x ys h => by cases h
    have hbe : ∀ z ∈ zs.map (·.2), z.b < z.e := fun z hz => by
      obtain ⟨y, hy, rfl⟩ := List.mem_map.mp hz
      exact (hok y hy).be
    walk_at "go"
    refine lc_objs0 (rv_range 0 _) (fun _ _ => trivial) (by rw [List.length_range]; omega) (fun _ => .lst []) ?_ ?_
    · intro i H' hi e B h1
      refine ⟨rfl, ?_⟩
      walk_at "go"
      rename_i q G2 n2 e2 v2
      exact h1 q G2 n2 e2 v2
    intro d H1 hs hd0 e1 hd1 rows nd nn news
    have hM1 : ((M : Int) + 1).toNat = M + 1 := by omega
    rw [hM1] at rows
    have RA0 : RowsAt ixO H H1 d hs ((List.range (M + 1)).map fun _ => []) (M + 1) (fun l => ixs (zs.map (·.2)) l 0) := by
      refine ⟨hd0, hd1, by rw [List.length_map, List.length_range], by rw [List.map_map]; exact rows, nd, nn, news, fun l ts hl => ?_⟩
      rw [List.getElem?_map] at hl
      cases hq : (List.range (M + 1))[l]? with
      | none => rw [hq] at hl; cases hl
      | some z => rw [hq] at hl; cases hl; rw [ixs_0]; exact .nil
    have hp1 := e1.get hp
    walk_at "go"
    refine for_runs (runs_enum K p (zs.map tV)) (fun i σ H' => Ex H H' ∧ (∃ tss, RowsAt ixO H H' d hs tss (M + 1) (fun l => ixs (zs.map (·.2)) l i)) ∧ ∃ a b c e f g h x y, σ = [some (.int (M : Nat)), some (.ref p), some (.ref d), a, b, c, e, f, g, h, x, y]) ⟨e1, ⟨_, RA0⟩, _, _, _, _, _, _, _, _, _, rfl⟩ (fun i σ H' _ ⟨e, _⟩ => lst_of (e.get hp)) ?_ ?_
    · rintro i x σ H2 H2' hi ⟨e2, ⟨tss, RA⟩, a, b, c, e', f, g, h, x', y', rfl⟩ ⟨T, v, rfl, hT, eT, vT, hv⟩
      rw [List.length_map] at hi
      obtain ⟨z, hz⟩ : ∃ z, zs[i]? = some z := ⟨_, List.getElem?_eq_getElem hi⟩
      rw [List.getElem?_map, hz] at hv
      cases hv
      have hzm := List.mem_of_getElem? hz
      have hzv : H2' z.1 = some (.tup [.int z.2.w, .int (z.2.b : Nat), .int (z.2.e : Nat)]) := (e2.trans eT).get (htt z hzm)
      have hzo := hok z hzm
      have hb1 := hzo.be
      have hb2 := hzo.eM
      have RA2 := RA.ex eT
      have hd2 := RA2.at_
      have hl1 := RA2.rows.len
      rw [List.length_map, RA2.len] at hl1
      obtain ⟨r, hr⟩ : ∃ r, hs[z.2.e]? = some r := ⟨hs[z.2.e]'(by omega), List.getElem?_eq_getElem _⟩
      obtain ⟨ts, hts⟩ : ∃ ts, tss[z.2.e]? = some ts := ⟨tss[z.2.e]'(by rw [RA2.len]; omega), List.getElem?_eq_getElem _⟩
      have hrow := RA2.rows.at _ _ _ hr (by rw [List.getElem?_map, hts]; rfl)
      walk_at "go"
      refine st_ixL hd2 (v := .ref r) (at_mapN hr) ?_
      walk_at "go"
      rename_i T3 G3 n3 e3 v3
      have tl := (RA2.tups _ _ hts).len
      have hil : (ixs (zs.map (·.2)) z.2.e i).length ≤ 400 := Nat.le_trans (List.length_filter_le _ _) (by rw [List.length_take, List.length_zipIdx, List.length_map]; omega)
      rw [List.length_map] at tl
      refine st_app (e3.get hrow) (by rw [List.length_map]; omega) ?_
      have RA3 := (RA2.ex e3).put ho (q := (z.2, i)) (T := T3) v3 hr hts
      refine ⟨RA.mut ((e2.trans eT).trans e3) (List.mem_of_getElem? hr), ⟨_, RA3.cong fun l _ => ?_⟩, _, _, _, _, _, _, _, _, _, rfl⟩
      rw [ixs_s _ _ _ (z := z.2) (by rw [List.getElem?_map, hz]; rfl)]
    rintro σ H2 ⟨e2, ⟨tss, RA⟩, a, b, c, e', f, g, h, x', y', rfl⟩
    rw [List.length_map] at RA
    walk_at "go"
    rename_i tp G3 n3 e3 v3 lp G4 n4 e4 v4
    have htp0 : H tp = none := Ex.free e2 n3
    have hlp0 : H lp = none := Ex.free (e2.trans e3) n4
    have htl : tp ≠ lp := ne_of_none v3 n4
    have v3' := e4.get v3
    have RA4 := (RA.ex e3).ex e4
    have e04 : Ex H G4 := (e2.trans e3).trans e4
    have htph : tp ∉ hs := RA.mem_ex n3
    have hlph : lp ∉ hs := (RA.ex e3).mem_ex n4
    have hdtp : d ≠ tp := ne_of_none RA.at_ n3
    have hdlp : d ≠ lp := ne_of_none (e3.get RA.at_) n4
    have p0 : PartT (zs.map (·.2)) [0] [.non] 0 := ⟨rfl, rfl, rfl, (fun e h => by omega), (fun z hz he => by have := hbe z hz; omega), (fun e h => by omega)⟩
    refine for_runs (show Runs (Itr 1 ((M : Int) + 1 - 1).toNat) M (fun _ => True) (fun i x H H' => H' = H ∧ x = .int (1 + (i : Nat))) by rw [show ((M : Int) + 1 - 1).toNat = M by omega]; exact runs_range 1 M) (fun i σ H' => Ex H H' ∧ RowsAt ixO H H' d hs tss (M + 1) (fun l => ixs (zs.map (·.2)) l zs.length) ∧ (∃ (ts : List Int) (ls : List V), H' tp = some (.lst (ts.map V.int)) ∧ H' lp = some (.lst ls) ∧ PartT (zs.map (·.2)) ts ls i) ∧ ∃ a b c e h x y, σ = [some (.int (M : Nat)), some (.ref p), some (.ref d), a, b, c, e, some (.ref tp), some (.ref lp), h, x, y]) ⟨e04, RA4, ⟨[0], [.non], v3', v4, p0⟩, _, _, _, _, _, _, _, rfl⟩ (fun _ _ _ _ _ => trivial) ?_ ?_
    · rintro i x σ H5 H5' hi ⟨e5, RA5, ⟨ts, ls, ht5, hl5, hP⟩, a', b', c', e'', h', x'', y'', rfl⟩ ⟨rfl, rfl⟩
      have hd5 := RA5.at_
      have hl1 := RA5.rows.len
      rw [List.length_map, RA5.len] at hl1
      have i1 : (1 : Int) + (i : Nat) - 1 = (i : Nat) := by omega
      have i2 : (1 : Int) + (i : Nat) = ((i + 1 : Nat) : Int) := by omega
      have hts1 : ts.length = i + 1 := hP.tl
      have getT : ∀ e, e ≤ i → atI (ts.map V.int) (e : Nat) = some (V.int (ts.getD e 0)) := fun e he => at_mapN (f := V.int) (by rw [List.getD_eq_getElem?_getD, List.getElem?_eq_getElem (by omega)]; rfl)
      obtain ⟨r, hr⟩ : ∃ r, hs[i + 1]? = some r := ⟨hs[i + 1]'(by omega), List.getElem?_eq_getElem _⟩
      obtain ⟨us, hus⟩ : ∃ us, tss[i + 1]? = some us := ⟨tss[i + 1]'(by rw [RA5.len]; omega), List.getElem?_eq_getElem _⟩
      have hrow := RA5.rows.at _ _ _ hr (by rw [List.getElem?_map, hus]; rfl)
      have tups := RA5.tups _ _ hus
      have tl := tups.len
      rw [List.length_map] at tl
      walk_at "go"
      refine st_ixL ht5 (by rw [i1]; exact getT i (Nat.le_refl _)) ?_
      walk_at "go"
      refine st_ixL hd5 (v := .ref r) (by rw [i2]; exact at_mapN hr) ?_
      walk_at "go"
      refine for_runs (runs_list K r (us.map V.ref)) (fun j σ H' => H' = H5' ∧ (∃ (m : Int) (v : V), ts.getD i 0 ≤ m ∧ (∀ q ∈ (ixs (zs.map (·.2)) (i + 1) zs.length).take j, ts.getD q.1.b 0 + q.1.w ≤ m) ∧ ((v = .non ∧ m = ts.getD i 0) ∨ ∃ (c : Nat) (z : S3), v = .int (c : Nat) ∧ (zs.map (·.2))[c]? = some z ∧ z.e = i + 1 ∧ m = ts.getD z.b 0 + z.w) ∧ ∃ a b c y, σ = [some (.int (M : Nat)), some (.ref p), some (.ref d), a, b, c, some (.int (1 + (i : Nat))), some (.ref tp), some (.ref lp), some (.int m), some v, y])) ⟨rfl, ts.getD i 0, .non, Int.le_refl _, (fun q hq => by rw [List.take_zero] at hq; cases hq), .inl ⟨rfl, rfl⟩, _, _, _, _, rfl⟩ (fun j σ H' _ ⟨e, _⟩ => by rw [e]; exact lst_of hrow) ?_ ?_
      · rintro j x σ H6 H6' hj ⟨rfl, m, v, m1, m2, m3, a2, b2, c2, y2, rfl⟩ ⟨rfl, hx⟩
        rw [List.length_map] at hj
        obtain ⟨u, hu⟩ : ∃ u, us[j]? = some u := ⟨us[j]'hj, List.getElem?_eq_getElem _⟩
        rw [List.getElem?_map, hu] at hx
        cases hx
        obtain ⟨q, hq⟩ : ∃ q, (ixs (zs.map (·.2)) (i + 1) zs.length)[j]? = some q := ⟨(ixs (zs.map (·.2)) (i + 1) zs.length)[j]'(by omega), List.getElem?_eq_getElem _⟩
        have huv : H6' u = some (.tup [.int (q.2 : Nat), .int q.1.w, .int (q.1.b : Nat)]) := tups.at _ _ _ hu (by rw [List.getElem?_map, hq]; rfl)
        have hqm := List.mem_of_getElem? hq
        have hzl : zs.length = (zs.map (·.2)).length := by rw [List.length_map]
        rw [hzl] at hqm
        obtain ⟨q1, q2⟩ := ixs_mem.mp hqm
        have hqb := hbe q.1 (List.mem_of_getElem? q1)
        have tk : (ixs (zs.map (·.2)) (i + 1) zs.length).take (j + 1) = (ixs (zs.map (·.2)) (i + 1) zs.length).take j ++ [q] := by rw [List.take_add_one, hq]; rfl
        walk_at "go"
        refine st_ixL ht5 (getT q.1.b (by omega)) ?_
        walk_at "go"
        refine st_br2 (fun cc => ?_) (fun cc => ?_)
        · walk_at "go"
          refine st_ixL ht5 (getT q.1.b (by omega)) ?_
          walk_at "go"
          refine ⟨rfl, ts.getD q.1.b 0 + q.1.w, .int (q.2 : Nat), by omega, fun y hy => ?_, .inr ⟨q.2, q.1, rfl, q1, q2, rfl⟩, _, _, _, _, rfl⟩
          rw [tk] at hy
          rcases List.mem_append.mp hy with h | h
          · have := m2 y h; omega
          · rw [List.mem_singleton.mp h]; exact Int.le_refl _
        · walk_at "go"
          refine ⟨rfl, m, v, m1, fun y hy => ?_, m3, _, _, _, _, rfl⟩
          rw [tk] at hy
          rcases List.mem_append.mp hy with h | h
          · exact m2 y h
          · rw [List.mem_singleton.mp h]; omega
      · rintro σ H6 ⟨rfl, m, v, m1, m2, m3, a2, b2, c2, y2, rfl⟩
        rw [List.length_map, List.take_of_length_le (by omega)] at m2
        walk_at "go"
        refine st_app ht5 (by rw [List.length_map]; omega) ?_
        have hl6 : upd H6 tp (.lst (ts.map V.int ++ [V.int m])) lp = some (.lst ls) := by rw [upd_ne htl.symm]; exact hl5
        walk_at "go"
        refine st_app hl6 (by rw [hP.ll]; omega) ?_
        have hpt : RowsAt ixO H (upd H6 tp (.lst (ts.map V.int ++ [V.int m]))) d hs tss (M + 1) (fun l => ixs (zs.map (·.2)) l zs.length) := RA5.up ho hdtp htph ht5
        have htq : upd (upd H6 tp (.lst (ts.map V.int ++ [V.int m]))) lp (.lst (ls ++ [v])) tp = some (.lst ((ts ++ [m]).map V.int)) := by rw [upd_ne htl, upd_same, List.map_append]; rfl
        exact ⟨(e5.mut htp0).mut hlp0, hpt.up ho hdlp hlph hl6, ⟨ts ++ [m], ls ++ [v], htq, upd_same, hP.step hbe m1 (fun z hz he => by
          obtain ⟨c, hc⟩ := List.mem_iff_getElem?.mp hz
          have := m2 (z, c) (by
            rw [show zs.length = (zs.map (·.2)).length by rw [List.length_map]]
            exact ixs_mem.mpr ⟨hc, he⟩)
          exact this) m3⟩, _, _, _, _, _, _, _, rfl⟩
    · rintro σ H5 ⟨e5, RA5, ⟨ts, ls, ht5, hl5, hP⟩, a', b', c', e'', h', x'', y'', rfl⟩
      walk_at "go"
      rename_i U G6 n6 e6 v6
      exact k U tp lp ts ls G6 (e5.trans e6) v6 (e6.get ht5) (e6.get hl5) hP
/-- the sum of prices from place b up to place e -/
def seg (ps : List Int) (b e : Nat) : Int := ((ps.drop b).take (e - b)).sum
theorem seg_tel (f : Nat → Int) (M : Nat) : ∀ n b, b + n ≤ M → seg ((List.range M).map fun p => f (p + 1) - f p) b (b + n) = f (b + n) - f b
  | 0, b, _ => by simp [seg]
  | n + 1, b, h => by
    have ih := seg_tel f M n b (by omega)
    unfold seg at ih ⊢
    rw [show b + n - b = n by omega] at ih
    rw [show b + (n + 1) - b = n + 1 by omega, List.take_add_one, List.sum_append, ih]
    have e : (((List.range M).map fun p => f (p + 1) - f p).drop b)[n]? = some (f (b + n + 1) - f (b + n)) := by
      rw [List.getElem?_drop, List.getElem?_map, List.getElem?_range (by omega)]
      rfl
    rw [e]
    simp only [Option.toList_some, List.sum_cons, List.sum_nil]
    rw [show b + (n + 1) = b + n + 1 by omega]
    omega
theorem seg_all {ps : List Int} {M : Nat} (h : ps.length = M) : seg ps 0 M = ps.sum := by
  unfold seg
  rw [List.drop_zero, Nat.sub_zero, List.take_of_length_le (by omega)]
theorem cut_seg (ps : List Int) (b e : Nat) : (cutL ps (some (b : Int)) (some (e : Int))).sum = seg ps b e := by
  unfold cutL seg
  rw [HT.sIx_nat, HT.sIx_nat]
  by_cases h : b ≤ ps.length
  · have m1 : min b ps.length = b := by omega
    rw [m1]
    by_cases h2 : e ≤ ps.length
    · have m2 : min e ps.length = e := by omega
      rw [m2]
    · have m2 : min e ps.length = ps.length := by omega
      rw [m2, List.take_of_length_le (by rw [List.length_drop]; exact Nat.le_refl _), List.take_of_length_le (by rw [List.length_drop]; omega)]
  · have m1 : min b ps.length = ps.length := by omega
    rw [m1, List.drop_length, List.drop_eq_nil_of_le (by omega), List.take_nil, List.take_nil]
/-- places in the list, rising, apart, worth so much -/
structure ChosenOk (ss : List S3) (cs : List Nat) (x : Int) : Prop where
  ch : Choice ss cs
  up : cs.Pairwise (· < ·)
  sum : (cs.map (wS ss)).sum = x
theorem rising_len : ∀ (cs : List Nat) (k n : Nat), cs.Pairwise (· < ·) → (∀ c ∈ cs, k ≤ c ∧ c < n) → cs.length ≤ n - k
  | [], _, _, _, _ => Nat.zero_le _
  | c :: cs, k, n, h1, h2 => by
    obtain ⟨h3, h4⟩ := List.pairwise_cons.mp h1
    have h5 := h2 c List.mem_cons_self
    have := rising_len cs (c + 1) n h4 fun d hd => ⟨h3 d hd, (h2 d (List.mem_cons_of_mem _ hd)).2⟩
    rw [List.length_cons]
    omega
theorem ChosenOk.len {ss : List S3} {cs : List Nat} {x : Int} (h : ChosenOk ss cs x) : cs.length ≤ ss.length := rising_len cs 0 ss.length h.up fun c hc => ⟨Nat.zero_le _, h.ch.lt c hc⟩
/-- prices on M places that cover all, worth so much together -/
structure PricesOk (ss : List S3) (M : Nat) (ps : List Int) (x : Int) : Prop where
  len : ps.length = M
  pos : ∀ y ∈ ps, 0 ≤ y
  cov : ∀ z ∈ ss, z.w ≤ seg ps z.b z.e
  sum : ps.sum = x
structure IsMost (ss : List S3) (M : Nat) (x : Int) : Prop where
  ex : ∃ T : Nat → Int, IsTa ss M T ∧ (∀ e, e < M → TStep ss T e) ∧ T M = x
theorem nat_ints : ∀ {ns : List Int} (cs : List Nat), ns.Perm (cs.map fun c => ((c : Nat) : Int)) → ∃ ds : List Nat, ns = ds.map (fun c => ((c : Nat) : Int)) ∧ ds.Perm cs := by
  intro ns cs h
  have e1 : ∀ x ∈ ns, ((x.toNat : Nat) : Int) = x := fun x hx => by
    obtain ⟨c, _, rfl⟩ := List.mem_map.mp (h.mem_iff.mp hx)
    omega
  refine ⟨ns.map Int.toNat, ?_, ?_⟩
  · rw [List.map_map]
    conv => lhs; rw [← List.map_id ns]
    exact List.map_congr_left fun x hx => (e1 x hx).symm
  · have h2 := h.map Int.toNat
    rw [List.map_map, show (Int.toNat ∘ fun c : Nat => ((c : Nat) : Int)) = id from funext fun c => Int.toNat_natCast c, List.map_id] at h2
    exact h2
theorem lt_of_le_nodup : ∀ {cs : List Nat}, (cs.map fun c => ((c : Nat) : Int)).Pairwise (· ≤ ·) → cs.Nodup → cs.Pairwise (· < ·) := by
  intro cs h1 h2
  rw [List.pairwise_map] at h1
  exact (h1.and h2).imp fun {a b} h => by
    have := h.1
    have := h.2
    omega
theorem sum_perm {a b : List Int} (h : a.Perm b) : a.sum = b.sum := by
  induction h with
  | nil => rfl
  | cons x _ ih => rw [List.sum_cons, List.sum_cons, ih]
  | swap x y l => simp only [List.sum_cons]; omega
  | trans _ _ h1 h2 => exact h1.trans h2
theorem wS_at {ss : List S3} {c : Nat} {z : S3} (h : ss[c]? = some z) : wS ss c = z.w := by unfold wS; rw [h]
def cI (c : Nat) : V := .int (c : Nat)
def sp_apart : Sp := fun vs H Q _ => ∃ (M : Nat) (p : Addr) (zs : List TZ), vs = [.int (M : Nat), .ref p] ∧ M ≤ 24 ∧ H p = some (.lst (zs.map tV)) ∧ TT H zs ∧ zs.length ≤ 400 ∧ (∀ z ∈ zs, SpOk M z.2) ∧
  ∀ (a c r : Addr) (x : Int) (cs : List Nat) (ps : List Int) (H' : Hp), Ex H H' → H c = none → H r = none → c ≠ r → H' a = some (.tup [.int x, .ref c, .ref r]) → H' c = some (.lst (cs.map cI)) → H' r = some (.lst (ps.map V.int)) → IsMost (zs.map (·.2)) M x → ChosenOk (zs.map (·.2)) cs x → PricesOk (zs.map (·.2)) M ps x → Q (.ref a) H'
theorem ok_apart (T : Tx K mg ad fd tk base tc) : FnOk P w K mg base (L2.CX P w) 5 (ad 38) (fd 38) ["many", "stretches"] sp_apart := by
  refine T.d_apart.F.okX sc_apart (fun vs H Q E h => ?_) (fun cdv A outer s H vs Q E hr h => ?_)
  · obtain ⟨M, p, zs, rfl, _⟩ := h
    rfl
  · obtain ⟨M, p, zs, rfl, hM, hp, htt, hl, hok, k⟩ := h
    refine ⟨_, (pss_cons (ps_expr (pe_call (ok_need_stretches T) (hr.mono (by decide)) rfl T.d_need_stretches.g T.d_need_stretches.F.kp T.d_need_stretches.b .nil (passes_call (takes_of rfl rfl rfl rfl) (fun _ _ _ _ h => h)) (pa_cons (pv 0) (pa_cons (pv 1) pa_nil))))
      (pss_cons (ps_asg (pe_call (ok_totals_of T) (hr.mono (by decide)) rfl T.d_totals_of.g T.d_totals_of.F.kp T.d_totals_of.b .nil pass0 (pa_cons (pv 0) (pa_cons (pv 1) pa_nil))) (pg_tup rfl (pgs_cons (pg_name (i := 2) sc_apart.nd rfl (Or.inr rfl)) (pgs_cons (pg_name (i := 3) sc_apart.nd rfl (Or.inl rfl)) pgs_nil))))
      (pss_cons (ps_set (i := 4) sc_apart.nd rfl (Or.inl rfl) (pe_lst pa_nil))
      (pss_cons (ps_set (i := 5) sc_apart.nd rfl (Or.inl rfl) (pv 0))
      (pss_cons (ps_while (passes_of rfl) (pt_cmpR o_gt (pv 5) pe_int (nomark _)) (pss_cons (ps_set (i := 6) sc_apart.nd rfl (Or.inl rfl) (pe_ix (i_ix (K := K)) (pv 3) (pv 5) (fun _ _ => rfl)))
      (pss_one (ps_if (pt_cmpR o_isN (pv 6) pe_non (nomark _)) (pss_one (ps_aug (i := 5) sc_apart.nd rfl (Or.inl rfl) pe_int ip_sub)) (pss_cons (ps_expr (pe_bm PySem.F.plainAttrs_list PySem.F.slot_list_append PySem.F.type_list_append mt_append (pv 4) (pa_cons (pv 6) pa_nil)))
      (pss_one (ps_set (i := 5) sc_apart.nd rfl (Or.inl rfl) (pe_ix (i_ix (K := K)) (pe_ix (i_ix (K := K)) (pv 1) (pv 6) (fun _ _ => rfl)) pe_int (fun _ _ => rfl)))))))))
      (pss_cons (ps_setLc (i := 7) (own := [("place", 8)]) (g := gName 8) rfl sc_apart.nd rfl rfl (sw_true rfl rfl rfl (by decide +kernel)) (pi_range1 rfl T.b_range (pa_cons (pv 0) pa_nil)) (blkOk_by (own := [("place", 8)]) (N := N_apart) (sc := defScope s_apart) (by decide +kernel)) (fun _ _ _ _ _ => pg_name (i := 8) sc_apart.nd rfl (Or.inl rfl)) (fun _ _ _ _ _ => pts_nil) (fun _ _ _ _ _ => (pe_op o_sub (pe_ix (i_ix (K := K)) (pv 2) (pe_op o_add (pv 8) pe_int) (fun _ _ => rfl)) (pe_ix (i_ix (K := K)) (pv 2) (pv 8) (fun _ _ => rfl)))))
      (pss_one (ps_ret (pe_tup (pa_cons (pe_ix (i_ix (K := K)) (pv 2) (pv 0) (fun _ _ => rfl)) (pa_cons (pe_callB (c_sortI (K := K)) (by rfl) T.b_sorted (by decide +kernel) (pa_cons (pv 4) pa_nil)) (pa_cons (pv 7) pa_nil)))))))))))), ?_⟩
    have hbe : ∀ z ∈ zs.map (·.2), z.b < z.e ∧ z.e ≤ M := fun z hz => by
      obtain ⟨y, hy, rfl⟩ := List.mem_map.mp hz
      exact ⟨(hok y hy).be, (hok y hy).eM⟩
    walk_at "go"
    refine ⟨_, _, _, rfl, ⟨_, rfl⟩, htt.rnL hp, fun h => ?_, fun M' hM' _ => ⟨fun _ H0 e0 => ?_, fun h => ?_⟩⟩
    · simp [withinV] at h
      omega
    rotate_left
    · have : M' = M := by
        have := V.int.inj hM'
        omega
      subst this
      exact absurd ⟨zs.map (·.2), by rw [List.map_map]; rfl, by rw [List.length_map]; exact hl, fun z hz => by
        obtain ⟨y, hy, rfl⟩ := List.mem_map.mp hz
        exact hok y hy⟩ h
    have hp0 := e0.get hp
    walk_at "go"
    refine ⟨M, p, zs, rfl, hM, hp0, htt.ex e0, hl, hok, fun a0 tp lp ts ls H1 e1 va vt vl hP => ?_⟩
    have e01 := e0.trans e1
    have hp1 := e01.get hp
    have tt1 := htt.ex e01
    clear hM'
    walk_at "go"
    rename_i c G2 n2 e2 v2
    have hlen : (zs.map (·.2)).length = zs.length := List.length_map ..
    have hcp : c ≠ p := fun e => by rw [e, hp1] at n2; cases n2
    generalize hss : zs.map (·.2) = ss at *
    have hsz : ∀ q z, ss[q]? = some z → ∃ y : TZ, zs[q]? = some y ∧ y.2 = z := fun q z h => by
      rw [← hss, List.getElem?_map] at h
      cases hy : zs[q]? with
      | none => rw [hy] at h; cases h
      | some y => rw [hy] at h; cases h; exact ⟨y, hy, rfl⟩
    obtain ⟨T, hT⟩ : ∃ T : Nat → Int, T = fun e => ts.getD e 0 := ⟨_, rfl⟩
    have t0 : T 0 = 0 := by rw [hT]; exact hP.t0
    have hIT : IsTa ss M T := ⟨t0, fun e h => by rw [hT]; exact hP.up e h, fun z hz => by rw [hT]; exact hP.ge z hz (hbe z hz).2⟩
    have hLO : ∀ e, e < M → ∃ v, ls[e + 1]? = some v ∧ LastOk ss T e v := fun e h => by rw [hT]; exact hP.la e h
    have hTS : ∀ e, e < M → TStep ss T e := fun e h => by
      obtain ⟨v, _, hv⟩ := hLO e h
      rcases hv with ⟨_, h⟩ | ⟨c, z, _, hc, h1, h2⟩
      · exact .inl h
      · exact .inr ⟨z, List.mem_of_getElem? hc, h1, h2⟩
    have tl := hP.tl
    have getT : ∀ e, e ≤ M → atI (ts.map V.int) (e : Nat) = some (V.int (T e)) := fun e he => at_mapN (f := V.int) (by rw [hT]; dsimp only; rw [List.getD_eq_getElem?_getD, List.getElem?_eq_getElem (by omega)]; rfl)
    have hc0 : Choice ss [] := ⟨fun c h => (List.not_mem_nil h).elim, List.Pairwise.nil⟩
    refine while_inv (fun m σ H' => m ≤ M ∧ Ex H1 H' ∧ (∃ cs : List Nat, H' c = some (.lst (cs.map cI)) ∧ Choice ss cs ∧ (∀ q ∈ cs, ∀ z, ss[q]? = some z → m ≤ z.b) ∧ (cs.map (wS ss)).sum + T m = T M ∧ cs.length + m ≤ M) ∧ ∃ y6 y7 y8, σ = [some (.int (M : Nat)), some (.ref p), some (.ref tp), some (.ref lp), some (.ref c), some (.int (m : Nat)), y6, y7, y8]) ⟨M, Nat.le_refl _, e2, ⟨[], v2, hc0, (fun _ h => (List.not_mem_nil h).elim), by simp, by simp⟩, _, _, _, rfl⟩ ?_
    rintro m σ H3 ⟨hm, e3, ⟨cs, hc3, hch, hmb, hsum, hcl⟩, y6, y7, y8, rfl⟩
    have vt3 := e3.get vt
    have vl3 := e3.get vl
    have hp3 := e3.get hp1
    have tt3 := tt1.ex e3
    walk_at "go"
    refine st_br2 (fun cc => ?_) (fun cc => ?_)
    · refine wh_T rfl ?_
      obtain ⟨e, rfl⟩ : ∃ e, m = e + 1 := ⟨m - 1, by omega⟩
      obtain ⟨v, hv, hL⟩ := hLO e (by omega)
      walk_at "go"
      refine st_ixL vl3 (v := v) (at_nat hv) ?_
      walk_at "go"
      rcases hL with ⟨rfl, hL⟩ | ⟨q, z, rfl, hq, hze, hL⟩
      · walk_at "go"
        exact ⟨e, by omega, by omega, e3, ⟨cs, hc3, hch, (fun q hq z hz => by have := hmb q hq z hz; omega), by rw [← hL]; exact hsum, by omega⟩, _, _, _, by rw [show ((e + 1 : Nat) : Int) - 1 = (e : Int) by omega]; rfl⟩
      · obtain ⟨y, hy, rfl⟩ := hsz q _ hq
        have hb := hbe y.2 (List.mem_of_getElem? hq)
        have hyv : H3 y.1 = some (.tup [.int y.2.w, .int (y.2.b : Nat), .int (y.2.e : Nat)]) := tt3 y (List.mem_of_getElem? hy)
        walk_at "go"
        refine st_app hc3 (by rw [List.length_map]; omega) ?_
        have hp4 : upd H3 c (.lst (cs.map cI ++ [cI q])) p = some (.lst (zs.map tV)) := by rw [upd_ne hcp.symm]; exact hp3
        have hy4 : upd H3 c (.lst (cs.map cI ++ [cI q])) y.1 = some (.tup [.int y.2.w, .int (y.2.b : Nat), .int (y.2.e : Nat)]) := tt3.up hc3 y (List.mem_of_getElem? hy)
        walk_at "go"
        refine st_ixL hp4 (v := .ref y.1) (at_mapN hy) ?_
        walk_at "go"
        refine ⟨y.2.b, by omega, by omega, e3.mut n2, ⟨cs ++ [q], by rw [upd_same, List.map_append]; rfl, ⟨fun x hx => ?_, ?_⟩, ?_, ?_, by rw [List.length_append, List.length_singleton]; omega⟩, _, _, _, rfl⟩
        · rcases List.mem_append.mp hx with h | h
          · exact hch.lt x h
          · rw [List.mem_singleton.mp h]
            exact (List.getElem?_eq_some_iff.mp hq).1
        · refine List.pairwise_append.mpr ⟨hch.ap, List.pairwise_singleton .., fun a ha b hb' x y' hx hy' => ?_⟩
          rw [List.mem_singleton.mp hb', hq] at hy'
          cases hy'
          have := hmb a ha x hx
          exact .inr (by omega)
        · intro x hx z hz
          rcases List.mem_append.mp hx with h | h
          · have := hmb x h z hz
            omega
          · rw [List.mem_singleton.mp h, hq] at hz
            cases hz
            exact Nat.le_refl _
        · rw [List.map_append, List.sum_append, List.map_singleton, List.sum_singleton, wS_at hq]
          omega
    · refine (wh_F (W := fun _ _ _ => True) (m := 0) (tb := fun _ _ _ => True) rfl ?_ : WhPost (fun _ _ _ => True) 0 (fun _ _ _ => True) _ _ false _)
      have m0 : m = 0 := by omega
      subst m0
      rw [t0, Int.add_zero] at hsum
      walk_at "go"
      refine lc_map (rv_range 0 _) (fun _ _ => trivial) (by rw [List.length_range]; omega) (fun i => .int (T (i + 1) - T i)) ?_ ?_
      · intro i H' hi e B h1
        refine ⟨rfl, ?_⟩
        have := List.mem_range.mp hi
        have h1 := h1 _ (Fr.refl _)
        walk_at "go"
        refine st_ixL (e.get vt3) (by rw [show (0 : Int) + (i : Nat) + 1 = ((i + 1 : Nat) : Int) by omega]; exact getT (i + 1) (by omega)) ?_
        walk_at "go"
        refine st_ixL (e.get vt3) (by rw [show (0 : Int) + (i : Nat) = (i : Int) by omega]; exact getT i (by omega)) ?_
        walk_at "go"
        exact h1
      intro r H4 n4 e4 v4
      have hrng : ((M : Int)).toNat = M := by omega
      walk_at "go"
      refine st_ixL (e4.get vt3) (getT M (Nat.le_refl _)) ?_
      have hcI : cs.map cI = (cs.map fun c => ((c : Nat) : Int)).map V.int := by rw [List.map_map]; rfl
      have hc4 := e4.get hc3
      rw [hcI] at hc4
      walk_at "go"
      refine st_sortI (lstAt_sq (lst_of hc4)) fun ns' s H5 hpm hsrt hs5 e5 hv5 => ?_
      obtain ⟨ds, rfl, hds⟩ := nat_ints cs hpm
      walk_at "go"
      rename_i U G6 n6 e6 v6
      have hrng2 : (List.range (M : Int).toNat).map (fun i => V.int (T (i + 1) - T i)) = ((List.range M).map fun i => T (i + 1) - T i).map V.int := by rw [hrng, List.map_map]; rfl
      rw [hrng2] at v4
      have hch2 := hch.perm hds
      have hse : ((List.range M).map fun i => T (i + 1) - T i).sum = T M := by
        have := seg_tel T M M 0 (by omega)
        rw [Nat.zero_add, t0, seg_all (by rw [List.length_map, List.length_range])] at this
        omega
      refine k U s r (T M) ds _ G6 (e01.trans (((e3.trans e4).trans e5).trans e6)) (Ex.free (e01.trans (e3.trans e4)) hs5) (Ex.free (e01.trans e3) n4) (fun e => by rw [e, v4] at hs5; cases hs5) v6 (e6.get (by rw [hv5, List.map_map]; rfl)) (e6.get (e5.get v4)) ⟨T, hIT, hTS, rfl⟩ ⟨hch2, lt_of_le_nodup hsrt (hch2.nodup hbe), ?_⟩ ⟨by rw [List.length_map, List.length_range], ?_, ?_, hse⟩
      · rw [sum_perm (hds.map (wS ss))]
        exact hsum
      · intro y hy
        obtain ⟨i, hi, rfl⟩ := List.mem_map.mp hy
        have := hIT.up i (List.mem_range.mp hi)
        omega
      · intro z hz
        have hb := hbe z hz
        have := seg_tel T M (z.e - z.b) z.b (by omega)
        rw [show z.b + (z.e - z.b) = z.e by omega] at this
        rw [this]
        have := hIT.ge z hz
        omega
def sp_apart_near (K : PySem.W.Frag) (TL : List (Addr × Str)) : Sp := fun vs H Q E => ∃ (x y z : V), vs = [x, y, z] ∧ LamX.Tabs TL H ∧ Ty H z ∧ Near3 K E H x y z fun s t q => ∀ (ys : List S3) (a c r : Addr) (x : Int) (cs : List Nat) (ps : List Int) (H' : Hp), Ex (noT H) H' → LamX.Tabs TL H' → noT H c = none → noT H r = none → c ≠ r → H' a = some (.tup [.int x, .ref c, .ref r]) → H' c = some (.lst (cs.map cI)) → H' r = some (.lst (ps.map V.int)) → NearOk ys s.cps.toList t.cps.toList q → IsMost (ys.map (spanS q)) t.length x → ChosenOk (ys.map (spanS q)) cs x → PricesOk (ys.map (spanS q)) t.length ps x → Q (.ref a) H'
theorem ok_apart_near (T : Tx K mg ad fd tk base tc) : FnOk P w K mg base (L2.CX P w) 13 (ad 39) (fd 39) ["side", "top", "most"] (sp_apart_near K (tabsL tc)) := by
  refine T.d_apart_near.F.okX sc_apart_near (fun vs H Q E h => ?_) (fun cdv A outer s H vs Q E hr h => ?_)
  · obtain ⟨x, y, z, rfl, _⟩ := h
    rfl
  · obtain ⟨x, y, z, rfl, hT, hz, hR⟩ := h
    refine ⟨_, (pss_cons (ps_setLc (i := 3) (own := [("cost", 4), ("begin", 5), ("end", 6)]) (g := gTup K 3 (gCons (gName 4) (gCons (gName 5) (gCons (gName 6) gNil)))) rfl sc_apart_near.nd rfl rfl (sw_true rfl rfl rfl (by decide +kernel)) (pi_list (pe_call (ok_near T) (hr.mono (by decide)) rfl T.d_near.g T.d_near.F.kp T.d_near.b .nil (passes_call (takes_of rfl rfl rfl rfl) (fun _ _ _ _ h => h)) (pa_cons (pv 0) (pa_cons (pv 1) (pa_cons (pv 2) pa_nil))))) (blkOk_by (own := [("cost", 4), ("begin", 5), ("end", 6)]) (N := N_apart_near) (sc := defScope s_apart_near) (by decide +kernel)) (fun _ _ _ _ _ => (pg_tup rfl (pgs_cons (pg_name (i := 4) sc_apart_near.nd rfl (Or.inl rfl)) (pgs_cons (pg_name (i := 5) sc_apart_near.nd rfl (Or.inl rfl)) (pgs_cons (pg_name (i := 6) sc_apart_near.nd rfl (Or.inl rfl)) pgs_nil))))) (fun _ _ _ _ _ => pts_nil) (fun _ _ _ _ _ => (pe_tup (pa_cons (pe_op o_sub (pe_op o_add (pv 2) pe_int) (pv 4)) (pa_cons (pv 5) (pa_cons (pv 6) pa_nil))))))
      (pss_one (ps_ret (pe_call (ok_apart T) (hr.mono (by decide)) rfl T.d_apart.g T.d_apart.F.kp T.d_apart.b .nil (passes_call (takes_of rfl rfl rfl rfl) (fun _ _ _ _ h => h)) (pa_cons (pe_callB (c_len (K := K)) (by rfl) T.b_len (by decide +kernel) (pa_cons (pv 1) pa_nil)) (pa_cons (pv 3) pa_nil)))))), ?_⟩
    walk_at "go"
    refine ⟨x, y, z, rfl, hT, hz, ?_⟩
    rcases hR with ⟨s, t, rfl, rfl, hs, ht, k⟩ | h
    rotate_left
    · exact .inr h
    refine .inl ⟨s, t, rfl, rfl, hs, ht, ?_⟩
    rcases k with ⟨q, rfl, hq, k⟩ | h
    rotate_left
    · exact .inr h
    refine .inl ⟨q, rfl, hq, fun a zs H1 e1 hT1 va ta hN => ?_⟩
    have htl : t.cps.toList.length = t.length := Array.length_toList
    have ltt := ht.len
    have hzl : zs.length ≤ 300 := by
      have := hN.len (by omega)
      rwa [List.length_map] at this
    walk_at "go"
    refine lc_objs0 (rv_list K a zs tV) (fun H' e => lst_of (e.get va)) (by omega) (fun z => sO (spanS q z.2)) ?_ ?_ gTup3_mono
    · intro z H' hz' e B hB
      have vz : H' z.1 = some (.tup [.int z.2.w, .int (z.2.b : Nat), .int (z.2.e : Nat)]) := e.get (ta z hz')
      walk_at "go"
      refine ⟨rfl, ?_⟩
      walk_at "go"
      rename_i q' G n e' v
      exact hB q' G n e' v
    intro D H2 ts hD e2 vD oD _ _ hn
    have hlt := ht.len
    obtain ⟨ws, w1, w2, w3⟩ := tz_of (ss := zs.map fun z => spanS q z.2) ts (by rw [List.map_map]; exact oD)
    rw [← w1] at vD
    have hN2 : ∀ z ∈ ws, SpOk t.length z.2 := fun z hz => by
      refine hN.span hq (z := z.2) ?_
      rw [List.map_map]
      show z.2 ∈ zs.map fun z => spanS q z.2
      rw [← w3]
      exact List.mem_map.mpr ⟨z, hz, rfl⟩
    have hwl : ws.length = zs.length := by
      have := congrArg List.length w3
      rwa [List.length_map, List.length_map] at this
    have w3' : ws.map (·.2) = (zs.map (·.2)).map (spanS q) := by rw [w3, List.map_map]; rfl
    walk_at "go"
    refine ⟨t.length, D, ws, rfl, ltt, vD, w2, by omega, hN2, fun a' c r x' cs ps H3 e3 nc nr hcr va' vc vr hm hch hp => ?_⟩
    have e13 := e2.trans e3
    have e03 : Ex (noT H) H3 := fun b o nb h => e13.get (e1.get h)
    have nn : ∀ c, H2 c = none → noT H c = none := fun c hc => by
      cases hh : noT H c with
      | none => rfl
      | some o =>
        have := e2.get (e1.get hh)
        rw [hc] at this
        cases this
    rw [w3'] at hm hch hp
    exact k (zs.map (·.2)) a' c r x' cs ps H3 e03 (hT1.ext fun b o h => e13.get h) (nn c nc) (nn r nr) hcr va' vc vr hN hm hch hp
def sp__law_at (K : PySem.W.Frag) : Sp := fun vs H Q _ => ∃ (a : Addr) (ns : List Int) (j : Int), vs = [.ref a, .int j] ∧ SqL K H a (ns.map V.int) ∧ (0 ≤ j ∧ j < 1000000) ∧ ns.length ≤ 63 ∧ ∀ z : Int, Q (.int z) H
theorem ok__law_at (T : Tx K mg ad fd tk base tc) : FnOk P w K mg base CX0 1 (ad 40) (fd 40) ["_law_script", "_law_k"] (sp__law_at K) := by
  refine T.d__law_at.F.ok sc__law_at (fun vs H Q E h => ?_) (fun cdv A outer s H vs Q E hr h => ?_)
  · obtain ⟨a, ns, j, rfl, _⟩ := h
    rfl
  · obtain ⟨a, ns, j, rfl, hs, hj, hl, k⟩ := h
    refine ⟨_, (pss_cons (ps_if (pt_cmpR o_lt (pv 1) (pe_callB (c_len (K := K)) (by rfl) T.b_len (by decide +kernel) (pa_cons (pv 0) pa_nil)) (nomark _)) (pss_one (ps_ret (pe_ix (i_ix (K := K)) (pv 0) (pv 1) (fun _ _ => rfl)))) pss_nil)
      (pss_one (ps_ret pe_int))), ?_⟩
    walk_at "go"
    refine st_lenK hs ?_
    walk_at "go"
    refine st_br2 (fun c => ?_) (fun c => ?_)
    · walk_at "go"
      rw [List.length_map] at c
      obtain ⟨v, h2, h3⟩ := at_in (xs := ns.map V.int) hj.1 (by rw [List.length_map]; exact c)
      rw [List.getElem?_map] at h3
      cases q : ns[j.toNat]? with
      | none => rw [q] at h3; cases h3
      | some z =>
        rw [q] at h3
        cases h3
        exact st_ixK hs h2 (k z)
    · walk_at "go"
      exact k _
def sp__law_mix : Sp := fun vs H Q _ => ∃ c j : Int, vs = [.int c, .int j] ∧ ∀ z : Int, Q (.int z) H
theorem ok__law_mix (T : Tx K mg ad fd tk base tc) : FnOk P w K mg base CX0 1 (ad 41) (fd 41) ["_law_cell", "_law_k"] sp__law_mix := by
  refine T.d__law_mix.F.ok sc__law_mix (fun vs H Q E h => ?_) (fun cdv A outer s H vs Q E hr h => ?_)
  · obtain ⟨c, j, rfl, _⟩ := h
    rfl
  · obtain ⟨c, j, rfl, k⟩ := h
    refine ⟨_, (pss_cons (ps_set (i := 2) sc__law_mix.nd rfl (Or.inl rfl) (pe_op o_mod (pe_op o_mul (pe_op o_add (pe_op o_add (pe_op o_mod (pv 0) pe_int) (pe_op o_mul pe_int (pv 1))) pe_int) pe_int) pe_int))
      (pss_cons (ps_set (i := 3) sc__law_mix.nd rfl (Or.inl rfl) (pe_op o_mod (pe_op o_mul (pe_op o_add (pe_op o_mod (pv 2) pe_int) pe_int) (pe_op o_add (pe_op o_add (pe_op o_div (pv 2) pe_int) (pe_op o_mod (pe_op o_div (pv 0) pe_int) pe_int)) pe_int)) pe_int))
      (pss_one (ps_ret (pe_op o_div (pv 3) pe_int))))), ?_⟩
    walk_at "go"
    exact k _
def letB (c : Nat) : Bool := decide (97 ≤ c ∧ c ≤ 122)
/-- a text of letters, of at most n -/
def RGp (z : Str) (n : Int) : Prop := (z.length : Int) ≤ n ∧ ∀ c ∈ z.cps.toList, letB c = true
theorem RGp.plain {z : Str} {n : Int} (h : RGp z n) (hn : n ≤ 24) : PlainS z := by
  show (isRow (.str z) && (decide (z.length ≤ 24) && !decide (46 ∈ z.cps.toList))) = true
  have hl : z.length ≤ 24 := by have := h.1; omega
  rw [Bool.and_eq_true, Bool.and_eq_true, Bool.not_eq_true', decide_eq_true_eq, decide_eq_false_iff_not]
  refine ⟨?_, hl, fun m => ?_⟩
  · show (decide (z.length ≤ 48) && z.cps.toList.all rowSign) = true
    rw [Bool.and_eq_true, decide_eq_true_eq, List.all_eq_true]
    refine ⟨by omega, fun c hc => ?_⟩
    have := of_decide_eq_true (h.2 c hc)
    unfold rowSign
    rw [Bool.or_eq_true, decide_eq_true_eq]
    exact .inl this
  · have := of_decide_eq_true (h.2 46 m)
    omega
theorem RGp.nil : RGp (tx []) 0 := ⟨by decide, fun c h => by cases h⟩
theorem RGp.one {c : Nat} (h : letB c = true) : RGp (tx [c]) 1 := ⟨by rw [tx_length]; exact Int.le_refl _, fun d hd => by rw [tx_toList, List.mem_singleton] at hd; rw [hd]; exact h⟩
theorem RGp.app {y z : Str} {m n : Int} (h : RGp y m) (k : RGp z n) : RGp (y ++ z) (m + n) := ⟨by rw [Str.length_append]; have := h.1; have := k.1; omega, fun c hc => by
  have : (y ++ z).cps.toList = y.cps.toList ++ z.cps.toList := by
    show (y.cps ++ z.cps).toList = _
    simp
  rw [this] at hc
  exact (List.mem_append.mp hc).elim (h.2 c) (k.2 c)⟩
theorem RGp.up {z : Str} {m n : Int} (h : RGp z m) (e : m ≤ n) : RGp z n := ⟨by have := h.1; omega, h.2⟩
theorem RGp.cut {z : Str} {m : Int} {lo hi : Option Int} (h : RGp z m) : RGp (cutS z lo hi) m := ⟨by have := h.1; have := cutS_len z lo hi; omega, fun c hc => by
  have e : (cutS z lo hi).cps.toList = ((z.cps.toList.drop (HT.sIx z.length 0 lo)).take (HT.sIx z.length z.length hi - HT.sIx z.length 0 lo)) := by simp [cutS]
  rw [e] at hc
  exact h.2 c (List.mem_of_mem_drop (List.mem_of_mem_take hc))⟩
theorem RGp.cap {z : Str} {m n : Int} (h : RGp z m) (h0 : 0 ≤ n) : RGp (cutS z none (some n)) n := ⟨by
  by_cases q : n ≤ (z.length : Int)
  · obtain ⟨k, rfl⟩ := Int.eq_ofNat_of_zero_le h0
    have := cutS_to_len z k (by omega)
    omega
  · have := cutS_len z none (some n)
    omega, h.cut.2⟩
theorem RGp.len {z : Str} {n : Int} (h : RGp z n) : (z.length : Int) ≤ n := h.1
theorem at_lettersP (i : Int) (h0 : 0 ≤ i) (h1 : i < 26) : atI ("abcdefghijklmnopqrstuvwxyz" : Str).cps.toList i = some (97 + i.toNat) := by
  rw [letters_eq]
  unfold atI ixN
  rw [List.length_range', if_pos h0, if_pos (by omega)]
  show (List.range' 97 26)[i.toNat]? = _
  rw [List.getElem?_range' (by omega), Nat.one_mul]
theorem at_26 {i : Int} (h0 : 0 ≤ i) (h1 : i < 26) : ∃ c, atI ("abcdefghijklmnopqrstuvwxyz" : Str).cps.toList i = some c ∧ letB c = true := ⟨97 + i.toNat, at_lettersP i h0 h1, decide_eq_true (by omega)⟩
/-- a text of signs, of at most n -/
def RG (z : Str) (n : Int) : Prop := (z.length : Int) ≤ n ∧ ∀ c ∈ z.cps.toList, rowSign c = true
theorem RG.row {z : Str} {n : Int} (h : RG z n) (hn : n ≤ 48) : RowS z := by
  show (decide (z.length ≤ 48) && z.cps.toList.all rowSign) = true
  rw [Bool.and_eq_true, decide_eq_true_eq, List.all_eq_true]
  exact ⟨by have := h.1; omega, h.2⟩
theorem RG.nil : RG (tx []) 0 := ⟨by decide, fun c h => by cases h⟩
theorem RG.one {c : Nat} (h : rowSign c = true) : RG (tx [c]) 1 := ⟨by rw [tx_length]; exact Int.le_refl _, fun d hd => by rw [tx_toList, List.mem_singleton] at hd; rw [hd]; exact h⟩
theorem RG.app {y z : Str} {m n : Int} (h : RG y m) (k : RG z n) : RG (y ++ z) (m + n) := ⟨by rw [Str.length_append]; have := h.1; have := k.1; omega, fun c hc => by
  have : (y ++ z).cps.toList = y.cps.toList ++ z.cps.toList := by
    show (y.cps ++ z.cps).toList = _
    simp
  rw [this] at hc
  exact (List.mem_append.mp hc).elim (h.2 c) (k.2 c)⟩
theorem RG.up {z : Str} {m n : Int} (h : RG z m) (e : m ≤ n) : RG z n := ⟨by have := h.1; omega, h.2⟩
theorem RG.cut {z : Str} {m : Int} {lo hi : Option Int} (h : RG z m) : RG (cutS z lo hi) m := ⟨by have := h.1; have := cutS_len z lo hi; omega, fun c hc => by
  have e : (cutS z lo hi).cps.toList = ((z.cps.toList.drop (HT.sIx z.length 0 lo)).take (HT.sIx z.length z.length hi - HT.sIx z.length 0 lo)) := by simp [cutS]
  rw [e] at hc
  exact h.2 c (List.mem_of_mem_drop (List.mem_of_mem_take hc))⟩
theorem RG.cap {z : Str} {m n : Int} (h : RG z m) (h0 : 0 ≤ n) : RG (cutS z none (some n)) n := ⟨by
  by_cases q : n ≤ (z.length : Int)
  · obtain ⟨k, rfl⟩ := Int.eq_ofNat_of_zero_le h0
    have := cutS_to_len z k (by omega)
    omega
  · have := cutS_len z none (some n)
    omega, h.cut.2⟩
theorem RG.len {z : Str} {n : Int} (h : RG z n) : (z.length : Int) ≤ n := h.1
theorem sqL_to {K : PySem.W.Frag} {H H' : Hp} {a : Addr} {xs : List V} (h : SqL K H a xs) (e : Ex (noT H) H') : SqL K H' a xs := by
  rcases h with (h | ⟨o, h⟩) | h
  · exact .inl (.inl (e.get (noT_get h fun _ z => by cases z)))
  · exact .inl (.inr ⟨o, e.get (noT_get h fun _ z => by cases z)⟩)
  · exact .inr h
theorem sqL_ex {K : PySem.W.Frag} {H H' : Hp} {a : Addr} {xs : List V} (h : SqL K H a xs) (e : Ex H H') : SqL K H' a xs := sqL_to h ((noT_ex H).trans e)
def sp__law_put : Sp := fun vs H Q _ => ∃ (z : Str) (c n w d : Int), vs = [.str z, .int c, .int n, .int w, .int d] ∧ RGp z n ∧ (0 ≤ n ∧ n ≤ 48) ∧ (1 ≤ w ∧ w ≤ 26) ∧ ∀ z', RGp z' n → Q (.str z') H
theorem ok__law_put (T : Tx K mg ad fd tk base tc) : FnOk P w K mg base CX0 2 (ad 42) (fd 42) ["_law_row", "_law_cell", "_law_cap", "_law_wide", "_law_shift"] sp__law_put := by
  refine T.d__law_put.F.ok sc__law_put (fun vs H Q E h => ?_) (fun cdv A outer s H vs Q E hr h => ?_)
  · obtain ⟨z, c, n, w, d, rfl, _⟩ := h
    rfl
  · obtain ⟨z, c, n, w, d, rfl, hz, hn, hw, k⟩ := h
    refine ⟨_, (pss_cons (ps_set (i := 5) sc__law_put.nd rfl (Or.inl rfl) pe_str)
      (pss_cons (ps_set (i := 6) sc__law_put.nd rfl (Or.inl rfl) pe_str)
      (pss_cons (ps_if (pt_cmpR o_ge (pv 1) (pe_op o_pow pe_int pe_int) (nomark _)) (pss_cons (ps_set (i := 7) sc__law_put.nd rfl (Or.inl rfl) (pe_op o_mod (pv 1) (pe_op o_add (pv 2) pe_int)))
      (pss_cons (ps_set (i := 1) sc__law_put.nd rfl (Or.inl rfl) (pe_op o_div (pv 1) (pe_op o_add (pv 2) pe_int)))
      (pss_cons (ps_for PassesOwn.never rfl (pi_range1 rfl T.b_range (pa_cons (pv 7) pa_nil)) (pg_name (i := 8) sc__law_put.nd rfl (Or.inl rfl)) (pss_cons (ps_set (i := 6) sc__law_put.nd rfl (Or.inl rfl) (pe_op o_add (pv 6) (pe_ix (i_ix (K := K)) (pv 5) (pe_op o_mod (pe_op o_add (pv 4) (pe_op o_mul pe_int (pe_op o_mod (pv 1) (pv 3)))) pe_int) (fun _ _ => rfl))))
      (pss_one (ps_set (i := 1) sc__law_put.nd rfl (Or.inl rfl) (pe_op o_div (pv 1) (pv 3))))))
      (pss_one (ps_ret (pv 6)))))) pss_nil)
      (pss_cons (ps_set (i := 7) sc__law_put.nd rfl (Or.inl rfl) pe_int)
      (pss_cut (ps_if (pt_cmpR (o_eq hr.units) (pe_op o_mod (pv 1) pe_int) pe_int (nomark _)) (pss_one (ps_set (i := 7) sc__law_put.nd rfl (Or.inl rfl) (pe_op o_add pe_int (pe_op o_mod (pe_call (ok__law_mix T) (hr.mono (by decide)) rfl T.d__law_mix.g T.d__law_mix.F.kp T.d__law_mix.b .nil pass0 (pa_cons (pv 1) (pa_cons pe_int pa_nil))) pe_int)))) pss_nil)
      (pss_cons (ps_for PassesOwn.never rfl (pi_range1 rfl T.b_range (pa_cons (pv 7) pa_nil)) (pg_name (i := 8) sc__law_put.nd rfl (Or.inl rfl)) (pss_one (ps_set (i := 6) sc__law_put.nd rfl (Or.inl rfl) (pe_op o_add (pv 6) (pe_ix (i_ix (K := K)) (pv 5) (pe_op o_mod (pe_op o_add (pv 4) (pe_op o_mul pe_int (pe_op o_mod (pe_call (ok__law_mix T) (hr.mono (by decide)) rfl T.d__law_mix.g T.d__law_mix.F.kp T.d__law_mix.b .nil pass0 (pa_cons (pv 1) (pa_cons (pe_op o_add (pv 8) pe_int) pa_nil))) (pv 3)))) pe_int) (fun _ _ => rfl))))))
      (pss_cons (ps_set (i := 9) sc__law_put.nd rfl (Or.inl rfl) (pe_op o_mod (pe_call (ok__law_mix T) (hr.mono (by decide)) rfl T.d__law_mix.g T.d__law_mix.F.kp T.d__law_mix.b .nil pass0 (pa_cons (pv 1) (pa_cons pe_int pa_nil))) (pe_op o_add (pe_callB (c_len (K := K)) (by rfl) T.b_len (by decide +kernel) (pa_cons (pv 0) pa_nil)) pe_int)))
      (pss_one (ps_ret (pe_slice (s_sl (K := K)) (pe_op o_add (pe_op o_add (pe_slice (s_sl (K := K)) (pv 0) po_none (po_some (pv 9))) (pv 6)) (pe_slice (s_sl (K := K)) (pv 0) (po_some (pv 9)) po_none)) po_none (po_some (pv 2)))))))))))), ?_⟩
    have hzl := hz.1
    walk_at "go"
    refine st_br2 (fun c1 => ?_) (fun c1 => ?_)
    · have b0 := Int.emod_nonneg c (b := n + 1) (by omega)
      have b1 := Int.emod_lt_of_pos c (b := n + 1) (by omega)
      walk_at "go"
      rw [Zb.tx_nil]
      refine for_runs (runs_range 0 _) (fun i σ H' => H' = H ∧ ∃ z' c' a8 a9, RGp z' i ∧ σ = [some (.str z), some (.int c'), some (.int n), some (.int w), some (.int d), some (.str "abcdefghijklmnopqrstuvwxyz"), some (.str z'), some (.int (c % (n + 1))), a8, a9]) ⟨rfl, _, _, _, _, RGp.nil, rfl⟩ (fun _ _ _ _ _ => trivial) ?_ ?_
      · rintro i x σ H1 H2 hi ⟨rfl, z', c', a8, a9, r, rfl⟩ ⟨rfl, rfl⟩
        have := r.1
        walk_at "go"
        obtain ⟨e, e1, e2⟩ := at_26 (i := (d + 5 * (c' % w)) % 26) (Int.emod_nonneg _ (by decide)) (Int.emod_lt_of_pos _ (by decide))
        refine st_sign (by decide) e1 ?_
        walk_at "go"
        exact ⟨rfl, _, _, _, _, r.app (RGp.one e2), rfl⟩
      · rintro σ H1 ⟨rfl, z', c', a8, a9, r, rfl⟩
        walk_at "go"
        exact k _ (r.up (by omega))
    · rw [Zb.tx_nil]
      refine ⟨fun σ H' => H' = H ∧ ∃ m a8 a9, (1 ≤ m ∧ m ≤ 12) ∧ σ = [some (.str z), some (.int c), some (.int n), some (.int w), some (.int d), some (.str "abcdefghijklmnopqrstuvwxyz"), some (.str (tx [])), some (.int m), a8, a9], ?_, ?_⟩
      · walk_at "go"
        refine st_br2 (fun c2 => ?_) (fun c2 => ?_)
        · walk_at "go"
          refine ⟨_, _, rfl, fun u => ?_⟩
          have b0 := Int.emod_nonneg u (b := 11) (by omega)
          have b1 := Int.emod_lt_of_pos u (b := 11) (by omega)
          walk_at "go"
          exact ⟨rfl, _, _, _, by omega, rfl⟩
        · walk_at "go"
          exact ⟨rfl, 1, _, _, by decide, rfl⟩
      · rintro σ H1 ⟨rfl, m, a8, a9, hm, rfl⟩
        walk_at "go"
        refine for_runs (runs_range 0 _) (fun i σ H' => H' = H1 ∧ ∃ z' a8 a9, RGp z' i ∧ σ = [some (.str z), some (.int c), some (.int n), some (.int w), some (.int d), some (.str "abcdefghijklmnopqrstuvwxyz"), some (.str z'), some (.int m), a8, a9]) ⟨rfl, _, _, _, RGp.nil, rfl⟩ (fun _ _ _ _ _ => trivial) ?_ ?_
        · rintro i x σ H2 H3 hi ⟨rfl, z', a8, a9, r, rfl⟩ ⟨rfl, rfl⟩
          have := r.1
          walk_at "go"
          refine ⟨_, _, rfl, fun u => ?_⟩
          walk_at "go"
          obtain ⟨e, e1, e2⟩ := at_26 (i := (d + 5 * (u % w)) % 26) (Int.emod_nonneg _ (by decide)) (Int.emod_lt_of_pos _ (by decide))
          refine st_sign (by decide) e1 ?_
          walk_at "go"
          exact ⟨rfl, _, _, _, r.app (RGp.one e2), rfl⟩
        · rintro σ H2 ⟨rfl, z', a8, a9, r, rfl⟩
          have := r.1
          walk_at "go"
          refine ⟨_, _, rfl, fun u => ?_⟩
          walk_at "go"
          have r1 : RGp (cutS z none (some (u % (↑z.length + 1)))) n := hz.cut
          have r2 : RGp (cutS z (some (u % (↑z.length + 1))) none) n := hz.cut
          have l1 := (r1.app r).1
          have l2 := ((r1.app r).app r2).1
          refine st_addS (by rw [Str.length_append] at l1; omega) ?_
          walk_at "go"
          refine st_addS (by rw [Str.length_append] at l2; omega) ?_
          walk_at "go"
          have l3 : (cutS z none (some (u % (↑z.length + 1))) ++ z' ++ cutS z (some (u % (↑z.length + 1))) none).length ≤ 16777216 := by omega
          first
            | exact k _ (((r1.app r).app r2).cap hn.1)
            | exact st_slS l3 (k _ (((r1.app r).app r2).cap hn.1))
def sp__law_two (K : PySem.W.Frag) : Sp := fun vs H Q _ => ∃ (a : Addr) (ns : List Int) (n : Int), vs = [.ref a, .int n] ∧ SqL K H a (ns.map V.int) ∧ (0 ≤ n ∧ n ≤ 48) ∧ ns.length ≤ 63 ∧ ∀ q y z H', Ex H H' → H q = none → H' q = some (.lst [.str y, .str z]) → RGp y n → RGp z n → Q (.ref q) H'
theorem ok__law_two (T : Tx K mg ad fd tk base tc) : FnOk P w K mg base CX0 3 (ad 43) (fd 43) ["_law_script", "_law_cap"] (sp__law_two K) := by
  refine T.d__law_two.F.ok sc__law_two (fun vs H Q E h => ?_) (fun cdv A outer s H vs Q E hr h => ?_)
  · obtain ⟨a, ns, n, rfl, _⟩ := h
    rfl
  · obtain ⟨a, ns, n, rfl, hs, hn, hl, k⟩ := h
    refine ⟨_, (pss_cons (ps_set (i := 2) sc__law_two.nd rfl (Or.inl rfl) (pe_ix (i_ix (K := K)) (pe_lst (pa_cons pe_int (pa_cons pe_int (pa_cons pe_int (pa_cons pe_int (pa_cons pe_int (pa_cons pe_int pa_nil))))))) (pe_op o_mod (pe_call (ok__law_at T) (hr.mono (by decide)) rfl T.d__law_at.g T.d__law_at.F.kp T.d__law_at.b .nil pass0 (pa_cons (pv 0) (pa_cons pe_int pa_nil))) pe_int) (fun _ _ => rfl)))
      (pss_cons (ps_set (i := 3) sc__law_two.nd rfl (Or.inl rfl) (pe_op o_mod (pe_op o_div (pe_call (ok__law_at T) (hr.mono (by decide)) rfl T.d__law_at.g T.d__law_at.F.kp T.d__law_at.b .nil pass0 (pa_cons (pv 0) (pa_cons pe_int pa_nil))) pe_int) pe_int))
      (pss_cons (ps_set (i := 4) sc__law_two.nd rfl (Or.inl rfl) (pe_lst (pa_cons pe_str (pa_cons pe_str pa_nil))))
      (pss_cons (ps_for PassesOwn.never rfl (pi_list (pe_slice (s_sl (K := K)) (pv 0) (po_some pe_int) (po_some pe_int))) (pg_name (i := 5) sc__law_two.nd rfl (Or.inl rfl)) (pss_one (ps_asg (pe_call (ok__law_put T) (hr.mono (by decide)) rfl T.d__law_put.g T.d__law_put.F.kp T.d__law_put.b .nil pass0 (pa_cons (pe_ix (i_ix (K := K)) (pv 4) (pe_op o_mod (pv 5) pe_int) (fun _ _ => rfl)) (pa_cons (pe_op o_div (pv 5) pe_int) (pa_cons (pv 1) (pa_cons (pv 2) (pa_cons (pv 3) pa_nil)))))) (pg_sub (pv 4) (pe_op o_mod (pv 5) pe_int) set_list))))
      (pss_one (ps_ret (pv 4))))))), ?_⟩
    walk_at "go"
    rename_i q1 H1 n1 e1 v1
    refine ⟨a, ns, 0, rfl, sqL_ex hs e1, by decide, hl, fun c => ?_⟩
    walk_at "go"
    have b0 := Int.emod_nonneg c (b := 6) (by omega)
    have b1 := Int.emod_lt_of_pos c (b := 6) (by omega)
    refine st_ixI [2, 3, 1, 4, 6, 26] (by walk_at "hp") rfl b0 b1 (fun w _ hw => ?_)
    have hw : 1 ≤ w ∧ w ≤ 26 := by simp at hw; omega
    walk_at "go"
    refine ⟨a, ns, 0, rfl, sqL_ex hs e1, by decide, hl, fun c2 => ?_⟩
    walk_at "go"
    rename_i q H2 n2 e2 v2
    have e12 := e1.trans e2
    have nq : H q = none := Ex.free e1 n2
    rw [show Str.ofString "" = tx [] from Zb.tx_nil] at v2
    refine st_slK (sqL_ex hs e12) fun q3 H3 n3 e3 v3 => ?_
    rw [cutV_map] at v3
    have hcl := cutL_len ns (some 1) (some 63)
    generalize cutL ns (some 1) (some 63) = cells at v3 hcl
    have q3q : q3 ≠ q := (ne_of_none v2 n3).symm
    have w3 := e3.get v2
    have e13 := e12.trans e3
    walk_at "go"
    refine for_runs (rv_list K q3 cells V.int) (fun i σ H' => FrP q H3 H' ∧ (∃ y z, H' q = some (.lst [.str y, .str z]) ∧ RGp y n ∧ RGp z n) ∧ ∃ a5, σ = [some (.ref a), some (.int n), some (.int w), some (.int (c2 / 6 % 26)), some (.ref q), a5]) ⟨Fr.refl _, ⟨_, _, w3, RGp.nil.up hn.1, RGp.nil.up hn.1⟩, _, rfl⟩ (fun i σ H' _ h => lst_of (h.1.get q3q v3)) ?_ ?_
    · rintro i x σ H4 H5 hi ⟨f4, ⟨y, z, h1, h2, h3⟩, a5, rfl⟩ ⟨rfl, u, hu, rfl⟩
      walk_at "go"
      rcases (by omega : u % 2 = 0 ∨ u % 2 = 1) with hz | hz
      · rw [hz]
        refine st_ixL h1 (v := .str y) rfl ?_
        walk_at "go"
        refine ⟨y, _, n, w, _, rfl, h2, hn, hw, fun y' r => ?_⟩
        walk_at "go"
        rw [hz]
        refine st_setL h1 (j := 0) rfl ?_
        exact ⟨f4.trans FrP.at, ⟨y', z, upd_same, r, h3⟩, _, rfl⟩
      · rw [hz]
        refine st_ixL h1 (v := .str z) rfl ?_
        walk_at "go"
        refine ⟨z, _, n, w, _, rfl, h3, hn, hw, fun y' r => ?_⟩
        walk_at "go"
        rw [hz]
        refine st_setL h1 (j := 1) rfl ?_
        exact ⟨f4.trans FrP.at, ⟨y, y', upd_same, h2, r⟩, _, rfl⟩
    · rintro σ H4 ⟨f4, ⟨y, z, h1, h2, h3⟩, a5, rfl⟩
      walk_at "go"
      exact k q y z _ (Ex.comp (M := fun b => b = q) e13 f4 fun b hb => by rw [hb]; exact nq) nq h1 h2 h3
def sp__law_whole : Sp := fun vs H Q _ => ∃ x, vs = [x] ∧ Ty H x ∧ Q (.bl (isWholeV x)) H
theorem ok__law_whole (T : Tx K mg ad fd tk base tc) : FnOk P w K mg base CX0 1 (ad 44) (fd 44) ["_law_found"] sp__law_whole := by
  refine T.d__law_whole.F.ok sc__law_whole (fun vs H Q E h => ?_) (fun cdv A outer s H vs Q E hr h => ?_)
  · obtain ⟨x, rfl, _⟩ := h
    rfl
  · obtain ⟨x, rfl, ht, k⟩ := h
    refine ⟨_, (pss_one (ps_ret (pe_and (pe_callB c_is (by rfl) T.b_isinstance (by decide +kernel) (pa_cons (pv 0) (pa_cons (pe_bltn (v := .ty "int") rfl T.b_int (by decide +kernel) rfl) pa_nil))) (pe_one (pe_not (pe_callB c_is (by rfl) T.b_isinstance (by decide +kernel) (pa_cons (pv 0) (pa_cons (pe_bltn (v := .ty "bool") rfl T.b_bool (by decide +kernel) rfl) pa_nil)))))))), ?_⟩
    walk_at "go"
    refine st_isIntT ht ?_
    walk_at "go"
    cases x with
    | int i =>
      refine st_T rfl ?_
      walk_at "go"
      exact k
    | bl b =>
      refine st_T rfl ?_
      walk_at "go"
      exact k
    | _ =>
      refine st_F rfl ?_
      walk_at "go"
      exact k
def IsBest (ss : List S3) (M : Nat) (x : Int) : Prop := ∃ B : Nat → Int, IsB ss M B ∧ (∀ p, p < M → BStep ss B p) ∧ B 0 = x
structure PB (ss : List S3) (M i : Nat) (B : Nat → Int) : Prop where
  bM : B M = 0
  st : ∀ p, M - i ≤ p → p < M → B (p + 1) ≤ B p ∧ BStep ss B p
  ge : ∀ z ∈ ss, M - i ≤ z.b → z.w + B z.e ≤ B z.b
theorem PB.step {ss : List S3} {M i : Nat} {B : Nat → Int} {m : Int} (h : PB ss M i B) (hi : i < M) (hok : ∀ z ∈ ss, z.b < z.e ∧ z.e ≤ M) {p : Nat} (hp : p + 1 + i = M) (h1 : B (p + 1) ≤ m) (h2 : ∀ z ∈ ss, z.b = p → z.w + B z.e ≤ m) (h3 : m = B (p + 1) ∨ ∃ z ∈ ss, z.b = p ∧ m = z.w + B z.e) :
    PB ss M (i + 1) (fun e => if e = p then m else B e) := by
  refine ⟨?_, fun q h4 h5 => ?_, fun z hz h4 => ?_⟩
  · rw [if_neg (by omega)]; exact h.bM
  · by_cases e : q = p
    · subst e
      rw [if_neg (by omega), if_pos rfl]
      refine ⟨h1, ?_⟩
      rcases h3 with h3 | ⟨z, hz, h6, h7⟩
      · exact .inl (by dsimp only; rw [if_pos rfl, if_neg (by omega)]; exact h3)
      · have := hok z hz
        exact .inr ⟨z, hz, h6, by dsimp only; rw [if_pos rfl, if_neg (by omega)]; exact h7⟩
    · obtain ⟨k1, k2⟩ := h.st q (by omega) h5
      rw [if_neg (by omega), if_neg e]
      refine ⟨k1, ?_⟩
      rcases k2 with k2 | ⟨z, hz, h6, h7⟩
      · exact .inl (by dsimp only; rw [if_neg e, if_neg (by omega)]; exact k2)
      · have := hok z hz
        exact .inr ⟨z, hz, h6, by dsimp only; rw [if_neg e, if_neg (by omega)]; exact h7⟩
  · have := hok z hz
    by_cases e : z.b = p
    · rw [if_neg (by omega), if_pos e]
      exact h2 z hz e
    · rw [if_neg (by omega), if_neg e]
      exact h.ge z hz (by omega)
def sp__law_best : Sp := fun vs H Q _ => ∃ (M : Nat) (p : Addr) (zs : List TZ), vs = [.int (M : Nat), .ref p] ∧ M ≤ 24 ∧ H p = some (.lst (zs.map tV)) ∧ TT H zs ∧ zs.length ≤ 401 ∧ (∀ z ∈ zs, SpOk M z.2) ∧ ∀ (x : Int) H', Ex H H' → IsBest (zs.map (·.2)) M x → Q (.int x) H'
theorem ok__law_best (T : Tx K mg ad fd tk base tc) : FnOk P w K mg base CX0 1 (ad 45) (fd 45) ["_law_many", "_law_spans_here"] sp__law_best := by
  refine T.d__law_best.F.ok sc__law_best (fun vs H Q E h => ?_) (fun cdv A outer s H vs Q E hr h => ?_)
  · obtain ⟨M, p, zs, rfl, _⟩ := h
    rfl
  · obtain ⟨M, p, zs, rfl, hM, hp, htt, hl, hok, k⟩ := h
    refine ⟨_, (pss_cons (ps_setLc (i := 2) (own := [("_law_k", 7)]) (g := gName 7) rfl sc__law_best.nd rfl rfl (sw_true rfl rfl rfl (by decide +kernel)) (pi_range1 rfl T.b_range (pa_cons (pe_op o_add (pv 0) pe_int) pa_nil)) (blkOk_by (own := [("_law_k", 7)]) (N := N__law_best) (sc := defScope s__law_best) (by decide +kernel)) (fun _ _ _ _ _ => pg_name (i := 7) sc__law_best.nd rfl (Or.inl rfl)) (fun _ _ _ _ _ => pts_nil) (fun _ _ _ _ _ => pe_int))
      (pss_cons (ps_for PassesOwn.never rfl (pi_range3 rfl T.b_range (pa_cons (pe_op o_sub (pv 0) pe_int) (pa_cons (pe_un un_neg pe_int) (pa_cons (pe_un un_neg pe_int) pa_nil)))) (pg_name (i := 3) sc__law_best.nd rfl (Or.inl rfl)) (pss_cons (ps_asg (pe_ix (i_ix (K := K)) (pv 2) (pe_op o_add (pv 3) pe_int) (fun _ _ => rfl)) (pg_sub (pv 2) (pv 3) set_list))
      (pss_one (ps_for PassesOwn.never rfl (pi_list (pv 1)) (pg_tup rfl (pgs_cons (pg_name (i := 4) sc__law_best.nd rfl (Or.inl rfl)) (pgs_cons (pg_name (i := 5) sc__law_best.nd rfl (Or.inl rfl)) (pgs_cons (pg_name (i := 6) sc__law_best.nd rfl (Or.inl rfl)) pgs_nil)))) (pss_one (ps_if (PW.pt (pw_and (pt_cmpR (o_eq hr.units) (pv 5) (pv 3) (nomark _)) (pw_and1 (pt_cmpR o_gt (pe_op o_add (pv 4) (pe_ix (i_ix (K := K)) (pv 2) (pv 6) (fun _ _ => rfl))) (pe_ix (i_ix (K := K)) (pv 2) (pv 3) (fun _ _ => rfl)) (nomark _))))) (pss_one (ps_asg (pe_op o_add (pv 4) (pe_ix (i_ix (K := K)) (pv 2) (pv 6) (fun _ _ => rfl))) (pg_sub (pv 2) (pv 3) set_list))) pss_nil))))))
      (pss_one (ps_ret (pe_ix (i_ix (K := K)) (pv 2) pe_int (fun _ _ => rfl)))))), ?_⟩
    walk_at "go"
    refine lc_map (rv_range 0 _) (fun _ _ => trivial) (by rw [List.length_range]; omega) (fun i => .int 0) ?_ ?_
    · intro i H' hi e B h1
      refine ⟨rfl, ?_⟩
      walk_at "go"
      exact h1 _ (Fr.refl _)
    intro q H1 n1 e1 v1
    walk_at "go"
    rw [show ((M : Int) + 1).toNat = M + 1 by omega] at v1
    have hbe : ∀ z ∈ zs.map (·.2), z.b < z.e ∧ z.e ≤ M := fun z hz => by
      obtain ⟨y, hy, rfl⟩ := List.mem_map.mp hz
      exact ⟨(hok y hy).be, (hok y hy).eM⟩
    have p0 : PB (zs.map (·.2)) M 0 (fun _ => 0) := ⟨rfl, fun p h1 h2 => by omega, fun z hz h => by have := hbe z hz; omega⟩
    have hrg : RgC ((M : Int) - 1) (-1) (-1) M := by
      have := RgC.neg (i := (M : Int) - 1) (j := -1) (by omega) (by omega) (by omega) (by omega)
      rwa [show ((M : Int) - 1 - -1).toNat = M by omega] at this
    refine st_isR3 M hrg ?_
    have hpq : p ≠ q := fun e => by rw [e, n1] at hp; cases hp
    refine for_runs (runs_rangeC _ _ M) (fun i σ H' => (Ex H H' ∧ ∃ B : Nat → Int, H' q = some (.lst ((List.range (M + 1)).map fun e => V.int (B e))) ∧ PB (zs.map (·.2)) M i B) ∧ ∃ y3 y4 y5 y6 y7, σ = [some (.int (M : Nat)), some (.ref p), some (.ref q), y3, y4, y5, y6, y7]) ⟨⟨e1, _, v1, p0⟩, _, _, _, _, _, rfl⟩ (fun _ _ _ _ _ => trivial) ?_ ?_
    · rintro i x σ H3 H3' hi ⟨⟨e3, B, hB, pB⟩, y3, y4, y5, y6, y7, rfl⟩ ⟨rfl, rfl⟩
      obtain ⟨p', hp'⟩ : ∃ p' : Nat, p' + 1 + i = M := ⟨M - 1 - i, by omega⟩
      rw [show (M : Int) - 1 + (i : Nat) * (-1) = (p' : Nat) by omega]
      have hp3 := e3.get hp
      have tt3 := htt.ex e3
      walk_at "go"
      refine st_ixL hB (by rw [show ((p' : Nat) : Int) + 1 = ((p' + 1 : Nat) : Int) by omega]; exact fn_at (by omega)) ?_
      walk_at "go"
      refine st_setL hB (fn_ix (by omega)) ?_
      rw [fn_set]
      have hpu : upd H3' q (.lst ((List.range (M + 1)).map fun e => if e = p' then V.int (B (p' + 1)) else V.int (B e))) p = some (.lst (zs.map tV)) := by rw [upd_ne hpq]; exact hp3
      have ttu := tt3.up (u := .lst ((List.range (M + 1)).map fun e => if e = p' then V.int (B (p' + 1)) else V.int (B e))) hB
      obtain ⟨H4, hH4⟩ : ∃ H4, H4 = upd H3' q (.lst ((List.range (M + 1)).map fun e => if e = p' then V.int (B (p' + 1)) else V.int (B e))) := ⟨_, rfl⟩
      rw [← hH4] at hpu ttu ⊢
      have e4 : Ex H H4 := by rw [hH4]; exact e3.mut n1
      have q4 : H4 q = some (.lst ((List.range (M + 1)).map fun e => if e = p' then V.int (B (p' + 1)) else V.int (B e))) := by rw [hH4]; exact upd_same
      clear hH4
      walk_at "go"
      refine for_runs (runs_list K p (zs.map tV)) (fun j σ H' => (Ex H H' ∧ H' p = some (.lst (zs.map tV)) ∧ TT H' zs ∧ ∃ m : Int, H' q = some (.lst ((List.range (M + 1)).map fun e => if e = p' then V.int m else V.int (B e))) ∧ B (p' + 1) ≤ m ∧ (∀ z ∈ (zs.map (·.2)).take j, z.b = p' → z.w + B z.e ≤ m) ∧ (m = B (p' + 1) ∨ ∃ z ∈ zs.map (·.2), z.b = p' ∧ m = z.w + B z.e)) ∧ ∃ y4 y5 y6 y7, σ = [some (.int (M : Nat)), some (.ref p), some (.ref q), some (.int (p' : Nat)), y4, y5, y6, y7]) ⟨⟨e4, hpu, ttu, _, q4, Int.le_refl _, (fun z hz => by rw [List.take_zero] at hz; cases hz), .inl rfl⟩, _, _, _, _, rfl⟩ (fun j σ H' _ ⟨⟨_, e, _⟩, _⟩ => lst_of e) ?_ ?_
      · rintro j x σ H5 H5' hj ⟨⟨e5, p5, t5, m, q5, m1, m2, m3⟩, y4, y5, y6, y7, rfl⟩ ⟨rfl, hx⟩
        rw [List.length_map] at hj
        obtain ⟨z, hz⟩ : ∃ z, zs[j]? = some z := ⟨zs[j]'hj, List.getElem?_eq_getElem _⟩
        rw [List.getElem?_map, hz] at hx
        cases hx
        have hzm := List.mem_of_getElem? hz
        have hzv : H5' z.1 = some (.tup [.int z.2.w, .int (z.2.b : Nat), .int (z.2.e : Nat)]) := t5 z hzm
        have hz2 : z.2 ∈ zs.map (·.2) := List.mem_map_of_mem hzm
        have hb := hbe z.2 hz2
        have tk : (zs.map (·.2)).take (j + 1) = (zs.map (·.2)).take j ++ [z.2] := by rw [List.take_add_one, List.getElem?_map, hz]; rfl
        have st1 : ∀ m' : Int, m ≤ m' → (z.2.b = p' → z.2.w + B z.2.e ≤ m') → ∀ y ∈ (zs.map (·.2)).take (j + 1), y.b = p' → y.w + B y.e ≤ m' := fun m' h1 h2 y hy hyb => by
          rw [tk] at hy
          rcases List.mem_append.mp hy with h | h
          · have := m2 y h hyb; omega
          · rw [List.mem_singleton.mp h] at hyb ⊢; exact h2 hyb
        walk_at "go"
        refine st_br2 (fun c1 => ?_) (fun c1 => ?_)
        · walk_at "go"
          have c1' : z.2.b = p' := by omega
          have ge_ : atI ((List.range (M + 1)).map fun e => if e = p' then V.int m else V.int (B e)) (z.2.e : Nat) = some (.int (B z.2.e)) := by
            rw [fn_at (by omega), if_neg (by omega)]
          refine st_ixL q5 ge_ ?_
          walk_at "go"
          refine st_ixL q5 (v := .int m) (by rw [fn_at (by omega), if_pos rfl]) ?_
          walk_at "go"
          refine st_br2 (fun c2 => ?_) (fun c2 => ?_)
          · walk_at "go"
            refine st_ixL q5 ge_ ?_
            walk_at "go"
            refine st_setL q5 (fn_ix (by omega)) ?_
            rw [fn_set]
            refine ⟨⟨e5.mut n1, by rw [upd_ne hpq]; exact p5, t5.up q5, z.2.w + B z.2.e, ?_, by omega, st1 _ (by omega) (fun _ => Int.le_refl _), .inr ⟨z.2, hz2, c1', rfl⟩⟩, _, _, _, _, rfl⟩
            rw [upd_same]
            refine congrArg (fun l => some (HO.lst l)) (fn_congr fun e _ => ?_)
            by_cases h : e = p'
            · rw [if_pos h, if_pos h]
            · rw [if_neg h, if_neg h, if_neg h]
          · walk_at "go"
            exact ⟨⟨e5, p5, t5, m, q5, m1, st1 m (Int.le_refl _) (fun _ => by omega), m3⟩, _, _, _, _, rfl⟩
        · walk_at "go"
          exact ⟨⟨e5, p5, t5, m, q5, m1, st1 m (Int.le_refl _) (fun h => by omega), m3⟩, _, _, _, _, rfl⟩
      · rintro σ H5 ⟨⟨e5, p5, t5, m, q5, m1, m2, m3⟩, y4, y5, y6, y7, rfl⟩
        rw [List.take_of_length_le (by rw [List.length_map, List.length_map]; exact Nat.le_refl _)] at m2
        refine ⟨⟨e5, _, ?_, pB.step hi hbe hp' m1 m2 m3⟩, _, _, _, _, _, rfl⟩
        rw [q5]
        refine congrArg (fun l => some (HO.lst l)) (fn_congr fun e _ => ?_)
        by_cases h : e = p'
        · rw [if_pos h, if_pos h]
        · rw [if_neg h, if_neg h]
    · rintro σ H3 ⟨⟨e3, B, hB, pB⟩, y3, y4, y5, y6, y7, rfl⟩
      walk_at "go"
      refine st_ixL hB (fn_at (p := 0) (by omega)) ?_
      walk_at "go"
      exact k _ _ e3 ⟨B, ⟨pB.bM, fun p h => (pB.st p (by omega) h).1, fun z hz => pB.ge z hz (by omega)⟩, fun p h => (pB.st p (by omega) h).2, rfl⟩
/-- ints that are a choice apart, rising, worth so much -/
def ChoD (ss : List S3) (ns : List Int) (x : Int) : Prop := ∃ cs : List Nat, ns = cs.map (fun c => ((c : Nat) : Int)) ∧ ChosenOk ss cs x
theorem cast_inj : ∀ {a b : List Nat}, a.map (fun c => ((c : Nat) : Int)) = b.map (fun c => ((c : Nat) : Int)) → a = b
  | [], [], _ => rfl
  | [], _ :: _, h => by cases h
  | _ :: _, [], h => by cases h
  | x :: a, y :: b, h => by
    rw [List.map_cons, List.map_cons] at h
    injection h with h1 h2
    rw [cast_inj h2, show x = y by omega]
def coverB (ss : List S3) (c p : Nat) : Bool := match ss[c]? with
  | some z => decide (z.b ≤ p) && decide (p < z.e)
  | none => false
def freeB (ss : List S3) (cs : List Nat) (p : Nat) : Bool := cs.all fun c => !coverB ss c p
theorem freeB_app {ss : List S3} {cs : List Nat} {c p : Nat} : freeB ss (cs ++ [c]) p = (freeB ss cs p && !coverB ss c p) := by
  unfold freeB
  rw [List.all_append]
  simp
theorem coverB_at {ss : List S3} {c p : Nat} {z : S3} (h : ss[c]? = some z) : coverB ss c p = (decide (z.b ≤ p) && decide (p < z.e)) := by unfold coverB; rw [h]
theorem free_apart {ss : List S3} {cs : List Nat} {z : S3} (hok : ∀ z ∈ ss, z.b < z.e) (hz : z.b < z.e) (h : ∀ p, z.b ≤ p → p < z.e → freeB ss cs p = true) : ∀ a ∈ cs, ∀ x, ss[a]? = some x → apartS x z := by
  intro a ha x hx
  have hxb := hok x (List.mem_of_getElem? hx)
  unfold apartS
  refine Decidable.byContradiction fun hn => ?_
  have f : ∀ p, z.b ≤ p → p < z.e → ¬ (x.b ≤ p ∧ p < x.e) := fun p h1 h2 h3 => by
    have h4 := h p h1 h2
    unfold freeB at h4
    rw [List.all_eq_true] at h4
    have h5 := h4 a ha
    rw [coverB_at hx, decide_eq_true h3.1, decide_eq_true h3.2] at h5
    cases h5
  by_cases q : x.b ≤ z.b
  · exact f z.b (Nat.le_refl _) hz ⟨q, by omega⟩
  · exact f x.b (by omega) (by omega) ⟨Nat.le_refl _, hxb⟩
theorem free_of {ss : List S3} {cs : List Nat} {z : S3} (h : ∀ a ∈ cs, ∀ x, ss[a]? = some x → apartS x z) {p : Nat} (h1 : z.b ≤ p) (h2 : p < z.e) : freeB ss cs p = true := by
  unfold freeB
  rw [List.all_eq_true]
  intro a ha
  cases hx : ss[a]? with
  | none => unfold coverB; rw [hx]; rfl
  | some x =>
    rw [coverB_at hx]
    have := h a ha x hx
    unfold apartS at this
    rw [Bool.not_eq_true', Bool.and_eq_false_iff, decide_eq_false_iff_not, decide_eq_false_iff_not]
    omega
theorem ChoD.pre {ss : List S3} {ns : List Int} {x y : Int} {i : Nat} {cs : List Nat} (h : ChoD ss ns x) (hp : ns.take i = cs.map fun c => ((c : Nat) : Int)) (hy : ns[i]? = some y) :
    ∃ c : Nat, y = (c : Nat) ∧ c < ss.length ∧ (∀ a ∈ cs, a < c) ∧ ∀ a ∈ cs, ∀ u v, ss[a]? = some u → ss[c]? = some v → apartS u v := by
  obtain ⟨ds, rfl, hd⟩ := h
  rw [List.getElem?_map] at hy
  cases hc : ds[i]? with
  | none => rw [hc] at hy; cases hy
  | some c =>
    rw [hc] at hy
    cases hy
    rw [← List.map_take] at hp
    have e := cast_inj hp
    have sp : ds = cs ++ c :: ds.drop (i + 1) := by
      rw [← e]
      have h := (List.getElem?_eq_some_iff.mp hc)
      obtain ⟨hl, hv⟩ := h
      rw [← hv, List.getElem_cons_drop, List.take_append_drop]
    have h1 := hd.up
    have h2 := hd.ch.ap
    rw [sp] at h1 h2
    refine ⟨c, rfl, hd.ch.lt c (List.mem_of_getElem? hc), fun a ha => (List.pairwise_append.mp h1).2.2 a ha c List.mem_cons_self, fun a ha => (List.pairwise_append.mp h2).2.2 a ha c List.mem_cons_self⟩
/-- what is known of the first so many -/
structure PreC (ss : List S3) (ns : List Int) (i : Nat) (cs : List Nat) (last : Int) : Prop where
  pre : ns.take i = cs.map fun c => ((c : Nat) : Int)
  ch : Choice ss cs
  up : cs.Pairwise (· < ·)
  le : ∀ c ∈ cs, (c : Int) ≤ last
  at_ : last = -1 ∨ ∃ c ∈ cs, last = (c : Nat)
theorem PreC.zero {ss : List S3} {ns : List Int} : PreC ss ns 0 [] (-1) := ⟨by simp, ⟨fun c h => (List.not_mem_nil h).elim, List.Pairwise.nil⟩, List.Pairwise.nil, (fun c h => (List.not_mem_nil h).elim), .inl rfl⟩
theorem PreC.step {ss : List S3} {ns : List Int} {i : Nat} {cs : List Nat} {last : Int} {c : Nat} {z : S3} (h : PreC ss ns i cs last) (hy : ns[i]? = some (c : Int)) (hz : ss[c]? = some z) (hl : last < (c : Nat)) (hok : ∀ z ∈ ss, z.b < z.e) (hf : ∀ p, z.b ≤ p → p < z.e → freeB ss cs p = true) : PreC ss ns (i + 1) (cs ++ [c]) (c : Nat) := by
  have ha := free_apart hok (hok z (List.mem_of_getElem? hz)) hf
  refine ⟨?_, ⟨fun a h1 => ?_, ?_⟩, ?_, fun a h1 => ?_, .inr ⟨c, List.mem_append_right _ (List.mem_singleton.mpr rfl), rfl⟩⟩
  · rw [List.take_add_one, hy, List.map_append, h.pre]
    rfl
  · rcases List.mem_append.mp h1 with h2 | h2
    · exact h.ch.lt a h2
    · rw [List.mem_singleton.mp h2]
      exact (List.getElem?_eq_some_iff.mp hz).1
  · refine List.pairwise_append.mpr ⟨h.ch.ap, List.pairwise_singleton .., fun a h1 b h2 u v hu hv => ?_⟩
    rw [List.mem_singleton.mp h2, hz] at hv
    cases hv
    exact ha a h1 u hu
  · refine List.pairwise_append.mpr ⟨h.up, List.pairwise_singleton .., fun a h1 b h2 => ?_⟩
    rw [List.mem_singleton.mp h2]
    have := h.le a h1
    omega
  · rcases List.mem_append.mp h1 with h2 | h2
    · have := h.le a h2
      omega
    · rw [List.mem_singleton.mp h2]
      exact Int.le_refl _
theorem PreC.done {ss : List S3} {ns : List Int} {cs : List Nat} {last x : Int} (h : PreC ss ns ns.length cs last) : (x - (cs.map (wS ss)).sum = 0) ↔ ChoD ss ns x := by
  have hp := h.pre
  rw [List.take_of_length_le (Nat.le_refl _)] at hp
  constructor
  · intro e
    exact ⟨cs, hp, h.ch, h.up, by omega⟩
  · rintro ⟨ds, e, hd⟩
    rw [hp] at e
    rw [cast_inj e, hd.sum]
    omega
def sp__law_chosen : Sp := fun vs H Q _ => ∃ (M : Nat) (p : Addr) (zs : List TZ) (c : Addr) (ns : List Int) (x : Int), vs = [.int (M : Nat), .ref p, .ref c, .int x] ∧ M ≤ 24 ∧ H p = some (.lst (zs.map tV)) ∧ TT H zs ∧ (∀ z ∈ zs, SpOk M z.2) ∧ H c = some (.lst (ns.map V.int)) ∧ ∀ (b : Bool) H', Ex H H' → (b = true ↔ ChoD (zs.map (·.2)) ns x) → Q (.bl b) H'
theorem ok__law_chosen (T : Tx K mg ad fd tk base tc) : FnOk P w K mg base CX0 2 (ad 46) (fd 46) ["_law_many", "_law_spans_here", "_law_chosen_here", "_law_worth"] sp__law_chosen := by
  refine T.d__law_chosen.F.ok sc__law_chosen (fun vs H Q E h => ?_) (fun cdv A outer s H vs Q E hr h => ?_)
  · obtain ⟨M, p, zs, c, ns, x, rfl, _⟩ := h
    rfl
  · obtain ⟨M, p, zs, c, ns, x, rfl, hM, hp, htt, hok, hc, k⟩ := h
    refine ⟨_, (pss_cons (ps_if (pt_not (pt_val (pe_callB c_is (by rfl) T.b_isinstance (by decide +kernel) (pa_cons (pv 2) (pa_cons (pe_bltn (v := .ty "list") rfl T.b_list (by decide +kernel) rfl) pa_nil))))) (pss_one (ps_ret pe_bl)) pss_nil)
      (pss_cons (ps_setLc (i := 4) (own := [("_law_k", 8)]) (g := gName 8) rfl sc__law_chosen.nd rfl rfl (sw_true rfl rfl rfl (by decide +kernel)) (pi_range1 rfl T.b_range (pa_cons (pv 0) pa_nil)) (blkOk_by (own := [("_law_k", 8)]) (N := N__law_chosen) (sc := defScope s__law_chosen) (by decide +kernel)) (fun _ _ _ _ _ => pg_name (i := 8) sc__law_chosen.nd rfl (Or.inl rfl)) (fun _ _ _ _ _ => pts_nil) (fun _ _ _ _ _ => pe_bl))
      (pss_cons (ps_set (i := 5) sc__law_chosen.nd rfl (Or.inl rfl) (pe_un un_neg pe_int))
      (pss_cons (ps_for PassesOwn.never rfl (pi_list (pv 2)) (pg_name (i := 6) sc__law_chosen.nd rfl (Or.inl rfl)) (pss_cons (ps_if (PW.pt (pw_or (pt_not (pt_val (pe_call (ok__law_whole T) (hr.mono (by decide)) rfl T.d__law_whole.g T.d__law_whole.F.kp T.d__law_whole.b .nil pass0 (pa_cons (pv 6) pa_nil)))) (pw_or (pt_cmpR o_le (pv 6) (pv 5) (nomark _)) (pw_or1 (pt_cmpR o_ge (pv 6) (pe_callB (c_len (K := K)) (by rfl) T.b_len (by decide +kernel) (pa_cons (pv 1) pa_nil)) (nomark _)))))) (pss_one (ps_ret pe_bl)) pss_nil)
      (pss_cons (ps_set (i := 5) sc__law_chosen.nd rfl (Or.inl rfl) (pv 6))
      (pss_cons (ps_set (i := 3) sc__law_chosen.nd rfl (Or.inl rfl) (pe_op o_sub (pv 3) (pe_ix (i_ix (K := K)) (pe_ix (i_ix (K := K)) (pv 1) (pv 6) (fun _ _ => rfl)) pe_int (fun _ _ => rfl))))
      (pss_one (ps_for PassesOwn.never rfl (pi_range2 rfl T.b_range (pa_cons (pe_ix (i_ix (K := K)) (pe_ix (i_ix (K := K)) (pv 1) (pv 6) (fun _ _ => rfl)) pe_int (fun _ _ => rfl)) (pa_cons (pe_ix (i_ix (K := K)) (pe_ix (i_ix (K := K)) (pv 1) (pv 6) (fun _ _ => rfl)) pe_int (fun _ _ => rfl)) pa_nil))) (pg_name (i := 7) sc__law_chosen.nd rfl (Or.inl rfl)) (pss_cons (ps_if (pt_not (pt_tru (pe_ix (i_ix (K := K)) (pv 4) (pv 7) (fun _ _ => rfl)) (by intro _; rfl) (K := K))) (pss_one (ps_ret pe_bl)) pss_nil)
      (pss_one (ps_asg pe_bl (pg_sub (pv 4) (pv 7) set_list))))))))))
      (pss_one (ps_ret (pe_cmpR (o_eq hr.units) (pv 3) pe_int (nomark _)))))))), ?_⟩
    walk_at "go"
    refine lc_map (rv_range 0 _) (fun _ _ => trivial) (by rw [List.length_range]; omega) (fun i => .bl true) ?_ ?_
    · intro i H' hi e B h1
      refine ⟨rfl, ?_⟩
      walk_at "go"
      exact h1 _ (Fr.refl _)
    intro q H1 n1 e1 v1
    rw [show ((M : Int)).toNat = M by omega] at v1
    walk_at "go"
    have hok2 : ∀ z ∈ zs.map (·.2), z.b < z.e := fun z hz => by
      obtain ⟨y, hy, rfl⟩ := List.mem_map.mp hz
      exact (hok y hy).be
    have hpq : p ≠ q := fun e => by rw [e, n1] at hp; cases hp
    have hcq : c ≠ q := fun e => by rw [e, n1] at hc; cases hc
    refine for_runs (rv_list K c ns V.int) (fun i σ H' => (Ex H H' ∧ ∃ (cs : List Nat) (last : Int), PreC (zs.map (·.2)) ns i cs last ∧ H' q = some (.lst ((List.range M).map fun j => V.bl (freeB (zs.map (·.2)) cs j))) ∧ ∃ y6 y7 y8, σ = [some (.int (M : Nat)), some (.ref p), some (.ref c), some (.int (x - (cs.map (wS (zs.map (·.2)))).sum)), some (.ref q), some (.int last), y6, y7, y8])) ⟨e1, [], -1, PreC.zero, v1, _, _, _, by rw [List.map_nil, List.sum_nil, Int.sub_zero]; rfl⟩ (fun i σ H' _ ⟨e, _⟩ => lst_of (e.get hc)) ?_ ?_
    rotate_left
    · rintro σ H3 ⟨e3, cs, last, pC, hq3, y6, y7, y8, rfl⟩
      walk_at "go"
      refine k _ _ e3 ?_
      rw [← pC.done (x := x)]
      simp
    rintro i v σ H3 H3' hi ⟨e3, cs, last, pC, hq3, y6, y7, y8, rfl⟩ ⟨rfl, y, hy, rfl⟩
    have hp3 := e3.get hp
    have tt3 := htt.ex e3
    have hcl : cs.length ≤ zs.length ∨ True := .inr trivial
    walk_at "go"
    refine ⟨_, rfl, ⟨_, rfl⟩, ?_⟩
    walk_at "go"
    refine st_br2 (fun c1 => ?_) (fun c1 => ?_)
    · walk_at "go"
      refine k _ _ e3 ⟨fun h => (Bool.false_ne_true h).elim, fun h => ?_⟩
      obtain ⟨d, rfl, h1, h2, h3⟩ := h.pre pC.pre hy
      rcases pC.at_ with h4 | ⟨l, h4, h5⟩
      · omega
      · have := h2 l h4
        omega
    walk_at "go"
    refine st_br2 (fun c2 => ?_) (fun c2 => ?_)
    · walk_at "go"
      refine k _ _ e3 ⟨fun h => (Bool.false_ne_true h).elim, fun h => ?_⟩
      obtain ⟨d, rfl, h1, h2, h3⟩ := h.pre pC.pre hy
      rw [List.length_map] at c2 h1
      omega
    rw [List.length_map] at c2
    have hl1 : -1 ≤ last := by
      rcases pC.at_ with h4 | ⟨l, h4, h5⟩ <;> omega
    obtain ⟨d, rfl⟩ : ∃ d : Nat, y = (d : Nat) := ⟨y.toNat, by omega⟩
    obtain ⟨z, hz⟩ : ∃ z, zs[d]? = some z := ⟨zs[d]'(by omega), List.getElem?_eq_getElem _⟩
    have hzm := List.mem_of_getElem? hz
    have hzv : H3' z.1 = some (.tup [.int z.2.w, .int (z.2.b : Nat), .int (z.2.e : Nat)]) := tt3 z hzm
    have hz2 : (zs.map (·.2))[d]? = some z.2 := by rw [List.getElem?_map, hz]; rfl
    have hzo := hok z hzm
    have hbe := hzo.be
    have heM := hzo.eM
    walk_at "go"
    refine st_ixL hp3 (v := .ref z.1) (at_mapN hz) ?_
    walk_at "go"
    refine st_ixL hp3 (v := .ref z.1) (at_mapN hz) ?_
    walk_at "go"
    refine st_ixL hp3 (v := .ref z.1) (at_mapN hz) ?_
    walk_at "go"
    refine for_runs (show Runs (Itr z.2.b ((z.2.e : Int) - (z.2.b : Nat)).toNat) (z.2.e - z.2.b) (fun _ => True) (fun i x H H' => H' = H ∧ x = .int (z.2.b + (i : Nat))) by rw [show ((z.2.e : Int) - (z.2.b : Nat)).toNat = z.2.e - z.2.b by omega]; exact runs_range _ _) (fun j σ H' => (Ex H H' ∧ (∀ u, z.2.b ≤ u → u < z.2.b + j → freeB (zs.map (·.2)) cs u = true) ∧ H' q = some (.lst ((List.range M).map fun u => V.bl (freeB (zs.map (·.2)) cs u && !(decide (z.2.b ≤ u) && decide (u < z.2.b + j)))))) ∧ ∃ y7 y8, σ = [some (.int (M : Nat)), some (.ref p), some (.ref c), some (.int (x - (cs.map (wS (zs.map (·.2)))).sum - z.2.w)), some (.ref q), some (.int (d : Nat)), some (.int (d : Nat)), y7, y8]) ⟨⟨e3, fun u h1 h2 => by omega, ?_⟩, _, _, rfl⟩ (fun _ _ _ _ _ => trivial) ?_ ?_
    · rw [hq3]
      refine congrArg (fun l => some (HO.lst l)) (fn_congr fun e _ => ?_)
      rw [show (decide (z.2.b ≤ e) && decide (e < z.2.b + 0)) = false by simp]
      simp
    · rintro j v σ H5 H5' hj ⟨⟨e5, f5, q5⟩, y7, y8, rfl⟩ ⟨rfl, rfl⟩
      have ifr : (decide (z.2.b ≤ z.2.b + j) && decide (z.2.b + j < z.2.b + j)) = false := by simp
      walk_at "go"
      refine st_ixL q5 (v := .bl (freeB (zs.map (·.2)) cs (z.2.b + j))) ?_ ?_
      · rw [show ((z.2.b : Int) + (j : Nat)) = ((z.2.b + j : Nat) : Int) by omega, fn_at (by omega), ifr, Bool.not_false, Bool.and_true]
      walk_at "go"
      cases hf : freeB (zs.map (·.2)) cs (z.2.b + j) with
      | false =>
        walk_at "go"
        refine k _ _ e5 ⟨fun h => (Bool.false_ne_true h).elim, fun h => ?_⟩
        obtain ⟨d', hd', h1, h2, h3⟩ := h.pre pC.pre hy
        have : d' = d := by omega
        subst this
        have := free_of (fun a ha u hu => h3 a ha u z.2 hu hz2) (p := z.2.b + j) (by omega) (by omega)
        rw [hf] at this
        cases this
      | true =>
        walk_at "go"
        refine st_setL q5 (by rw [show ((z.2.b : Int) + (j : Nat)) = ((z.2.b + j : Nat) : Int) by omega]; exact fn_ix (by omega)) ?_
        rw [fn_set]
        refine ⟨⟨e5.mut n1, fun u h1 h2 => ?_, ?_⟩, _, _, rfl⟩
        · by_cases h : u = z.2.b + j
          · rw [h]; exact hf
          · exact f5 u h1 (by omega)
        · rw [upd_same]
          refine congrArg (fun l => some (HO.lst l)) (fn_congr fun e _ => ?_)
          by_cases h : e = z.2.b + j
          · rw [if_pos h, h, show (decide (z.2.b ≤ z.2.b + j) && decide (z.2.b + j < z.2.b + (j + 1))) = true by simp]
            simp
          · rw [if_neg h, show decide (e < z.2.b + (j + 1)) = decide (e < z.2.b + j) by rw [decide_eq_decide]; omega]
    · rintro σ H5 ⟨⟨e5, f5, q5⟩, y7, y8, rfl⟩
      rw [show z.2.b + (z.2.e - z.2.b) = z.2.e by omega] at f5 q5
      refine ⟨e5, cs ++ [d], d, pC.step hy hz2 (by omega) hok2 f5, ?_, some (.int (d : Nat)), y7, y8, ?_⟩
      · rw [q5]
        refine congrArg (fun l => some (HO.lst l)) (fn_congr fun e _ => ?_)
        rw [freeB_app, coverB_at hz2]
      · rw [List.map_append, List.sum_append, List.map_singleton, List.sum_singleton, wS_at hz2, Int.sub_sub]
def sp__law_prices : Sp := fun vs H Q _ => ∃ (M : Nat) (p : Addr) (zs : List TZ) (r : Addr) (ps : List Int) (x : Int), vs = [.int (M : Nat), .ref p, .ref r, .int x] ∧ H p = some (.lst (zs.map tV)) ∧ TT H zs ∧ H r = some (.lst (ps.map V.int)) ∧ ∀ (b : Bool) H', Ex H H' → (b = true ↔ PricesOk (zs.map (·.2)) M ps x) → Q (.bl b) H'
theorem ok__law_prices (T : Tx K mg ad fd tk base tc) : FnOk P w K mg base CX0 2 (ad 47) (fd 47) ["_law_many", "_law_spans_here", "_law_prices_here", "_law_worth"] sp__law_prices := by
  refine T.d__law_prices.F.ok sc__law_prices (fun vs H Q E h => ?_) (fun cdv A outer s H vs Q E hr h => ?_)
  · obtain ⟨M, p, zs, r, ps, x, rfl, _⟩ := h
    rfl
  · obtain ⟨M, p, zs, r, ps, x, rfl, hp, htt, hrr, k⟩ := h
    refine ⟨_, (pss_cons (ps_if (PW.pt (pw_or (pt_not (pt_val (pe_callB c_is (by rfl) T.b_isinstance (by decide +kernel) (pa_cons (pv 2) (pa_cons (pe_bltn (v := .ty "list") rfl T.b_list (by decide +kernel) rfl) pa_nil))))) (pw_or1 (pt_cmpR (o_ne hr.units) (pe_callB (c_len (K := K)) (by rfl) T.b_len (by decide +kernel) (pa_cons (pv 2) pa_nil)) (pv 0) (nomark _))))) (pss_one (ps_ret pe_bl)) pss_nil)
      (pss_cons (ps_for PassesOwn.never rfl (pi_list (pv 2)) (pg_name (i := 4) sc__law_prices.nd rfl (Or.inl rfl)) (pss_one (ps_if (PW.pt (pw_or (pt_not (pt_val (pe_call (ok__law_whole T) (hr.mono (by decide)) rfl T.d__law_whole.g T.d__law_whole.F.kp T.d__law_whole.b .nil pass0 (pa_cons (pv 4) pa_nil)))) (pw_or1 (pt_cmpR o_lt (pv 4) pe_int (nomark _))))) (pss_one (ps_ret pe_bl)) pss_nil)))
      (pss_cons (ps_for PassesOwn.never rfl (pi_list (pv 1)) (pg_tup rfl (pgs_cons (pg_name (i := 5) sc__law_prices.nd rfl (Or.inl rfl)) (pgs_cons (pg_name (i := 6) sc__law_prices.nd rfl (Or.inl rfl)) (pgs_cons (pg_name (i := 7) sc__law_prices.nd rfl (Or.inl rfl)) pgs_nil)))) (pss_one (ps_if (pt_cmpR o_lt (pe_callB (c_sum rfl (K := K)) (by rfl) T.b_sum (by decide +kernel) (pa_cons (pe_slice (s_sl (K := K)) (pv 2) (po_some (pv 6)) (po_some (pv 7))) pa_nil)) (pv 5) (nomark _)) (pss_one (ps_ret pe_bl)) pss_nil)))
      (pss_one (ps_ret (pe_cmpR (o_eq hr.units) (pe_callB (c_sum rfl (K := K)) (by rfl) T.b_sum (by decide +kernel) (pa_cons (pv 2) pa_nil)) (pv 3) (nomark _))))))), ?_⟩
    walk_at "go"
    by_cases c1 : ps.length = M
    rotate_left
    · refine st_T (by rw [List.length_map]; simp; omega) ?_
      walk_at "go"
      exact k _ _ (Fr.refl _) ⟨fun h => (Bool.false_ne_true h).elim, fun h => absurd h.len c1⟩
    refine st_F (by rw [List.length_map]; simp; omega) ?_
    walk_at "go"
    refine for_runs (rv_list K r ps V.int) (fun i σ H' => H' = H ∧ (∀ y ∈ ps.take i, 0 ≤ y) ∧ ∃ y4 y5 y6 y7, σ = [some (.int (M : Nat)), some (.ref p), some (.ref r), some (.int x), y4, y5, y6, y7]) ⟨rfl, (fun y h => by rw [List.take_zero] at h; cases h), _, _, _, _, rfl⟩ (fun i σ H' _ ⟨e, _⟩ => by rw [e]; exact lst_of hrr) ?_ ?_
    · rintro i v σ H3 H3' hi ⟨rfl, hpos, y4, y5, y6, y7, rfl⟩ ⟨rfl, y, hy, rfl⟩
      walk_at "go"
      refine ⟨_, rfl, ⟨_, rfl⟩, ?_⟩
      walk_at "go"
      refine st_br2 (fun c2 => ?_) (fun c2 => ?_)
      · walk_at "go"
        refine k _ _ (Fr.refl _) ⟨fun h => (Bool.false_ne_true h).elim, fun h => ?_⟩
        have := h.pos y (List.mem_of_getElem? hy)
        omega
      · walk_at "go"
        refine ⟨rfl, fun u hu => ?_, _, _, _, _, rfl⟩
        rw [List.take_add_one, hy] at hu
        rcases List.mem_append.mp hu with h | h
        · exact hpos u h
        · have : u = y := by simpa using h
          omega
    rintro σ H3 ⟨rfl, hpos, y4, y5, y6, y7, rfl⟩
    rw [List.take_of_length_le (Nat.le_refl _)] at hpos
    walk_at "go"
    refine for_runs (runs_list K p (zs.map tV)) (fun j σ H' => (Ex H3 H' ∧ ∀ z ∈ (zs.map (·.2)).take j, z.w ≤ seg ps z.b z.e) ∧ ∃ y4 y5 y6 y7, σ = [some (.int (M : Nat)), some (.ref p), some (.ref r), some (.int x), y4, y5, y6, y7]) ⟨⟨Fr.refl _, (fun y h => by rw [List.take_zero] at h; cases h)⟩, _, _, _, _, rfl⟩ (fun i σ H' _ ⟨⟨e, _⟩, _⟩ => lst_of (e.get hp)) ?_ ?_
    · rintro j v σ H4 H4' hj ⟨⟨e4, hcov⟩, y4, y5, y6, y7, rfl⟩ ⟨rfl, hv⟩
      rw [List.length_map] at hj
      obtain ⟨z, hz⟩ : ∃ z, zs[j]? = some z := ⟨zs[j]'hj, List.getElem?_eq_getElem _⟩
      rw [List.getElem?_map, hz] at hv
      cases hv
      have hzm := List.mem_of_getElem? hz
      have hzv : H4' z.1 = some (.tup [.int z.2.w, .int (z.2.b : Nat), .int (z.2.e : Nat)]) := (htt.ex e4) z hzm
      have hr4 := e4.get hrr
      walk_at "go"
      rename_i q5 G5 n5 e5 v5
      rw [cutV_map V.int ps] at v5
      refine ⟨q5, _, rfl, lstAt_sq (lst_of v5), ?_⟩
      rw [cut_seg]
      walk_at "go"
      refine st_br2 (fun c2 => ?_) (fun c2 => ?_)
      · walk_at "go"
        refine k _ _ (e4.trans e5) ⟨fun h => (Bool.false_ne_true h).elim, fun h => ?_⟩
        have := h.cov z.2 (List.mem_map_of_mem hzm)
        omega
      · walk_at "go"
        refine ⟨⟨e4.trans e5, fun u hu => ?_⟩, _, _, _, _, rfl⟩
        rw [List.take_add_one, List.getElem?_map, hz] at hu
        rcases List.mem_append.mp hu with h | h
        · exact hcov u h
        · have : u = z.2 := by simpa using h
          rw [this]
          omega
    rintro σ H4 ⟨⟨e4, hcov⟩, y4, y5, y6, y7, rfl⟩
    rw [List.take_of_length_le (by rw [List.length_map, List.length_map]; exact Nat.le_refl _)] at hcov
    walk_at "go"
    refine ⟨r, ps, rfl, lstAt_sq (lst_of (e4.get hrr)), ?_⟩
    walk_at "go"
    refine k _ _ e4 ⟨fun h => ⟨by omega, hpos, hcov, of_decide_eq_true h⟩, fun h => decide_eq_true h.sum⟩
def sp__law_right : Sp := fun vs H Q _ => ∃ (M : Nat) (p : Addr) (zs : List TZ) (a c r : Addr) (x : Int) (ns ps : List Int) (y : Int), vs = [.int (M : Nat), .ref p, .ref a, .int y] ∧ M ≤ 24 ∧ H p = some (.lst (zs.map tV)) ∧ TT H zs ∧ (∀ z ∈ zs, SpOk M z.2) ∧ H a = some (.tup [.int x, .ref c, .ref r]) ∧ H c = some (.lst (ns.map V.int)) ∧ H r = some (.lst (ps.map V.int)) ∧ ∀ (b : Bool) H', Ex H H' → (b = true ↔ x = y ∧ ChoD (zs.map (·.2)) ns y ∧ PricesOk (zs.map (·.2)) M ps y) → Q (.bl b) H'
theorem ok__law_right (T : Tx K mg ad fd tk base tc) : FnOk P w K mg base CX0 3 (ad 48) (fd 48) ["_law_many", "_law_spans_here", "_law_found", "_law_worth"] sp__law_right := by
  refine T.d__law_right.F.ok sc__law_right (fun vs H Q E h => ?_) (fun cdv A outer s H vs Q E hr h => ?_)
  · obtain ⟨M, p, zs, a, c, r, x, ns, ps, y, rfl, _⟩ := h
    rfl
  · obtain ⟨M, p, zs, a, c, r, x, ns, ps, y, rfl, hM, hp, htt, hok, ha, hc, hrr, k⟩ := h
    refine ⟨_, (pss_cons (ps_if (PW.pt (pw_or (pt_not (pt_val (pe_callB c_is (by rfl) T.b_isinstance (by decide +kernel) (pa_cons (pv 2) (pa_cons (pe_bltn (v := .ty "tuple") rfl T.b_tuple (by decide +kernel) rfl) pa_nil))))) (pw_or1 (pt_cmpR (o_ne hr.units) (pe_callB (c_len (K := K)) (by rfl) T.b_len (by decide +kernel) (pa_cons (pv 2) pa_nil)) pe_int (nomark _))))) (pss_one (ps_ret pe_bl)) pss_nil)
      (pss_cons (ps_if (PW.pt (pw_or (pt_not (pt_val (pe_call (ok__law_whole T) (hr.mono (by decide)) rfl T.d__law_whole.g T.d__law_whole.F.kp T.d__law_whole.b .nil pass0 (pa_cons (pe_ix (i_ix (K := K)) (pv 2) pe_int (fun _ _ => rfl)) pa_nil)))) (pw_or1 (pt_cmpR (o_ne hr.units) (pe_ix (i_ix (K := K)) (pv 2) pe_int (fun _ _ => rfl)) (pv 3) (nomark _))))) (pss_one (ps_ret pe_bl)) pss_nil)
      (pss_one (ps_ret (pe_and (pe_call (ok__law_chosen T) (hr.mono (by decide)) rfl T.d__law_chosen.g T.d__law_chosen.F.kp T.d__law_chosen.b .nil pass0 (pa_cons (pv 0) (pa_cons (pv 1) (pa_cons (pe_ix (i_ix (K := K)) (pv 2) pe_int (fun _ _ => rfl)) (pa_cons (pv 3) pa_nil))))) (pe_one (pe_call (ok__law_prices T) (hr.mono (by decide)) rfl T.d__law_prices.g T.d__law_prices.F.kp T.d__law_prices.b .nil pass0 (pa_cons (pv 0) (pa_cons (pv 1) (pa_cons (pe_ix (i_ix (K := K)) (pv 2) pe_int (fun _ _ => rfl)) (pa_cons (pv 3) pa_nil))))))))))), ?_⟩
    walk_at "go"
    refine ⟨_, rfl, ⟨_, rfl⟩, ?_⟩
    walk_at "go"
    by_cases c1 : x = y
    rotate_left
    · refine st_T (by simp; omega) ?_
      walk_at "go"
      exact k _ _ (Fr.refl _) ⟨fun h => (Bool.false_ne_true h).elim, fun h => absurd h.1 c1⟩
    refine st_F (by simp; omega) ?_
    walk_at "go"
    refine ⟨M, p, zs, c, ns, y, rfl, hM, hp, htt, hok, hc, fun b H1 e1 hb => ?_⟩
    cases b with
    | false =>
      walk_at "go"
      exact k _ _ e1 ⟨fun h => (Bool.false_ne_true h).elim, fun h => hb.mpr h.2.1⟩
    | true =>
      walk_at "go"
      refine ⟨M, p, zs, r, ps, y, rfl, e1.get hp, htt.ex e1, e1.get hrr, fun b2 H2 e2 hb2 => ?_⟩
      walk_at "go"
      exact k _ _ (e1.trans e2) ⟨fun h => ⟨c1, hb.mp rfl, hb2.mp h⟩, fun h => hb2.mpr h.2.2⟩
def sp__law_costs : Sp := fun vs H Q _ => ∃ (s u : Str), vs = [.str s, .str u] ∧ s.length ≤ 48 ∧ u.length ≤ 48 ∧ ∀ D H', Ex H H' → H D = none → H' D = some (.lst (((List.range (u.length + 1)).map fun k => ((Lev s.cps.toList u.cps.toList s.length k : Nat) : Int)).map V.int)) → Q (.ref D) H'
theorem ok__law_costs (T : Tx K mg ad fd tk base tc) : FnOk P w K mg base CX0 1 (ad 49) (fd 49) ["_law_side", "_law_part"] sp__law_costs := by
  refine T.d__law_costs.F.ok sc__law_costs (fun vs H Q E h => ?_) (fun cdv A outer s H vs Q E hr h => ?_)
  · obtain ⟨s, u, rfl, _⟩ := h
    rfl
  · obtain ⟨s, u, rfl, hs, hu, k⟩ := h
    refine ⟨_, (pss_cons (ps_setLc (i := 2) (own := [("_law_k", 5)]) (g := gName 5) rfl sc__law_costs.nd rfl rfl (sw_true rfl rfl rfl (by decide +kernel)) (pi_range1 rfl T.b_range (pa_cons (pe_op o_add (pe_callB (c_len (K := K)) (by rfl) T.b_len (by decide +kernel) (pa_cons (pv 1) pa_nil)) pe_int) pa_nil)) (blkOk_by (own := [("_law_k", 5)]) (N := N__law_costs) (sc := defScope s__law_costs) (by decide +kernel)) (fun _ _ _ _ _ => pg_name (i := 5) sc__law_costs.nd rfl (Or.inl rfl)) (fun _ _ _ _ _ => pts_nil) (fun _ _ _ _ _ => (pv 5)))
      (pss_cons (ps_for PassesOwn.never rfl (pi_str (pv 0)) (pg_name (i := 3) sc__law_costs.nd rfl (Or.inl rfl)) (pss_cons (ps_set (i := 4) sc__law_costs.nd rfl (Or.inl rfl) (pe_lst (pa_cons (pe_op o_add (pe_ix (i_ix (K := K)) (pv 2) pe_int (fun _ _ => rfl)) pe_int) pa_nil)))
      (pss_cons (ps_for PassesOwn.never rfl (pi_range1 rfl T.b_range (pa_cons (pe_callB (c_len (K := K)) (by rfl) T.b_len (by decide +kernel) (pa_cons (pv 1) pa_nil)) pa_nil)) (pg_name (i := 5) sc__law_costs.nd rfl (Or.inl rfl)) (pss_one (ps_expr (pe_bm PySem.F.plainAttrs_list PySem.F.slot_list_append PySem.F.type_list_append mt_append (pv 4) (pa_cons (pe_callB (c_min3 rfl) (by rfl) T.b_min (by decide +kernel) (pa_cons (pe_op o_add (pe_ix (i_ix (K := K)) (pv 4) (pv 5) (fun _ _ => rfl)) pe_int) (pa_cons (pe_op o_add (pe_ix (i_ix (K := K)) (pv 2) (pe_op o_add (pv 5) pe_int) (fun _ _ => rfl)) pe_int) (pa_cons (pe_op o_add (pe_ix (i_ix (K := K)) (pv 2) (pv 5) (fun _ _ => rfl)) (pe_callTy c_int (by rfl) T.b_int (by decide +kernel) (pa_cons (pe_cmpR (o_ne hr.units) (pv 3) (pe_ix (i_ix (K := K)) (pv 1) (pv 5) (fun _ _ => rfl)) (nomark _)) pa_nil))) pa_nil)))) pa_nil)))))
      (pss_one (ps_set (i := 2) sc__law_costs.nd rfl (Or.inl rfl) (pv 4))))))
      (pss_one (ps_ret (pv 2))))), ?_⟩
    have hsl : s.cps.toList.length = s.length := Array.length_toList
    have hul : u.cps.toList.length = u.length := Array.length_toList
    walk_at "go"
    rw [show ((u.length : Int) + 1).toNat = u.length + 1 by omega]
    refine lc_map (rv_range 0 (u.length + 1)) (fun _ _ => trivial) (by rw [List.length_range]; omega) (fun (k : Nat) => V.int ((Lev s.cps.toList u.cps.toList 0 k : Nat) : Int)) ?_ ?_
    · intro j H' hj e B h1
      refine ⟨rfl, ?_⟩
      have h1' := h1 _ (Fr.refl _)
      rw [Lev_0] at h1'
      walk_at "go"
      rw [Int.zero_add]
      exact h1'
    intro D H1 nD e1 vD
    walk_at "go"
    refine for_runs (rv_str s) (fun i σ H' => Ex H H' ∧ (∃ L, H L = none ∧ H' L = some (.lst ((List.range (u.length + 1)).map fun (k : Nat) => V.int ((Lev s.cps.toList u.cps.toList i k : Nat) : Int))) ∧ ∃ y3 y4 y5, σ = [some (.str s), some (.str u), some (.ref L), y3, y4, y5])) ⟨e1, D, nD, vD, _, _, _, rfl⟩ (fun _ _ _ _ _ => trivial) ?_ ?_
    · rintro i x σ H2 H3 hi ⟨e2, L, nL, vL, y3, y4, y5, rfl⟩ ⟨rfl, c, hc, rfl⟩
      have g0 : atI ((List.range (u.length + 1)).map fun (k : Nat) => V.int ((Lev s.cps.toList u.cps.toList i k : Nat) : Int)) 0 = some (V.int ((Lev s.cps.toList u.cps.toList i 0 : Nat) : Int)) := fn_at (p := 0) (by omega)
      walk_at "go"
      refine st_ixL vL g0 ?_
      walk_at "go"
      rename_i R H4 nR e4 vR
      rw [Lev_j0] at vR
      have vL4 := e4.get vL
      have LR : L ≠ R := ne_of_none vL nR
      have nR0 := Ex.free e2 nR
      rw [Int.toNat_natCast]
      have vR' : H4 R = some (.lst ((List.range 1).map fun (k : Nat) => V.int ((Lev s.cps.toList u.cps.toList (i + 1) k : Nat) : Int))) := by
        rw [vR, List.range_succ, List.range_zero, List.nil_append, List.map_cons, List.map_nil, Lev_s0, Int.natCast_add]
        rfl
      refine for_runs (runs_range 0 u.length) (fun j σ H' => FrP R H4 H' ∧ H' R = some (.lst ((List.range (j + 1)).map fun (k : Nat) => V.int ((Lev s.cps.toList u.cps.toList (i + 1) k : Nat) : Int))) ∧ ∃ y5, σ = [some (.str s), some (.str u), some (.ref L), some (.str (tx [c])), some (.ref R), y5]) ⟨Fr.refl _, vR', _, rfl⟩ (fun _ _ _ _ _ => trivial) ?_ ?_
      · rintro j x σ H5 H6 hj ⟨f5, w5, y5, rfl⟩ ⟨rfl, rfl⟩
        have vL6 := f5.get LR vL4
        have gu : u.cps.toList[j]? = some (u.cps.toList[j]'(by omega)) := List.getElem?_eq_getElem _
        have g1 : atI ((List.range (j + 1)).map fun (k : Nat) => V.int ((Lev s.cps.toList u.cps.toList (i + 1) k : Nat) : Int)) (j : Int) = some (V.int ((Lev s.cps.toList u.cps.toList (i + 1) j : Nat) : Int)) := fn_at (by omega)
        have g2 : atI ((List.range (u.length + 1)).map fun (k : Nat) => V.int ((Lev s.cps.toList u.cps.toList i k : Nat) : Int)) ((j : Int) + 1) = some (V.int ((Lev s.cps.toList u.cps.toList i (j + 1) : Nat) : Int)) := by
          rw [show (j : Int) + 1 = ((j + 1 : Nat) : Int) by omega]
          exact fn_at (by omega)
        have g3 : atI ((List.range (u.length + 1)).map fun (k : Nat) => V.int ((Lev s.cps.toList u.cps.toList i k : Nat) : Int)) (j : Int) = some (V.int ((Lev s.cps.toList u.cps.toList i j : Nat) : Int)) := fn_at (by omega)
        have hss := Lev_ss s.cps.toList u.cps.toList i j
        rw [hc, gu] at hss
        rw [Int.zero_add]
        walk_at "go"
        refine st_ixL w5 g1 ?_
        walk_at "go"
        refine st_ixL vL6 g2 ?_
        walk_at "go"
        refine st_ixL vL6 g3 ?_
        walk_at "go"
        refine st_sign (by omega) (at_nat gu) ?_
        walk_at "go"
        refine st_app w5 (by rw [List.length_map, List.length_range]; omega) ?_
        refine ⟨f5.trans FrP.at, ?_, _, rfl⟩
        rw [upd_same, List.range_succ (n := j + 1), List.map_append, List.map_cons, List.map_nil, hss]
        have key : (if (!decide (tx [c] = tx [u.cps.toList[j]'(by omega)])) = true then (1 : Int) else 0) = ((if some c = some (u.cps.toList[j]'(by omega)) then 0 else 1 : Nat) : Int) := by
          generalize u.cps.toList[j]'(by omega) = v
          by_cases z : c = v
          · subst z
            simp
          · have h1 : ¬ tx [c] = tx [v] := fun h => z (by simpa using tx_inj.mp h)
            simp [z, h1]
        rw [key]
        generalize (if some c = some (u.cps.toList[j]'(by omega)) then 0 else 1 : Nat) = e
        refine congrArg (fun x => some (HO.lst (_ ++ [V.int x]))) ?_
        omega
      · rintro σ H5 ⟨f5, w5, y5, rfl⟩
        walk_at "go"
        exact ⟨Ex.comp (M := fun b => b = R) (e2.trans e4) f5 fun b hb => by rw [hb]; exact nR0, R, nR0, w5, _, _, _, rfl⟩
    · rintro σ H2 ⟨e2, L, nL, vL, y3, y4, y5, rfl⟩
      walk_at "go"
      refine k L H2 e2 nL ?_
      rw [vL, hsl, List.map_map]
      rfl
def sp__law_spans : Sp := fun vs H Q _ => ∃ (s t : Str) (q : Nat), vs = [.str s, .str t, .int (q : Nat)] ∧ s.length ≤ 24 ∧ t.length ≤ 24 ∧ q ≤ 48 ∧ ∀ a (zs : List TZ) (ys : List S3) H', Ex H H' → H a = none → H' a = some (.lst (zs.map tV)) → TT H' zs → NearOk ys s.cps.toList t.cps.toList q → zs.map (·.2) = ys.map (spanS q) → Q (.ref a) H'
theorem ok__law_spans (T : Tx K mg ad fd tk base tc) : FnOk P w K mg base CX0 2 (ad 50) (fd 50) ["_law_side", "_law_top", "_law_most"] sp__law_spans := by
  refine T.d__law_spans.F.ok sc__law_spans (fun vs H Q E h => ?_) (fun cdv A outer s H vs Q E hr h => ?_)
  · obtain ⟨s, t, q, rfl, _⟩ := h
    rfl
  · obtain ⟨s, t, q, rfl, hs, ht, hq, k⟩ := h
    refine ⟨_, (pss_cons (ps_set (i := 3) sc__law_spans.nd rfl (Or.inl rfl) (pe_lst pa_nil))
      (pss_cons (ps_for PassesOwn.never rfl (pi_range1 rfl T.b_range (pa_cons (pe_callB (c_len (K := K)) (by rfl) T.b_len (by decide +kernel) (pa_cons (pv 1) pa_nil)) pa_nil)) (pg_name (i := 4) sc__law_spans.nd rfl (Or.inl rfl)) (pss_cons (ps_set (i := 5) sc__law_spans.nd rfl (Or.inl rfl) (pe_call (ok__law_costs T) (hr.mono (by decide)) rfl T.d__law_costs.g T.d__law_costs.F.kp T.d__law_costs.b .nil pass0 (pa_cons (pv 0) (pa_cons (pe_slice (s_sl (K := K)) (pv 1) (po_some (pv 4)) po_none) pa_nil))))
      (pss_one (ps_for PassesOwn.never rfl (pi_range2 rfl T.b_range (pa_cons pe_int (pa_cons (pe_op o_add (pe_op o_sub (pe_callB (c_len (K := K)) (by rfl) T.b_len (by decide +kernel) (pa_cons (pv 1) pa_nil)) (pv 4)) pe_int) pa_nil))) (pg_name (i := 6) sc__law_spans.nd rfl (Or.inl rfl)) (pss_one (ps_if (pt_cmpR o_le (pe_ix (i_ix (K := K)) (pv 5) (pv 6) (fun _ _ => rfl)) (pv 2) (nomark _)) (pss_one (ps_expr (pe_bm PySem.F.plainAttrs_list PySem.F.slot_list_append PySem.F.type_list_append mt_append (pv 3) (pa_cons (pe_tup (pa_cons (pe_ix (i_ix (K := K)) (pv 5) (pv 6) (fun _ _ => rfl)) (pa_cons (pv 4) (pa_cons (pe_op o_add (pv 4) (pv 6)) pa_nil)))) pa_nil)))) pss_nil))))))
      (pss_one (ps_ret (pe_lc (own := [("_law_far", 7), ("_law_begin", 4), ("_law_end", 8)]) (g := gTup K 3 (gCons (gName 7) (gCons (gName 4) (gCons (gName 8) gNil)))) rfl sc__law_spans.nd (pi_list (pe_callB (c_sort3 (K := K)) (by rfl) T.b_sorted (by decide +kernel) (pa_cons (pv 3) pa_nil))) (blkOk_by (own := [("_law_far", 7), ("_law_begin", 4), ("_law_end", 8)]) (N := N__law_spans) (sc := defScope s__law_spans) (by decide +kernel)) (fun _ _ _ _ _ => (pg_tup rfl (pgs_cons (pg_name (i := 7) sc__law_spans.nd rfl (Or.inl rfl)) (pgs_cons (pg_name (i := 4) sc__law_spans.nd rfl (Or.inl rfl)) (pgs_cons (pg_name (i := 8) sc__law_spans.nd rfl (Or.inl rfl)) pgs_nil))))) (fun _ _ _ _ _ => pts_nil) (fun _ _ _ _ _ => (pe_tup (pa_cons (pe_op o_sub (pe_op o_add (pv 2) pe_int) (pv 7)) (pa_cons (pv 4) (pa_cons (pv 8) pa_nil)))))))))), ?_⟩
    have hsl : s.cps.toList.length = s.length := Array.length_toList
    have htl : t.cps.toList.length = t.length := Array.length_toList
    walk_at "go"
    rename_i F H1 nF e1 vF
    rw [Int.toNat_natCast]
    refine for_runs (runs_range 0 t.length) (fun i σ H' => (Ex H H' ∧ ∃ zs : List TZ, H' F = some (.lst (zs.map tV)) ∧ TT H' zs ∧ zs.map (·.2) = nearP s.cps.toList t.cps.toList q i) ∧ ∃ y4 y5 y6 y7 y8, σ = [some (.str s), some (.str t), some (.int (q : Nat)), some (.ref F), y4, y5, y6, y7, y8]) ⟨⟨e1, [], vF, fun _ h => (by cases h), (nearP_0 s.cps.toList t.cps.toList q).symm⟩, _, _, _, _, _, rfl⟩ (fun _ _ _ _ _ => trivial) ?_ ?_
    · rintro i x σ H2 H3 hi ⟨⟨e2, zs, z1, z2, z3⟩, y4, y5, y6, y7, y8, rfl⟩ ⟨rfl, rfl⟩
      rw [Int.zero_add]
      have cl := cutS_from t i (by omega)
      have cll : (cutS t (some (i : Int)) none).length = t.length - i := by
        have := congrArg List.length cl
        rw [Array.length_toList, List.length_drop, htl] at this
        exact this
      walk_at "go"
      refine ⟨s, cutS t (some (i : Int)) none, rfl, by omega, by omega, fun C H4 e4 nC vC => ?_⟩
      rw [cl, cll] at vC
      have z1' := e4.get z1
      have z2' := z2.ex e4
      have CF : F ≠ C := ne_of_none z1 nC
      walk_at "go"
      rw [show ((t.length : Int) - (i : Int) + 1 - 1).toNat = t.length - i by omega]
      refine for_runs (runs_range 1 (t.length - i)) (fun j σ H' => ((FrP F H4 H' ∧ H' C = some (.lst (((List.range (t.length - i + 1)).map fun k => ((Lev s.cps.toList (t.cps.toList.drop i) s.length k : Nat) : Int)).map V.int))) ∧ ∃ zs : List TZ, H' F = some (.lst (zs.map tV)) ∧ TT H' zs ∧ zs.map (·.2) = nearP s.cps.toList t.cps.toList q i ++ nrowP s.cps.toList t.cps.toList q i (1 + j)) ∧ ∃ y6 y7 y8, σ = [some (.str s), some (.str t), some (.int (q : Nat)), some (.ref F), some (.int (i : Nat)), some (.ref C), y6, y7, y8]) ⟨⟨⟨Fr.refl _, vC⟩, zs, z1', z2', by rw [z3, nrowP_1, List.append_nil]⟩, _, _, _, rfl⟩ (fun _ _ _ _ _ => trivial) ?_ ?_
      · rintro j x σ H5 H6 hj ⟨⟨⟨f5, wC⟩, ws, w1, w2, w3⟩, y6, y7, y8, rfl⟩ ⟨rfl, rfl⟩
        have hwl : ws.length ≤ 10000 := by
          have h1 := congrArg List.length w3
          rw [List.length_map, List.length_append] at h1
          have h2 := nearP_len s.cps.toList t.cps.toList q i
          have h3 := nrowP_len s.cps.toList t.cps.toList q i (1 + j)
          have h4 := sum_bound t.cps.toList.length i
          rw [htl] at h4 h2
          have h5 : i * t.length ≤ 25 * 24 := Nat.mul_le_mul (by omega) (by omega)
          omega
        have hstep := nrowP_s s.cps.toList t.cps.toList q i (1 + j)
        rw [hsl] at hstep
        have g1 : atI (((List.range (t.length - i + 1)).map fun k => ((Lev s.cps.toList (t.cps.toList.drop i) s.length k : Nat) : Int)).map V.int) (1 + (j : Int)) = some (V.int ((Lev s.cps.toList (t.cps.toList.drop i) s.length (1 + j) : Nat) : Int)) := by
          rw [show 1 + (j : Int) = ((1 + j : Nat) : Int) by omega, List.map_map]
          exact fn_at (by omega)
        walk_at "go"
        refine st_ixL wC g1 ?_
        walk_at "go"
        by_cases c2 : Lev s.cps.toList (t.cps.toList.drop i) s.length (1 + j) ≤ q
        · rw [if_pos (by simpa using c2)]
          walk_at "go"
          refine st_ixL wC g1 ?_
          walk_at "go"
          rename_i W H7 nW e7 vW
          rw [if_pos ⟨by omega, c2⟩] at hstep
          have w1' := e7.get w1
          refine st_app w1' (by rw [List.length_map]; omega) ?_
          have vW' : H7 W = some (sO ⟨((Lev s.cps.toList (t.cps.toList.drop i) s.length (1 + j) : Nat) : Int), i, i + (1 + j)⟩) := by
            rw [vW]
            rfl
          refine ⟨⟨⟨(f5.trans (Fr.ex e7)).trans FrP.at, (upd_ne CF.symm).trans (e7.get wC)⟩, ws ++ [(W, ⟨((Lev s.cps.toList (t.cps.toList.drop i) s.length (1 + j) : Nat) : Int), i, i + (1 + j)⟩)], by rw [upd_same, List.map_append]; rfl, ?_, ?_⟩, _, _, _, rfl⟩
          · refine TT.up (TT.app (w2.ex e7) fun z hz => ?_) w1'
            rw [List.mem_singleton.mp hz]
            exact vW'
          · rw [List.map_append, w3, show 1 + (j + 1) = 1 + j + 1 by omega, hstep, List.append_assoc]
            rfl
        · rw [if_neg (by simpa using c2)]
          rw [if_neg fun h => c2 h.2, List.append_nil] at hstep
          walk_at "go"
          exact ⟨⟨⟨f5, wC⟩, ws, w1, w2, by rw [w3, show 1 + (j + 1) = 1 + j + 1 by omega, hstep]⟩, _, _, _, rfl⟩
      · rintro σ H5 ⟨⟨⟨f5, wC⟩, ws, w1, w2, w3⟩, y6, y7, y8, rfl⟩
        walk_at "go"
        refine ⟨⟨Ex.comp (M := fun b => b = F) (e2.trans e4) f5 fun b hb => by rw [hb]; exact nF, ws, w1, w2, ?_⟩, _, _, _, _, _, rfl⟩
        rw [w3, nearP_s, htl, show 1 + (t.length - i) = t.length - i + 1 by omega]
    · rintro σ H2 ⟨⟨e2, zs, z1, z2, z3⟩, y4, y5, y6, y7, y8, rfl⟩
      walk_at "go"
      refine st_sortS (lstAt_sq (lst_of z1)) z2 fun ys a H3 hp hs na e3 va => ?_
      have ta : TT H3 ys := fun z hz => e3.get (z2 z (hp.mem_iff.mp hz))
      have hN : NearOk (ys.map (·.2)) s.cps.toList t.cps.toList q := ⟨by
        have h1 := hp.map (·.2)
        rw [z3] at h1
        rw [nearL_n, htl]
        exact h1, hs⟩
      have hyl : ys.length ≤ 300 := by
        have := hN.len (by omega)
        rwa [List.length_map] at this
      walk_at "go"
      refine lc_objs0 (rv_list K a ys tV) (fun H' e => lst_of (e.get va)) (by omega) (fun z => sO (spanS q z.2)) ?_ ?_ gTup3_mono
      · intro z H' hz' e B hB
        have vz : H' z.1 = some (.tup [.int z.2.w, .int (z.2.b : Nat), .int (z.2.e : Nat)]) := e.get (ta z hz')
        walk_at "go"
        refine ⟨rfl, ?_⟩
        walk_at "go"
        rename_i q' G n e' v
        exact hB q' G n e' v
      intro D H4 ts hD e4 vD oD _ _ hn
      obtain ⟨ws, w1, w2, w3⟩ := tz_of (ss := ys.map fun z => spanS q z.2) ts (by rw [List.map_map]; exact oD)
      rw [← w1] at vD
      walk_at "go"
      exact k D ws (ys.map (·.2)) H4 (e2.trans (e3.trans e4)) (Ex.free (e2.trans e3) hD) vD w2 hN (by rw [w3, List.map_map]; rfl)
/-- what is none of the places up to b -/
def OutX (H : Hp) (b : Int) (v : V) : Prop := (∃ d, Rn H v d ∧ d.hasDict = false ∧ d.depth ≤ 50) ∧ Ty H v ∧ withinV v 0 b = false
theorem OutX.ex {H H' : Hp} {b : Int} {v : V} (h : OutX H b v) (e : Ex H H') : OutX H' b v := by
  obtain ⟨⟨d, h1, h2, h3⟩, h4, h5⟩ := h
  exact ⟨⟨d, h1.ex e, h2, h3⟩, h4.ex e, h5⟩
theorem w_int {i b : Int} (h : i < 0 ∨ b < i) : withinV (.int i) 0 b = false := decide_eq_false (by omega)
def sp__law_refused (K : PySem.W.Frag) (TL : List (Addr × Str)) : Sp := fun vs H Q _ => ∃ (x y z u : V) (b : Bool) (d : PyData), vs = [x, y, z, u, .bl b] ∧ LamX.Tabs TL H ∧ Thg H x ∧ Thg H y ∧ Ty H z ∧ ((b = true ∧ isPlain x = false ∧ u = x) ∨ (b = true ∧ isPlain x = true ∧ isPlain y = false ∧ u = y) ∨ (b = false ∧ isPlain x = true ∧ isPlain y = true ∧ withinV z 0 48 = false ∧ u = z)) ∧ Rn H u d ∧ (d.hasDict = false ∧ d.depth ≤ 40) ∧ ∀ H', Ex H H' → Q (.bl true) H'
theorem ok__law_refused (T : Tx K mg ad fd tk base tc) : FnOk P w K mg base CX0 14 (ad 51) (fd 51) ["_law_side", "_law_top", "_law_most", "_law_due", "_law_plain"] (sp__law_refused K (tabsL tc)) := by
  refine T.d__law_refused.F.ok sc__law_refused (fun vs H Q E h => ?_) (fun cdv A outer s H vs Q E hr h => ?_)
  · obtain ⟨x, y, z, u, b, d, rfl, _⟩ := h
    rfl
  · obtain ⟨x, y, z, u, b, d, rfl, hT, hx, hy, hz, hc, hu, hd, k⟩ := h
    refine ⟨_, (pss_cons (ps_tryG rfl rfl L2.takes0 (fun W pn xe tk hp => (pss_one (ps_expr (pe_callS (E := WE W) (ok_apart_near T) (hr.mono (by decide)) rfl T.d_apart_near.g T.d_apart_near.F.kp T.d_apart_near.b (fun σ => passAt tk σ) (pa_cons (pv 0) (pa_cons (pv 1) (pa_cons (pv 2) pa_nil)))))))
      (.named (i := 5) sc__law_refused.nd rfl rfl ⟨rfl, by decide, Or.inl T.e_NoPlain.g⟩ (fun a oe cls d pn hz hf => (pss_one (ps_ret (pe_and (pv 4) (pe_and (pe_callB (call_isX hz hf) (by rfl) T.b_isinstance (by decide +kernel) (pa_cons (pv 5) (pa_cons (pe_glob (v := .ref (clsA K "PaneError")) rfl T.e_PaneError.g rfl) pa_nil))) (pe_and (pe_not (pe_callB (call_isX hz hf) (by rfl) T.b_isinstance (by decide +kernel) (pa_cons (pv 5) (pa_cons (pe_glob (v := .ref (clsA K "NoPlace")) rfl T.e_NoPlace.g rfl) pa_nil)))) (pe_one (pe_cmpR (o_eqA (K := K) hr.units) (pe_xe hz hf (pv 5)) (pv 3) (nomark _))))))))) (.named (i := 5) sc__law_refused.nd rfl rfl ⟨rfl, by decide, Or.inl T.e_NoPlace.g⟩ (fun a oe cls d pn hz hf => (pss_cons (ps_if (PW.pt (pw_or (pt_tru (pv 4) (by intro _; rfl) (K := K)) (pw_or1 (pt_not (pt_val (pe_callB (call_isX hz hf) (by rfl) T.b_isinstance (by decide +kernel) (pa_cons (pv 5) (pa_cons (pe_glob (v := .ref (clsA K "PaneError")) rfl T.e_PaneError.g rfl) pa_nil)))))))) (pss_one (ps_ret pe_bl)) pss_nil)
      (pss_one (ps_ret (pe_and (pe_cmpR (o_eqA (K := K) hr.units) (pe_xe hz hf (pv 5)) (pv 3) (nomark _)) (pe_one (pe_cmpR (o_eq hr.units) (pe_callB c_is (by rfl) T.b_isinstance (by decide +kernel) (pa_cons (pe_xe hz hf (pv 5)) (pa_cons (pe_bltn (v := .ty "bool") rfl T.b_bool (by decide +kernel) rfl) pa_nil))) (pe_callB c_is (by rfl) T.b_isinstance (by decide +kernel) (pa_cons (pv 3) (pa_cons (pe_bltn (v := .ty "bool") rfl T.b_bool (by decide +kernel) rfl) pa_nil))) (nomark _)))))))) .nil)) pss_nil)
      (pss_one (ps_ret pe_bl))), ?_⟩
    obtain ⟨hd1, hd2⟩ := hd
    have tb : ∀ {b c : Bool}, (b == b) = true := fun {b c} => by cases b <;> rfl
    have hR : ∀ (E' : XK) (k' : Str → Str → Nat → Prop), (b = true → RaF K E' H "NoPlain" [("found", u)]) → (b = false → RaF K E' H "NoPlace" [("found", u)]) → Near3 K E' H x y z k' := fun E' k' r1 r2 => by
      rcases hc with ⟨h1, h2, h3⟩ | ⟨h1, h2, h3, h4⟩ | ⟨h1, h2, h3, h4, h5⟩
      · subst h3
        exact .inr ⟨hx, hy, .inl ⟨h2, r1 h1⟩⟩
      · subst h4
        exact .inr ⟨hx, hy, .inr ⟨h2, h3, r1 h1⟩⟩
      · subst h5
        obtain ⟨s, rfl, hs⟩ := plainS_of_true h2
        obtain ⟨t, rfl, ht⟩ := plainS_of_true h3
        exact .inl ⟨s, t, rfl, rfl, hs, ht, .inr ⟨h4, r2 h1⟩⟩
    walk_at "go"
    refine ⟨x, y, z, rfl, hT, hz, hR _ _ (fun hb => ?_) (fun hb => ?_)⟩
    · subst hb
      intro xd H1 hxd e1 hvx
      have hu1 := hu.ex e1
      walk_at "go"
      refine st_eqSelf hu1 (fun h => by rw [hd1] at h; cases h) (by omega) ?_
      exact k H1 e1
    · subst hb
      intro xd H1 hxd e1 hvx
      have hu1 := hu.ex e1
      walk_at "go"
      refine st_eqSelf hu1 (fun h => by rw [hd1] at h; cases h) (by omega) ?_
      walk_at "go"
      refine st_isBoolT hu1.rq.ty ?_
      walk_at "go"
      refine st_isBoolT hu1.rq.ty ?_
      walk_at "go"
      rw [beq_self_eq_true]
      exact k H1 e1
/-- a thing that is no row, and may be shown -/
structure BadV (H : Hp) (v : V) : Prop where
  th : Thg H v
  no : isRow v = false
  sh : ∃ d, Sh H v d 100000 5
theorem BadV.ex {H H' : Hp} {v : V} (h : BadV H v) (e : Ex H H') : BadV H' v := ⟨h.th.ex e, h.no, by obtain ⟨d, h⟩ := h.sh; exact ⟨d, h.ex e⟩⟩
theorem isRow_str {z : Str} (h : ∃ c ∈ z.cps.toList, rowSign c = false) : isRow (.str z) = false := by
  obtain ⟨c, h1, h2⟩ := h
  show (decide (z.length ≤ 48) && z.cps.toList.all rowSign) = false
  have : z.cps.toList.all rowSign = false := by
    rw [Bool.eq_false_iff]
    intro h
    rw [List.all_eq_true] at h
    rw [h c h1] at h2
    cases h2
  rw [this, Bool.and_false]
theorem best_most {ss : List S3} {M : Nat} {x y : Int} (hok : ∀ z ∈ ss, z.b < z.e ∧ z.e ≤ M) (h1 : IsBest ss M x) (h2 : IsMost ss M y) : y = x := by
  obtain ⟨B, b1, b2, rfl⟩ := h1
  obtain ⟨T, t1, t2, rfl⟩ := h2.ex
  have h3 := T_le_B hok t1.t0 t2 b1
  have h4 := B_le_T hok t1 b1.bM b2
  omega
theorem cho_of {ss : List S3} {cs : List Nat} {x : Int} (h : ChosenOk ss cs x) : ChoD ss (cs.map fun c => ((c : Nat) : Int)) x := ⟨cs, rfl, h⟩
theorem cI_int (cs : List Nat) : cs.map cI = (cs.map fun c => ((c : Nat) : Int)).map V.int := by rw [List.map_map]; rfl
/-- a thing that is no plain row, no limit -/
structure NoP (H : Hp) (v : V) : Prop where
  th : Thg H v
  no : isPlain v = false
  rn : ∃ d, Rn H v d ∧ d.hasDict = false ∧ d.depth ≤ 40
theorem NoP.ex {H H' : Hp} {v : V} (h : NoP H v) (e : Ex H H') : NoP H' v := ⟨h.th.ex e, h.no, by obtain ⟨d, h⟩ := h.rn; exact ⟨d, h.1.ex e, h.2⟩⟩
structure NoL (H : Hp) (v : V) : Prop where
  ty : Ty H v
  no : withinV v 0 48 = false
  rn : ∃ d, Rn H v d ∧ d.hasDict = false ∧ d.depth ≤ 40
theorem NoL.ex {H H' : Hp} {v : V} (h : NoL H v) (e : Ex H H') : NoL H' v := ⟨h.ty.ex e, h.no, by obtain ⟨d, h⟩ := h.rn; exact ⟨d, h.1.ex e, h.2⟩⟩
theorem thg_refP {H : Hp} {p : Addr} (h : Ty H (.ref p)) : Thg H (.ref p) := ⟨h, fun _ e => (by cases e)⟩
theorem noPlain_str {z : Str} (h : (∃ c ∈ z.cps.toList, letB c = false) ∨ 24 < z.length) : isPlain (.str z) = false := by
  show (isRow (.str z) && (decide (z.length ≤ 24) && !decide (46 ∈ z.cps.toList))) = false
  rcases h with ⟨c, h1, h2⟩ | h
  · by_cases e : c = 46
    · subst e
      rw [decide_eq_true h1, Bool.not_true, Bool.and_false, Bool.and_false]
    · have hr : isRow (.str z) = false := isRow_str ⟨c, h1, by
        unfold rowSign
        unfold letB at h2
        rw [h2, decide_eq_false e]
        rfl⟩
      rw [hr, Bool.false_and]
  · rw [decide_eq_false (by omega), Bool.false_and, Bool.and_false]
theorem tabs_lst {T : List (Addr × Str)} {H : Hp} {p : Addr} {xs : List V} {u : HO} (t : LamX.Tabs T H) (hp : H p = some (.lst xs)) : LamX.Tabs T (upd H p u) := fun q hq => by
  obtain ⟨ps, h1, h2, h3⟩ := t q hq
  refine ⟨ps, (upd_ne fun z => by rw [z, hp] at h1; cases h1).trans h1, h2, fun pos cv hc => ?_⟩
  obtain ⟨c, e1, e2⟩ := h3 pos cv hc
  exact ⟨c, e1, (upd_ne fun z => by rw [z, hp] at e2; unfold CodeO at e2; cases e2).trans e2⟩
def sp_law (K : PySem.W.Frag) (TL : List (Addr × Str)) : Sp := fun vs H Q _ => ∃ (a : Addr) (ns : List Int), vs = [.ref a] ∧ SqL K H a (ns.map V.int) ∧ LamX.Tabs TL H ∧ ns.length ≤ 63 ∧ ∀ H', Q (.bl true) H'
theorem ok_law (T : Tx K mg ad fd tk base tc) : FnOk P w K mg base CX0 15 (ad 52) (fd 52) ["_law_script"] (sp_law K (tabsL tc)) := by
  refine T.d_law.F.ok sc_law (fun vs H Q E h => ?_) (fun cdv A outer s H vs Q E hr h => ?_)
  · obtain ⟨a, ns, rfl, _⟩ := h
    rfl
  · obtain ⟨a, ns, rfl, hs, hT, hl, k⟩ := h
    refine ⟨_, (pss_cons (ps_set (i := 1) sc_law.nd rfl (Or.inl rfl) (pe_op o_mod (pe_call (ok__law_mix T) (hr.mono (by decide)) rfl T.d__law_mix.g T.d__law_mix.F.kp T.d__law_mix.b .nil pass0 (pa_cons (pe_call (ok__law_at T) (hr.mono (by decide)) rfl T.d__law_at.g T.d__law_at.F.kp T.d__law_at.b .nil pass0 (pa_cons (pv 0) (pa_cons pe_int pa_nil))) (pa_cons pe_int pa_nil))) pe_int))
      (pss_cons (ps_asg (pe_call (ok__law_two T) (hr.mono (by decide)) rfl T.d__law_two.g T.d__law_two.F.kp T.d__law_two.b .nil pass0 (pa_cons (pv 0) (pa_cons (pe_ix (i_ix (K := K)) (pe_lst (pa_cons pe_int (pa_cons pe_int (pa_cons pe_int (pa_cons pe_int (pa_cons pe_int (pa_cons pe_int (pa_cons pe_int (pa_cons pe_int pa_nil))))))))) (pv 1) (fun _ _ => rfl)) pa_nil))) (pg_lst rfl (pgs_cons (pg_name (i := 2) sc_law.nd rfl (Or.inl rfl)) (pgs_cons (pg_name (i := 3) sc_law.nd rfl (Or.inl rfl)) pgs_nil))))
      (pss_cons (ps_set (i := 4) sc_law.nd rfl (Or.inl rfl) (pe_op o_mod (pe_op o_div (pe_call (ok__law_at T) (hr.mono (by decide)) rfl T.d__law_at.g T.d__law_at.F.kp T.d__law_at.b .nil pass0 (pa_cons (pv 0) (pa_cons pe_int pa_nil))) pe_int) (pe_ix (i_ix (K := K)) (pe_lst (pa_cons pe_int (pa_cons pe_int (pa_cons pe_int pa_nil)))) (pe_op o_mod (pe_call (ok__law_at T) (hr.mono (by decide)) rfl T.d__law_at.g T.d__law_at.F.kp T.d__law_at.b .nil pass0 (pa_cons (pv 0) (pa_cons pe_int pa_nil))) pe_int) (fun _ _ => rfl))))
      (pss_cons (ps_for PassesOwn.never rfl (pi_list (pe_lst (pa_cons (pv 4) (pa_cons (pe_op o_sub pe_int (pv 4)) (pa_cons (pv 4) pa_nil))))) (pg_name (i := 5) sc_law.nd rfl (Or.inl rfl)) (pss_cons (ps_set (i := 6) sc_law.nd rfl (Or.inl rfl) (pe_call (ok__law_spans T) (hr.mono (by decide)) rfl T.d__law_spans.g T.d__law_spans.F.kp T.d__law_spans.b .nil pass0 (pa_cons (pv 2) (pa_cons (pv 3) (pa_cons (pv 5) pa_nil)))))
      (pss_cons (ps_set (i := 7) sc_law.nd rfl (Or.inl rfl) (pe_call (ok_apart_near T) (hr.mono (by decide)) rfl T.d_apart_near.g T.d_apart_near.F.kp T.d_apart_near.b .nil passL (pa_cons (pv 2) (pa_cons (pv 3) (pa_cons (pv 5) pa_nil)))))
      (pss_cons (ps_if (pt_not (pt_val (pe_call (ok__law_right T) (hr.mono (by decide)) rfl T.d__law_right.g T.d__law_right.F.kp T.d__law_right.b .nil pass0 (pa_cons (pe_callB (c_len (K := K)) (by rfl) T.b_len (by decide +kernel) (pa_cons (pv 3) pa_nil)) (pa_cons (pv 6) (pa_cons (pv 7) (pa_cons (pe_call (ok__law_best T) (hr.mono (by decide)) rfl T.d__law_best.g T.d__law_best.F.kp T.d__law_best.b .nil pass0 (pa_cons (pe_callB (c_len (K := K)) (by rfl) T.b_len (by decide +kernel) (pa_cons (pv 3) pa_nil)) (pa_cons (pv 6) pa_nil))) pa_nil))))))) (pss_one (ps_ret pe_bl)) pss_nil)
      (pss_cons (ps_expr (pe_bm PySem.F.plainAttrs_list PySem.F.slot_list_append PySem.F.type_list_append mt_append (pe_ix (i_ix (K := K)) (pv 7) pe_int (fun _ _ => rfl)) (pa_cons pe_int pa_nil)))
      (pss_one (ps_expr (pe_bm PySem.F.plainAttrs_list PySem.F.slot_list_append PySem.F.type_list_append mt_append (pe_ix (i_ix (K := K)) (pv 7) pe_int (fun _ _ => rfl)) (pa_cons pe_int pa_nil)))))))))
      (pss_cons (ps_set (i := 8) sc_law.nd rfl (Or.inl rfl) (pe_op o_add pe_int (pe_op o_mod (pe_call (ok__law_at T) (hr.mono (by decide)) rfl T.d__law_at.g T.d__law_at.F.kp T.d__law_at.b .nil pass0 (pa_cons (pv 0) (pa_cons pe_int pa_nil))) (pe_op o_pow pe_int pe_int))))
      (pss_cons (ps_set (i := 9) sc_law.nd rfl (Or.inl rfl) (pe_lst (pa_cons (pe_op o_add (pe_slice (s_sl (K := K)) (pv 2) po_none (po_some pe_int)) pe_str) (pa_cons (pe_op o_add pe_str (pe_slice (s_sl (K := K)) (pv 3) po_none (po_some pe_int))) (pa_cons (pe_op o_add (pe_op o_mul pe_str pe_int) pe_str) (pa_cons pe_non (pa_cons pe_int (pa_cons (pe_lst (pa_cons pe_str pa_nil)) (pa_cons pe_bl (pa_cons pe_str pa_nil))))))))))
      (pss_cons (ps_for PassesOwn.never rfl (pi_range1 rfl T.b_range (pa_cons (pe_callB (c_len (K := K)) (by rfl) T.b_len (by decide +kernel) (pa_cons (pv 9) pa_nil)) pa_nil)) (pg_name (i := 10) sc_law.nd rfl (Or.inl rfl)) (pss_cons (ps_set (i := 5) sc_law.nd rfl (Or.inl rfl) (pe_ix (i_ix (K := K)) (pe_lst (pa_cons (pv 8) (pa_cons (pe_un un_neg pe_int) (pa_cons pe_bl (pa_cons pe_non (pa_cons pe_str (pa_cons (pe_lst (pa_cons pe_int pa_nil)) (pa_cons pe_int (pa_cons (pe_un un_neg (pv 8)) pa_nil))))))))) (pv 10) (fun _ _ => rfl)))
      (pss_cons (ps_if (pt_not (pt_val (pe_call (ok__law_refused T) (hr.mono (by decide)) rfl T.d__law_refused.g T.d__law_refused.F.kp T.d__law_refused.b .nil pass0 (pa_cons (pe_ix (i_ix (K := K)) (pv 9) (pv 10) (fun _ _ => rfl)) (pa_cons (pv 3) (pa_cons (pv 5) (pa_cons (pe_ix (i_ix (K := K)) (pv 9) (pv 10) (fun _ _ => rfl)) (pa_cons pe_bl pa_nil)))))))) (pss_one (ps_ret pe_bl)) pss_nil)
      (pss_cons (ps_if (pt_not (pt_val (pe_call (ok__law_refused T) (hr.mono (by decide)) rfl T.d__law_refused.g T.d__law_refused.F.kp T.d__law_refused.b .nil pass0 (pa_cons (pv 2) (pa_cons (pe_ix (i_ix (K := K)) (pv 9) (pv 10) (fun _ _ => rfl)) (pa_cons (pv 5) (pa_cons (pe_ix (i_ix (K := K)) (pv 9) (pv 10) (fun _ _ => rfl)) (pa_cons pe_bl pa_nil)))))))) (pss_one (ps_ret pe_bl)) pss_nil)
      (pss_cons (ps_if (pt_not (pt_val (pe_call (ok__law_refused T) (hr.mono (by decide)) rfl T.d__law_refused.g T.d__law_refused.F.kp T.d__law_refused.b .nil pass0 (pa_cons (pe_ix (i_ix (K := K)) (pv 9) (pv 10) (fun _ _ => rfl)) (pa_cons (pe_ix (i_ix (K := K)) (pv 9) (pe_op o_sub (pv 10) pe_int) (fun _ _ => rfl)) (pa_cons (pv 4) (pa_cons (pe_ix (i_ix (K := K)) (pv 9) (pv 10) (fun _ _ => rfl)) (pa_cons pe_bl pa_nil)))))))) (pss_one (ps_ret pe_bl)) pss_nil)
      (pss_one (ps_if (pt_not (pt_val (pe_call (ok__law_refused T) (hr.mono (by decide)) rfl T.d__law_refused.g T.d__law_refused.F.kp T.d__law_refused.b .nil pass0 (pa_cons (pv 2) (pa_cons (pv 3) (pa_cons (pv 5) (pa_cons (pv 5) (pa_cons pe_bl pa_nil)))))))) (pss_one (ps_ret pe_bl)) pss_nil)))))))
      (pss_one (ps_ret pe_bl))))))))), ?_⟩
    walk_at "go"
    refine ⟨a, ns, 0, rfl, hs, by decide, hl, fun c0 => ?_⟩
    walk_at "go"
    refine ⟨_, _, rfl, fun u0 => ?_⟩
    walk_at "go"
    rename_i q1 H1 n1 e1 v1
    have b0 := Int.emod_nonneg u0 (b := 8) (by decide)
    have b1 := Int.emod_lt_of_pos u0 (b := 8) (by decide)
    refine st_ixI [8, 8, 8, 6, 8, 24, 8, 8] v1 rfl b0 b1 (fun w _ hw => ?_)
    have hw : 0 ≤ w ∧ w ≤ 24 := by simp at hw; omega
    walk_at "go"
    refine ⟨a, ns, w, rfl, sqL_ex hs e1, by omega, hl, fun q2 s t H2 e2 n2 v2 r1 r2 => ?_⟩
    have hps := r1.plain hw.2
    have hpt := r2.plain hw.2
    have ls := hps.len
    have lt := hpt.len
    have hs2 := sqL_ex hs (e1.trans e2)
    have hT2 : LamX.Tabs (tabsL tc) H2 := hT.ext fun b o h => (e1.trans e2).get h
    clear e1 v1
    refine st_glst v2 rfl ?_
    walk_at "go"
    refine ⟨a, ns, 0, rfl, hs2, by decide, hl, fun c1 => ?_⟩
    walk_at "go"
    rename_i q3 H3 n3 e3 v3
    have hs3 := sqL_ex hs2 e3
    have hT3 : LamX.Tabs (tabsL tc) H3 := hT2.ext fun b o h => e3.get h
    refine ⟨a, ns, 0, rfl, hs3, by decide, hl, fun c2 => ?_⟩
    walk_at "go"
    refine st_ixI [4, 49, 9] v3 rfl (Int.emod_nonneg _ (by decide)) (Int.emod_lt_of_pos _ (by decide)) (fun w3 _ hw3 => ?_)
    have hw3 : 4 ≤ w3 ∧ w3 ≤ 49 := by simp at hw3; omega
    walk_at "go"
    have m0 := Int.emod_nonneg (c1 / 156) (b := w3) (by omega)
    have m1 := Int.emod_lt_of_pos (c1 / 156) (b := w3) (by omega)
    rename_i L H4 n4 e4 v4
    obtain ⟨m, hm, hm48⟩ : ∃ m : Nat, c1 / 156 % w3 = (m : Int) ∧ m ≤ 48 := ⟨(c1 / 156 % w3).toNat, by omega, by omega⟩
    rw [hm] at v4 ⊢
    have hs4 := sqL_ex hs3 e4
    have hT4 : LamX.Tabs (tabsL tc) H4 := hT3.ext fun b o h => e4.get h
    clear e2 e3 e4 hs2 hs3 hT2 hT3 v2 v3 m0 m1 hw3
    refine for_runs (runs_list K L _) (fun i σ H' => (Ex (noT H4) H' ∧ LamX.Tabs (tabsL tc) H') ∧ ∃ y1 y5 y6 y7 y8 y9 y10, σ = [some (.ref a), y1, some (.str s), some (.str t), some (.int (m : Nat)), y5, y6, y7, y8, y9, y10]) ⟨⟨noT_ex _, hT4⟩, _, _, _, _, _, _, _, rfl⟩ (fun i σ H' _ h => lst_of (keepL v4 h.1.1)) ?_ ?_
    · rintro i x σ H5 H6 hi ⟨⟨e5, hT5⟩, y1, y5, y6, y7, y8, y9, y10, rfl⟩ ⟨rfl, hx⟩
      obtain ⟨q, rfl, hq⟩ : ∃ q : Nat, x = .int (q : Nat) ∧ q ≤ 48 := by
        have := List.mem_of_getElem? hx
        simp only [List.mem_cons, List.not_mem_nil, or_false] at this
        rcases this with h | h | h
        · exact ⟨m, h, hm48⟩
        · exact ⟨48 - m, by rw [h]; congr 1; omega, by omega⟩
        · exact ⟨m, h, hm48⟩
      walk_at "go"
      refine ⟨s, t, q, rfl, ls, lt, hq, fun A zs ys H7 e7 nA vA tA hN hz => ?_⟩
      have hT7 : LamX.Tabs (tabsL tc) H7 := hT5.ext fun b o h => e7.get h
      walk_at "go"
      refine ⟨.str s, .str t, _, rfl, hT7, ty_int _, .inl ⟨s, t, rfl, rfl, hps, hpt, .inl ⟨q, rfl, hq, fun ys' f c r x' cs ps H8 e8 hT8 nc nr hcr vf vc vr hN' hm' hch hp => ?_⟩⟩⟩
      obtain rfl := hN'.uniq hN
      rw [← hz] at hm' hch hp
      have htl : t.cps.toList.length = t.length := Array.length_toList
      have hok : ∀ z ∈ zs, SpOk t.length z.2 := fun z hzm => by
        have h1 : z.2 ∈ zs.map (·.2) := List.mem_map.mpr ⟨z, hzm, rfl⟩
        rw [hz] at h1
        have := hN.span hq h1
        rwa [htl] at this
      have hbe : ∀ z ∈ zs.map (·.2), z.b < z.e ∧ z.e ≤ t.length := fun z hzm => by
        obtain ⟨y, hy, rfl⟩ := List.mem_map.mp hzm
        exact ⟨(hok y hy).be, (hok y hy).eM⟩
      have hzl : zs.length ≤ 300 := by
        have h1 := congrArg List.length hz
        rw [List.length_map, List.length_map] at h1
        have := hN.len (by omega)
        omega
      have vA8 := keepL vA e8
      have tA8 : TT H8 zs := fun z hzm => e8.get (noT_get (tA z hzm) fun _ y => (by cases y))
      have nc7 : noT H7 c = none := nc
      have e48 : Ex (noT H4) H8 := fun b o nb h => by
        have h0 := noT_of h
        exact e8.get (noT_get (e7.get (e5.get h)) h0.2)
      have n4c : ∀ b, noT H7 b = none → noT H4 b = none := fun b hb => by
        cases hh : noT H4 b with
        | none => rfl
        | some o =>
          have h0 := noT_of hh
          have := noT_get (e7.get (e5.get hh)) h0.2
          rw [hb] at this
          cases this
      rw [cI_int] at vc
      walk_at "go"
      refine ⟨t.length, A, zs, rfl, lt, vA8, tA8, by omega, hok, fun x2 H9 e9 hb9 => ?_⟩
      obtain rfl := best_most hbe hb9 hm'
      have vf9 := e9.get vf
      have vc9 := e9.get vc
      have vr9 := e9.get vr
      walk_at "go"
      refine ⟨t.length, A, zs, f, c, r, x', _, ps, x', rfl, lt, e9.get vA8, tA8.ex e9, hok, vf9, vc9, vr9, fun bb H10 e10 hbb => ?_⟩
      have hbt : bb = true := hbb.mpr ⟨rfl, cho_of hch, hp⟩
      subst hbt
      have vf10 := e10.get vf9
      have vc10 := e10.get vc9
      have vr10 := e10.get vr9
      have hT10 : LamX.Tabs (tabsL tc) H10 := hT8.ext fun b o h => (e9.trans e10).get h
      have e410 : Ex (noT H4) H10 := e48.trans (e9.trans e10)
      walk_at "go"
      refine st_app vc10 (by rw [List.length_map, List.length_map]; have := hch.len; rw [List.length_map] at this; omega) ?_
      have vf11 : upd H10 c (.lst ((cs.map fun c => ((c : Nat) : Int)).map V.int ++ [V.int 0])) f = some (.tup [.int x', .ref c, .ref r]) := by rw [upd_ne fun e => by rw [e, vc10] at vf10; cases vf10]; exact vf10
      have vr11 : upd H10 c (.lst ((cs.map fun c => ((c : Nat) : Int)).map V.int ++ [V.int 0])) r = some (.lst (ps.map V.int)) := by rw [upd_ne hcr.symm]; exact vr10
      have hT11 := tabs_lst (u := .lst ((cs.map fun c => ((c : Nat) : Int)).map V.int ++ [V.int 0])) hT10 vc10
      have e411 := e410.mut (o := .lst ((cs.map fun c => ((c : Nat) : Int)).map V.int ++ [V.int 0])) (n4c c nc)
      generalize upd H10 c (.lst ((cs.map fun c => ((c : Nat) : Int)).map V.int ++ [V.int 0])) = H11 at vf11 vr11 hT11 e411 ⊢
      walk_at "go"
      refine st_app vr11 (by rw [List.length_map, hp.len]; omega) ?_
      exact ⟨⟨e411.mut (n4c r nr), tabs_lst hT11 vr11⟩, _, _, _, _, _, _, _, rfl⟩
    · rintro σ H5 ⟨⟨e5, hT5⟩, y1, y5, y6, y7, y8, y9, y10, rfl⟩
      have hs5 := sqL_to hs4 e5
      clear e5 v4 hs4 hT4
      walk_at "go"
      refine ⟨a, ns, 0, rfl, hs5, by decide, hl, fun c3 => ?_⟩
      have g0 : 0 ≤ c3 % 10 ^ Int.toNat 30 := Int.emod_nonneg _ (by decide)
      have lc1 : (cutS s none (some 23)).length ≤ 24 := by have := cutS_len s none (some 23); omega
      have ld1 : (Str.ofString ".").length = 1 := by decide +kernel
      have lA1 : (Str.ofString "A").length = 1 := by decide +kernel
      have lc2 : (cutS t none (some 23)).length ≤ 24 := by have := cutS_len t none (some 23); omega
      walk_at "go"
      obtain ⟨z1, hz1⟩ : ∃ z, z = cutS s none (some 23) ++ (Str.ofString ".") := ⟨_, rfl⟩
      obtain ⟨z2, hz2⟩ : ∃ z, z = (Str.ofString "A") ++ cutS t none (some 23) := ⟨_, rfl⟩
      obtain ⟨z3, hz3⟩ : ∃ z, z = Txt.mul (Str.ofString "ab") 12 ++ (Str.ofString "c") := ⟨_, rfl⟩
      refine st_mulS (by decide) (by decide) (by decide +kernel) ?_
      walk_at "go"
      rename_i q6 H6 n6 e6 v6 R H7 nR e7 vR
      rw [← hz1, ← hz2, ← hz3] at vR
      have p1 : isPlain (.str z1) = false := noPlain_str (.inl ⟨46, by
        rw [hz1]
        show 46 ∈ ((cutS s none (some 23)).cps ++ (Str.ofString ".").cps).toList
        rw [Array.toList_append]
        exact List.mem_append_right _ (by decide +kernel), by decide⟩)
      have p2 : isPlain (.str z2) = false := noPlain_str (.inl ⟨65, by
        rw [hz2]
        show 65 ∈ ((Str.ofString "A").cps ++ (cutS t none (some 23)).cps).toList
        rw [Array.toList_append]
        exact List.mem_append_left _ (by decide +kernel), by decide⟩)
      have p3 : isPlain (.str z3) = false := noPlain_str (.inr (by rw [hz3]; decide +kernel))
      have p4 : isPlain (.str (Str.ofString "a b")) = false := noPlain_str (.inl ⟨32, by decide +kernel, by decide⟩)
      have l1 : z1.length ≤ 25 := by rw [hz1, Str.length_append]; have : (Str.ofString ".").length = 1 := by decide +kernel
                                     omega
      have l2 : z2.length ≤ 25 := by rw [hz2, Str.length_append]; have : (Str.ofString "A").length = 1 := by decide +kernel
                                     omega
      have l3 : z3.length ≤ 25 := by rw [hz3]; decide +kernel
      have v6' := e7.get v6
      have hA : ∀ x ∈ [V.str z1, V.str z2, V.str z3, V.non, V.int 3, V.ref q6, V.bl true, V.str (Str.ofString "a b")], NoP H7 x := by
        refine allE_cons ⟨thg_str (by omega), p1, _, .str _, rfl, by simp [PyData.depth]⟩ ?_
        refine allE_cons ⟨thg_str (by omega), p2, _, .str _, rfl, by simp [PyData.depth]⟩ ?_
        refine allE_cons ⟨thg_str (by omega), p3, _, .str _, rfl, by simp [PyData.depth]⟩ ?_
        refine allE_cons ⟨⟨ty_non, fun _ h => (by cases h)⟩, rfl, _, .non, rfl, by simp [PyData.depth]⟩ ?_
        refine allE_cons ⟨⟨ty_int _, fun _ h => (by cases h)⟩, rfl, _, .int _, rfl, by simp [PyData.depth]⟩ ?_
        refine allE_cons ⟨thg_refP (ty_lst v6'), rfl, _, .lst v6' (.cons (.str _) .nil), rfl, by simp [PyData.depth, PyData.depthAll]⟩ ?_
        refine allE_cons ⟨⟨ty_bl _, fun _ h => (by cases h)⟩, rfl, _, .bl _, rfl, by simp [PyData.depth]⟩ ?_
        exact allE_cons ⟨thg_str (by decide +kernel), p4, _, .str _, rfl, by simp [PyData.depth]⟩ allE_nil
      have hT7 : LamX.Tabs (tabsL tc) H7 := hT5.ext fun b o h => (e6.trans e7).get h
      have hx8 : [V.str z1, V.str z2, V.str z3, V.non, V.int 3, V.ref q6, V.bl true, V.str (Str.ofString "a b")].length = 8 := rfl
      generalize [V.str z1, V.str z2, V.str z3, V.non, V.int 3, V.ref q6, V.bl true, V.str (Str.ofString "a b")] = xs at vR hA hx8
      clear e6 e7 v6 v6' hs5 hT5
      walk_at "go"
      have go8 : ∀ (ys : List V) (P : Nat → Prop), ys.length = 8 → P 8 → P ((ys.length : Nat) : Int).toNat := fun ys P h p => by rw [h]; exact p
      refine go8 _ (fun n => ForGoal (Itr 0 n) _ _ _ _ _) rfl ?_
      refine for_runs (runs_range 0 8) (fun i σ H' => Ex H7 H' ∧ ∃ y1 y5 y6 y7 y10, σ = [some (.ref a), y1, some (.str s), some (.str t), some (.int (m : Nat)), y5, y6, y7, some (.int (49 + c3 % 10 ^ Int.toNat 30)), some (.ref R), y10]) ⟨Fr.refl _, _, _, _, _, _, rfl⟩ (fun _ _ _ _ _ => trivial) ?_ ?_
      · rintro i x σ H8 H9 hi ⟨e8, y1, y5, y6, y7, y10, rfl⟩ ⟨rfl, rfl⟩
        rw [Int.zero_add]
        have hbi : xs[i]? = some (xs[i]'(by omega)) := List.getElem?_eq_getElem (by omega)
        have hbj : ∃ v, atI xs ((i : Int) - 1) = some v ∧ v ∈ xs := by
          rcases Nat.eq_zero_or_pos i with h | h
          · subst h
            exact ⟨_, at_last (n := 7) hx8 (List.getElem?_eq_getElem (by omega)), List.getElem_mem _⟩
          · refine ⟨xs[i - 1]'(by omega), ?_, List.getElem_mem _⟩
            rw [show (i : Int) - 1 = ((i - 1 : Nat) : Int) by omega]
            exact at_nat (List.getElem?_eq_getElem _)
        obtain ⟨v, hv, hvm⟩ := hbj
        have hB1 := (hA _ (List.mem_of_getElem? hbi)).ex e8
        have hB2 := (hA _ hvm).ex e8
        generalize xs[i]'(by omega) = b at hbi hB1
        walk_at "go"
        rename_i u9 H10 n10 e10 v10 M H11 n11 e11 v11
        have v10' := e11.get v10
        have e1011 := e10.trans e11
        have hLm : ∀ x ∈ [V.int (49 + c3 % 10 ^ Int.toNat 30), V.int (-1), V.bl true, V.non, V.str (Str.ofString "1"), V.ref u9, V.int 49, V.int (-(49 + c3 % 10 ^ Int.toNat 30))], NoL H11 x := by
          refine allE_cons ⟨ty_int _, w_int (by omega), _, .int _, rfl, by simp [PyData.depth]⟩ ?_
          refine allE_cons ⟨ty_int _, rfl, _, .int _, rfl, by simp [PyData.depth]⟩ ?_
          refine allE_cons ⟨ty_bl _, rfl, _, .bl _, rfl, by simp [PyData.depth]⟩ ?_
          refine allE_cons ⟨ty_non, rfl, _, .non, rfl, by simp [PyData.depth]⟩ ?_
          refine allE_cons ⟨ty_str _, rfl, _, .str _, rfl, by simp [PyData.depth]⟩ ?_
          refine allE_cons ⟨ty_lst v10', rfl, _, .lst v10' (.cons (.int _) .nil), rfl, by simp [PyData.depth, PyData.depthAll]⟩ ?_
          refine allE_cons ⟨ty_int _, rfl, _, .int _, rfl, by simp [PyData.depth]⟩ ?_
          exact allE_cons ⟨ty_int _, w_int (by omega), _, .int _, rfl, by simp [PyData.depth]⟩ allE_nil
        refine st_ixA (seq_l v11) (by omega) (by simp only [List.length_cons, List.length_nil]; omega) (fun lm hlm hlmm => ?_)
        have hL := hLm lm hlmm
        clear hLm hlm hlmm v11 v10 v10'
        have e711 := e8.trans e1011
        have vR11 := e711.get vR
        have hT11 : LamX.Tabs (tabsL tc) H11 := hT7.ext fun b o h => e711.get h
        have hB1 := hB1.ex e1011
        have hB2 := hB2.ex e1011
        obtain ⟨d, hd1, hd2⟩ := hB1.rn
        obtain ⟨d2, hl1, hl2⟩ := hL.rn
        walk_at "go"
        refine st_ixL vR11 (at_nat hbi) ?_
        walk_at "go"
        refine st_ixL vR11 (at_nat hbi) ?_
        walk_at "go"
        refine ⟨b, .str t, lm, b, true, d, rfl, hT11, hB1.th, hpt.thg, hL.ty, .inl ⟨rfl, hB1.no, rfl⟩, hd1, hd2, fun H12 e12 => ?_⟩
        have vR12 := e12.get vR11
        walk_at "go"
        refine st_ixL vR12 (at_nat hbi) ?_
        walk_at "go"
        refine st_ixL vR12 (at_nat hbi) ?_
        walk_at "go"
        refine ⟨.str s, b, lm, b, true, d, rfl, hT11.ext fun b o h => e12.get h, hps.thg, (hB1.ex e12).th, (hL.ex e12).ty, .inr (.inl ⟨rfl, hps, hB1.no, rfl⟩), hd1.ex e12, hd2, fun H13 e13 => ?_⟩
        have e1113 := e12.trans e13
        have vR13 := e1113.get vR11
        walk_at "go"
        refine st_ixL vR13 (at_nat hbi) ?_
        walk_at "go"
        refine st_ixL vR13 hv ?_
        walk_at "go"
        refine st_ixL vR13 (at_nat hbi) ?_
        walk_at "go"
        refine ⟨b, v, _, b, true, d, rfl, hT11.ext fun b o h => e1113.get h, (hB1.ex e1113).th, (hB2.ex e1113).th, ty_int _, .inl ⟨rfl, hB1.no, rfl⟩, hd1.ex e1113, hd2, fun H14 e14 => ?_⟩
        have e1114 := e1113.trans e14
        walk_at "go"
        refine ⟨.str s, .str t, lm, lm, false, d2, rfl, hT11.ext fun b o h => e1114.get h, hps.thg, hpt.thg, (hL.ex e1114).ty, .inr (.inr ⟨rfl, hps, hpt, hL.no, rfl⟩), hl1.ex e1114, hl2, fun H15 e15 => ?_⟩
        walk_at "go"
        exact ⟨e711.trans (e1114.trans e15), _, _, _, _, _, rfl⟩
      · rintro σ H8 ⟨e8, y1, y5, y6, y7, y10, rfl⟩
        walk_at "go"
        exact k _
end
theorem all_mk {l : PySem.W.OpenLaw} {w : World} {K : PySem.W.Frag} {h : Heap} {mg : Str → Option Value} {fa f0 f1 f2 f3 f4 f5 f6 f7 f8 f9 f10 f11 f12 f13 f14 f15 f16 f17 f18 f19 f20 f21 f22 f23 f24 f25 f26 f27 f28 f29 f30 f31 f32 f33 f34 f35 f36 f37 f38 f39 f40 f41 f42 f43 f44 f45 f46 f47 f48 f49 f50 f51 f52 : Addr} (X : K.In h) (G : h.Ns mainGlobals mg) (hfa : mg "law" = some (.ref fa))
    {od0 od1 od2 od3 od4 od5 od6 od7 od8 od9 od10 od11 od12 od13 od14 od15 od16 od17 od18 od19 od20 od21 od22 od23 od24 od25 od26 od27 od28 od29 od30 od31 od32 od33 od34 od35 od36 od37 od38 od39 od40 od41 od42 od43 od44 od45 od46 od47 od48 od49 od50 od51 od52 an0 an1 an2 an3 an4 an5 an6 an7 an8 an9 an10 an11 an12 an13 an14 an15 an16 an17 an18 an19 an20 an21 an22 an23 an24 an25 an26 an27 an28 an29 an30 an31 an32 an33 an34 an35 an36 an37 an38 an39 an40 an41 an42 an43 an44 an45 an46 an47 an48 an49 an50 an51 an52 : Option Addr} {sl0 sl1 sl2 sl3 sl4 sl5 sl6 sl7 sl8 sl9 sl10 sl11 sl12 sl13 sl14 sl15 sl16 sl17 sl18 sl19 sl20 sl21 sl22 sl23 sl24 sl25 sl26 sl27 sl28 sl29 sl30 sl31 sl32 sl33 sl34 sl35 sl36 sl37 sl38 sl39 sl40 sl41 sl42 sl43 sl44 sl45 sl46 sl47 sl48 sl49 sl50 sl51 sl52 : Array (Option Value)} {oc0 oc1 oc2 oc3 oc4 oc5 oc6 oc7 oc8 oc9 oc10 oc11 oc12 oc13 oc14 oc15 oc16 oc17 oc18 oc19 oc20 oc21 oc22 oc23 oc24 oc25 oc26 oc27 oc28 oc29 oc30 oc31 oc32 oc33 oc34 oc35 oc36 oc37 oc38 oc39 oc40 oc41 oc42 oc43 oc44 oc45 oc46 oc47 oc48 oc49 oc50 oc51 oc52 kV0 kV1 kV2 kV3 kV4 kV5 kV6 kV7 kV8 kV9 kV10 kV11 kV12 kV13 kV14 kV15 kV16 kV17 kV18 kV19 kV20 kV21 kV22 kV23 kV24 kV25 kV26 kV27 kV28 kV29 kV30 kV31 kV32 kV33 kV34 kV35 kV36 kV37 kV38 kV39 kV40 kV41 kV42 kV43 kV44 kV45 kV46 kV47 kV48 kV49 kV50 kV51 kV52 dc0 dc1 dc2 dc3 dc4 dc5 dc6 dc7 dc8 dc9 dc10 dc11 dc12 dc13 dc14 dc15 dc16 dc17 dc18 dc19 dc20 dc21 dc22 dc23 dc24 dc25 dc26 dc27 dc28 dc29 dc30 dc31 dc32 dc33 dc34 dc35 dc36 dc37 dc38 dc39 dc40 dc41 dc42 dc43 dc44 dc45 dc46 dc47 dc48 dc49 dc50 dc51 dc52 pm0 pm1 pm2 pm3 pm4 pm5 pm6 pm7 pm8 pm9 pm10 pm11 pm12 pm13 pm14 pm15 pm16 pm17 pm18 pm19 pm20 pm21 pm22 pm23 pm24 pm25 pm26 pm27 pm28 pm29 pm30 pm31 pm32 pm33 pm34 pm35 pm36 pm37 pm38 pm39 pm40 pm41 pm42 pm43 pm44 pm45 pm46 pm47 pm48 pm49 pm50 pm51 pm52 cd0 cd1 cd2 cd3 cd4 cd5 cd6 cd7 cd8 cd9 cd10 cd11 cd12 cd13 cd14 cd15 cd16 cd17 cd18 cd19 cd21 cd22 cd23 cd24 cd25 cd26 cd27 cd28 cd29 cd30 cd31 cd32 cd33 cd34 cd35 cd36 cd37 cd38 cd39 cd40 cd41 cd42 cd43 cd44 cd45 cd46 cd47 cd48 cd49 cd50 cd51 cd52 ct0 ct1 ct2 ct3 ct4 ct5 ct6 ct7 ct8 ct9 ct10 ct11 ct12 ct13 ct14 ct15 ct16 ct17 ct18 ct19 ct20 ct21 ct22 ct23 ct24 ct25 ct26 ct27 ct28 ct29 ct30 ct31 ct32 ct33 ct34 ct35 ct36 ct37 ct38 ct39 ct40 ct41 ct42 ct43 ct44 ct45 ct46 ct47 ct48 ct49 ct50 ct51 ct52 : Value} {cc20 PT20 : Addr} {hc20 : Value} {hd20 : Option Addr} {hv20 : Array Value} {hs20 : Array (Option Value)} {t_0 t_1 t_2 t_3 t_4 t_5 t_6 : Tok}{C_NoRow C_NoPlain C_NoSpan C_NoTurning C_NoPlace C_NoStretches C_PaneError C_Tally C_Asks C_Board C_Costs I_NoRow I_NoPlain I_NoSpan I_NoTurning I_NoPlace I_NoStretches : Addr} {xn_NoRow xn_NoPlain xn_NoSpan xn_NoTurning xn_NoPlace xn_NoStretches xq_NoRow xq_NoPlain xq_NoSpan xq_NoTurning xq_NoPlace xq_NoStretches : Str} {xN_NoRow xN_NoPlain xN_NoSpan xN_NoTurning xN_NoPlace xN_NoStretches : Addr} {xb_NoRow xb_NoPlain xb_NoSpan xb_NoTurning xb_NoPlace xb_NoStretches xu_NoRow xu_NoPlain xu_NoSpan xu_NoTurning xu_NoPlace xu_NoStretches : List Value} {xs_NoRow xs_NoPlain xs_NoSpan xs_NoTurning xs_NoPlace xs_NoStretches : List Str} {xa_NoRow xa_NoPlain xa_NoSpan xa_NoTurning xa_NoPlace xa_NoStretches : Bool} {xc_NoRow xc_NoPlain xc_NoSpan xc_NoTurning xc_NoPlace xc_NoStretches : Option Bool} {xd_NoRow xd_NoPlain xd_NoSpan xd_NoTurning xd_NoPlace xd_NoStretches Iod_NoRow Iod_NoPlain Iod_NoSpan Iod_NoTurning Iod_NoPlace Iod_NoStretches Ian_NoRow Ian_NoPlain Ian_NoSpan Ian_NoTurning Ian_NoPlace Ian_NoStretches : Option Addr} {xk0_NoRow xk0_NoPlain xk0_NoSpan xk0_NoTurning xk0_NoPlace xk0_NoStretches xk1_NoRow xk1_NoPlain xk1_NoSpan xk1_NoTurning xk1_NoPlace xk1_NoStretches xk2_NoRow xk2_NoPlain xk2_NoSpan xk2_NoTurning xk2_NoPlace xk2_NoStretches xk3_NoRow xk3_NoPlain xk3_NoSpan xk3_NoTurning xk3_NoPlace xk3_NoStretches xk5_NoRow xk5_NoPlain xk5_NoSpan xk5_NoTurning xk5_NoPlace xk5_NoStretches : Option Value} {Ioc_NoRow Ioc_NoPlain Ioc_NoSpan Ioc_NoTurning Ioc_NoPlace Ioc_NoStretches IkV_NoRow IkV_NoPlain IkV_NoSpan IkV_NoTurning IkV_NoPlace IkV_NoStretches Idc_NoRow Idc_NoPlain Idc_NoSpan Idc_NoTurning Idc_NoPlace Idc_NoStretches Ipm_NoRow Ipm_NoPlain Ipm_NoSpan Ipm_NoTurning Ipm_NoPlace Ipm_NoStretches Icd_NoRow Icd_NoPlain Icd_NoSpan Icd_NoTurning Icd_NoPlace Icd_NoStretches Ict_NoRow Ict_NoPlain Ict_NoSpan Ict_NoTurning Ict_NoPlace Ict_NoStretches : Value} {Isl_NoRow Isl_NoPlain Isl_NoSpan Isl_NoTurning Isl_NoPlace Isl_NoStretches : Array (Option Value)} 
    (a0 : PySem.W.nsIn K mainGlobals "is_whole" = some (some (.ref f0)))
    (l0 : K.lookup f0 = some ⟨oc0, od0, .func (PySem.W.fnOf "is_whole" "is_whole" (defArgs s_is_whole) (defBody s_is_whole) (defScope s_is_whole) .none kV0 dc0 pm0 an0 cd0 ct0), sl0⟩)
    (c0 : PySem.W.codeIn K cd0 "is_whole" = true) (k0 : PySem.W.keepIn K (.ref f0) = true)
    (a1 : PySem.W.nsIn K mainGlobals "is_within" = some (some (.ref f1)))
    (l1 : K.lookup f1 = some ⟨oc1, od1, .func (PySem.W.fnOf "is_within" "is_within" (defArgs s_is_within) (defBody s_is_within) (defScope s_is_within) .none kV1 dc1 pm1 an1 cd1 ct1), sl1⟩)
    (c1 : PySem.W.codeIn K cd1 "is_within" = true) (k1 : PySem.W.keepIn K (.ref f1) = true)
    (a2 : PySem.W.nsIn K mainGlobals "is_row" = some (some (.ref f2)))
    (l2 : K.lookup f2 = some ⟨oc2, od2, .func (PySem.W.fnOf "is_row" "is_row" (defArgs s_is_row) (defBody s_is_row) (defScope s_is_row) .none kV2 dc2 pm2 an2 cd2 ct2), sl2⟩)
    (c2 : PySem.W.codeIn K cd2 "is_row" = true) (k2 : PySem.W.keepIn K (.ref f2) = true)
    (a3 : PySem.W.nsIn K mainGlobals "is_plain" = some (some (.ref f3)))
    (l3 : K.lookup f3 = some ⟨oc3, od3, .func (PySem.W.fnOf "is_plain" "is_plain" (defArgs s_is_plain) (defBody s_is_plain) (defScope s_is_plain) .none kV3 dc3 pm3 an3 cd3 ct3), sl3⟩)
    (c3 : PySem.W.codeIn K cd3 "is_plain" = true) (k3 : PySem.W.keepIn K (.ref f3) = true)
    (a4 : PySem.W.nsIn K mainGlobals "need_row" = some (some (.ref f4)))
    (l4 : K.lookup f4 = some ⟨oc4, od4, .func (PySem.W.fnOf "need_row" "need_row" (defArgs s_need_row) (defBody s_need_row) (defScope s_need_row) .none kV4 dc4 pm4 an4 cd4 ct4), sl4⟩)
    (c4 : PySem.W.codeIn K cd4 "need_row" = true) (k4 : PySem.W.keepIn K (.ref f4) = true)
    (a5 : PySem.W.nsIn K mainGlobals "need_rows" = some (some (.ref f5)))
    (l5 : K.lookup f5 = some ⟨oc5, od5, .func (PySem.W.fnOf "need_rows" "need_rows" (defArgs s_need_rows) (defBody s_need_rows) (defScope s_need_rows) .none kV5 dc5 pm5 an5 cd5 ct5), sl5⟩)
    (c5 : PySem.W.codeIn K cd5 "need_rows" = true) (k5 : PySem.W.keepIn K (.ref f5) = true)
    (a6 : PySem.W.nsIn K mainGlobals "need_plain" = some (some (.ref f6)))
    (l6 : K.lookup f6 = some ⟨oc6, od6, .func (PySem.W.fnOf "need_plain" "need_plain" (defArgs s_need_plain) (defBody s_need_plain) (defScope s_need_plain) .none kV6 dc6 pm6 an6 cd6 ct6), sl6⟩)
    (c6 : PySem.W.codeIn K cd6 "need_plain" = true) (k6 : PySem.W.keepIn K (.ref f6) = true)
    (a7 : PySem.W.nsIn K mainGlobals "need_span" = some (some (.ref f7)))
    (l7 : K.lookup f7 = some ⟨oc7, od7, .func (PySem.W.fnOf "need_span" "need_span" (defArgs s_need_span) (defBody s_need_span) (defScope s_need_span) .none kV7 dc7 pm7 an7 cd7 ct7), sl7⟩)
    (c7 : PySem.W.codeIn K cd7 "need_span" = true) (k7 : PySem.W.keepIn K (.ref f7) = true)
    (a8 : PySem.W.nsIn K mainGlobals "parted" = some (some (.ref f8)))
    (l8 : K.lookup f8 = some ⟨oc8, od8, .func (PySem.W.fnOf "parted" "parted" (defArgs s_parted) (defBody s_parted) (defScope s_parted) .none kV8 dc8 pm8 an8 cd8 ct8), sl8⟩)
    (c8 : PySem.W.codeIn K cd8 "parted" = true) (k8 : PySem.W.keepIn K (.ref f8) = true)
    (a9 : PySem.W.nsIn K mainGlobals "led" = some (some (.ref f9)))
    (l9 : K.lookup f9 = some ⟨oc9, od9, .func (PySem.W.fnOf "led" "led" (defArgs s_led) (defBody s_led) (defScope s_led) .none kV9 dc9 pm9 an9 cd9 ct9), sl9⟩)
    (c9 : PySem.W.codeIn K cd9 "led" = true) (k9 : PySem.W.keepIn K (.ref f9) = true)
    (a10 : PySem.W.nsIn K mainGlobals "is_turning" = some (some (.ref f10)))
    (l10 : K.lookup f10 = some ⟨oc10, od10, .func (PySem.W.fnOf "is_turning" "is_turning" (defArgs s_is_turning) (defBody s_is_turning) (defScope s_is_turning) .none kV10 dc10 pm10 an10 cd10 ct10), sl10⟩)
    (c10 : PySem.W.codeIn K cd10 "is_turning" = true) (k10 : PySem.W.keepIn K (.ref f10) = true)
    (a11 : PySem.W.nsIn K mainGlobals "need_turning" = some (some (.ref f11)))
    (l11 : K.lookup f11 = some ⟨oc11, od11, .func (PySem.W.fnOf "need_turning" "need_turning" (defArgs s_need_turning) (defBody s_need_turning) (defScope s_need_turning) .none kV11 dc11 pm11 an11 cd11 ct11), sl11⟩)
    (c11 : PySem.W.codeIn K cd11 "need_turning" = true) (k11 : PySem.W.keepIn K (.ref f11) = true)
    (a12 : PySem.W.nsIn K mainGlobals "need_place" = some (some (.ref f12)))
    (l12 : K.lookup f12 = some ⟨oc12, od12, .func (PySem.W.fnOf "need_place" "need_place" (defArgs s_need_place) (defBody s_need_place) (defScope s_need_place) .none kV12 dc12 pm12 an12 cd12 ct12), sl12⟩)
    (c12 : PySem.W.codeIn K cd12 "need_place" = true) (k12 : PySem.W.keepIn K (.ref f12) = true)
    (a13 : PySem.W.nsIn K mainGlobals "opposite" = some (some (.ref f13)))
    (l13 : K.lookup f13 = some ⟨oc13, od13, .func (PySem.W.fnOf "opposite" "opposite" (defArgs s_opposite) (defBody s_opposite) (defScope s_opposite) .none kV13 dc13 pm13 an13 cd13 ct13), sl13⟩)
    (c13 : PySem.W.codeIn K cd13 "opposite" = true) (k13 : PySem.W.keepIn K (.ref f13) = true)
    (a14 : PySem.W.nsIn K mainGlobals "mixed" = some (some (.ref f14)))
    (l14 : K.lookup f14 = some ⟨oc14, od14, .func (PySem.W.fnOf "mixed" "mixed" (defArgs s_mixed) (defBody s_mixed) (defScope s_mixed) .none kV14 dc14 pm14 an14 cd14 ct14), sl14⟩)
    (c14 : PySem.W.codeIn K cd14 "mixed" = true) (k14 : PySem.W.keepIn K (.ref f14) = true)
    (a15 : PySem.W.nsIn K mainGlobals "floors_of" = some (some (.ref f15)))
    (l15 : K.lookup f15 = some ⟨oc15, od15, .func (PySem.W.fnOf "floors_of" "floors_of" (defArgs s_floors_of) (defBody s_floors_of) (defScope s_floors_of) .none kV15 dc15 pm15 an15 cd15 ct15), sl15⟩)
    (c15 : PySem.W.codeIn K cd15 "floors_of" = true) (k15 : PySem.W.keepIn K (.ref f15) = true)
    (a16 : PySem.W.nsIn K mainGlobals "lesser" = some (some (.ref f16)))
    (l16 : K.lookup f16 = some ⟨oc16, od16, .func (PySem.W.fnOf "lesser" "lesser" (defArgs s_lesser) (defBody s_lesser) (defScope s_lesser) .none kV16 dc16 pm16 an16 cd16 ct16), sl16⟩)
    (c16 : PySem.W.codeIn K cd16 "lesser" = true) (k16 : PySem.W.keepIn K (.ref f16) = true)
    (a17 : PySem.W.nsIn K mainGlobals "need_window" = some (some (.ref f17)))
    (l17 : K.lookup f17 = some ⟨oc17, od17, .func (PySem.W.fnOf "need_window" "need_window" (defArgs s_need_window) (defBody s_need_window) (defScope s_need_window) .none kV17 dc17 pm17 an17 cd17 ct17), sl17⟩)
    (c17 : PySem.W.codeIn K cd17 "need_window" = true) (k17 : PySem.W.keepIn K (.ref f17) = true)
    (a18 : PySem.W.findIn K (.ref C_Tally) "__init__" = some (some (.ref f18))) (i18 : PySem.W.isFn K (.ref f18) = true)
    (l18 : K.lookup f18 = some ⟨oc18, od18, .func (PySem.W.fnOf "__init__" "Tally.__init__" (defArgs s_Tally_init) (defBody s_Tally_init) (defScope s_Tally_init) .none kV18 dc18 pm18 an18 cd18 ct18), sl18⟩)
    (c18 : PySem.W.codeIn K cd18 "Tally.__init__" = true) (k18 : PySem.W.keepIn K (.ref f18) = true)
    (a19 : PySem.W.findIn K (.ref C_Asks) "__init__" = some (some (.ref f19))) (i19 : PySem.W.isFn K (.ref f19) = true)
    (l19 : K.lookup f19 = some ⟨oc19, od19, .func (PySem.W.fnOf "__init__" "Asks.__init__" (defArgs s_Asks_init) (defBody s_Asks_init) (defScope s_Asks_init) .none kV19 dc19 pm19 an19 cd19 ct19), sl19⟩)
    (c19 : PySem.W.codeIn K cd19 "Asks.__init__" = true) (k19 : PySem.W.keepIn K (.ref f19) = true)
    (a20 : PySem.W.findIn K (.ref C_Board) "__init__" = some (some (.ref f20))) (i20 : PySem.W.isFn K (.ref f20) = true)
    (l20 : K.lookup f20 = some ⟨oc20, od20, .func (PySem.W.fnOf "__init__" "Board.__init__" (defArgs s_Board_init) (defBody s_Board_init) (defScope s_Board_init) .none kV20 dc20 pm20 an20 (.ref cc20) ct20), sl20⟩)
    (c20 : PySem.W.codeIn K (.ref cc20) "Board.__init__" = true) (k20 : PySem.W.keepIn K (.ref f20) = true)
    (h20 : K.lookup cc20 = some ⟨hc20, hd20, .fields hv20, hs20⟩) (p20 : (hv20[11]? : Option Value) = some (.ref PT20)) (g20 : PySem.W.codeHdIn K cc20 PT20 = true) (n20 : K.lookup PT20 = none) (t20 : h.get? PT20 = some { cls := .none, data := .fields #[] })
    (a21 : PySem.W.findIn K (.ref C_Board) "lines" = some (some (.ref f21))) (i21 : PySem.W.isFn K (.ref f21) = true)
    (l21 : K.lookup f21 = some ⟨oc21, od21, .func (PySem.W.fnOf "lines" "Board.lines" (defArgs s_Board_lines) (defBody s_Board_lines) (defScope s_Board_lines) .none kV21 dc21 pm21 an21 cd21 ct21), sl21⟩)
    (c21 : PySem.W.codeIn K cd21 "Board.lines" = true) (k21 : PySem.W.keepIn K (.ref f21) = true)
    (a22 : PySem.W.nsIn K mainGlobals "asks_of" = some (some (.ref f22)))
    (l22 : K.lookup f22 = some ⟨oc22, od22, .func (PySem.W.fnOf "asks_of" "asks_of" (defArgs s_asks_of) (defBody s_asks_of) (defScope s_asks_of) .none kV22 dc22 pm22 an22 cd22 ct22), sl22⟩)
    (c22 : PySem.W.codeIn K cd22 "asks_of" = true) (k22 : PySem.W.keepIn K (.ref f22) = true)
    (a23 : PySem.W.nsIn K mainGlobals "need_plains" = some (some (.ref f23)))
    (l23 : K.lookup f23 = some ⟨oc23, od23, .func (PySem.W.fnOf "need_plains" "need_plains" (defArgs s_need_plains) (defBody s_need_plains) (defScope s_need_plains) .none kV23 dc23 pm23 an23 cd23 ct23), sl23⟩)
    (c23 : PySem.W.codeIn K cd23 "need_plains" = true) (k23 : PySem.W.keepIn K (.ref f23) = true)
    (a24 : PySem.W.nsIn K mainGlobals "need_limit" = some (some (.ref f24)))
    (l24 : K.lookup f24 = some ⟨oc24, od24, .func (PySem.W.fnOf "need_limit" "need_limit" (defArgs s_need_limit) (defBody s_need_limit) (defScope s_need_limit) .none kV24 dc24 pm24 an24 cd24 ct24), sl24⟩)
    (c24 : PySem.W.codeIn K cd24 "need_limit" = true) (k24 : PySem.W.keepIn K (.ref f24) = true)
    (a25 : PySem.W.nsIn K mainGlobals "ranked" = some (some (.ref f25)))
    (l25 : K.lookup f25 = some ⟨oc25, od25, .func (PySem.W.fnOf "ranked" "ranked" (defArgs s_ranked) (defBody s_ranked) (defScope s_ranked) .none kV25 dc25 pm25 an25 cd25 ct25), sl25⟩)
    (c25 : PySem.W.codeIn K cd25 "ranked" = true) (k25 : PySem.W.keepIn K (.ref f25) = true)
    (a26 : PySem.W.findIn K (.ref C_Asks) "gains" = some (some (.ref f26))) (i26 : PySem.W.isFn K (.ref f26) = true)
    (l26 : K.lookup f26 = some ⟨oc26, od26, .func (PySem.W.fnOf "gains" "Asks.gains" (defArgs s_Asks_gains) (defBody s_Asks_gains) (defScope s_Asks_gains) .none kV26 dc26 pm26 an26 cd26 ct26), sl26⟩)
    (c26 : PySem.W.codeIn K cd26 "Asks.gains" = true) (k26 : PySem.W.keepIn K (.ref f26) = true)
    (a27 : PySem.W.findIn K (.ref C_Tally) "from_on" = some (some (.ref f27))) (i27 : PySem.W.isFn K (.ref f27) = true)
    (l27 : K.lookup f27 = some ⟨oc27, od27, .func (PySem.W.fnOf "from_on" "Tally.from_on" (defArgs s_Tally_from_on) (defBody s_Tally_from_on) (defScope s_Tally_from_on) .none kV27 dc27 pm27 an27 cd27 ct27), sl27⟩)
    (c27 : PySem.W.codeIn K cd27 "Tally.from_on" = true) (k27 : PySem.W.keepIn K (.ref f27) = true)
    (a28 : PySem.W.findIn K (.ref C_Tally) "below" = some (some (.ref f28))) (i28 : PySem.W.isFn K (.ref f28) = true)
    (l28 : K.lookup f28 = some ⟨oc28, od28, .func (PySem.W.fnOf "below" "Tally.below" (defArgs s_Tally_below) (defBody s_Tally_below) (defScope s_Tally_below) .none kV28 dc28 pm28 an28 cd28 ct28), sl28⟩)
    (c28 : PySem.W.codeIn K cd28 "Tally.below" = true) (k28 : PySem.W.keepIn K (.ref f28) = true)
    (a29 : PySem.W.findIn K (.ref C_Asks) "window" = some (some (.ref f29))) (i29 : PySem.W.isFn K (.ref f29) = true)
    (l29 : K.lookup f29 = some ⟨oc29, od29, .func (PySem.W.fnOf "window" "Asks.window" (defArgs s_Asks_window) (defBody s_Asks_window) (defScope s_Asks_window) .none kV29 dc29 pm29 an29 cd29 ct29), sl29⟩)
    (c29 : PySem.W.codeIn K cd29 "Asks.window" = true) (k29 : PySem.W.keepIn K (.ref f29) = true)
    (a30 : PySem.W.findIn K (.ref C_Asks) "stretch" = some (some (.ref f30))) (i30 : PySem.W.isFn K (.ref f30) = true)
    (l30 : K.lookup f30 = some ⟨oc30, od30, .func (PySem.W.fnOf "stretch" "Asks.stretch" (defArgs s_Asks_stretch) (defBody s_Asks_stretch) (defScope s_Asks_stretch) .none kV30 dc30 pm30 an30 cd30 ct30), sl30⟩)
    (c30 : PySem.W.codeIn K cd30 "Asks.stretch" = true) (k30 : PySem.W.keepIn K (.ref f30) = true)
    (a31 : PySem.W.findIn K (.ref C_Asks) "table" = some (some (.ref f31))) (i31 : PySem.W.isFn K (.ref f31) = true)
    (l31 : K.lookup f31 = some ⟨oc31, od31, .func (PySem.W.fnOf "table" "Asks.table" (defArgs s_Asks_table) (defBody s_Asks_table) (defScope s_Asks_table) .none kV31 dc31 pm31 an31 cd31 ct31), sl31⟩)
    (c31 : PySem.W.codeIn K cd31 "Asks.table" = true) (k31 : PySem.W.keepIn K (.ref f31) = true)
    (a32 : PySem.W.findIn K (.ref C_Costs) "__init__" = some (some (.ref f32))) (i32 : PySem.W.isFn K (.ref f32) = true)
    (l32 : K.lookup f32 = some ⟨oc32, od32, .func (PySem.W.fnOf "__init__" "Costs.__init__" (defArgs s_Costs_init) (defBody s_Costs_init) (defScope s_Costs_init) .none kV32 dc32 pm32 an32 cd32 ct32), sl32⟩)
    (c32 : PySem.W.codeIn K cd32 "Costs.__init__" = true) (k32 : PySem.W.keepIn K (.ref f32) = true)
    (a33 : PySem.W.findIn K (.ref C_Costs) "rows_of" = some (some (.ref f33))) (i33 : PySem.W.isFn K (.ref f33) = true)
    (l33 : K.lookup f33 = some ⟨oc33, od33, .func (PySem.W.fnOf "rows_of" "Costs.rows_of" (defArgs s_Costs_rows_of) (defBody s_Costs_rows_of) (defScope s_Costs_rows_of) .none kV33 dc33 pm33 an33 cd33 ct33), sl33⟩)
    (c33 : PySem.W.codeIn K cd33 "Costs.rows_of" = true) (k33 : PySem.W.keepIn K (.ref f33) = true)
    (a34 : PySem.W.nsIn K mainGlobals "near" = some (some (.ref f34)))
    (l34 : K.lookup f34 = some ⟨oc34, od34, .func (PySem.W.fnOf "near" "near" (defArgs s_near) (defBody s_near) (defScope s_near) .none kV34 dc34 pm34 an34 cd34 ct34), sl34⟩)
    (c34 : PySem.W.codeIn K cd34 "near" = true) (k34 : PySem.W.keepIn K (.ref f34) = true)
    (a35 : PySem.W.nsIn K mainGlobals "is_worthy" = some (some (.ref f35)))
    (l35 : K.lookup f35 = some ⟨oc35, od35, .func (PySem.W.fnOf "is_worthy" "is_worthy" (defArgs s_is_worthy) (defBody s_is_worthy) (defScope s_is_worthy) .none kV35 dc35 pm35 an35 cd35 ct35), sl35⟩)
    (c35 : PySem.W.codeIn K cd35 "is_worthy" = true) (k35 : PySem.W.keepIn K (.ref f35) = true)
    (a36 : PySem.W.nsIn K mainGlobals "need_stretches" = some (some (.ref f36)))
    (l36 : K.lookup f36 = some ⟨oc36, od36, .func (PySem.W.fnOf "need_stretches" "need_stretches" (defArgs s_need_stretches) (defBody s_need_stretches) (defScope s_need_stretches) .none kV36 dc36 pm36 an36 cd36 ct36), sl36⟩)
    (c36 : PySem.W.codeIn K cd36 "need_stretches" = true) (k36 : PySem.W.keepIn K (.ref f36) = true)
    (a37 : PySem.W.nsIn K mainGlobals "totals_of" = some (some (.ref f37)))
    (l37 : K.lookup f37 = some ⟨oc37, od37, .func (PySem.W.fnOf "totals_of" "totals_of" (defArgs s_totals_of) (defBody s_totals_of) (defScope s_totals_of) .none kV37 dc37 pm37 an37 cd37 ct37), sl37⟩)
    (c37 : PySem.W.codeIn K cd37 "totals_of" = true) (k37 : PySem.W.keepIn K (.ref f37) = true)
    (a38 : PySem.W.nsIn K mainGlobals "apart" = some (some (.ref f38)))
    (l38 : K.lookup f38 = some ⟨oc38, od38, .func (PySem.W.fnOf "apart" "apart" (defArgs s_apart) (defBody s_apart) (defScope s_apart) .none kV38 dc38 pm38 an38 cd38 ct38), sl38⟩)
    (c38 : PySem.W.codeIn K cd38 "apart" = true) (k38 : PySem.W.keepIn K (.ref f38) = true)
    (a39 : PySem.W.nsIn K mainGlobals "apart_near" = some (some (.ref f39)))
    (l39 : K.lookup f39 = some ⟨oc39, od39, .func (PySem.W.fnOf "apart_near" "apart_near" (defArgs s_apart_near) (defBody s_apart_near) (defScope s_apart_near) .none kV39 dc39 pm39 an39 cd39 ct39), sl39⟩)
    (c39 : PySem.W.codeIn K cd39 "apart_near" = true) (k39 : PySem.W.keepIn K (.ref f39) = true)
    (a40 : PySem.W.nsIn K mainGlobals "_law_at" = some (some (.ref f40)))
    (l40 : K.lookup f40 = some ⟨oc40, od40, .func (PySem.W.fnOf "_law_at" "_law_at" (defArgs s__law_at) (defBody s__law_at) (defScope s__law_at) .none kV40 dc40 pm40 an40 cd40 ct40), sl40⟩)
    (c40 : PySem.W.codeIn K cd40 "_law_at" = true) (k40 : PySem.W.keepIn K (.ref f40) = true)
    (a41 : PySem.W.nsIn K mainGlobals "_law_mix" = some (some (.ref f41)))
    (l41 : K.lookup f41 = some ⟨oc41, od41, .func (PySem.W.fnOf "_law_mix" "_law_mix" (defArgs s__law_mix) (defBody s__law_mix) (defScope s__law_mix) .none kV41 dc41 pm41 an41 cd41 ct41), sl41⟩)
    (c41 : PySem.W.codeIn K cd41 "_law_mix" = true) (k41 : PySem.W.keepIn K (.ref f41) = true)
    (a42 : PySem.W.nsIn K mainGlobals "_law_put" = some (some (.ref f42)))
    (l42 : K.lookup f42 = some ⟨oc42, od42, .func (PySem.W.fnOf "_law_put" "_law_put" (defArgs s__law_put) (defBody s__law_put) (defScope s__law_put) .none kV42 dc42 pm42 an42 cd42 ct42), sl42⟩)
    (c42 : PySem.W.codeIn K cd42 "_law_put" = true) (k42 : PySem.W.keepIn K (.ref f42) = true)
    (a43 : PySem.W.nsIn K mainGlobals "_law_two" = some (some (.ref f43)))
    (l43 : K.lookup f43 = some ⟨oc43, od43, .func (PySem.W.fnOf "_law_two" "_law_two" (defArgs s__law_two) (defBody s__law_two) (defScope s__law_two) .none kV43 dc43 pm43 an43 cd43 ct43), sl43⟩)
    (c43 : PySem.W.codeIn K cd43 "_law_two" = true) (k43 : PySem.W.keepIn K (.ref f43) = true)
    (a44 : PySem.W.nsIn K mainGlobals "_law_whole" = some (some (.ref f44)))
    (l44 : K.lookup f44 = some ⟨oc44, od44, .func (PySem.W.fnOf "_law_whole" "_law_whole" (defArgs s__law_whole) (defBody s__law_whole) (defScope s__law_whole) .none kV44 dc44 pm44 an44 cd44 ct44), sl44⟩)
    (c44 : PySem.W.codeIn K cd44 "_law_whole" = true) (k44 : PySem.W.keepIn K (.ref f44) = true)
    (a45 : PySem.W.nsIn K mainGlobals "_law_best" = some (some (.ref f45)))
    (l45 : K.lookup f45 = some ⟨oc45, od45, .func (PySem.W.fnOf "_law_best" "_law_best" (defArgs s__law_best) (defBody s__law_best) (defScope s__law_best) .none kV45 dc45 pm45 an45 cd45 ct45), sl45⟩)
    (c45 : PySem.W.codeIn K cd45 "_law_best" = true) (k45 : PySem.W.keepIn K (.ref f45) = true)
    (a46 : PySem.W.nsIn K mainGlobals "_law_chosen" = some (some (.ref f46)))
    (l46 : K.lookup f46 = some ⟨oc46, od46, .func (PySem.W.fnOf "_law_chosen" "_law_chosen" (defArgs s__law_chosen) (defBody s__law_chosen) (defScope s__law_chosen) .none kV46 dc46 pm46 an46 cd46 ct46), sl46⟩)
    (c46 : PySem.W.codeIn K cd46 "_law_chosen" = true) (k46 : PySem.W.keepIn K (.ref f46) = true)
    (a47 : PySem.W.nsIn K mainGlobals "_law_prices" = some (some (.ref f47)))
    (l47 : K.lookup f47 = some ⟨oc47, od47, .func (PySem.W.fnOf "_law_prices" "_law_prices" (defArgs s__law_prices) (defBody s__law_prices) (defScope s__law_prices) .none kV47 dc47 pm47 an47 cd47 ct47), sl47⟩)
    (c47 : PySem.W.codeIn K cd47 "_law_prices" = true) (k47 : PySem.W.keepIn K (.ref f47) = true)
    (a48 : PySem.W.nsIn K mainGlobals "_law_right" = some (some (.ref f48)))
    (l48 : K.lookup f48 = some ⟨oc48, od48, .func (PySem.W.fnOf "_law_right" "_law_right" (defArgs s__law_right) (defBody s__law_right) (defScope s__law_right) .none kV48 dc48 pm48 an48 cd48 ct48), sl48⟩)
    (c48 : PySem.W.codeIn K cd48 "_law_right" = true) (k48 : PySem.W.keepIn K (.ref f48) = true)
    (a49 : PySem.W.nsIn K mainGlobals "_law_costs" = some (some (.ref f49)))
    (l49 : K.lookup f49 = some ⟨oc49, od49, .func (PySem.W.fnOf "_law_costs" "_law_costs" (defArgs s__law_costs) (defBody s__law_costs) (defScope s__law_costs) .none kV49 dc49 pm49 an49 cd49 ct49), sl49⟩)
    (c49 : PySem.W.codeIn K cd49 "_law_costs" = true) (k49 : PySem.W.keepIn K (.ref f49) = true)
    (a50 : PySem.W.nsIn K mainGlobals "_law_spans" = some (some (.ref f50)))
    (l50 : K.lookup f50 = some ⟨oc50, od50, .func (PySem.W.fnOf "_law_spans" "_law_spans" (defArgs s__law_spans) (defBody s__law_spans) (defScope s__law_spans) .none kV50 dc50 pm50 an50 cd50 ct50), sl50⟩)
    (c50 : PySem.W.codeIn K cd50 "_law_spans" = true) (k50 : PySem.W.keepIn K (.ref f50) = true)
    (a51 : PySem.W.nsIn K mainGlobals "_law_refused" = some (some (.ref f51)))
    (l51 : K.lookup f51 = some ⟨oc51, od51, .func (PySem.W.fnOf "_law_refused" "_law_refused" (defArgs s__law_refused) (defBody s__law_refused) (defScope s__law_refused) .none kV51 dc51 pm51 an51 cd51 ct51), sl51⟩)
    (c51 : PySem.W.codeIn K cd51 "_law_refused" = true) (k51 : PySem.W.keepIn K (.ref f51) = true)
    (a52 : PySem.W.nsIn K mainGlobals "law" = some (some (.ref f52)))
    (l52 : K.lookup f52 = some ⟨oc52, od52, .func (PySem.W.fnOf "law" "law" (defArgs s_law) (defBody s_law) (defScope s_law) .none kV52 dc52 pm52 an52 cd52 ct52), sl52⟩)
    (c52 : PySem.W.codeIn K cd52 "law" = true) (k52 : PySem.W.keepIn K (.ref f52) = true)
    (cn0 : PySem.W.nsIn K mainGlobals "MOST_SIGNS" = some (some (.int 48 t_0)))
    (cn1 : PySem.W.nsIn K mainGlobals "LETTERS" = some (some (.str "abcdefghijklmnopqrstuvwxyz" t_1)))
    (cn2 : PySem.W.nsIn K mainGlobals "MOST_LETTERS" = some (some (.int 24 t_2)))
    (cn3 : PySem.W.nsIn K mainGlobals "MOST_LINES" = some (some (.int 96 t_3)))
    (cn4 : PySem.W.nsIn K mainGlobals "MOST_COST" = some (some (.int 48 t_4)))
    (cn5 : PySem.W.nsIn K mainGlobals "MOST_WORTH" = some (some (.int 1000000 t_5)))
    (cn6 : PySem.W.nsIn K mainGlobals "MOST_STRETCHES" = some (some (.int 400 t_6)))
    (z0 : PySem.W.nsIn K mainGlobals "isinstance" = some none)
    (z1 : PySem.W.nsIn K mainGlobals "int" = some none)
    (z2 : PySem.W.nsIn K mainGlobals "bool" = some none)
    (z3 : PySem.W.nsIn K mainGlobals "all" = some none)
    (z4 : PySem.W.nsIn K mainGlobals "str" = some none)
    (z5 : PySem.W.nsIn K mainGlobals "len" = some none)
    (z6 : PySem.W.nsIn K mainGlobals "list" = some none)
    (z7 : PySem.W.nsIn K mainGlobals "range" = some none)
    (z8 : PySem.W.nsIn K mainGlobals "enumerate" = some none)
    (z9 : PySem.W.nsIn K mainGlobals "tuple" = some none)
    (z10 : PySem.W.nsIn K mainGlobals "zip" = some none)
    (z11 : PySem.W.nsIn K mainGlobals "sorted" = some none)
    (z12 : PySem.W.nsIn K mainGlobals "sum" = some none)
    (z13 : PySem.W.nsIn K mainGlobals "min" = some none)
    (g_NoRow : PySem.W.nsIn K mainGlobals "NoRow" = some (some (.ref C_NoRow)))
    (g_NoPlain : PySem.W.nsIn K mainGlobals "NoPlain" = some (some (.ref C_NoPlain)))
    (g_NoSpan : PySem.W.nsIn K mainGlobals "NoSpan" = some (some (.ref C_NoSpan)))
    (g_NoTurning : PySem.W.nsIn K mainGlobals "NoTurning" = some (some (.ref C_NoTurning)))
    (g_NoPlace : PySem.W.nsIn K mainGlobals "NoPlace" = some (some (.ref C_NoPlace)))
    (g_NoStretches : PySem.W.nsIn K mainGlobals "NoStretches" = some (some (.ref C_NoStretches)))
    (g_PaneError : PySem.W.nsIn K mainGlobals "PaneError" = some (some (.ref C_PaneError)))
    (sb_NoPlain : PySem.W.subIn K (.ref C_NoPlain) (.type "BaseException") = some true)
    (hd_NoPlain : PySem.W.hasDictIn K C_NoPlain = true)
    (ty_NoPlain : PySem.W.typeIn K (.ref C_NoPlain) = some (.type "type"))
    (sb_NoPlace : PySem.W.subIn K (.ref C_NoPlace) (.type "BaseException") = some true)
    (hd_NoPlace : PySem.W.hasDictIn K C_NoPlace = true)
    (ty_NoPlace : PySem.W.typeIn K (.ref C_NoPlace) = some (.type "type"))
    (sb_PaneError : PySem.W.subIn K (.ref C_PaneError) (.type "BaseException") = some true)
    (hd_PaneError : PySem.W.hasDictIn K C_PaneError = true)
    (ty_PaneError : PySem.W.typeIn K (.ref C_PaneError) = some (.type "type"))
    (lk_NoRow : K.lookup C_NoRow = some (excClassObj xn_NoRow xq_NoRow C_NoRow xN_NoRow xb_NoRow [.ref C_PaneError, .type "ValueError", .type "Exception", .type "BaseException", .type "object"] true xs_NoRow xu_NoRow xa_NoRow xc_NoRow xd_NoRow xk0_NoRow xk1_NoRow xk2_NoRow xk3_NoRow xk5_NoRow "ValueError.__new__"))
    (f_setattr_NoRow : PySem.W.findIn K (.ref C_NoRow) "__setattr__" = some (some (.builtin "object.__setattr__")))
    (sb_NoRow : PySem.W.subIn K (.ref C_NoRow) (.type "BaseException") = some true)
    (ty_NoRow : PySem.W.typeIn K (.ref C_NoRow) = some (.type "type"))
    (k_NoRow : PySem.W.keepIn K (.ref C_NoRow) = true)
    (f_found_NoRow : PySem.W.findIn K (.ref C_NoRow) "found" = some none)
    (ini_NoRow : PySem.W.findIn K (.ref C_NoRow) "__init__" = some (some (.ref I_NoRow)))
    (int_NoRow : PySem.W.typeIn K (.ref I_NoRow) = some (.type "function"))
    (il_NoRow : K.lookup I_NoRow = some ⟨Ioc_NoRow, Iod_NoRow, .func (PySem.W.fnOf "__init__" "NoRow.__init__" (defArgs si_NoRow) (defBody si_NoRow) (defScope si_NoRow) .none IkV_NoRow Idc_NoRow Ipm_NoRow Ian_NoRow Icd_NoRow Ict_NoRow), Isl_NoRow⟩)
    (ic_NoRow : PySem.W.codeIn K Icd_NoRow "NoRow.__init__" = true)
    (ik_NoRow : PySem.W.keepIn K (.ref I_NoRow) = true)
    (ct_ : PySem.W.specialIn K (.builtin "object.__class__") "__get__" = some (some (.builtin "getset_descriptor.__get__")))
    (cu_ : PySem.W.takesIn K (.builtin "object.__class__") = some true)
    (f_getattribute_NoRow : PySem.W.findIn K (.ref C_NoRow) "__getattribute__" = some (some (.builtin "BaseException.__getattribute__")))
    (f_getattr_NoRow : PySem.W.findIn K (.ref C_NoRow) "__getattr__" = some none)
    (hd_NoRow : PySem.W.hasDictIn K C_NoRow = true)
    (f_class_NoRow : PySem.W.findIn K (.ref C_NoRow) "__class__" = some (some (.builtin "object.__class__")))
    (cm_NoRow : PySem.W.mroIn K C_NoRow (.type "object") = some true)
    (s_NoRow_NoPlain : PySem.W.subIn K (.ref C_NoRow) (.ref C_NoPlain) = some false)
    (s_NoRow_NoPlace : PySem.W.subIn K (.ref C_NoRow) (.ref C_NoPlace) = some false)
    (s_NoRow_PaneError : PySem.W.subIn K (.ref C_NoRow) (.ref C_PaneError) = some true)
    (lk_NoPlain : K.lookup C_NoPlain = some (excClassObj xn_NoPlain xq_NoPlain C_NoPlain xN_NoPlain xb_NoPlain [.ref C_PaneError, .type "ValueError", .type "Exception", .type "BaseException", .type "object"] true xs_NoPlain xu_NoPlain xa_NoPlain xc_NoPlain xd_NoPlain xk0_NoPlain xk1_NoPlain xk2_NoPlain xk3_NoPlain xk5_NoPlain "ValueError.__new__"))
    (f_setattr_NoPlain : PySem.W.findIn K (.ref C_NoPlain) "__setattr__" = some (some (.builtin "object.__setattr__")))
    (k_NoPlain : PySem.W.keepIn K (.ref C_NoPlain) = true)
    (f_found_NoPlain : PySem.W.findIn K (.ref C_NoPlain) "found" = some none)
    (ini_NoPlain : PySem.W.findIn K (.ref C_NoPlain) "__init__" = some (some (.ref I_NoPlain)))
    (int_NoPlain : PySem.W.typeIn K (.ref I_NoPlain) = some (.type "function"))
    (il_NoPlain : K.lookup I_NoPlain = some ⟨Ioc_NoPlain, Iod_NoPlain, .func (PySem.W.fnOf "__init__" "NoPlain.__init__" (defArgs si_NoPlain) (defBody si_NoPlain) (defScope si_NoPlain) .none IkV_NoPlain Idc_NoPlain Ipm_NoPlain Ian_NoPlain Icd_NoPlain Ict_NoPlain), Isl_NoPlain⟩)
    (ic_NoPlain : PySem.W.codeIn K Icd_NoPlain "NoPlain.__init__" = true)
    (ik_NoPlain : PySem.W.keepIn K (.ref I_NoPlain) = true)
    (f_getattribute_NoPlain : PySem.W.findIn K (.ref C_NoPlain) "__getattribute__" = some (some (.builtin "BaseException.__getattribute__")))
    (f_getattr_NoPlain : PySem.W.findIn K (.ref C_NoPlain) "__getattr__" = some none)
    (f_class_NoPlain : PySem.W.findIn K (.ref C_NoPlain) "__class__" = some (some (.builtin "object.__class__")))
    (cm_NoPlain : PySem.W.mroIn K C_NoPlain (.type "object") = some true)
    (s_NoPlain_NoPlain : PySem.W.subIn K (.ref C_NoPlain) (.ref C_NoPlain) = some true)
    (s_NoPlain_NoPlace : PySem.W.subIn K (.ref C_NoPlain) (.ref C_NoPlace) = some false)
    (s_NoPlain_PaneError : PySem.W.subIn K (.ref C_NoPlain) (.ref C_PaneError) = some true)
    (lk_NoSpan : K.lookup C_NoSpan = some (excClassObj xn_NoSpan xq_NoSpan C_NoSpan xN_NoSpan xb_NoSpan [.ref C_PaneError, .type "ValueError", .type "Exception", .type "BaseException", .type "object"] true xs_NoSpan xu_NoSpan xa_NoSpan xc_NoSpan xd_NoSpan xk0_NoSpan xk1_NoSpan xk2_NoSpan xk3_NoSpan xk5_NoSpan "ValueError.__new__"))
    (f_setattr_NoSpan : PySem.W.findIn K (.ref C_NoSpan) "__setattr__" = some (some (.builtin "object.__setattr__")))
    (sb_NoSpan : PySem.W.subIn K (.ref C_NoSpan) (.type "BaseException") = some true)
    (ty_NoSpan : PySem.W.typeIn K (.ref C_NoSpan) = some (.type "type"))
    (k_NoSpan : PySem.W.keepIn K (.ref C_NoSpan) = true)
    (f_begin_NoSpan : PySem.W.findIn K (.ref C_NoSpan) "begin" = some none)
    (f_end_NoSpan : PySem.W.findIn K (.ref C_NoSpan) "end" = some none)
    (ini_NoSpan : PySem.W.findIn K (.ref C_NoSpan) "__init__" = some (some (.ref I_NoSpan)))
    (int_NoSpan : PySem.W.typeIn K (.ref I_NoSpan) = some (.type "function"))
    (il_NoSpan : K.lookup I_NoSpan = some ⟨Ioc_NoSpan, Iod_NoSpan, .func (PySem.W.fnOf "__init__" "NoSpan.__init__" (defArgs si_NoSpan) (defBody si_NoSpan) (defScope si_NoSpan) .none IkV_NoSpan Idc_NoSpan Ipm_NoSpan Ian_NoSpan Icd_NoSpan Ict_NoSpan), Isl_NoSpan⟩)
    (ic_NoSpan : PySem.W.codeIn K Icd_NoSpan "NoSpan.__init__" = true)
    (ik_NoSpan : PySem.W.keepIn K (.ref I_NoSpan) = true)
    (f_getattribute_NoSpan : PySem.W.findIn K (.ref C_NoSpan) "__getattribute__" = some (some (.builtin "BaseException.__getattribute__")))
    (f_getattr_NoSpan : PySem.W.findIn K (.ref C_NoSpan) "__getattr__" = some none)
    (hd_NoSpan : PySem.W.hasDictIn K C_NoSpan = true)
    (f_class_NoSpan : PySem.W.findIn K (.ref C_NoSpan) "__class__" = some (some (.builtin "object.__class__")))
    (cm_NoSpan : PySem.W.mroIn K C_NoSpan (.type "object") = some true)
    (s_NoSpan_NoPlain : PySem.W.subIn K (.ref C_NoSpan) (.ref C_NoPlain) = some false)
    (s_NoSpan_NoPlace : PySem.W.subIn K (.ref C_NoSpan) (.ref C_NoPlace) = some false)
    (s_NoSpan_PaneError : PySem.W.subIn K (.ref C_NoSpan) (.ref C_PaneError) = some true)
    (lk_NoTurning : K.lookup C_NoTurning = some (excClassObj xn_NoTurning xq_NoTurning C_NoTurning xN_NoTurning xb_NoTurning [.ref C_PaneError, .type "ValueError", .type "Exception", .type "BaseException", .type "object"] true xs_NoTurning xu_NoTurning xa_NoTurning xc_NoTurning xd_NoTurning xk0_NoTurning xk1_NoTurning xk2_NoTurning xk3_NoTurning xk5_NoTurning "ValueError.__new__"))
    (f_setattr_NoTurning : PySem.W.findIn K (.ref C_NoTurning) "__setattr__" = some (some (.builtin "object.__setattr__")))
    (sb_NoTurning : PySem.W.subIn K (.ref C_NoTurning) (.type "BaseException") = some true)
    (ty_NoTurning : PySem.W.typeIn K (.ref C_NoTurning) = some (.type "type"))
    (k_NoTurning : PySem.W.keepIn K (.ref C_NoTurning) = true)
    (f_found_NoTurning : PySem.W.findIn K (.ref C_NoTurning) "found" = some none)
    (ini_NoTurning : PySem.W.findIn K (.ref C_NoTurning) "__init__" = some (some (.ref I_NoTurning)))
    (int_NoTurning : PySem.W.typeIn K (.ref I_NoTurning) = some (.type "function"))
    (il_NoTurning : K.lookup I_NoTurning = some ⟨Ioc_NoTurning, Iod_NoTurning, .func (PySem.W.fnOf "__init__" "NoTurning.__init__" (defArgs si_NoTurning) (defBody si_NoTurning) (defScope si_NoTurning) .none IkV_NoTurning Idc_NoTurning Ipm_NoTurning Ian_NoTurning Icd_NoTurning Ict_NoTurning), Isl_NoTurning⟩)
    (ic_NoTurning : PySem.W.codeIn K Icd_NoTurning "NoTurning.__init__" = true)
    (ik_NoTurning : PySem.W.keepIn K (.ref I_NoTurning) = true)
    (f_getattribute_NoTurning : PySem.W.findIn K (.ref C_NoTurning) "__getattribute__" = some (some (.builtin "BaseException.__getattribute__")))
    (f_getattr_NoTurning : PySem.W.findIn K (.ref C_NoTurning) "__getattr__" = some none)
    (hd_NoTurning : PySem.W.hasDictIn K C_NoTurning = true)
    (f_class_NoTurning : PySem.W.findIn K (.ref C_NoTurning) "__class__" = some (some (.builtin "object.__class__")))
    (cm_NoTurning : PySem.W.mroIn K C_NoTurning (.type "object") = some true)
    (s_NoTurning_NoPlain : PySem.W.subIn K (.ref C_NoTurning) (.ref C_NoPlain) = some false)
    (s_NoTurning_NoPlace : PySem.W.subIn K (.ref C_NoTurning) (.ref C_NoPlace) = some false)
    (s_NoTurning_PaneError : PySem.W.subIn K (.ref C_NoTurning) (.ref C_PaneError) = some true)
    (lk_NoPlace : K.lookup C_NoPlace = some (excClassObj xn_NoPlace xq_NoPlace C_NoPlace xN_NoPlace xb_NoPlace [.ref C_PaneError, .type "ValueError", .type "Exception", .type "BaseException", .type "object"] true xs_NoPlace xu_NoPlace xa_NoPlace xc_NoPlace xd_NoPlace xk0_NoPlace xk1_NoPlace xk2_NoPlace xk3_NoPlace xk5_NoPlace "ValueError.__new__"))
    (f_setattr_NoPlace : PySem.W.findIn K (.ref C_NoPlace) "__setattr__" = some (some (.builtin "object.__setattr__")))
    (k_NoPlace : PySem.W.keepIn K (.ref C_NoPlace) = true)
    (f_found_NoPlace : PySem.W.findIn K (.ref C_NoPlace) "found" = some none)
    (ini_NoPlace : PySem.W.findIn K (.ref C_NoPlace) "__init__" = some (some (.ref I_NoPlace)))
    (int_NoPlace : PySem.W.typeIn K (.ref I_NoPlace) = some (.type "function"))
    (il_NoPlace : K.lookup I_NoPlace = some ⟨Ioc_NoPlace, Iod_NoPlace, .func (PySem.W.fnOf "__init__" "NoPlace.__init__" (defArgs si_NoPlace) (defBody si_NoPlace) (defScope si_NoPlace) .none IkV_NoPlace Idc_NoPlace Ipm_NoPlace Ian_NoPlace Icd_NoPlace Ict_NoPlace), Isl_NoPlace⟩)
    (ic_NoPlace : PySem.W.codeIn K Icd_NoPlace "NoPlace.__init__" = true)
    (ik_NoPlace : PySem.W.keepIn K (.ref I_NoPlace) = true)
    (f_getattribute_NoPlace : PySem.W.findIn K (.ref C_NoPlace) "__getattribute__" = some (some (.builtin "BaseException.__getattribute__")))
    (f_getattr_NoPlace : PySem.W.findIn K (.ref C_NoPlace) "__getattr__" = some none)
    (f_class_NoPlace : PySem.W.findIn K (.ref C_NoPlace) "__class__" = some (some (.builtin "object.__class__")))
    (cm_NoPlace : PySem.W.mroIn K C_NoPlace (.type "object") = some true)
    (s_NoPlace_NoPlain : PySem.W.subIn K (.ref C_NoPlace) (.ref C_NoPlain) = some false)
    (s_NoPlace_NoPlace : PySem.W.subIn K (.ref C_NoPlace) (.ref C_NoPlace) = some true)
    (s_NoPlace_PaneError : PySem.W.subIn K (.ref C_NoPlace) (.ref C_PaneError) = some true)
    (lk_NoStretches : K.lookup C_NoStretches = some (excClassObj xn_NoStretches xq_NoStretches C_NoStretches xN_NoStretches xb_NoStretches [.ref C_PaneError, .type "ValueError", .type "Exception", .type "BaseException", .type "object"] true xs_NoStretches xu_NoStretches xa_NoStretches xc_NoStretches xd_NoStretches xk0_NoStretches xk1_NoStretches xk2_NoStretches xk3_NoStretches xk5_NoStretches "ValueError.__new__"))
    (f_setattr_NoStretches : PySem.W.findIn K (.ref C_NoStretches) "__setattr__" = some (some (.builtin "object.__setattr__")))
    (sb_NoStretches : PySem.W.subIn K (.ref C_NoStretches) (.type "BaseException") = some true)
    (ty_NoStretches : PySem.W.typeIn K (.ref C_NoStretches) = some (.type "type"))
    (k_NoStretches : PySem.W.keepIn K (.ref C_NoStretches) = true)
    (f_found_NoStretches : PySem.W.findIn K (.ref C_NoStretches) "found" = some none)
    (ini_NoStretches : PySem.W.findIn K (.ref C_NoStretches) "__init__" = some (some (.ref I_NoStretches)))
    (int_NoStretches : PySem.W.typeIn K (.ref I_NoStretches) = some (.type "function"))
    (il_NoStretches : K.lookup I_NoStretches = some ⟨Ioc_NoStretches, Iod_NoStretches, .func (PySem.W.fnOf "__init__" "NoStretches.__init__" (defArgs si_NoStretches) (defBody si_NoStretches) (defScope si_NoStretches) .none IkV_NoStretches Idc_NoStretches Ipm_NoStretches Ian_NoStretches Icd_NoStretches Ict_NoStretches), Isl_NoStretches⟩)
    (ic_NoStretches : PySem.W.codeIn K Icd_NoStretches "NoStretches.__init__" = true)
    (ik_NoStretches : PySem.W.keepIn K (.ref I_NoStretches) = true)
    (f_getattribute_NoStretches : PySem.W.findIn K (.ref C_NoStretches) "__getattribute__" = some (some (.builtin "BaseException.__getattribute__")))
    (f_getattr_NoStretches : PySem.W.findIn K (.ref C_NoStretches) "__getattr__" = some none)
    (hd_NoStretches : PySem.W.hasDictIn K C_NoStretches = true)
    (f_class_NoStretches : PySem.W.findIn K (.ref C_NoStretches) "__class__" = some (some (.builtin "object.__class__")))
    (cm_NoStretches : PySem.W.mroIn K C_NoStretches (.type "object") = some true)
    (s_NoStretches_NoPlain : PySem.W.subIn K (.ref C_NoStretches) (.ref C_NoPlain) = some false)
    (s_NoStretches_NoPlace : PySem.W.subIn K (.ref C_NoStretches) (.ref C_NoPlace) = some false)
    (s_NoStretches_PaneError : PySem.W.subIn K (.ref C_NoStretches) (.ref C_PaneError) = some true)
    (s_PaneError_PaneError : PySem.W.subIn K (.ref C_PaneError) (.ref C_PaneError) = some true)
    (ba_PaneError : PySem.W.specialIn K (.ref C_PaneError) "__getattribute__" = some (some (.builtin "type.__getattribute__")))
    (br_PaneError : PySem.W.readsIn K C_PaneError (.type "type") = true)
    (bf_PaneError : PySem.W.findCls K (.ref C_PaneError) (.type "type") "__init__" = some (.val (.builtin "ValueError.__init__")))
    (g_Tally : PySem.W.nsIn K mainGlobals "Tally" = some (some (.ref C_Tally)))
    (pg_Tally : PySem.W.plainGet K C_Tally Str.empty = true)
    (hd_Tally : PySem.W.hasDictIn K C_Tally = true)
    (po_Tally : PySem.W.plainOver K C_Tally = true)
    (sa_Tally : PySem.W.findIn K (.ref C_Tally) "__setattr__" = some (some (.builtin "object.__setattr__")))
    (na_Tally_many : PySem.W.findIn K (.ref C_Tally) "many" = some none)
    (na_Tally_floors : PySem.W.findIn K (.ref C_Tally) "floors" = some none)
    (mk_Tally : PySem.W.makesIn K C_Tally = true)
    (kc_Tally : PySem.W.keepIn K (.ref C_Tally) = true)
    (g_Asks : PySem.W.nsIn K mainGlobals "Asks" = some (some (.ref C_Asks)))
    (pg_Asks : PySem.W.plainGet K C_Asks Str.empty = true)
    (hd_Asks : PySem.W.hasDictIn K C_Asks = true)
    (po_Asks : PySem.W.plainOver K C_Asks = true)
    (sa_Asks : PySem.W.findIn K (.ref C_Asks) "__setattr__" = some (some (.builtin "object.__setattr__")))
    (na_Asks_tall : PySem.W.findIn K (.ref C_Asks) "tall" = some none)
    (na_Asks_wide : PySem.W.findIn K (.ref C_Asks) "wide" = some none)
    (na_Asks_tally : PySem.W.findIn K (.ref C_Asks) "tally" = some none)
    (na_Asks_goals : PySem.W.findIn K (.ref C_Asks) "goals" = some none)
    (na_Asks_starts : PySem.W.findIn K (.ref C_Asks) "starts" = some none)
    (mk_Asks : PySem.W.makesIn K C_Asks = true)
    (kc_Asks : PySem.W.keepIn K (.ref C_Asks) = true)
    (g_Board : PySem.W.nsIn K mainGlobals "Board" = some (some (.ref C_Board)))
    (pg_Board : PySem.W.plainGet K C_Board Str.empty = true)
    (hd_Board : PySem.W.hasDictIn K C_Board = true)
    (po_Board : PySem.W.plainOver K C_Board = true)
    (sa_Board : PySem.W.findIn K (.ref C_Board) "__setattr__" = some (some (.builtin "object.__setattr__")))
    (na_Board_left_row : PySem.W.findIn K (.ref C_Board) "left_row" = some none)
    (na_Board_upper_row : PySem.W.findIn K (.ref C_Board) "upper_row" = some none)
    (na_Board_meetings : PySem.W.findIn K (.ref C_Board) "meetings" = some none)
    (na_Board_signs : PySem.W.findIn K (.ref C_Board) "signs" = some none)
    (na_Board_goals : PySem.W.findIn K (.ref C_Board) "goals" = some none)
    (mk_Board : PySem.W.makesIn K C_Board = true)
    (kc_Board : PySem.W.keepIn K (.ref C_Board) = true)
    (g_Costs : PySem.W.nsIn K mainGlobals "Costs" = some (some (.ref C_Costs)))
    (pg_Costs : PySem.W.plainGet K C_Costs Str.empty = true)
    (hd_Costs : PySem.W.hasDictIn K C_Costs = true)
    (po_Costs : PySem.W.plainOver K C_Costs = true)
    (sa_Costs : PySem.W.findIn K (.ref C_Costs) "__setattr__" = some (some (.builtin "object.__setattr__")))
    (na_Costs_turned_row : PySem.W.findIn K (.ref C_Costs) "turned_row" = some none)
    (na_Costs_goal_row : PySem.W.findIn K (.ref C_Costs) "goal_row" = some none)
    (na_Costs_wide : PySem.W.findIn K (.ref C_Costs) "wide" = some none)
    (na_Costs_costs : PySem.W.findIn K (.ref C_Costs) "costs" = some none)
    (mk_Costs : PySem.W.makesIn K C_Costs = true)
    (kc_Costs : PySem.W.keepIn K (.ref C_Costs) = true)
    : LamX.LawAtS l w K CX0 15 63 "_law_script" mg fa h := by
  have e := hfa.symm.trans (PySem.W.mg_of X G a52)
  cases e
  have q_NoRow := clsA_of g_NoRow
  subst q_NoRow
  have q_NoPlain := clsA_of g_NoPlain
  subst q_NoPlain
  have q_NoSpan := clsA_of g_NoSpan
  subst q_NoSpan
  have q_NoTurning := clsA_of g_NoTurning
  subst q_NoTurning
  have q_NoPlace := clsA_of g_NoPlace
  subst q_NoPlace
  have q_NoStretches := clsA_of g_NoStretches
  subst q_NoStretches
  have q_PaneError := clsA_of g_PaneError
  subst q_PaneError
  have q_Tally := clsA_of g_Tally
  subst q_Tally
  have q_Asks := clsA_of g_Asks
  subst q_Asks
  have q_Board := clsA_of g_Board
  subst q_Board
  have q_Costs := clsA_of g_Costs
  subst q_Costs
  refine ⟨PySem.W.fnOf "law" "law" (defArgs s_law) (defBody s_law) (defScope s_law) .none kV52 dc52 pm52 an52 cd52 ct52, [(cc20, PT20)], sp_law K (tabsL (fun i => match i with | 0 => (cc20, PT20) | _ => (cc20, PT20))), (fun p hp => by
    simp only [List.mem_cons, List.not_mem_nil, or_false] at hp
    rcases hp with rfl
    · exact t20), (fun p hp => by
    simp only [List.mem_cons, List.not_mem_nil, or_false] at hp
    rcases hp with rfl
    · exact n20), (fun p hp => by
    simp only [List.mem_cons, List.not_mem_nil, or_false] at hp
    rcases hp with rfl
    · exact PySem.W.codeHd_of_K X g20), fun s v => .of_eq rfl, fun H a ns hl _ hTt hS => ⟨a, ns, rfl, hS, fun p hp => ?_, hl, fun _ => rfl⟩, fun base _ _ hTB => ?_⟩
  · simp only [tabsL, List.mem_cons, List.not_mem_nil, or_false] at hp
    rcases hp with rfl
    · exact LamX.TabS.nil (hTt (cc20, PT20) (by simp))
  have T : Tx K mg (fun i => match i with | 0 => f0 | 1 => f1 | 2 => f2 | 3 => f3 | 4 => f4 | 5 => f5 | 6 => f6 | 7 => f7 | 8 => f8 | 9 => f9 | 10 => f10 | 11 => f11 | 12 => f12 | 13 => f13 | 14 => f14 | 15 => f15 | 16 => f16 | 17 => f17 | 18 => f18 | 19 => f19 | 20 => f20 | 21 => f21 | 22 => f22 | 23 => f23 | 24 => f24 | 25 => f25 | 26 => f26 | 27 => f27 | 28 => f28 | 29 => f29 | 30 => f30 | 31 => f31 | 32 => f32 | 33 => f33 | 34 => f34 | 35 => f35 | 36 => f36 | 37 => f37 | 38 => f38 | 39 => f39 | 40 => f40 | 41 => f41 | 42 => f42 | 43 => f43 | 44 => f44 | 45 => f45 | 46 => f46 | 47 => f47 | 48 => f48 | 49 => f49 | 50 => f50 | 51 => f51 | 52 => fa | _ => f0) (fun i => match i with | 0 => PySem.W.fnOf "is_whole" "is_whole" (defArgs s_is_whole) (defBody s_is_whole) (defScope s_is_whole) .none kV0 dc0 pm0 an0 cd0 ct0 | 1 => PySem.W.fnOf "is_within" "is_within" (defArgs s_is_within) (defBody s_is_within) (defScope s_is_within) .none kV1 dc1 pm1 an1 cd1 ct1 | 2 => PySem.W.fnOf "is_row" "is_row" (defArgs s_is_row) (defBody s_is_row) (defScope s_is_row) .none kV2 dc2 pm2 an2 cd2 ct2 | 3 => PySem.W.fnOf "is_plain" "is_plain" (defArgs s_is_plain) (defBody s_is_plain) (defScope s_is_plain) .none kV3 dc3 pm3 an3 cd3 ct3 | 4 => PySem.W.fnOf "need_row" "need_row" (defArgs s_need_row) (defBody s_need_row) (defScope s_need_row) .none kV4 dc4 pm4 an4 cd4 ct4 | 5 => PySem.W.fnOf "need_rows" "need_rows" (defArgs s_need_rows) (defBody s_need_rows) (defScope s_need_rows) .none kV5 dc5 pm5 an5 cd5 ct5 | 6 => PySem.W.fnOf "need_plain" "need_plain" (defArgs s_need_plain) (defBody s_need_plain) (defScope s_need_plain) .none kV6 dc6 pm6 an6 cd6 ct6 | 7 => PySem.W.fnOf "need_span" "need_span" (defArgs s_need_span) (defBody s_need_span) (defScope s_need_span) .none kV7 dc7 pm7 an7 cd7 ct7 | 8 => PySem.W.fnOf "parted" "parted" (defArgs s_parted) (defBody s_parted) (defScope s_parted) .none kV8 dc8 pm8 an8 cd8 ct8 | 9 => PySem.W.fnOf "led" "led" (defArgs s_led) (defBody s_led) (defScope s_led) .none kV9 dc9 pm9 an9 cd9 ct9 | 10 => PySem.W.fnOf "is_turning" "is_turning" (defArgs s_is_turning) (defBody s_is_turning) (defScope s_is_turning) .none kV10 dc10 pm10 an10 cd10 ct10 | 11 => PySem.W.fnOf "need_turning" "need_turning" (defArgs s_need_turning) (defBody s_need_turning) (defScope s_need_turning) .none kV11 dc11 pm11 an11 cd11 ct11 | 12 => PySem.W.fnOf "need_place" "need_place" (defArgs s_need_place) (defBody s_need_place) (defScope s_need_place) .none kV12 dc12 pm12 an12 cd12 ct12 | 13 => PySem.W.fnOf "opposite" "opposite" (defArgs s_opposite) (defBody s_opposite) (defScope s_opposite) .none kV13 dc13 pm13 an13 cd13 ct13 | 14 => PySem.W.fnOf "mixed" "mixed" (defArgs s_mixed) (defBody s_mixed) (defScope s_mixed) .none kV14 dc14 pm14 an14 cd14 ct14 | 15 => PySem.W.fnOf "floors_of" "floors_of" (defArgs s_floors_of) (defBody s_floors_of) (defScope s_floors_of) .none kV15 dc15 pm15 an15 cd15 ct15 | 16 => PySem.W.fnOf "lesser" "lesser" (defArgs s_lesser) (defBody s_lesser) (defScope s_lesser) .none kV16 dc16 pm16 an16 cd16 ct16 | 17 => PySem.W.fnOf "need_window" "need_window" (defArgs s_need_window) (defBody s_need_window) (defScope s_need_window) .none kV17 dc17 pm17 an17 cd17 ct17 | 18 => PySem.W.fnOf "__init__" "Tally.__init__" (defArgs s_Tally_init) (defBody s_Tally_init) (defScope s_Tally_init) .none kV18 dc18 pm18 an18 cd18 ct18 | 19 => PySem.W.fnOf "__init__" "Asks.__init__" (defArgs s_Asks_init) (defBody s_Asks_init) (defScope s_Asks_init) .none kV19 dc19 pm19 an19 cd19 ct19 | 20 => PySem.W.fnOf "__init__" "Board.__init__" (defArgs s_Board_init) (defBody s_Board_init) (defScope s_Board_init) .none kV20 dc20 pm20 an20 (.ref cc20) ct20 | 21 => PySem.W.fnOf "lines" "Board.lines" (defArgs s_Board_lines) (defBody s_Board_lines) (defScope s_Board_lines) .none kV21 dc21 pm21 an21 cd21 ct21 | 22 => PySem.W.fnOf "asks_of" "asks_of" (defArgs s_asks_of) (defBody s_asks_of) (defScope s_asks_of) .none kV22 dc22 pm22 an22 cd22 ct22 | 23 => PySem.W.fnOf "need_plains" "need_plains" (defArgs s_need_plains) (defBody s_need_plains) (defScope s_need_plains) .none kV23 dc23 pm23 an23 cd23 ct23 | 24 => PySem.W.fnOf "need_limit" "need_limit" (defArgs s_need_limit) (defBody s_need_limit) (defScope s_need_limit) .none kV24 dc24 pm24 an24 cd24 ct24 | 25 => PySem.W.fnOf "ranked" "ranked" (defArgs s_ranked) (defBody s_ranked) (defScope s_ranked) .none kV25 dc25 pm25 an25 cd25 ct25 | 26 => PySem.W.fnOf "gains" "Asks.gains" (defArgs s_Asks_gains) (defBody s_Asks_gains) (defScope s_Asks_gains) .none kV26 dc26 pm26 an26 cd26 ct26 | 27 => PySem.W.fnOf "from_on" "Tally.from_on" (defArgs s_Tally_from_on) (defBody s_Tally_from_on) (defScope s_Tally_from_on) .none kV27 dc27 pm27 an27 cd27 ct27 | 28 => PySem.W.fnOf "below" "Tally.below" (defArgs s_Tally_below) (defBody s_Tally_below) (defScope s_Tally_below) .none kV28 dc28 pm28 an28 cd28 ct28 | 29 => PySem.W.fnOf "window" "Asks.window" (defArgs s_Asks_window) (defBody s_Asks_window) (defScope s_Asks_window) .none kV29 dc29 pm29 an29 cd29 ct29 | 30 => PySem.W.fnOf "stretch" "Asks.stretch" (defArgs s_Asks_stretch) (defBody s_Asks_stretch) (defScope s_Asks_stretch) .none kV30 dc30 pm30 an30 cd30 ct30 | 31 => PySem.W.fnOf "table" "Asks.table" (defArgs s_Asks_table) (defBody s_Asks_table) (defScope s_Asks_table) .none kV31 dc31 pm31 an31 cd31 ct31 | 32 => PySem.W.fnOf "__init__" "Costs.__init__" (defArgs s_Costs_init) (defBody s_Costs_init) (defScope s_Costs_init) .none kV32 dc32 pm32 an32 cd32 ct32 | 33 => PySem.W.fnOf "rows_of" "Costs.rows_of" (defArgs s_Costs_rows_of) (defBody s_Costs_rows_of) (defScope s_Costs_rows_of) .none kV33 dc33 pm33 an33 cd33 ct33 | 34 => PySem.W.fnOf "near" "near" (defArgs s_near) (defBody s_near) (defScope s_near) .none kV34 dc34 pm34 an34 cd34 ct34 | 35 => PySem.W.fnOf "is_worthy" "is_worthy" (defArgs s_is_worthy) (defBody s_is_worthy) (defScope s_is_worthy) .none kV35 dc35 pm35 an35 cd35 ct35 | 36 => PySem.W.fnOf "need_stretches" "need_stretches" (defArgs s_need_stretches) (defBody s_need_stretches) (defScope s_need_stretches) .none kV36 dc36 pm36 an36 cd36 ct36 | 37 => PySem.W.fnOf "totals_of" "totals_of" (defArgs s_totals_of) (defBody s_totals_of) (defScope s_totals_of) .none kV37 dc37 pm37 an37 cd37 ct37 | 38 => PySem.W.fnOf "apart" "apart" (defArgs s_apart) (defBody s_apart) (defScope s_apart) .none kV38 dc38 pm38 an38 cd38 ct38 | 39 => PySem.W.fnOf "apart_near" "apart_near" (defArgs s_apart_near) (defBody s_apart_near) (defScope s_apart_near) .none kV39 dc39 pm39 an39 cd39 ct39 | 40 => PySem.W.fnOf "_law_at" "_law_at" (defArgs s__law_at) (defBody s__law_at) (defScope s__law_at) .none kV40 dc40 pm40 an40 cd40 ct40 | 41 => PySem.W.fnOf "_law_mix" "_law_mix" (defArgs s__law_mix) (defBody s__law_mix) (defScope s__law_mix) .none kV41 dc41 pm41 an41 cd41 ct41 | 42 => PySem.W.fnOf "_law_put" "_law_put" (defArgs s__law_put) (defBody s__law_put) (defScope s__law_put) .none kV42 dc42 pm42 an42 cd42 ct42 | 43 => PySem.W.fnOf "_law_two" "_law_two" (defArgs s__law_two) (defBody s__law_two) (defScope s__law_two) .none kV43 dc43 pm43 an43 cd43 ct43 | 44 => PySem.W.fnOf "_law_whole" "_law_whole" (defArgs s__law_whole) (defBody s__law_whole) (defScope s__law_whole) .none kV44 dc44 pm44 an44 cd44 ct44 | 45 => PySem.W.fnOf "_law_best" "_law_best" (defArgs s__law_best) (defBody s__law_best) (defScope s__law_best) .none kV45 dc45 pm45 an45 cd45 ct45 | 46 => PySem.W.fnOf "_law_chosen" "_law_chosen" (defArgs s__law_chosen) (defBody s__law_chosen) (defScope s__law_chosen) .none kV46 dc46 pm46 an46 cd46 ct46 | 47 => PySem.W.fnOf "_law_prices" "_law_prices" (defArgs s__law_prices) (defBody s__law_prices) (defScope s__law_prices) .none kV47 dc47 pm47 an47 cd47 ct47 | 48 => PySem.W.fnOf "_law_right" "_law_right" (defArgs s__law_right) (defBody s__law_right) (defScope s__law_right) .none kV48 dc48 pm48 an48 cd48 ct48 | 49 => PySem.W.fnOf "_law_costs" "_law_costs" (defArgs s__law_costs) (defBody s__law_costs) (defScope s__law_costs) .none kV49 dc49 pm49 an49 cd49 ct49 | 50 => PySem.W.fnOf "_law_spans" "_law_spans" (defArgs s__law_spans) (defBody s__law_spans) (defScope s__law_spans) .none kV50 dc50 pm50 an50 cd50 ct50 | 51 => PySem.W.fnOf "_law_refused" "_law_refused" (defArgs s__law_refused) (defBody s__law_refused) (defScope s__law_refused) .none kV51 dc51 pm51 an51 cd51 ct51 | 52 => PySem.W.fnOf "law" "law" (defArgs s_law) (defBody s_law) (defScope s_law) .none kV52 dc52 pm52 an52 cd52 ct52 | _ => PySem.W.fnOf "is_whole" "is_whole" (defArgs s_is_whole) (defBody s_is_whole) (defScope s_is_whole) .none kV0 dc0 pm0 an0 cd0 ct0) (fun i => match i with | 0 => t_0 | 1 => t_1 | 2 => t_2 | 3 => t_3 | 4 => t_4 | 5 => t_5 | 6 => t_6 | _ => t_0) base (fun i => match i with | 0 => (cc20, PT20) | _ => (cc20, PT20)) := {
    d_is_whole := df_mk X G a0 l0 c0 k0 (fun _ _ _ _ _ _ us hl => match us, hl with | [_], _ => rfl)
    d_is_within := df_mk X G a1 l1 c1 k1 (fun _ _ _ _ _ _ us hl => match us, hl with | [_, _, _], _ => rfl)
    d_is_row := df_mk X G a2 l2 c2 k2 (fun _ _ _ _ _ _ us hl => match us, hl with | [_], _ => rfl)
    d_is_plain := df_mk X G a3 l3 c3 k3 (fun _ _ _ _ _ _ us hl => match us, hl with | [_], _ => rfl)
    d_need_row := df_mk X G a4 l4 c4 k4 (fun _ _ _ _ _ _ us hl => match us, hl with | [_], _ => rfl)
    d_need_rows := df_mk X G a5 l5 c5 k5 (fun _ _ _ _ _ _ us hl => match us, hl with | [_, _], _ => rfl)
    d_need_plain := df_mk X G a6 l6 c6 k6 (fun _ _ _ _ _ _ us hl => match us, hl with | [_], _ => rfl)
    d_need_span := df_mk X G a7 l7 c7 k7 (fun _ _ _ _ _ _ us hl => match us, hl with | [_, _, _], _ => rfl)
    d_parted := df_mk X G a8 l8 c8 k8 (fun _ _ _ _ _ _ us hl => match us, hl with | [_], _ => rfl)
    d_led := df_mk X G a9 l9 c9 k9 (fun _ _ _ _ _ _ us hl => match us, hl with | [_, _, _], _ => rfl)
    d_is_turning := df_mk X G a10 l10 c10 k10 (fun _ _ _ _ _ _ us hl => match us, hl with | [_], _ => rfl)
    d_need_turning := df_mk X G a11 l11 c11 k11 (fun _ _ _ _ _ _ us hl => match us, hl with | [_], _ => rfl)
    d_need_place := df_mk X G a12 l12 c12 k12 (fun _ _ _ _ _ _ us hl => match us, hl with | [_, _], _ => rfl)
    d_opposite := df_mk X G a13 l13 c13 k13 (fun _ _ _ _ _ _ us hl => match us, hl with | [_], _ => rfl)
    d_mixed := df_mk X G a14 l14 c14 k14 (fun _ _ _ _ _ _ us hl => match us, hl with | [_, _], _ => rfl)
    d_floors_of := df_mk X G a15 l15 c15 k15 (fun _ _ _ _ _ _ us hl => match us, hl with | [_], _ => rfl)
    d_lesser := df_mk X G a16 l16 c16 k16 (fun _ _ _ _ _ _ us hl => match us, hl with | [_, _], _ => rfl)
    d_need_window := df_mk X G a17 l17 c17 k17 (fun _ _ _ _ _ _ us hl => match us, hl with | [_, _, _], _ => rfl)
    d_Tally_init := dm_mk a18 i18 l18 c18 k18 (fun _ _ _ _ _ _ us hl => match us, hl with | [_, _], _ => rfl)
    d_Asks_init := dm_mk a19 i19 l19 c19 k19 (fun _ _ _ _ _ _ us hl => match us, hl with | [_, _, _], _ => rfl)
    d_Board_init := dm_mk a20 i20 l20 c20 k20 (fun _ _ _ _ _ _ us hl => match us, hl with | [_, _, _], _ => rfl)
    fc_Board_init := ⟨⟨_, _, _, _, _, _, _, _, rfl, l20, c20⟩⟩
    tb_Board_init := hTB (cc20, PT20) (by simp)
    d_Board_lines := dm_mk a21 i21 l21 c21 k21 (fun _ _ _ _ _ _ us hl => match us, hl with | [_], _ => rfl)
    d_asks_of := df_mk X G a22 l22 c22 k22 (fun _ _ _ _ _ _ us hl => match us, hl with | [_, _], _ => rfl)
    d_need_plains := df_mk X G a23 l23 c23 k23 (fun _ _ _ _ _ _ us hl => match us, hl with | [_, _], _ => rfl)
    d_need_limit := df_mk X G a24 l24 c24 k24 (fun _ _ _ _ _ _ us hl => match us, hl with | [_], _ => rfl)
    d_ranked := df_mk X G a25 l25 c25 k25 (fun _ _ _ _ _ _ us hl => match us, hl with | [_, _], _ => rfl)
    d_Asks_gains := dm_mk a26 i26 l26 c26 k26 (fun _ _ _ _ _ _ us hl => match us, hl with | [_, _], _ => rfl)
    d_Tally_from_on := dm_mk a27 i27 l27 c27 k27 (fun _ _ _ _ _ _ us hl => match us, hl with | [_, _, _], _ => rfl)
    d_Tally_below := dm_mk a28 i28 l28 c28 k28 (fun _ _ _ _ _ _ us hl => match us, hl with | [_, _, _], _ => rfl)
    d_Asks_window := dm_mk a29 i29 l29 c29 k29 (fun _ _ _ _ _ _ us hl => match us, hl with | [_, _, _, _, _], _ => rfl)
    d_Asks_stretch := dm_mk a30 i30 l30 c30 k30 (fun _ _ _ _ _ _ us hl => match us, hl with | [_, _, _], _ => rfl)
    d_Asks_table := dm_mk a31 i31 l31 c31 k31 (fun _ _ _ _ _ _ us hl => match us, hl with | [_], _ => rfl)
    d_Costs_init := dm_mk a32 i32 l32 c32 k32 (fun _ _ _ _ _ _ us hl => match us, hl with | [_, _, _], _ => rfl)
    d_Costs_rows_of := dm_mk a33 i33 l33 c33 k33 (fun _ _ _ _ _ _ us hl => match us, hl with | [_], _ => rfl)
    d_near := df_mk X G a34 l34 c34 k34 (fun _ _ _ _ _ _ us hl => match us, hl with | [_, _, _], _ => rfl)
    d_is_worthy := df_mk X G a35 l35 c35 k35 (fun _ _ _ _ _ _ us hl => match us, hl with | [_, _], _ => rfl)
    d_need_stretches := df_mk X G a36 l36 c36 k36 (fun _ _ _ _ _ _ us hl => match us, hl with | [_, _], _ => rfl)
    d_totals_of := df_mk X G a37 l37 c37 k37 (fun _ _ _ _ _ _ us hl => match us, hl with | [_, _], _ => rfl)
    d_apart := df_mk X G a38 l38 c38 k38 (fun _ _ _ _ _ _ us hl => match us, hl with | [_, _], _ => rfl)
    d_apart_near := df_mk X G a39 l39 c39 k39 (fun _ _ _ _ _ _ us hl => match us, hl with | [_, _, _], _ => rfl)
    d__law_at := df_mk X G a40 l40 c40 k40 (fun _ _ _ _ _ _ us hl => match us, hl with | [_, _], _ => rfl)
    d__law_mix := df_mk X G a41 l41 c41 k41 (fun _ _ _ _ _ _ us hl => match us, hl with | [_, _], _ => rfl)
    d__law_put := df_mk X G a42 l42 c42 k42 (fun _ _ _ _ _ _ us hl => match us, hl with | [_, _, _, _, _], _ => rfl)
    d__law_two := df_mk X G a43 l43 c43 k43 (fun _ _ _ _ _ _ us hl => match us, hl with | [_, _], _ => rfl)
    d__law_whole := df_mk X G a44 l44 c44 k44 (fun _ _ _ _ _ _ us hl => match us, hl with | [_], _ => rfl)
    d__law_best := df_mk X G a45 l45 c45 k45 (fun _ _ _ _ _ _ us hl => match us, hl with | [_, _], _ => rfl)
    d__law_chosen := df_mk X G a46 l46 c46 k46 (fun _ _ _ _ _ _ us hl => match us, hl with | [_, _, _, _], _ => rfl)
    d__law_prices := df_mk X G a47 l47 c47 k47 (fun _ _ _ _ _ _ us hl => match us, hl with | [_, _, _, _], _ => rfl)
    d__law_right := df_mk X G a48 l48 c48 k48 (fun _ _ _ _ _ _ us hl => match us, hl with | [_, _, _, _], _ => rfl)
    d__law_costs := df_mk X G a49 l49 c49 k49 (fun _ _ _ _ _ _ us hl => match us, hl with | [_, _], _ => rfl)
    d__law_spans := df_mk X G a50 l50 c50 k50 (fun _ _ _ _ _ _ us hl => match us, hl with | [_, _, _], _ => rfl)
    d__law_refused := df_mk X G a51 l51 c51 k51 (fun _ _ _ _ _ _ us hl => match us, hl with | [_, _, _, _, _], _ => rfl)
    d_law := df_mk X G a52 l52 c52 k52 (fun _ _ _ _ _ _ us hl => match us, hl with | [_], _ => rfl)
    c_MOST_SIGNS := PySem.W.mg_of X G cn0
    c_LETTERS := PySem.W.mg_of X G cn1
    c_MOST_LETTERS := PySem.W.mg_of X G cn2
    c_MOST_LINES := PySem.W.mg_of X G cn3
    c_MOST_COST := PySem.W.mg_of X G cn4
    c_MOST_WORTH := PySem.W.mg_of X G cn5
    c_MOST_STRETCHES := PySem.W.mg_of X G cn6
    b_isinstance := PySem.W.mg_none_of X G z0
    b_int := PySem.W.mg_none_of X G z1
    b_bool := PySem.W.mg_none_of X G z2
    b_all := PySem.W.mg_none_of X G z3
    b_str := PySem.W.mg_none_of X G z4
    b_len := PySem.W.mg_none_of X G z5
    b_list := PySem.W.mg_none_of X G z6
    b_range := PySem.W.mg_none_of X G z7
    b_enumerate := PySem.W.mg_none_of X G z8
    b_tuple := PySem.W.mg_none_of X G z9
    b_zip := PySem.W.mg_none_of X G z10
    b_sorted := PySem.W.mg_none_of X G z11
    b_sum := PySem.W.mg_none_of X G z12
    b_min := PySem.W.mg_none_of X G z13
    e_NoPlain := ⟨PySem.W.mg_of X G g_NoPlain, sb_NoPlain, hd_NoPlain, ty_NoPlain⟩
    e_NoPlace := ⟨PySem.W.mg_of X G g_NoPlace, sb_NoPlace, hd_NoPlace, ty_NoPlace⟩
    e_PaneError := ⟨PySem.W.mg_of X G g_PaneError, sb_PaneError, hd_PaneError, ty_PaneError⟩
    g_NoRow := PySem.W.mg_of X G g_NoRow
    o_NoRow := ⟨⟨_, _, _, _, _, _, _, _, _, _, _, _, _, _, _, lk_NoRow, rfl⟩, f_setattr_NoRow, sb_NoRow, ty_NoRow, k_NoRow⟩
    n_NoRow_found := f_found_NoRow
    i_NoRow := ini_mk ini_NoRow int_NoRow il_NoRow ic_NoRow ik_NoRow (fun _ _ _ _ _ _ us hl => match us, hl with | [_, _], _ => rfl)
    x_NoRow := xi_mk f_getattribute_NoRow f_getattr_NoRow sb_NoRow hd_NoRow f_class_NoRow ct_ cu_ cm_NoRow
    s_NoRow_NoPlain := s_NoRow_NoPlain
    s_NoRow_NoPlace := s_NoRow_NoPlace
    s_NoRow_PaneError := s_NoRow_PaneError
    g_NoPlain := PySem.W.mg_of X G g_NoPlain
    o_NoPlain := ⟨⟨_, _, _, _, _, _, _, _, _, _, _, _, _, _, _, lk_NoPlain, rfl⟩, f_setattr_NoPlain, sb_NoPlain, ty_NoPlain, k_NoPlain⟩
    n_NoPlain_found := f_found_NoPlain
    i_NoPlain := ini_mk ini_NoPlain int_NoPlain il_NoPlain ic_NoPlain ik_NoPlain (fun _ _ _ _ _ _ us hl => match us, hl with | [_, _], _ => rfl)
    x_NoPlain := xi_mk f_getattribute_NoPlain f_getattr_NoPlain sb_NoPlain hd_NoPlain f_class_NoPlain ct_ cu_ cm_NoPlain
    s_NoPlain_NoPlain := s_NoPlain_NoPlain
    s_NoPlain_NoPlace := s_NoPlain_NoPlace
    s_NoPlain_PaneError := s_NoPlain_PaneError
    g_NoSpan := PySem.W.mg_of X G g_NoSpan
    o_NoSpan := ⟨⟨_, _, _, _, _, _, _, _, _, _, _, _, _, _, _, lk_NoSpan, rfl⟩, f_setattr_NoSpan, sb_NoSpan, ty_NoSpan, k_NoSpan⟩
    n_NoSpan_begin := f_begin_NoSpan
    n_NoSpan_end := f_end_NoSpan
    i_NoSpan := ini_mk ini_NoSpan int_NoSpan il_NoSpan ic_NoSpan ik_NoSpan (fun _ _ _ _ _ _ us hl => match us, hl with | [_, _, _], _ => rfl)
    x_NoSpan := xi_mk f_getattribute_NoSpan f_getattr_NoSpan sb_NoSpan hd_NoSpan f_class_NoSpan ct_ cu_ cm_NoSpan
    s_NoSpan_NoPlain := s_NoSpan_NoPlain
    s_NoSpan_NoPlace := s_NoSpan_NoPlace
    s_NoSpan_PaneError := s_NoSpan_PaneError
    g_NoTurning := PySem.W.mg_of X G g_NoTurning
    o_NoTurning := ⟨⟨_, _, _, _, _, _, _, _, _, _, _, _, _, _, _, lk_NoTurning, rfl⟩, f_setattr_NoTurning, sb_NoTurning, ty_NoTurning, k_NoTurning⟩
    n_NoTurning_found := f_found_NoTurning
    i_NoTurning := ini_mk ini_NoTurning int_NoTurning il_NoTurning ic_NoTurning ik_NoTurning (fun _ _ _ _ _ _ us hl => match us, hl with | [_, _], _ => rfl)
    x_NoTurning := xi_mk f_getattribute_NoTurning f_getattr_NoTurning sb_NoTurning hd_NoTurning f_class_NoTurning ct_ cu_ cm_NoTurning
    s_NoTurning_NoPlain := s_NoTurning_NoPlain
    s_NoTurning_NoPlace := s_NoTurning_NoPlace
    s_NoTurning_PaneError := s_NoTurning_PaneError
    g_NoPlace := PySem.W.mg_of X G g_NoPlace
    o_NoPlace := ⟨⟨_, _, _, _, _, _, _, _, _, _, _, _, _, _, _, lk_NoPlace, rfl⟩, f_setattr_NoPlace, sb_NoPlace, ty_NoPlace, k_NoPlace⟩
    n_NoPlace_found := f_found_NoPlace
    i_NoPlace := ini_mk ini_NoPlace int_NoPlace il_NoPlace ic_NoPlace ik_NoPlace (fun _ _ _ _ _ _ us hl => match us, hl with | [_, _], _ => rfl)
    x_NoPlace := xi_mk f_getattribute_NoPlace f_getattr_NoPlace sb_NoPlace hd_NoPlace f_class_NoPlace ct_ cu_ cm_NoPlace
    s_NoPlace_NoPlain := s_NoPlace_NoPlain
    s_NoPlace_NoPlace := s_NoPlace_NoPlace
    s_NoPlace_PaneError := s_NoPlace_PaneError
    g_NoStretches := PySem.W.mg_of X G g_NoStretches
    o_NoStretches := ⟨⟨_, _, _, _, _, _, _, _, _, _, _, _, _, _, _, lk_NoStretches, rfl⟩, f_setattr_NoStretches, sb_NoStretches, ty_NoStretches, k_NoStretches⟩
    n_NoStretches_found := f_found_NoStretches
    i_NoStretches := ini_mk ini_NoStretches int_NoStretches il_NoStretches ic_NoStretches ik_NoStretches (fun _ _ _ _ _ _ us hl => match us, hl with | [_, _], _ => rfl)
    x_NoStretches := xi_mk f_getattribute_NoStretches f_getattr_NoStretches sb_NoStretches hd_NoStretches f_class_NoStretches ct_ cu_ cm_NoStretches
    s_NoStretches_NoPlain := s_NoStretches_NoPlain
    s_NoStretches_NoPlace := s_NoStretches_NoPlace
    s_NoStretches_PaneError := s_NoStretches_PaneError
    s_PaneError_PaneError := s_PaneError_PaneError
    bi_PaneError := ⟨PySem.W.mg_of X G g_PaneError, ba_PaneError, br_PaneError, bf_PaneError⟩
    mg_Tally := PySem.W.mg_of X G g_Tally
    cl_Tally := ⟨pg_Tally, hd_Tally, po_Tally, sa_Tally⟩
    na_Tally_many := na_Tally_many
    na_Tally_floors := na_Tally_floors
    m_Tally := ⟨mk_Tally, a18, i18, kc_Tally⟩
    mg_Asks := PySem.W.mg_of X G g_Asks
    cl_Asks := ⟨pg_Asks, hd_Asks, po_Asks, sa_Asks⟩
    na_Asks_tall := na_Asks_tall
    na_Asks_wide := na_Asks_wide
    na_Asks_tally := na_Asks_tally
    na_Asks_goals := na_Asks_goals
    na_Asks_starts := na_Asks_starts
    m_Asks := ⟨mk_Asks, a19, i19, kc_Asks⟩
    mg_Board := PySem.W.mg_of X G g_Board
    cl_Board := ⟨pg_Board, hd_Board, po_Board, sa_Board⟩
    na_Board_left_row := na_Board_left_row
    na_Board_upper_row := na_Board_upper_row
    na_Board_meetings := na_Board_meetings
    na_Board_signs := na_Board_signs
    na_Board_goals := na_Board_goals
    m_Board := ⟨mk_Board, a20, i20, kc_Board⟩
    mg_Costs := PySem.W.mg_of X G g_Costs
    cl_Costs := ⟨pg_Costs, hd_Costs, po_Costs, sa_Costs⟩
    na_Costs_turned_row := na_Costs_turned_row
    na_Costs_goal_row := na_Costs_goal_row
    na_Costs_wide := na_Costs_wide
    na_Costs_costs := na_Costs_costs
    m_Costs := ⟨mk_Costs, a32, i32, kc_Costs⟩
  }
  exact ok_law T
end My
open PySem PySem.W PyProof.Rows in
set_option maxRecDepth 100000 in
set_option maxHeartbeats 0 in
theorem PySem.Challenge.cw_panethread_k75_near_ones_apart_holds : PySem.Challenge.rw_panethread_k75_near_ones_apart.Holds := by
  w_on; o_law; k_head; (case hw => w_witness2)
  k_fill
  refine LamX.walk_ofTs (l := PySem.Challenge.rw_panethread_k75_near_ones_apart) (n := 63) (k := 15) (x := "_law_script") (CX := fun _ => L2.CX0) rfl (by decide) rfl ⟨rfl, by decide, by decide⟩ (fun w h Y => PySem.W.km_in_of Y) ?F (fun _ _ _ _ _ z => z)
  case F =>
    intro w mg fa h Y KX G hmg
    refine' My.all_mk KX G hmg ?a0 ?l0 ?c0 ?k0 ?a1 ?l1 ?c1 ?k1 ?a2 ?l2 ?c2 ?k2 ?a3 ?l3 ?c3 ?k3 ?a4 ?l4 ?c4 ?k4 ?a5 ?l5 ?c5 ?k5 ?a6 ?l6 ?c6 ?k6 ?a7 ?l7 ?c7 ?k7 ?a8 ?l8 ?c8 ?k8 ?a9 ?l9 ?c9 ?k9 ?a10 ?l10 ?c10 ?k10 ?a11 ?l11 ?c11 ?k11 ?a12 ?l12 ?c12 ?k12 ?a13 ?l13 ?c13 ?k13 ?a14 ?l14 ?c14 ?k14 ?a15 ?l15 ?c15 ?k15 ?a16 ?l16 ?c16 ?k16 ?a17 ?l17 ?c17 ?k17 ?a18 ?i18 ?l18 ?c18 ?k18 ?a19 ?i19 ?l19 ?c19 ?k19 ?a20 ?i20 ?l20 ?c20 ?k20 ?h20 ?p20 ?g20 ?n20 ?t20 ?a21 ?i21 ?l21 ?c21 ?k21 ?a22 ?l22 ?c22 ?k22 ?a23 ?l23 ?c23 ?k23 ?a24 ?l24 ?c24 ?k24 ?a25 ?l25 ?c25 ?k25 ?a26 ?i26 ?l26 ?c26 ?k26 ?a27 ?i27 ?l27 ?c27 ?k27 ?a28 ?i28 ?l28 ?c28 ?k28 ?a29 ?i29 ?l29 ?c29 ?k29 ?a30 ?i30 ?l30 ?c30 ?k30 ?a31 ?i31 ?l31 ?c31 ?k31 ?a32 ?i32 ?l32 ?c32 ?k32 ?a33 ?i33 ?l33 ?c33 ?k33 ?a34 ?l34 ?c34 ?k34 ?a35 ?l35 ?c35 ?k35 ?a36 ?l36 ?c36 ?k36 ?a37 ?l37 ?c37 ?k37 ?a38 ?l38 ?c38 ?k38 ?a39 ?l39 ?c39 ?k39 ?a40 ?l40 ?c40 ?k40 ?a41 ?l41 ?c41 ?k41 ?a42 ?l42 ?c42 ?k42 ?a43 ?l43 ?c43 ?k43 ?a44 ?l44 ?c44 ?k44 ?a45 ?l45 ?c45 ?k45 ?a46 ?l46 ?c46 ?k46 ?a47 ?l47 ?c47 ?k47 ?a48 ?l48 ?c48 ?k48 ?a49 ?l49 ?c49 ?k49 ?a50 ?l50 ?c50 ?k50 ?a51 ?l51 ?c51 ?k51 ?a52 ?l52 ?c52 ?k52 ?cn0 ?cn1 ?cn2 ?cn3 ?cn4 ?cn5 ?cn6 ?z0 ?z1 ?z2 ?z3 ?z4 ?z5 ?z6 ?z7 ?z8 ?z9 ?z10 ?z11 ?z12 ?z13 ?g_NoRow ?g_NoPlain ?g_NoSpan ?g_NoTurning ?g_NoPlace ?g_NoStretches ?g_PaneError ?sb_NoPlain ?hd_NoPlain ?ty_NoPlain ?sb_NoPlace ?hd_NoPlace ?ty_NoPlace ?sb_PaneError ?hd_PaneError ?ty_PaneError ?lk_NoRow ?f_setattr_NoRow ?sb_NoRow ?ty_NoRow ?k_NoRow ?f_found_NoRow ?ini_NoRow ?int_NoRow ?il_NoRow ?ic_NoRow ?ik_NoRow ?ct_ ?cu_ ?f_getattribute_NoRow ?f_getattr_NoRow ?hd_NoRow ?f_class_NoRow ?cm_NoRow ?s_NoRow_NoPlain ?s_NoRow_NoPlace ?s_NoRow_PaneError ?lk_NoPlain ?f_setattr_NoPlain ?k_NoPlain ?f_found_NoPlain ?ini_NoPlain ?int_NoPlain ?il_NoPlain ?ic_NoPlain ?ik_NoPlain ?f_getattribute_NoPlain ?f_getattr_NoPlain ?f_class_NoPlain ?cm_NoPlain ?s_NoPlain_NoPlain ?s_NoPlain_NoPlace ?s_NoPlain_PaneError ?lk_NoSpan ?f_setattr_NoSpan ?sb_NoSpan ?ty_NoSpan ?k_NoSpan ?f_begin_NoSpan ?f_end_NoSpan ?ini_NoSpan ?int_NoSpan ?il_NoSpan ?ic_NoSpan ?ik_NoSpan ?f_getattribute_NoSpan ?f_getattr_NoSpan ?hd_NoSpan ?f_class_NoSpan ?cm_NoSpan ?s_NoSpan_NoPlain ?s_NoSpan_NoPlace ?s_NoSpan_PaneError ?lk_NoTurning ?f_setattr_NoTurning ?sb_NoTurning ?ty_NoTurning ?k_NoTurning ?f_found_NoTurning ?ini_NoTurning ?int_NoTurning ?il_NoTurning ?ic_NoTurning ?ik_NoTurning ?f_getattribute_NoTurning ?f_getattr_NoTurning ?hd_NoTurning ?f_class_NoTurning ?cm_NoTurning ?s_NoTurning_NoPlain ?s_NoTurning_NoPlace ?s_NoTurning_PaneError ?lk_NoPlace ?f_setattr_NoPlace ?k_NoPlace ?f_found_NoPlace ?ini_NoPlace ?int_NoPlace ?il_NoPlace ?ic_NoPlace ?ik_NoPlace ?f_getattribute_NoPlace ?f_getattr_NoPlace ?f_class_NoPlace ?cm_NoPlace ?s_NoPlace_NoPlain ?s_NoPlace_NoPlace ?s_NoPlace_PaneError ?lk_NoStretches ?f_setattr_NoStretches ?sb_NoStretches ?ty_NoStretches ?k_NoStretches ?f_found_NoStretches ?ini_NoStretches ?int_NoStretches ?il_NoStretches ?ic_NoStretches ?ik_NoStretches ?f_getattribute_NoStretches ?f_getattr_NoStretches ?hd_NoStretches ?f_class_NoStretches ?cm_NoStretches ?s_NoStretches_NoPlain ?s_NoStretches_NoPlace ?s_NoStretches_PaneError ?s_PaneError_PaneError ?ba_PaneError ?br_PaneError ?bf_PaneError ?g_Tally ?pg_Tally ?hd_Tally ?po_Tally ?sa_Tally ?na_Tally_many ?na_Tally_floors ?mk_Tally ?kc_Tally ?g_Asks ?pg_Asks ?hd_Asks ?po_Asks ?sa_Asks ?na_Asks_tall ?na_Asks_wide ?na_Asks_tally ?na_Asks_goals ?na_Asks_starts ?mk_Asks ?kc_Asks ?g_Board ?pg_Board ?hd_Board ?po_Board ?sa_Board ?na_Board_left_row ?na_Board_upper_row ?na_Board_meetings ?na_Board_signs ?na_Board_goals ?mk_Board ?kc_Board ?g_Costs ?pg_Costs ?hd_Costs ?po_Costs ?sa_Costs ?na_Costs_turned_row ?na_Costs_goal_row ?na_Costs_wide ?na_Costs_costs ?mk_Costs ?kc_Costs
    (case g_NoRow => k_is)
    (case g_NoPlain => k_is)
    (case g_NoSpan => k_is)
    (case g_NoTurning => k_is)
    (case g_NoPlace => k_is)
    (case g_NoStretches => k_is)
    (case g_PaneError => k_is)
    (case g_Tally => k_is)
    (case g_Asks => k_is)
    (case g_Board => k_is)
    (case g_Costs => k_is)
    (case a0 => k_is)
    (case l0 => k_is)
    (case c0 => k_is)
    (case k0 => k_is)
    (case a1 => k_is)
    (case l1 => k_is)
    (case c1 => k_is)
    (case k1 => k_is)
    (case a2 => k_is)
    (case l2 => k_is)
    (case c2 => k_is)
    (case k2 => k_is)
    (case a3 => k_is)
    (case l3 => k_is)
    (case c3 => k_is)
    (case k3 => k_is)
    (case a4 => k_is)
    (case l4 => k_is)
    (case c4 => k_is)
    (case k4 => k_is)
    (case a5 => k_is)
    (case l5 => k_is)
    (case c5 => k_is)
    (case k5 => k_is)
    (case a6 => k_is)
    (case l6 => k_is)
    (case c6 => k_is)
    (case k6 => k_is)
    (case a7 => k_is)
    (case l7 => k_is)
    (case c7 => k_is)
    (case k7 => k_is)
    (case a8 => k_is)
    (case l8 => k_is)
    (case c8 => k_is)
    (case k8 => k_is)
    (case a9 => k_is)
    (case l9 => k_is)
    (case c9 => k_is)
    (case k9 => k_is)
    (case a10 => k_is)
    (case l10 => k_is)
    (case c10 => k_is)
    (case k10 => k_is)
    (case a11 => k_is)
    (case l11 => k_is)
    (case c11 => k_is)
    (case k11 => k_is)
    (case a12 => k_is)
    (case l12 => k_is)
    (case c12 => k_is)
    (case k12 => k_is)
    (case a13 => k_is)
    (case l13 => k_is)
    (case c13 => k_is)
    (case k13 => k_is)
    (case a14 => k_is)
    (case l14 => k_is)
    (case c14 => k_is)
    (case k14 => k_is)
    (case a15 => k_is)
    (case l15 => k_is)
    (case c15 => k_is)
    (case k15 => k_is)
    (case a16 => k_is)
    (case l16 => k_is)
    (case c16 => k_is)
    (case k16 => k_is)
    (case a17 => k_is)
    (case l17 => k_is)
    (case c17 => k_is)
    (case k17 => k_is)
    (case a18 => k_is)
    (case i18 => k_is)
    (case l18 => k_is)
    (case c18 => k_is)
    (case k18 => k_is)
    (case a19 => k_is)
    (case i19 => k_is)
    (case l19 => k_is)
    (case c19 => k_is)
    (case k19 => k_is)
    (case a20 => k_is)
    (case i20 => k_is)
    (case l20 => k_is)
    (case c20 => k_is)
    (case k20 => k_is)
    (case h20 => k_is)
    (case p20 => exact rfl)
    (case g20 => kernel_rfl)
    (case n20 => kernel_rfl)
    (case t20 => exact PySem.W.km_tabs_of Y _ (by decide))
    (case a21 => k_is)
    (case i21 => k_is)
    (case l21 => k_is)
    (case c21 => k_is)
    (case k21 => k_is)
    (case a22 => k_is)
    (case l22 => k_is)
    (case c22 => k_is)
    (case k22 => k_is)
    (case a23 => k_is)
    (case l23 => k_is)
    (case c23 => k_is)
    (case k23 => k_is)
    (case a24 => k_is)
    (case l24 => k_is)
    (case c24 => k_is)
    (case k24 => k_is)
    (case a25 => k_is)
    (case l25 => k_is)
    (case c25 => k_is)
    (case k25 => k_is)
    (case a26 => k_is)
    (case i26 => k_is)
    (case l26 => k_is)
    (case c26 => k_is)
    (case k26 => k_is)
    (case a27 => k_is)
    (case i27 => k_is)
    (case l27 => k_is)
    (case c27 => k_is)
    (case k27 => k_is)
    (case a28 => k_is)
    (case i28 => k_is)
    (case l28 => k_is)
    (case c28 => k_is)
    (case k28 => k_is)
    (case a29 => k_is)
    (case i29 => k_is)
    (case l29 => k_is)
    (case c29 => k_is)
    (case k29 => k_is)
    (case a30 => k_is)
    (case i30 => k_is)
    (case l30 => k_is)
    (case c30 => k_is)
    (case k30 => k_is)
    (case a31 => k_is)
    (case i31 => k_is)
    (case l31 => k_is)
    (case c31 => k_is)
    (case k31 => k_is)
    (case a32 => k_is)
    (case i32 => k_is)
    (case l32 => k_is)
    (case c32 => k_is)
    (case k32 => k_is)
    (case a33 => k_is)
    (case i33 => k_is)
    (case l33 => k_is)
    (case c33 => k_is)
    (case k33 => k_is)
    (case a34 => k_is)
    (case l34 => k_is)
    (case c34 => k_is)
    (case k34 => k_is)
    (case a35 => k_is)
    (case l35 => k_is)
    (case c35 => k_is)
    (case k35 => k_is)
    (case a36 => k_is)
    (case l36 => k_is)
    (case c36 => k_is)
    (case k36 => k_is)
    (case a37 => k_is)
    (case l37 => k_is)
    (case c37 => k_is)
    (case k37 => k_is)
    (case a38 => k_is)
    (case l38 => k_is)
    (case c38 => k_is)
    (case k38 => k_is)
    (case a39 => k_is)
    (case l39 => k_is)
    (case c39 => k_is)
    (case k39 => k_is)
    (case a40 => k_is)
    (case l40 => k_is)
    (case c40 => k_is)
    (case k40 => k_is)
    (case a41 => k_is)
    (case l41 => k_is)
    (case c41 => k_is)
    (case k41 => k_is)
    (case a42 => k_is)
    (case l42 => k_is)
    (case c42 => k_is)
    (case k42 => k_is)
    (case a43 => k_is)
    (case l43 => k_is)
    (case c43 => k_is)
    (case k43 => k_is)
    (case a44 => k_is)
    (case l44 => k_is)
    (case c44 => k_is)
    (case k44 => k_is)
    (case a45 => k_is)
    (case l45 => k_is)
    (case c45 => k_is)
    (case k45 => k_is)
    (case a46 => k_is)
    (case l46 => k_is)
    (case c46 => k_is)
    (case k46 => k_is)
    (case a47 => k_is)
    (case l47 => k_is)
    (case c47 => k_is)
    (case k47 => k_is)
    (case a48 => k_is)
    (case l48 => k_is)
    (case c48 => k_is)
    (case k48 => k_is)
    (case a49 => k_is)
    (case l49 => k_is)
    (case c49 => k_is)
    (case k49 => k_is)
    (case a50 => k_is)
    (case l50 => k_is)
    (case c50 => k_is)
    (case k50 => k_is)
    (case a51 => k_is)
    (case l51 => k_is)
    (case c51 => k_is)
    (case k51 => k_is)
    (case a52 => k_is)
    (case l52 => k_is)
    (case c52 => k_is)
    (case k52 => k_is)
    (case cn0 => k_is)
    (case cn1 => k_is)
    (case cn2 => k_is)
    (case cn3 => k_is)
    (case cn4 => k_is)
    (case cn5 => k_is)
    (case cn6 => k_is)
    (case z0 => k_is)
    (case z1 => k_is)
    (case z2 => k_is)
    (case z3 => k_is)
    (case z4 => k_is)
    (case z5 => k_is)
    (case z6 => k_is)
    (case z7 => k_is)
    (case z8 => k_is)
    (case z9 => k_is)
    (case z10 => k_is)
    (case z11 => k_is)
    (case z12 => k_is)
    (case z13 => k_is)
    (case sb_NoPlain => k_is)
    (case hd_NoPlain => k_is)
    (case ty_NoPlain => k_is)
    (case sb_NoPlace => k_is)
    (case hd_NoPlace => k_is)
    (case ty_NoPlace => k_is)
    (case sb_PaneError => k_is)
    (case hd_PaneError => k_is)
    (case ty_PaneError => k_is)
    (case lk_NoRow => k_is)
    (case f_setattr_NoRow => k_is)
    (case sb_NoRow => k_is)
    (case ty_NoRow => k_is)
    (case k_NoRow => k_is)
    (case f_found_NoRow => k_is)
    (case ini_NoRow => k_is)
    (case int_NoRow => k_is)
    (case il_NoRow => k_is)
    (case ic_NoRow => k_is)
    (case ik_NoRow => k_is)
    (case ct_ => k_is)
    (case cu_ => k_is)
    (case f_getattribute_NoRow => k_is)
    (case f_getattr_NoRow => k_is)
    (case hd_NoRow => k_is)
    (case f_class_NoRow => k_is)
    (case cm_NoRow => k_is)
    (case s_NoRow_NoPlain => k_is)
    (case s_NoRow_NoPlace => k_is)
    (case s_NoRow_PaneError => k_is)
    (case lk_NoPlain => k_is)
    (case f_setattr_NoPlain => k_is)
    (case k_NoPlain => k_is)
    (case f_found_NoPlain => k_is)
    (case ini_NoPlain => k_is)
    (case int_NoPlain => k_is)
    (case il_NoPlain => k_is)
    (case ic_NoPlain => k_is)
    (case ik_NoPlain => k_is)
    (case f_getattribute_NoPlain => k_is)
    (case f_getattr_NoPlain => k_is)
    (case f_class_NoPlain => k_is)
    (case cm_NoPlain => k_is)
    (case s_NoPlain_NoPlain => k_is)
    (case s_NoPlain_NoPlace => k_is)
    (case s_NoPlain_PaneError => k_is)
    (case lk_NoSpan => k_is)
    (case f_setattr_NoSpan => k_is)
    (case sb_NoSpan => k_is)
    (case ty_NoSpan => k_is)
    (case k_NoSpan => k_is)
    (case f_begin_NoSpan => k_is)
    (case f_end_NoSpan => k_is)
    (case ini_NoSpan => k_is)
    (case int_NoSpan => k_is)
    (case il_NoSpan => k_is)
    (case ic_NoSpan => k_is)
    (case ik_NoSpan => k_is)
    (case f_getattribute_NoSpan => k_is)
    (case f_getattr_NoSpan => k_is)
    (case hd_NoSpan => k_is)
    (case f_class_NoSpan => k_is)
    (case cm_NoSpan => k_is)
    (case s_NoSpan_NoPlain => k_is)
    (case s_NoSpan_NoPlace => k_is)
    (case s_NoSpan_PaneError => k_is)
    (case lk_NoTurning => k_is)
    (case f_setattr_NoTurning => k_is)
    (case sb_NoTurning => k_is)
    (case ty_NoTurning => k_is)
    (case k_NoTurning => k_is)
    (case f_found_NoTurning => k_is)
    (case ini_NoTurning => k_is)
    (case int_NoTurning => k_is)
    (case il_NoTurning => k_is)
    (case ic_NoTurning => k_is)
    (case ik_NoTurning => k_is)
    (case f_getattribute_NoTurning => k_is)
    (case f_getattr_NoTurning => k_is)
    (case hd_NoTurning => k_is)
    (case f_class_NoTurning => k_is)
    (case cm_NoTurning => k_is)
    (case s_NoTurning_NoPlain => k_is)
    (case s_NoTurning_NoPlace => k_is)
    (case s_NoTurning_PaneError => k_is)
    (case lk_NoPlace => k_is)
    (case f_setattr_NoPlace => k_is)
    (case k_NoPlace => k_is)
    (case f_found_NoPlace => k_is)
    (case ini_NoPlace => k_is)
    (case int_NoPlace => k_is)
    (case il_NoPlace => k_is)
    (case ic_NoPlace => k_is)
    (case ik_NoPlace => k_is)
    (case f_getattribute_NoPlace => k_is)
    (case f_getattr_NoPlace => k_is)
    (case f_class_NoPlace => k_is)
    (case cm_NoPlace => k_is)
    (case s_NoPlace_NoPlain => k_is)
    (case s_NoPlace_NoPlace => k_is)
    (case s_NoPlace_PaneError => k_is)
    (case lk_NoStretches => k_is)
    (case f_setattr_NoStretches => k_is)
    (case sb_NoStretches => k_is)
    (case ty_NoStretches => k_is)
    (case k_NoStretches => k_is)
    (case f_found_NoStretches => k_is)
    (case ini_NoStretches => k_is)
    (case int_NoStretches => k_is)
    (case il_NoStretches => k_is)
    (case ic_NoStretches => k_is)
    (case ik_NoStretches => k_is)
    (case f_getattribute_NoStretches => k_is)
    (case f_getattr_NoStretches => k_is)
    (case hd_NoStretches => k_is)
    (case f_class_NoStretches => k_is)
    (case cm_NoStretches => k_is)
    (case s_NoStretches_NoPlain => k_is)
    (case s_NoStretches_NoPlace => k_is)
    (case s_NoStretches_PaneError => k_is)
    (case s_PaneError_PaneError => k_is)
    (case ba_PaneError => k_is)
    (case br_PaneError => k_is)
    (case bf_PaneError => k_is)
    (case pg_Tally => k_is)
    (case hd_Tally => k_is)
    (case po_Tally => k_is)
    (case sa_Tally => k_is)
    (case na_Tally_many => k_is)
    (case na_Tally_floors => k_is)
    (case mk_Tally => k_is)
    (case kc_Tally => k_is)
    (case pg_Asks => k_is)
    (case hd_Asks => k_is)
    (case po_Asks => k_is)
    (case sa_Asks => k_is)
    (case na_Asks_tall => k_is)
    (case na_Asks_wide => k_is)
    (case na_Asks_tally => k_is)
    (case na_Asks_goals => k_is)
    (case na_Asks_starts => k_is)
    (case mk_Asks => k_is)
    (case kc_Asks => k_is)
    (case pg_Board => k_is)
    (case hd_Board => k_is)
    (case po_Board => k_is)
    (case sa_Board => k_is)
    (case na_Board_left_row => k_is)
    (case na_Board_upper_row => k_is)
    (case na_Board_meetings => k_is)
    (case na_Board_signs => k_is)
    (case na_Board_goals => k_is)
    (case mk_Board => k_is)
    (case kc_Board => k_is)
    (case pg_Costs => k_is)
    (case hd_Costs => k_is)
    (case po_Costs => k_is)
    (case sa_Costs => k_is)
    (case na_Costs_turned_row => k_is)
    (case na_Costs_goal_row => k_is)
    (case na_Costs_wide => k_is)
    (case na_Costs_costs => k_is)
    (case mk_Costs => k_is)
    (case kc_Costs => k_is)
#print axioms PySem.Challenge.cw_panethread_k75_near_ones_apart_holds
