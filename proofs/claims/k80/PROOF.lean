import PyProof.Rows.All
import Wide.All
import OpenK.AllK
import Wide.FinOn
import HandS.ForMost
import HandS.ForExc
import HandS.IsInst
import HandS.Codes
import HandS.Evl
import KE.DataEq
import KE.GoesEnum
import HandS.ExcInit
import HandS.WordsExc
import HandS.ExcOwn
import HandS.TryElse
import HandS.ExcField
import HandS.ExcIs
import KE.KExcIs
import HandS.SetKeys
import HandS.SortRule
import HandS.SortInts
import HandS.TupLe
import PyProof.ReprRoads
import HandS.Ends
import PyProof.ReprLen
import HandS.DeepEq
import HandS.Conv
import HandS.Wide
import HandS.DictComp
import HandS.TupAny
import HandS.TupLen
import PyProof.FString5
import PyProof.StrLawsTight
import HandS.ExcValue
import HandS.Flt
import OpenK.KTop
import HandS.JoinGen
import HandS.NoneIn
import KE.DataMinMax
import KE.DatumOrd
import PyProof.DictMoreH
import HandS.DictTup
import KE.DataCmp
import HandS.Zip
import HandS.TupSets
import HandS.Nested
import HandS.EndTab
import KE.KNestM
import HandS.StrMore
import PySem.Challenge.RW_panethread_k80_said_twice
set_option Elab.async false
set_option linter.all false
set_option maxRecDepth 100000
set_option maxHeartbeats 4000000
namespace Zb
open PySem PySem.Spec PyProof.Rows L2
def slot : L2.St → Nat → Option V
  | [], _ => none
  | a :: _, 0 => a
  | _ :: r, n + 1 => slot r n
def seqAt (H : Hp) (p : Addr) : Option (List V) := match H p with
  | some (.lst xs) => some xs
  | some (.tup xs) => some xs
  | some (.frz _ (.lst xs)) => some xs
  | some (.frz _ (.tup xs)) => some xs
  | _ => none
theorem seqAt_sq {K : PySem.W.Frag} {H : Hp} {p : Addr} {xs : List V} (h : seqAt H p = some xs) : SqL K H p xs ∨ SqT K H p xs := by
  unfold seqAt at h
  split at h
  · rename_i e; cases h; exact .inl (.inl (.inl e))
  · rename_i e; cases h; exact .inr (.inl (.inl e))
  · rename_i e; cases h; exact .inl (.inl (.inr ⟨_, e⟩))
  · rename_i e; cases h; exact .inr (.inl (.inr ⟨_, e⟩))
  · cases h
def lstAt (H : Hp) (p : Addr) : Option (List V) := match H p with
  | some (.lst xs) => some xs
  | some (.frz _ (.lst xs)) => some xs
  | _ => none
theorem lstAt_sq {K : PySem.W.Frag} {H : Hp} {p : Addr} {xs : List V} (h : lstAt H p = some xs) : SqL K H p xs := by
  unfold lstAt at h
  split at h
  · rename_i e; cases h; exact .inl (.inl e)
  · rename_i e; cases h; exact .inl (.inr ⟨_, e⟩)
  · cases h
def tupAt (H : Hp) (p : Addr) : Option (List V) := match H p with
  | some (.tup xs) => some xs
  | some (.frz _ (.tup xs)) => some xs
  | _ => none
theorem tupAt_sq {K : PySem.W.Frag} {H : Hp} {p : Addr} {xs : List V} (h : tupAt H p = some xs) : SqT K H p xs := by
  unfold tupAt at h
  split at h
  · rename_i e; cases h; exact .inl (.inl e)
  · rename_i e; cases h; exact .inl (.inr ⟨_, e⟩)
  · cases h
mutual
inductive Rp (H : Hp) : V → PyData → Prop
  | non : Rp H .non .none
  | bl (b : Bool) : Rp H (.bl b) (.bool b)
  | int (i : Int) : Rp H (.int i) (.int i)
  | str (x : Str) : Rp H (.str x) (.str x)
  | lst {a : Addr} {xs : List V} {ds : List PyData} : lstAt H a = some xs → RpA H xs ds → Rp H (.ref a) (.list ds)
  | tup {a : Addr} {xs : List V} {ds : List PyData} : tupAt H a = some xs → RpA H xs ds → Rp H (.ref a) (.tuple ds)
inductive RpA (H : Hp) : List V → List PyData → Prop
  | nil : RpA H [] []
  | cons {v : V} {vs : List V} {d : PyData} {ds : List PyData} : Rp H v d → RpA H vs ds → RpA H (v :: vs) (d :: ds)
end
mutual
theorem Rp.dp {K : PySem.W.Frag} {H : Hp} : ∀ {v : V} {d : PyData}, Rp H v d → Dp K H v d
  | _, _, .non => .non
  | _, _, .bl b => .bl b
  | _, _, .int i => .int i
  | _, _, .str x => .str x
  | _, _, .lst h k => .lst (lstAt_sq h) (RpA.dp k)
  | _, _, .tup h k => .tup (tupAt_sq h) (RpA.dp k)
theorem RpA.dp {K : PySem.W.Frag} {H : Hp} : ∀ {vs : List V} {ds : List PyData}, RpA H vs ds → DpAll K H vs ds
  | _, _, .nil => .nil
  | _, _, .cons h k => .cons (Rp.dp h) (RpA.dp k)
end
def rAdd : R2 := fun x y H Q => match x, y with
  | .int i, .int j => Q (.int (i + j)) H
  | .str a, .str b => a.length + b.length ≤ 16777216 ∧ Q (.str (a ++ b)) H
  | .ref p, .ref q => ∃ xs ys, H p = some (.lst xs) ∧ H q = some (.lst ys) ∧ xs.length + ys.length ≤ 16777216 ∧ ∀ r, H r = none → Q (.ref r) (upd H r (.lst (xs ++ ys)))
  | _, _ => False
def rSub : R2 := fun x y H Q => match x, y with
  | .int i, .int j => Q (.int (i - j)) H
  | _, _ => False
def rMul : R2 := fun x y H Q => match x, y with
  | .int i, .int j => CMul i j ∧ Q (.int (i * j)) H
  | .ref p, .int k => ∃ xs, H p = some (.lst xs) ∧ -1000000 ≤ k ∧ k ≤ 1000000 ∧ xs.length * k.toNat ≤ 16777216 ∧ ∀ r, H r = none → Q (.ref r) (upd H r (.lst (List.replicate k.toNat xs).flatten))
  | .str a, .int k => -1000000 ≤ k ∧ k ≤ 1000000 ∧ a.length * k.toNat ≤ 16777216 ∧ Q (.str (Txt.mul a k)) H
  | _, _ => False
def rMod : R2 := fun x y H Q => match x, y with
  | .int i, .int j => 0 < j ∧ Q (.int (i % j)) H
  | _, _ => False
def rDiv : R2 := fun x y H Q => match x, y with
  | .int i, .int j => 0 < j ∧ j < 1073741824 ∧ Q (.int (i / j)) H
  | _, _ => False
def rPow : R2 := fun x y H Q => match x, y with
  | .int i, .int j => 0 ≤ j ∧ j ≤ 1000000 ∧ i.natAbs < 2 ^ 64 ∧ Q (.int (i ^ j.toNat)) H
  | _, _ => False
def rCmpI (f : Int → Int → Bool) : R2 := fun x y H Q => match x, y with
  | .int i, .int j => Q (.bl (f i j)) H
  | _, _ => False
mutual
theorem Rp.plain {H : Hp} : ∀ {v : V} {d : PyData}, Rp H v d → d.plain = true
  | _, _, .non => rfl
  | _, _, .bl b => rfl
  | _, _, .int i => rfl
  | _, _, .str x => rfl
  | _, _, .lst h k => by simp only [PyData.plain]; exact RpA.plain k
  | _, _, .tup h k => by simp only [PyData.plain]; exact RpA.plain k
theorem RpA.plain {H : Hp} : ∀ {vs : List V} {ds : List PyData}, RpA H vs ds → PyData.plainAll ds = true
  | _, _, .nil => rfl
  | _, _, .cons h k => by simp only [PyData.plainAll, Rp.plain h, RpA.plain k, Bool.and_self]
end
/-- == of data at any depth -/
def rEqU : R2 := fun x y H Q => ∃ d e, Rp H x d ∧ Rp H y e ∧ min d.depth e.depth ≤ 64 ∧ Q (.bl (PyData.eqv d e)) H
def rNeU : R2 := fun x y H Q => ∃ d e, Rp H x d ∧ Rp H y e ∧ min d.depth e.depth ≤ 64 ∧ Q (.bl (!PyData.eqv d e)) H
section
variable {X : Cx}
theorem sl16 : sizeLine = 16777216 := sizeLine_eq
theorem o_add : OpR X (binaryOp .Add) rAdd := by
  intro pins s σ H x y v u Q I rx ry h
  unfold rAdd at h
  split at h
  · exact op_add pins s σ H _ _ v u Q I rx ry ⟨_, _, rfl, rfl, h⟩
  · exact op_add_str pins s σ H _ _ v u Q I rx ry ⟨_, _, rfl, rfl, by rw [sl16]; exact h.1, h.2⟩
  · obtain ⟨xs, ys, h1, h2, h3, h4⟩ := h
    exact op_cat pins s σ H _ _ v u Q I rx ry ⟨_, _, _, _, rfl, rfl, h1, h2, by rw [sl16]; exact h3, h4⟩
  · exact h.elim
theorem o_sub : OpR X (binaryOp .Sub) rSub := by
  intro pins s σ H x y v u Q I rx ry h
  unfold rSub at h
  split at h
  · exact op_sub pins s σ H _ _ v u Q I rx ry ⟨_, _, rfl, rfl, h⟩
  · exact h.elim
/-- a text by its codes -/
def tx (l : List Nat) : Str := ⟨l.toArray⟩
theorem tx_toList (l : List Nat) : (tx l).cps.toList = l := by simp [tx]
theorem tx_length (l : List Nat) : (tx l).length = l.length := by simp [tx, Str.length]
theorem tx_inj {a b : List Nat} : tx a = tx b ↔ a = b := ⟨fun h => by have := congrArg (fun s => s.cps.toList) h; simpa [tx] using this, fun h => by rw [h]⟩
theorem tx_append (a b : List Nat) : tx a ++ tx b = tx (a ++ b) := by
  show Str.mk _ = _
  simp [tx]
theorem txt_mul_ok {a : Str} {k : Int} (h1 : -1000000 ≤ k) (h2 : k ≤ 1000000) (h3 : a.length * k.toNat ≤ 16777216) : MulOk a k := by
  refine ⟨?_, fun h4 _ => ?_, fun _ _ => ?_⟩
  · have h5 : ¬ k < -(2 ^ 63 : Int) := by omega
    have h6 : ¬ k ≥ (2 ^ 63 : Int) := by omega
    rw [decide_eq_false h5, decide_eq_false h6]
    rfl
  · have e : (a.length : Int) * k ≤ 16777216 := by
      have e1 : ((a.length * k.toNat : Nat) : Int) ≤ ((16777216 : Nat) : Int) := Int.ofNat_le.mpr h3
      have e2 : ((k.toNat : Nat) : Int) = k := by omega
      rw [Int.natCast_mul, e2] at e1
      exact e1
    have : (a.length : Int) ≤ (2 ^ 63 - 1) / k := by
      rw [Int.le_ediv_iff_mul_le (by omega)]
      omega
    omega
  · unfold Builtin.Str.tooLong
    have : ¬ (a.length * k.toNat > sizeLine) := by rw [sl16]; omega
    exact decide_eq_false this
theorem o_mul : OpR X (binaryOp .Mult) rMul := by
  intro pins s σ H x y v u Q I rx ry h
  unfold rMul at h
  split at h
  · exact op_mul pins s σ H _ _ v u Q I rx ry ⟨_, _, rfl, rfl, h.1, h.2⟩
  · obtain ⟨xs, h1, h2, h3, h4, h5⟩ := h
    exact op_rep pins s σ H _ _ v u Q I rx ry ⟨_, _, _, rfl, rfl, h1, by omega, by omega, by rw [sl16]; exact h4, h5⟩
  · obtain ⟨h1, h2, h3, h4⟩ := h
    obtain ⟨t, rfl⟩ := rx
    obtain ⟨t', rfl⟩ := ry
    exact SB.mul (txt_mul_ok h1 h2 h3) fun t' k => ⟨.str _, H, I.tok k, ⟨_, rfl⟩, h4⟩
  · exact h.elim
theorem o_mod : OpR X (binaryOp .Mod) rMod := by
  intro pins s σ H x y v u Q I rx ry h
  unfold rMod at h
  split at h
  · exact op_mod pins s σ H _ _ v u Q I rx ry ⟨_, _, rfl, rfl, h.1, h.2⟩
  · exact h.elim
theorem o_div : OpR X (binaryOp .FloorDiv) rDiv := by
  intro pins s σ H x y v u Q I rx ry h
  unfold rDiv at h
  split at h
  · exact op_fdiv pins s σ H _ _ v u Q I rx ry ⟨_, _, rfl, rfl, ⟨h.1, h.2.1⟩, h.2.2⟩
  · exact h.elim
theorem o_pow : OpR X (binaryOp .Pow) rPow := by
  intro pins s σ H x y v u Q I rx ry h
  unfold rPow at h
  split at h
  · exact op_pow pins s σ H _ _ v u Q I rx ry ⟨_, _, rfl, rfl, ⟨h.1, h.2.1, h.2.2.1⟩, h.2.2.2⟩
  · exact h.elim
theorem cmpI_of {f : Int → Int → Bool} {op : Value → Value → Sem Value} (ho : OpR X op (rI0 fun i j => .bl (f i j))) : OpR X op (rCmpI f) := by
  intro pins s σ H x y v u Q I rx ry h
  unfold rCmpI at h
  split at h
  · exact ho pins s σ H _ _ v u Q I rx ry ⟨_, _, rfl, rfl, h⟩
  · exact h.elim
theorem o_lt : OpR X (compareOp .Lt) (rCmpI fun i j => decide (i < j)) := cmpI_of op_lt
theorem o_le : OpR X (compareOp .LtE) (rCmpI fun i j => decide (i ≤ j)) := cmpI_of op_le
theorem o_gt : OpR X (compareOp .Gt) (rCmpI fun i j => decide (j < i)) := cmpI_of op_gt
theorem o_ge : OpR X (compareOp .GtE) (rCmpI fun i j => decide (j ≤ i)) := cmpI_of op_ge
theorem o_eq (hu : X.A.units + 64 < cLine) : OpR X (compareOp .Eq) rEqU := by
  intro pins s σ H x y v u Q I rx ry h
  obtain ⟨d, e, h1, h2, h3, q⟩ := h
  obtain ⟨as, r1⟩ := Dp.reads I d x v h1.dp rx
  obtain ⟨bs, r2⟩ := Dp.reads I e y u h2.dp ry
  exact SeqAt.eq_plain r1 r2 h1.plain h2.plain (by omega) ⟨.bl _, H, I, rfl, q⟩
theorem o_ne (hu : X.A.units + 64 < cLine) : OpR X (compareOp .NotEq) rNeU := by
  intro pins s σ H x y v u Q I rx ry h
  obtain ⟨d, e, h1, h2, h3, q⟩ := h
  obtain ⟨as, r1⟩ := Dp.reads I d x v h1.dp rx
  obtain ⟨bs, r2⟩ := Dp.reads I e y u h2.dp ry
  exact SeqAt.ne_plain r1 r2 h1.plain h2.plain (by omega) ⟨.bl _, H, I, rfl, q⟩
def rIxU (K : PySem.W.Frag) : R2 := fun x y H Q => match x, y with
  | .str z, .int i => z.length ≤ 16777216 ∧ ∃ c, atI z.cps.toList i = some c ∧ Q (.str (tx [c])) H
  | .ref p, .int i => ∃ xs, (SqL K H p xs ∨ SqT K H p xs) ∧ ∃ v, atI xs i = some v ∧ Q v H
  | _, _ => False
theorem i_ix {K : PySem.W.Frag} (hK : X.K = K := by rfl) : IxR X (rIxU K) := by
  subst hK
  intro value slice pins s σ H x y v u Q I rx ry h hs
  unfold rIxU at h
  split at h
  · obtain ⟨h1, c, h2, h3⟩ := h
    exact ix_str value slice pins s σ H _ _ v u Q I rx ry ⟨_, _, _, rfl, rfl, by rw [sl16]; exact h1, h2, h3⟩ hs
  · obtain ⟨xs, h1, v, h2, h3⟩ := h
    rcases h1 with h1 | h1
    · exact ix_list value slice pins s σ H _ _ _ u Q I rx ry ⟨_, _, _, _, rfl, rfl, h1, h2, h3⟩ hs
    · exact ix_tup value slice pins s σ H _ _ _ u Q I rx ry ⟨_, _, _, _, rfl, rfl, h1, h2, h3⟩ hs
  · exact h.elim
/-- a[lo:hi] of a text or a list -/
def rSlU (K : PySem.W.Frag) : V → Option Int → Option Int → Hp → VK → Prop := fun x lo hi H Q => match x with
  | .str z => z.length ≤ 16777216 ∧ Q (.str (cutS z lo hi)) H
  | .ref p => ∃ xs, SqL K H p xs ∧ ∀ q, H q = none → Q (.ref q) (upd H q (.lst (cutV xs lo hi)))
  | _ => False
theorem s_sl {K : PySem.W.Frag} (hK : X.K = K := by rfl) : SlR X (rSlU K) := by
  subst hK
  intro pins s σ H x v vl vu lo hi sl Q I rx hs pl pu h
  unfold rSlU at h
  split at h
  · exact sl_str pins s σ H _ v vl vu lo hi sl Q I rx hs pl pu ⟨_, rfl, by rw [sl16]; exact h.1, h.2⟩
  · obtain ⟨xs, h1, h2⟩ := h
    exact sl_list pins s σ H _ v vl vu lo hi sl Q I rx hs pl pu ⟨_, _, rfl, h1, h2⟩
  · exact h.elim
def rLen (K : PySem.W.Frag) : List V → Hp → VK → Prop := fun vs H Q => match vs with
  | [.str z] => z.length ≤ 16777216 ∧ Q (.int z.length) H
  | [.ref p] => (∃ xs, (SqL K H p xs ∨ SqT K H p xs) ∧ Q (.int xs.length) H)
  | _ => False
theorem c_len {K : PySem.W.Frag} (hK : X.K = K := by rfl) : CallR X (.builtin "len") (rLen K) := by
  subst hK
  intro pins s σ H xs us Q I r h
  unfold rLen at h
  split at h
  · exact call_len pins s σ H _ us Q I r ⟨_, _, rfl, ⟨by rw [sl16]; exact h.1, rfl⟩, h.2⟩
  · obtain ⟨ys, h1, h2⟩ := h
    rcases h1 with h1 | h1
    · exact call_len pins s σ H _ us Q I r ⟨_, _, rfl, .inl ⟨_, h1, rfl⟩, h2⟩
    · exact call_len pins s σ H _ us Q I r ⟨_, _, rfl, .inr ⟨_, h1, rfl⟩, h2⟩
  · exact h.elim
def rInU (neg : Bool) : R2 := fun x y H Q => match y with
  | .str b => ∃ a, x = .str a ∧ Q (.bl (if neg then !(!(Builtin.Str.occurrences b a 0 b.length 1).isEmpty) else !(Builtin.Str.occurrences b a 0 b.length 1).isEmpty)) H
  | .ref p => ∃ xs ds d, seqAt H p = some xs ∧ RpA H xs ds ∧ Rp H x d ∧ min (PyData.depthAll ds) d.depth ≤ 60 ∧ Q (.bl (if neg then !(ds.any fun y => PyData.eqv y d) else ds.any fun y => PyData.eqv y d)) H
  | _ => False
theorem seqAt_cases {H : Hp} {p : Addr} {xs : List V} (h : seqAt H p = some xs) : lstAt H p = some xs ∨ tupAt H p = some xs := by
  unfold seqAt at h
  unfold lstAt tupAt
  split at h <;> rename_i e <;> first | (cases h; rw [e]; first | exact .inl rfl | exact .inr rfl) | cases h
theorem o_in (hu : X.A.units + 64 < cLine) : OpR X (compareOp .In) (rInU false) := by
  intro pins s σ H x y v u Q I rx ry h
  unfold rInU at h
  split at h
  · obtain ⟨a, rfl, h⟩ := h
    exact op_in_str pins s σ H _ _ v u Q I rx ry ⟨_, _, rfl, rfl, h⟩
  · obtain ⟨xs, ds, d, h1, h2, h3, h4, q⟩ := h
    obtain ⟨bs, r2⟩ := Dp.reads I d x v h3.dp rx
    rcases seqAt_cases h1 with h1 | h1
    · obtain ⟨as, r1⟩ := Dp.reads I (.list ds) _ u (Rp.lst h1 h2).dp ry
      exact SeqAt.in_list_data r1 r2 h2.plain h3.plain (by omega) ⟨.bl _, H, I, rfl, q⟩
    · obtain ⟨as, r1⟩ := Dp.reads I (.tuple ds) _ u (Rp.tup h1 h2).dp ry
      exact SeqAt.in_tuple_data r1 r2 h2.plain h3.plain (by omega) ⟨.bl _, H, I, rfl, q⟩
  · exact h.elim
theorem o_nin (hu : X.A.units + 64 < cLine) : OpR X (compareOp .NotIn) (rInU true) := by
  intro pins s σ H x y v u Q I rx ry h
  unfold rInU at h
  split at h
  · obtain ⟨a, rfl, h⟩ := h
    exact op_notIn_str pins s σ H _ _ v u Q I rx ry ⟨_, _, rfl, rfl, h⟩
  · obtain ⟨xs, ds, d, h1, h2, h3, h4, q⟩ := h
    obtain ⟨bs, r2⟩ := Dp.reads I d x v h3.dp rx
    rcases seqAt_cases h1 with h1 | h1
    · obtain ⟨as, r1⟩ := Dp.reads I (.list ds) _ u (Rp.lst h1 h2).dp ry
      exact SeqAt.notIn_list_data r1 r2 h2.plain h3.plain (by omega) ⟨.bl _, H, I, rfl, q⟩
    · obtain ⟨as, r1⟩ := Dp.reads I (.tuple ds) _ u (Rp.tup h1 h2).dp ry
      exact SeqAt.notIn_tuple_data r1 r2 h2.plain h3.plain (by omega) ⟨.bl _, H, I, rfl, q⟩
  · exact h.elim
def tyO : Option HO → Option String
  | some (.lst _) => some "list"
  | some (.tup _) => some "tuple"
  | some (.dK _) => some "dict"
  | some (.dT _) => some "dict"
  | some (.frz _ (.lst _)) => some "list"
  | some (.frz _ (.tup _)) => some "tuple"
  | some (.frz _ (.dK _)) => some "dict"
  | _ => none
def tyN (H : Hp) : V → Option String
  | .non => some "NoneType"
  | .bl _ => some "bool"
  | .int _ => some "int"
  | .str _ => some "str"
  | .ref p => tyO (H p)
  | _ => none
theorem tyN_ok {K : PySem.W.Frag} {H : Hp} {v : V} {n : String} (h : tyN H v = some n) : TyX K H v (.type n) := by
  cases v with
  | non => cases h; exact .base .non
  | bl b => cases h; exact .base (.bl _)
  | int i => cases h; exact .base (.int _)
  | str x => cases h; exact .base (.str _)
  | ref p =>
    have h : tyO (H p) = some n := h
    unfold tyO at h
    split at h <;> rename_i e
    · cases h; exact .base (.lst e)
    · cases h; exact .base (.tup e)
    · cases h; exact .base (.dK e)
    · cases h; exact .base (.dT e)
    · cases h; exact .base (.frz e)
    · cases h; exact .fTuple e
    · cases h; exact .fDict e
    · cases h
  | _ => cases h
def rIs : List V → Hp → VK → Prop := fun vs H Q => match vs with
  | [x, .ty n] => ∃ t, tyN H x = some t ∧ ∃ b, kitB t n = some b ∧ Q (.bl b) H
  | _ => False
theorem c_is : CallR X (.builtin "isinstance") rIs := by
  intro pins s σ H xs us Q I r h
  unfold rIs at h
  split at h
  · obtain ⟨t, h1, b, h2, h3⟩ := h
    exact call_isi pins s σ H _ us Q I r ⟨_, _, _, _, _, rfl, .ty _, tyN_ok h1, kit_ty h2, h3⟩
  · exact h.elim
def rMax2 : List V → Hp → VK → Prop := fun vs H Q => match vs with
  | [.int i, .int j] => Q (.int (if j > i then j else i)) H
  | _ => False
def rMin2 : List V → Hp → VK → Prop := fun vs H Q => match vs with
  | [.int i, .int j] => Q (.int (if j < i then j else i)) H
  | _ => False
theorem c_max (hc : X.calm = true) : CallR X (.builtin "max") rMax2 := by
  intro pins s σ H xs us Q I r h
  unfold rMax2 at h
  split at h
  · exact call_max2 hc pins s σ H _ us Q I r ⟨_, _, rfl, h⟩
  · exact h.elim
def rAllU : List V → Hp → VK → Prop := fun vs H Q => match vs with
  | [.ref p] => ∃ bs : List Bool, lstAt H p = some (bs.map V.bl) ∧ Q (.bl (bs.all id)) H
  | _ => False
theorem c_all (hc : X.calm = true) : CallR X (.builtin "all") rAllU := by
  intro pins s σ H xs us Q I r h
  unfold rAllU at h
  split at h
  · obtain ⟨bs, h1, h2⟩ := h
    exact cr_all hc pins s σ H _ us Q I r ⟨_, _, rfl, lstAt_sq h1, h2⟩
  · exact h.elim
theorem vals_of : ∀ {xs : List V} {us : List Value}, xs.length = us.length → (∀ (j : Nat) x u, xs[j]? = some x → us[j]? = some u → RelV x u) → Vals xs us
  | [], [], _, _ => .nil
  | [], _ :: _, h, _ => by simp at h
  | _ :: _, [], h, _ => by simp at h
  | a :: r, b :: s, h, k => .cons (k 0 a b rfl rfl) (vals_of (by simpa using h) fun j x u h1 h2 => k (j + 1) x u (by simpa using h1) (by simpa using h2))
theorem vals_signs {x : Str} {acc : Array Value} (h : ItemsOf (SignAt x) acc x.cps.size) : Vals (x.cps.toList.map fun c => V.str (tx [c])) acc.toList := by
  refine vals_of (by rw [List.length_map]; simp [h.1]) fun j v u h1 h2 => ?_
  obtain ⟨c, t, hc, rfl⟩ := h.2 j u (by simpa using h2)
  rw [List.getElem?_map, Array.getElem?_toList, hc] at h1
  cases h1
  exact ⟨t, rfl⟩
def rListU (K : PySem.W.Frag) : List V → Hp → VK → Prop := fun vs H Q => match vs with
  | [.str z] => z.length ≤ 16777216 ∧ ∀ p, H p = none → Q (.ref p) (upd H p (.lst (z.cps.toList.map fun c => V.str (tx [c]))))
  | [.ref p] => ∃ ys, (SqL K H p ys ∨ SqT K H p ys) ∧ ∀ l, H l = none → Q (.ref l) (upd H l (.lst ys))
  | _ => False
theorem c_list (hc : X.calm = true) {K : PySem.W.Frag} (hK : X.K = K := by rfl) : CallR X (.type "list") (rListU K) := by
  subst hK
  intro pins s σ H xs us Q I r h
  unfold rListU at h
  split at h
  · rename_i z
    obtain ⟨hz, q⟩ := h
    obtain ⟨u, rfl, t, rfl⟩ := vals1 r
    refine call_list_str (I.ok.hd hc) z t (fun h' tk acc c' kp e hacc => ?_) (by rw [sl16]; exact hz)
    have hl : (z.cps.toList.map fun c => V.str (tx [c])).length ≤ sizeLine := by rw [List.length_map, Array.length_toList, sl16]; exact hz
    exact ⟨.ref s.heap.objs.size, _, I.laid (t' := tk) kp (Nat.le_refl _) (show ObjOk X.prog X.w _ h' _ (.lst _) from ⟨hl, acc.toList, c', vals_signs hacc, by simpa using e⟩), rfl, q _ (I.hok.fresh (Nat.le_refl _))⟩
  · obtain ⟨ys, h1, h2⟩ := h
    exact call_list_of pins s σ H _ us Q I r ⟨_, _, rfl, h1, h2⟩
  · exact h.elim
def rTupU (K : PySem.W.Frag) : List V → Hp → VK → Prop := fun vs H Q => match vs with
  | [.str z] => z.length ≤ 16777216 ∧ ∀ p, H p = none → Q (.ref p) (upd H p (.tup (z.cps.toList.map fun c => V.str (tx [c]))))
  | [.ref p] => ∃ ys, (SqL K H p ys ∧ ∀ l, H l = none → Q (.ref l) (upd H l (.tup ys))) ∨ (SqT K H p ys ∧ Q (.ref p) H)
  | _ => False
end
end Zb
namespace Zb
open PySem PySem.Spec PyProof.Rows L2
open Evl (tCut pss_cut)
def Fr (M : Addr → Prop) (H H' : Hp) : Prop := ∀ b o, ¬ M b → H b = some o → H' b = some o
abbrev Ex (H H' : Hp) : Prop := Fr (fun _ => False) H H'
theorem Fr.refl {M : Addr → Prop} (H : Hp) : Fr M H H := fun _ _ _ e => e
theorem Fr.trans {M : Addr → Prop} {H H1 H2 : Hp} (a : Fr M H H1) (b : Fr M H1 H2) : Fr M H H2 := fun x o n e => b x o n (a x o n e)
theorem Fr.new {M : Addr → Prop} {H : Hp} {p : Addr} {o : HO} (h : H p = none) : Fr M H (upd H p o) := fun b u _ e => by
  rw [upd_ne (ne_of_none e h)]
  exact e
theorem Fr.at {M : Addr → Prop} {H : Hp} {p : Addr} {o : HO} (h : M p) : Fr M H (upd H p o) := fun b u n e => by
  rw [upd_ne fun z => n (by rw [z]; exact h)]
  exact e
theorem Fr.up {M M' : Addr → Prop} {H H' : Hp} (e : Fr M' H H') (h : ∀ b, M' b → M b) : Fr M H H' := fun b o n q => e b o (fun m => n (h b m)) q
theorem Fr.ex {M : Addr → Prop} {H H' : Hp} (e : Ex H H') : Fr M H H' := e.up fun _ z => z.elim
/-- an object that was not there at H may change -/
theorem Fr.mut {M : Addr → Prop} {H H' : Hp} {p : Addr} {o : HO} (e : Fr M H H') (h : H p = none) : Fr M H (upd H' p o) := fun b u n q => by
  rw [upd_ne (ne_of_none q h)]
  exact e b u n q
theorem Fr.get {M : Addr → Prop} {H H' : Hp} {a : Addr} {o : HO} (e : Fr M H H') (n : ¬ M a) (h : H a = some o) : H' a = some o := e a o n h
theorem Ex.get {H H' : Hp} {a : Addr} {o : HO} (e : Ex H H') (h : H a = some o) : H' a = some o := e a o (fun z => z) h
theorem Ex.free {H H' : Hp} (e : Ex H H') {p : Addr} (h : H' p = none) : H p = none := by
  cases q : H p with
  | none => rfl
  | some o =>
    rw [e p o (fun z => z) q] at h
    cases h
theorem Fr.free {M : Addr → Prop} {H H' : Hp} (e : Fr M H H') {p : Addr} (n : ¬ M p) (h : H' p = none) : H p = none := by
  cases q : H p with
  | none => rfl
  | some o =>
    rw [e p o n q] at h
    cases h
theorem upd_old {H : Hp} {p a : Addr} {o u : HO} (hp : H p = none) (ha : H a = some u) : upd H p o a = some u := by
  rw [upd_ne (ne_of_none ha hp)]
  exact ha
theorem upd_free {H : Hp} {p q : Addr} {o : HO} (h : upd H p o q = none) : H q = none := by
  by_cases e : q = p
  · rw [e, upd_same] at h
    cases h
  · rwa [upd_ne e] at h
theorem lst_of {H : Hp} {p : Addr} {xs : List V} (h : H p = some (.lst xs)) : lstAt H p = some xs := by unfold lstAt; rw [h]
theorem tup_of {H : Hp} {p : Addr} {xs : List V} (h : H p = some (.tup xs)) : tupAt H p = some xs := by unfold tupAt; rw [h]
theorem seq_l {H : Hp} {p : Addr} {xs : List V} (h : H p = some (.lst xs)) : seqAt H p = some xs := by unfold seqAt; rw [h]
theorem seq_t {H : Hp} {p : Addr} {xs : List V} (h : H p = some (.tup xs)) : seqAt H p = some xs := by unfold seqAt; rw [h]
section
variable {D : Ends} {σ : L2.St} {H : Hp} {Q : VK} {K : PySem.W.Frag} {R : L2.St → Hp → Prop} {B : Bool → Hp → Prop}
theorem st_seq {t u : TS} (h : t { D with nx := u D } σ H) : tSeq t u D σ H := h
theorem st_next (h : D.nx σ H) : tNext D σ H := h
theorem st_brk (h : D.bk σ H) : tBreak D σ H := h
theorem st_cont (h : D.ct σ H) : tCont D σ H := h
theorem st_drop {te : TE} (h : te σ H (fun _ H1 => D.nx σ H1)) : tDrop te D σ H := h
theorem st_ret {te : TE} (h : te σ H D.rt) : tRet te D σ H := h
theorem st_retN (h : D.rt .non H) : tRetN D σ H := h
theorem st_ifS {c : TT} {t u : TS} (h : c σ H (fun b H1 => if b = true then t D σ H1 else u D σ H1)) : tIfS c t u D σ H := h
theorem st_asg {te : TE} {g : TG} (h : te σ H (fun x H1 => g x σ H1 D.nx)) : tAsg te g D σ H := h
theorem st_name {i : Nat} {v : V} (h : R (σ.set i (some v)) H) : gName i v σ H R := h
theorem st_sub {to ti : TE} {t : TSet} {v : V} (h : to σ H (fun o H1 => ti σ H1 fun i H2 => t o i v H2 fun H3 => R σ H3)) : gSub to ti t v σ H R := h
theorem st_augI {i : Nat} {te : TE} {f : Int → Int → Int} {z : Int} (hx : σ[i]? = some (some (.int z))) (h : te σ H (fun y H1 => ipI f (.int z) y H1 fun z H2 => D.nx (σ.set i (some z)) H2)) : tAug i te (ipI f) D σ H := ⟨_, hx, h⟩
theorem st_ipI {f : Int → Int → Int} {x y : Int} (h : Q (.int (f x y)) H) : ipI f (.int x) (.int y) H Q := ⟨_, _, rfl, rfl, h⟩
theorem st_par {i j : Nat} {ta : TA} (h : ta σ H (fun vs H1 => ∃ v w, vs = [v, w] ∧ D.nx ((σ.set i (some v)).set j (some w)) H1)) : tPar i j ta D σ H := h
theorem st_par2 {v w : V} {P : V → V → Prop} (h : P v w) : ∃ v' w', [v, w] = [v', w'] ∧ P v' w' := ⟨v, w, rfl, h⟩
theorem st_var {i : Nat} {v : V} (hv : σ[i]? = some (some v)) (h : Q v H) : tVar i σ H Q := ⟨v, hv, h⟩
theorem st_c {v : V} (h : Q v H) : tC v σ H Q := h
theorem st_op {r : R2} {ta tb : TE} (h : ta σ H (fun x H1 => tb σ H1 fun y H2 => r x y H2 Q)) : tOp r ta tb σ H Q := h
theorem st_un {r : V → Hp → VK → Prop} {ta : TE} (h : ta σ H (fun x H1 => r x H1 Q)) : tUn r ta σ H Q := h
theorem st_rU {g : Int → V} {i : Int} (h : Q (g i) H) : rU g (.int i) H Q := ⟨i, rfl, h⟩
theorem st_B {t : TE} (h : t σ H (fun x H1 => ∃ c, x = .bl c ∧ B c H1)) : tB t σ H B := h
theorem st_test {t : TE} (h : t σ H (fun x H1 => ∃ c, x = .bl c ∧ B c H1)) : tTest t σ H B := h
theorem st_isb {b : Bool} {P : Bool → Prop} (h : P b) : ∃ c, V.bl b = .bl c ∧ P c := ⟨b, rfl, h⟩
theorem st_and {t u : TT} (h : t σ H (fun c H1 => if c = true then u σ H1 B else B false H1)) : tAnd t u σ H B := h
theorem st_or {t u : TT} (h : t σ H (fun c H1 => if c = true then B true H1 else u σ H1 B)) : tOr t u σ H B := h
theorem st_not {t : TT} (h : t σ H (fun c H1 => B (!c) H1)) : tNot t σ H B := h
theorem st_andV {ta tb : TE} (h : ta σ H (fun x H1 => ∃ c, x = .bl c ∧ if c = true then tb σ H1 Q else Q (.bl false) H1)) : tAndV ta tb σ H Q := h
theorem st_orV {ta tb : TE} (h : ta σ H (fun x H1 => ∃ c, x = .bl c ∧ if c = true then Q (.bl true) H1 else tb σ H1 Q)) : tOrV ta tb σ H Q := h
theorem st_notV {ta : TE} (h : ta σ H (fun x H1 => ∃ c, x = .bl c ∧ Q (.bl (!c)) H1)) : tNotV ta σ H Q := h
theorem st_if {t : TT} {ta tb : TE} (h : t σ H (fun c H1 => if c = true then ta σ H1 Q else tb σ H1 Q)) : tIf t ta tb σ H Q := h
theorem st_nil {P : List V → Hp → Prop} (h : P [] H) : tNil σ H P := h
theorem st_cons {ta : TE} {tr : TA} {P : List V → Hp → Prop} (h : ta σ H (fun x H1 => tr σ H1 fun xs H2 => P (x :: xs) H2)) : tCons ta tr σ H P := h
def NewO (o : List V → HO) (xs : List V) (Q : VK) (H : Hp) : Prop := xs.length ≤ sizeLine ∧ ∀ p, H p = none → Q (.ref p) (upd H p (o xs))
theorem st_tup {t : TA} (h : t σ H (fun xs H1 => NewO .tup xs Q H1)) : tTup t σ H Q := h
theorem st_lst {t : TA} (h : t σ H (fun xs H1 => NewO .lst xs Q H1)) : tLst t σ H Q := h
/-- a new object: from then on the heap is a letter -/
theorem st_new {xs : List V} {o : List V → HO} (hz : xs.length ≤ 16777216) (h : ∀ p H', H p = none → Ex H H' → H' p = some (o xs) → Q (.ref p) H') : NewO o xs Q H :=
  ⟨by rw [sl16]; exact hz, fun p hp => h p _ hp (Fr.new hp) upd_same⟩
theorem st_cb {r : List V → Hp → VK → Prop} {t : TA} (h : t σ H (fun vs H1 => r vs H1 Q)) : tCB r t σ H Q := h
theorem st_call {sp : Sp} {dvs : List V} {E : XK} {t : TA} (h : t σ H (fun vs H1 => sp (vs ++ dvs) H1 Q E)) : tCall sp dvs E t σ H Q := h
theorem st_sl {r : V → Option Int → Option Int → Hp → VK → Prop} {te : TE} {tl th : TO} (h : te σ H (fun x H1 => tl σ H1 fun l H2 => th σ H2 fun u H3 => r x l u H3 Q)) : tSl r te tl th σ H Q := h
theorem st_part {te : TE} {P : Option Int → Hp → Prop} (h : te σ H (fun x H1 => ∃ i, x = .int i ∧ P (some i) H1)) : tPart te σ H P := h
theorem st_isi {i : Int} {P : Int → Prop} (h : P i) : ∃ j, V.int i = .int j ∧ P j := ⟨i, rfl, h⟩
theorem st_nopart {P : Option Int → Hp → Prop} (h : P none H) : tNoPart σ H P := h
theorem st_addI {i j : Int} (h : Q (.int (i + j)) H) : rAdd (.int i) (.int j) H Q := h
theorem st_addS {a b : Str} (hz : a.length + b.length ≤ 16777216) (h : Q (.str (a ++ b)) H) : rAdd (.str a) (.str b) H Q := ⟨hz, h⟩
theorem st_addL {p q : Addr} {xs ys : List V} (h1 : H p = some (.lst xs)) (h2 : H q = some (.lst ys)) (hz : xs.length + ys.length ≤ 16777216) (h : ∀ r H', H r = none → Ex H H' → H' r = some (.lst (xs ++ ys)) → Q (.ref r) H') : rAdd (.ref p) (.ref q) H Q :=
  ⟨xs, ys, h1, h2, hz, fun r hr => h r _ hr (Fr.new hr) upd_same⟩
theorem st_subI {i j : Int} (h : Q (.int (i - j)) H) : rSub (.int i) (.int j) H Q := h
theorem st_mulI {i j : Int} (hc : (-(2 ^ 64) < i ∧ i < 2 ^ 64) ∨ (-(2 ^ 64) < j ∧ j < 2 ^ 64)) (h : Q (.int (i * j)) H) : rMul (.int i) (.int j) H Q := ⟨hc, h⟩
theorem st_mulL {p : Addr} {k : Int} {xs : List V} (h1 : H p = some (.lst xs)) (h2 : -1000000 ≤ k) (h3 : k ≤ 1000000) (hz : xs.length * k.toNat ≤ 16777216) (h : ∀ r H', H r = none → Ex H H' → H' r = some (.lst (List.replicate k.toNat xs).flatten) → Q (.ref r) H') : rMul (.ref p) (.int k) H Q :=
  ⟨xs, h1, h2, h3, hz, fun r hr => h r _ hr (Fr.new hr) upd_same⟩
theorem st_mulS {a : Str} {k : Int} (h2 : -1000000 ≤ k) (h3 : k ≤ 1000000) (hz : a.length * k.toNat ≤ 16777216) (h : Q (.str (Txt.mul a k)) H) : rMul (.str a) (.int k) H Q := ⟨h2, h3, hz, h⟩
theorem st_modI {i j : Int} (hc : 0 < j) (h : Q (.int (i % j)) H) : rMod (.int i) (.int j) H Q := ⟨hc, h⟩
theorem st_divI {i j : Int} (hc : 0 < j ∧ j < 1073741824) (h : Q (.int (i / j)) H) : rDiv (.int i) (.int j) H Q := ⟨hc.1, hc.2, h⟩
theorem st_powI {i j : Int} (hc : 0 ≤ j ∧ j ≤ 1000000 ∧ i.natAbs < 2 ^ 64) (h : Q (.int (i ^ j.toNat)) H) : rPow (.int i) (.int j) H Q := ⟨hc.1, hc.2.1, hc.2.2, h⟩
theorem st_cmpI {f : Int → Int → Bool} {i j : Int} (h : Q (.bl (f i j)) H) : rCmpI f (.int i) (.int j) H Q := h
theorem st_eqI {i j : Int} (h : Q (.bl (decide (i = j))) H) : rEqU (.int i) (.int j) H Q := ⟨_, _, .int i, .int j, by simp [PyData.depth], by
  have e : PyData.eqv (.int i) (.int j) = decide (i = j) := by simp only [PyData.eqv]; rfl
  rw [e]; exact h⟩
theorem st_neI {i j : Int} (h : Q (.bl (!decide (i = j))) H) : rNeU (.int i) (.int j) H Q := ⟨_, _, .int i, .int j, by simp [PyData.depth], by
  have e : PyData.eqv (.int i) (.int j) = decide (i = j) := by simp only [PyData.eqv]; rfl
  rw [e]; exact h⟩
theorem st_eqS {i j : Str} (h : Q (.bl (decide (i = j))) H) : rEqU (.str i) (.str j) H Q := ⟨_, _, .str i, .str j, by simp [PyData.depth], by
  have e : PyData.eqv (.str i) (.str j) = decide (i = j) := by simp only [PyData.eqv]; rfl
  rw [e]; exact h⟩
theorem st_neS {i j : Str} (h : Q (.bl (!decide (i = j))) H) : rNeU (.str i) (.str j) H Q := ⟨_, _, .str i, .str j, by simp [PyData.depth], by
  have e : PyData.eqv (.str i) (.str j) = decide (i = j) := by simp only [PyData.eqv]; rfl
  rw [e]; exact h⟩
theorem st_eqB {i j : Bool} (h : Q (.bl (i == j)) H) : rEqU (.bl i) (.bl j) H Q := ⟨_, _, .bl i, .bl j, by simp [PyData.depth], by
  have e : PyData.eqv (.bool i) (.bool j) = (i == j) := by simp only [PyData.eqv]
  rw [e]; exact h⟩
theorem st_neB {i j : Bool} (h : Q (.bl (!(i == j))) H) : rNeU (.bl i) (.bl j) H Q := ⟨_, _, .bl i, .bl j, by simp [PyData.depth], by
  have e : PyData.eqv (.bool i) (.bool j) = (i == j) := by simp only [PyData.eqv]
  rw [e]; exact h⟩
theorem st_neD {x y : V} {d e : PyData} (h1 : Rp H x d) (h2 : Rp H y e) (hd : min d.depth e.depth ≤ 64) (h : Q (.bl (!PyData.eqv d e)) H) : rNeU x y H Q := ⟨d, e, h1, h2, hd, h⟩
theorem st_ixL {p : Addr} {i : Int} {v : V} {xs : List V} (h1 : H p = some (.lst xs)) (h2 : atI xs i = some v) (h : Q v H) : rIxU K (.ref p) (.int i) H Q := ⟨xs, seqAt_sq (seq_l h1), v, h2, h⟩
theorem st_ixT {p : Addr} {i : Int} {v : V} {xs : List V} (h1 : H p = some (.tup xs)) (h2 : atI xs i = some v) (h : Q v H) : rIxU K (.ref p) (.int i) H Q := ⟨xs, seqAt_sq (seq_t h1), v, h2, h⟩
theorem st_ixK {p : Addr} {i : Int} {v : V} {xs : List V} (h1 : SqL K H p xs) (h2 : atI xs i = some v) (h : Q v H) : rIxU K (.ref p) (.int i) H Q := ⟨xs, .inl h1, v, h2, h⟩
theorem at_in {α : Type} {xs : List α} {i : Int} (h0 : 0 ≤ i) (h1 : i < xs.length) : ∃ v, atI xs i = some v ∧ xs[i.toNat]? = some v := by
  have hj : i.toNat < xs.length := by omega
  refine ⟨xs[i.toNat], ?_, List.getElem?_eq_getElem hj⟩
  unfold atI ixN
  rw [if_pos h0, if_pos h1]
  exact List.getElem?_eq_getElem hj
/-- an item of a row of numbers, of texts, at some place -/
theorem st_ixI {p : Addr} {i : Int} {xs : List V} (ns : List Int) (h1 : H p = some (.lst xs)) (e : xs = ns.map V.int) (h0 : 0 ≤ i) (hi : i < ns.length) (h : ∀ z, ns[i.toNat]? = some z → z ∈ ns → Q (.int z) H) : rIxU K (.ref p) (.int i) H Q := by
  subst e
  obtain ⟨v, h2, h3⟩ := at_in (xs := ns.map V.int) h0 (by rw [List.length_map]; exact hi)
  rw [List.getElem?_map] at h3
  cases q : ns[i.toNat]? with
  | none => rw [q] at h3; cases h3
  | some z =>
    rw [q] at h3
    cases h3
    exact st_ixL h1 h2 (h z q (List.mem_of_getElem? q))
/-- a sign of a text -/
theorem st_sign {z : Str} {i : Int} {c : Nat} (hz : z.length ≤ 16777216) (h2 : atI z.cps.toList i = some c) (h : Q (.str (tx [c])) H) : rIxU K (.str z) (.int i) H Q := ⟨hz, c, h2, h⟩
theorem st_slS {z : Str} {lo hi : Option Int} (hz : z.length ≤ 16777216) (h : Q (.str (cutS z lo hi)) H) : rSlU K (.str z) lo hi H Q := ⟨hz, h⟩
theorem st_slL {p : Addr} {xs : List V} {lo hi : Option Int} (h1 : lstAt H p = some xs) (h : ∀ q H', H q = none → Ex H H' → H' q = some (.lst (cutV xs lo hi)) → Q (.ref q) H') : rSlU K (.ref p) lo hi H Q := ⟨xs, lstAt_sq h1, fun q hq => h q _ hq (Fr.new hq) upd_same⟩
theorem st_slK {p : Addr} {xs : List V} {lo hi : Option Int} (h1 : SqL K H p xs) (h : ∀ q H', H q = none → Ex H H' → H' q = some (.lst (cutV xs lo hi)) → Q (.ref q) H') : rSlU K (.ref p) lo hi H Q := ⟨xs, h1, fun q hq => h q _ hq (Fr.new hq) upd_same⟩
theorem st_lenS {z : Str} (hz : z.length ≤ 16777216) (h : Q (.int z.length) H) : rLen K [.str z] H Q := ⟨hz, h⟩
theorem st_lenL {p : Addr} {xs : List V} (h1 : H p = some (.lst xs)) (h : Q (.int xs.length) H) : rLen K [.ref p] H Q := ⟨xs, seqAt_sq (seq_l h1), h⟩
theorem st_lenT {p : Addr} {xs : List V} (h1 : H p = some (.tup xs)) (h : Q (.int xs.length) H) : rLen K [.ref p] H Q := ⟨xs, seqAt_sq (seq_t h1), h⟩
theorem st_lenQ {p : Addr} {xs : List V} (h1 : seqAt H p = some xs) (h : Q (.int xs.length) H) : rLen K [.ref p] H Q := ⟨xs, seqAt_sq h1, h⟩
theorem st_lenK {p : Addr} {xs : List V} (h1 : SqL K H p xs) (h : Q (.int xs.length) H) : rLen K [.ref p] H Q := ⟨xs, .inl h1, h⟩
theorem st_max2 {i j : Int} (h : Q (.int (if j > i then j else i)) H) : Zb.rMax2 [.int i, .int j] H Q := h
theorem st_min2 {i j : Int} (h : Q (.int (if j < i then j else i)) H) : Zb.rMin2 [.int i, .int j] H Q := h
theorem st_is {x : V} {n t : String} {b : Bool} (h1 : tyN H x = some t) (h2 : kitB t n = some b) (h : Q (.bl b) H) : rIs [x, .ty n] H Q := ⟨t, h1, b, h2, h⟩
/-- xs[i] = e -/
theorem st_setL {p : Addr} {k : Int} {v : V} {xs : List V} {j : Nat} {R : Hp → Prop} (h1 : H p = some (.lst xs)) (h2 : ixN xs.length k = some j) (h : R (upd H p (.lst (xs.set j v)))) : rSetL (.ref p) (.int k) v H R := ⟨p, xs, k, j, rfl, rfl, h1, h2, h⟩
theorem st_T {A B : Prop} {b : Bool} (hb : b = true) (h : A) : if b = true then A else B := by rw [if_pos hb]; exact h
theorem st_F {A B : Prop} {b : Bool} (hb : b = false) (h : B) : if b = true then A else B := by rw [hb, if_neg Bool.false_ne_true]; exact h
theorem st_br {A B : Prop} {b : Bool} (h1 : b = true → A) (h2 : b = false → B) : if b = true then A else B := by
  cases b with
  | true => exact h1 rfl
  | false => exact h2 rfl
theorem st_br2 {A B : Prop} {p : Prop} [Decidable p] (h1 : p → A) (h2 : ¬ p → B) : if decide p = true then A else B := by
  by_cases q : p
  · rw [decide_eq_true q]; exact h1 q
  · rw [decide_eq_false q, if_neg Bool.false_ne_true]; exact h2 q
end
def Purse (H : Hp) (a : Addr) : Prop := ∃ x y z : Int, H a = some (.lst [.int x, .int y, .int z])
abbrev FrP (p : Addr) (H H' : Hp) : Prop := Fr (fun b => b = p) H H'
theorem FrP.at {H : Hp} {p : Addr} {o : HO} : FrP p H (upd H p o) := Fr.at (M := fun b => b = p) rfl
theorem Purse.ne {H : Hp} {p q : Addr} (h : Purse H p) (hq : H q = none) : q ≠ p := fun e => by
  obtain ⟨x, y, z, h⟩ := h
  rw [e, h] at hq
  cases hq
theorem Purse.ex {H H' : Hp} {p : Addr} (h : Purse H p) (e : Ex H H') : Purse H' p := by
  obtain ⟨x, y, z, h⟩ := h
  exact ⟨x, y, z, e.get h⟩
end Zb
namespace Zb
open PySem PySem.Spec PyProof.Rows L2
open Evl (tCut pss_cut)
structure Runs (J : It) (n : Nat) (S : Hp → Prop) (item : Nat → V → Hp → Hp → Prop) : Prop where
  go : ∀ i H, i < n → S H → J.go i H
  stop : ∀ H, S H → J.stop n H
  yld : ∀ i H x H', i < n → S H → J.yld i H x H' → item i x H H'
theorem runs_range (lo : Int) (n : Nat) : Runs (Itr lo n) n (fun _ => True) (fun i x H H' => H' = H ∧ x = .int (lo + i)) :=
  ⟨fun _ _ h _ => h, fun _ _ => Nat.le_refl _, fun _ _ _ _ _ _ y => y⟩
theorem runs_list (K : PySem.W.Frag) (a : Addr) (xs : List V) : Runs (Itl K a) xs.length (fun H => lstAt H a = some xs) (fun i x H H' => H' = H ∧ xs[i]? = some x) :=
  ⟨fun i H h s => ⟨xs, xs[i], lstAt_sq s, by simp [h]⟩, fun _ s => ⟨xs, lstAt_sq s, Nat.le_refl _⟩, fun _ _ _ _ _ s y => ⟨y.1, y.2 xs (lstAt_sq s)⟩⟩
theorem runs_tup (K : PySem.W.Frag) (a : Addr) (xs : List V) : Runs (Itt K a) xs.length (fun H => tupAt H a = some xs) (fun i x H H' => H' = H ∧ xs[i]? = some x) :=
  ⟨fun i H h s => ⟨xs, xs[i], tupAt_sq s, by simp [h]⟩, fun _ s => ⟨xs, tupAt_sq s, Nat.le_refl _⟩, fun _ _ _ _ _ s y => ⟨y.1, y.2 xs (tupAt_sq s)⟩⟩
theorem runs_enum (K : PySem.W.Frag) (a : Addr) (xs : List V) : Runs (Ite K a) xs.length (fun H => lstAt H a = some xs) (fun i x H H' => ∃ T v, x = .ref T ∧ H T = none ∧ Ex H H' ∧ H' T = some (.tup [.int (i : Nat), v]) ∧ xs[i]? = some v) :=
  ⟨fun i H h s => ⟨xs, xs[i], lstAt_sq s, by simp [h]⟩, fun _ s => ⟨xs, lstAt_sq s, Nat.le_refl _⟩, fun i H x H' _ s y => by
    obtain ⟨T, v, e1, e2, e3, e4⟩ := y
    subst e3
    exact ⟨T, v, e1, e2, Fr.new e2, upd_same, e4 xs (lstAt_sq s)⟩⟩
theorem runs_zip (K : PySem.W.Frag) (a b : Addr) (xs ys : List V) : Runs (Itz K a b) (min xs.length ys.length) (fun H => lstAt H a = some xs ∧ lstAt H b = some ys) (fun i x H H' => ∃ T v u, x = .ref T ∧ H T = none ∧ Ex H H' ∧ H' T = some (.tup [v, u]) ∧ xs[i]? = some v ∧ ys[i]? = some u) :=
  ⟨fun i H h s => ⟨xs, ys, xs[i]'(by omega), ys[i]'(by omega), lstAt_sq s.1, lstAt_sq s.2, by rw [List.getElem?_eq_getElem], by rw [List.getElem?_eq_getElem]⟩, fun _ s => ⟨xs, ys, lstAt_sq s.1, lstAt_sq s.2, by omega⟩, fun i H x H' _ s y => by
    obtain ⟨T, v, u, e1, e2, e3, e4, e5⟩ := y
    subst e3
    exact ⟨T, v, u, e1, e2, Fr.new e2, upd_same, e4 xs (lstAt_sq s.1), e5 ys (lstAt_sq s.2)⟩⟩
def LcGoal (J : It) (g : TG) (tt : TT) (te : TE) (vs : List Nat) (σ : L2.St) (Q : VK) (H1 : Hp) : Prop := ∀ D, H1 D = none → ∃ W : Nat → Nat → Hp → Prop, (∃ m, W 0 m (upd H1 D (.lst []))) ∧ ∀ i m H, W i m H →
      (J.stop i H ∧ Q (.ref D) H) ∨ (J.go i H ∧ ∃ Nx : Hp → Prop, (∀ H', Nx H' → ∃ m', m' < m ∧ W (i + 1) m' H') ∧ ∀ x H', J.yld i H x H' → g x (wipe σ vs) H' fun σ2 H2 => wipe σ2 vs = wipe σ vs ∧ tt σ2 H2 fun b H3 =>
        if b = true then te σ2 H3 fun y H4 => ∃ acc, H4 D = some (.lst acc) ∧ acc.length < sizeLine ∧ Nx (upd H4 D (.lst (acc ++ [y]))) else Nx H3)
def ForGoal (J : It) (g : TG) (tb : TS) (D : Ends) (σ : L2.St) (H : Hp) : Prop := ∃ W : Nat → Nat → L2.St → Hp → Prop, (∃ m, W 0 m σ H) ∧ ∀ i m σ H, W i m σ H →
      (J.stop i H ∧ D.nx σ H) ∨ (J.go i H ∧ ∃ N : L2.St → Hp → Prop, (∀ σ' H', N σ' H' → ∃ m', m' < m ∧ W (i + 1) m' σ' H') ∧ ∀ x H', J.yld i H x H' → g x σ H' fun σ2 H2 => tb { D with nx := N, ct := N, bk := D.nx } σ2 H2)
section
variable {J : It} {n : Nat} {S : Hp → Prop} {item : Nat → V → Hp → Hp → Prop} {g : TG} {σ : L2.St} {H H1 : Hp} {K : PySem.W.Frag}
/-- a for loop by its word Pv -/
theorem for_runs {tb : TS} {D : Ends} (hR : Runs J n S item) (Pv : Nat → L2.St → Hp → Prop) (h0 : Pv 0 σ H) (hS : ∀ i σ H, i ≤ n → Pv i σ H → S H)
    (hs : ∀ i x σ H H', i < n → Pv i σ H → item i x H H' → g x σ H' fun σ2 H2 => tb { D with nx := Pv (i + 1), ct := Pv (i + 1), bk := D.nx } σ2 H2) (hd : ∀ σ H, Pv n σ H → D.nx σ H) :
    ForGoal J g tb D σ H := by
  refine ⟨fun i m σ H => m = n - i ∧ i ≤ n ∧ Pv i σ H, ⟨n, by simp, Nat.zero_le _, h0⟩, ?_⟩
  rintro i m σ H ⟨rfl, hi, p⟩
  by_cases hlt : i < n
  · refine .inr ⟨hR.go i H hlt (hS i σ H hi p), Pv (i + 1), fun σ' H' p' => ⟨n - (i + 1), by omega, rfl, hlt, p'⟩, fun x H' y => ?_⟩
    exact hs i x σ H H' hlt p (hR.yld i H x H' hlt (hS i σ H hi p) y)
  · have e : i = n := by omega
    subst e
    exact .inl ⟨hR.stop H (hS i σ H hi p), hd σ H p⟩
/-- the list of a comprehension on its way -/
structure LcAt (M : Addr → Prop) (H1 : Hp) (D : Addr) (acc : List V) (H : Hp) : Prop where
  new : H1 D = none
  non : ¬ M D
  at_ : H D = some (.lst acc)
  fr : Fr M H1 H
def LcW (M : Addr → Prop) (H1 : Hp) (Pv : Nat → List V → Hp → Prop) (D : Addr) (i : Nat) (H : Hp) : Prop := ∃ acc, LcAt M H1 D acc H ∧ Pv i acc H
/-- Pv does not look at the list itself -/
def LcSt (M : Addr → Prop) (H1 : Hp) (Pv : Nat → List V → Hp → Prop) : Prop := ∀ i acc H' D o, H1 D = none → Fr M H1 H' → Pv i acc H' → Pv i acc (upd H' D o)
theorem lc_yes {M : Addr → Prop} {Pv : Nat → List V → Hp → Prop} {D : Addr} {i : Nat} {acc : List V} {H' H4 : Hp} {y : V} (L : LcAt M H1 D acc H') (hst : LcSt M H1 Pv) (e : Fr M H' H4) (hz : acc.length < 1000000) (p : Pv (i + 1) (acc ++ [y]) H4) :
    ∃ acc, H4 D = some (.lst acc) ∧ acc.length < sizeLine ∧ LcW M H1 Pv D (i + 1) (upd H4 D (.lst (acc ++ [y]))) :=
  ⟨acc, e D _ L.non L.at_, by rw [sl16]; omega, acc ++ [y], ⟨L.new, L.non, upd_same, (L.fr.trans e).mut L.new⟩, hst _ _ _ _ _ L.new (L.fr.trans e) p⟩
theorem lc_no {M : Addr → Prop} {Pv : Nat → List V → Hp → Prop} {D : Addr} {i : Nat} {acc : List V} {H' H4 : Hp} (L : LcAt M H1 D acc H') (e : Fr M H' H4) (p : Pv (i + 1) acc H4) : LcW M H1 Pv D (i + 1) H4 :=
  ⟨acc, ⟨L.new, L.non, e D _ L.non L.at_, L.fr.trans e⟩, p⟩
theorem lc_runs {tt : TT} {te : TE} {vs : List Nat} {Q : VK} (hR : Runs J n S item) (M : Addr → Prop) (Pv : Nat → List V → Hp → Prop) (hM : ∀ b, M b → H1 b ≠ none) (h0 : Pv 0 [] H1) (hst : LcSt M H1 Pv) (hS : ∀ i acc H', Fr M H1 H' → Pv i acc H' → S H')
    (hs : ∀ D i acc x H' H'', i < n → LcAt M H1 D acc H' → Pv i acc H' → item i x H' H'' → g x (wipe σ vs) H'' fun σ2 H2 => wipe σ2 vs = wipe σ vs ∧ tt σ2 H2 fun b H3 => if b = true then te σ2 H3 fun y H4 => ∃ acc, H4 D = some (.lst acc) ∧ acc.length < sizeLine ∧ LcW M H1 Pv D (i + 1) (upd H4 D (.lst (acc ++ [y]))) else LcW M H1 Pv D (i + 1) H3)
    (hd : ∀ D acc H', H1 D = none → Fr M H1 H' → H' D = some (.lst acc) → Pv n acc H' → Q (.ref D) H') :
    LcGoal J g tt te vs σ Q H1 := by
  intro D hD
  refine ⟨fun i m H => m = n - i ∧ i ≤ n ∧ LcW M H1 Pv D i H, ⟨n, by simp, Nat.zero_le _, [], ⟨hD, fun m => hM D m hD, upd_same, Fr.new hD⟩, hst _ _ _ _ _ hD (Fr.refl _) h0⟩, ?_⟩
  rintro i m H ⟨rfl, hi, acc, L, p⟩
  by_cases hlt : i < n
  · refine .inr ⟨hR.go i H hlt (hS i acc H L.fr p), LcW M H1 Pv D (i + 1), fun H' p' => ⟨n - (i + 1), by omega, rfl, hlt, p'⟩, fun x H' y => ?_⟩
    exact hs D i acc x H H' hlt L p (hR.yld i H x H' hlt (hS i acc H L.fr p) y)
  · have e : i = n := by omega
    subst e
    exact .inl ⟨hR.stop H (hS i acc H L.fr p), hd D acc H hD L.fr L.at_ p⟩
abbrev RunsV {α : Type} (J : It) (ys : List α) (val : α → V) (S : Hp → Prop) : Prop := Runs J ys.length S (fun i x H H' => H' = H ∧ ∃ y, ys[i]? = some y ∧ x = val y)
theorem rv_str (z : Str) : RunsV (Its z) z.cps.toList (fun c => .str (tx [c])) (fun _ => True) :=
  ⟨fun i _ h _ => by show i < z.cps.size; simpa using h, fun _ _ => by show z.cps.size ≤ z.cps.toList.length; simp, fun _ _ _ _ _ _ y => by
    obtain ⟨h, c, e1, e2⟩ := y
    exact ⟨h, c, by rw [Array.getElem?_toList]; exact e1, e2⟩⟩
theorem rv_list (K : PySem.W.Frag) (a : Addr) {α : Type} (ys : List α) (val : α → V) : RunsV (Itl K a) ys val (fun H => lstAt H a = some (ys.map val)) :=
  ⟨fun i H h s => ⟨ys.map val, val ys[i], lstAt_sq s, by simp [h]⟩, fun _ s => ⟨ys.map val, lstAt_sq s, by simp⟩, fun i H x H' h s y => by
    have e := y.2 _ (lstAt_sq s)
    rw [List.getElem?_map, List.getElem?_eq_getElem h] at e
    exact ⟨y.1, ys[i], List.getElem?_eq_getElem h, (Option.some.inj e).symm⟩⟩
theorem rv_range (lo : Int) (n : Nat) : RunsV (Itr lo n) (List.range n) (fun i => .int (lo + i)) (fun _ => True) :=
  ⟨fun _ _ h _ => by rw [List.length_range] at h; exact h, fun _ _ => by rw [List.length_range]; exact Nat.le_refl _, fun i _ _ _ h _ y => by
    rw [List.length_range] at h
    exact ⟨y.1, i, by rw [List.getElem?_range h], y.2⟩⟩
theorem lc_pure {α : Type} {ys : List α} {val : α → V} {tt : TT} {te : TE} {vs : List Nat} {Q : VK} (hR : RunsV J ys val S) (hS : ∀ H', Ex H1 H' → S H') (hz : ys.length < 1000000) (p : α → Bool) (f : α → V)
    (hs : ∀ y H', y ∈ ys → Ex H1 H' → ∀ (B : V → Hp → Prop) (A : Hp → Prop), (p y = true → ∀ H'', Ex H' H'' → B (f y) H'') → (p y = false → ∀ H'', Ex H' H'' → A H'') → g (val y) (wipe σ vs) H' fun σ2 H2 => wipe σ2 vs = wipe σ vs ∧ tt σ2 H2 fun b H3 => if b = true then te σ2 H3 B else A H3)
    (hd : ∀ D H', H1 D = none → Ex H1 H' → H' D = some (.lst ((ys.filter p).map f)) → Q (.ref D) H') :
    LcGoal J g tt te vs σ Q H1 := by
  have tk : ∀ {i : Nat} {y : α}, ys[i]? = some y → ys.take (i + 1) = ys.take i ++ [y] := fun {i y} e => by
    rw [List.take_succ, e]
    rfl
  refine lc_runs hR (fun _ => False) (fun i acc _ => acc = ((ys.take i).filter p).map f) (fun _ z => z.elim) (by simp) (fun i acc H' D o _ _ e => e) (fun i acc H' e _ => hS H' e) ?_ ?_
  · rintro D i acc x H' H'' hi L rfl ⟨rfl, y, hy, rfl⟩
    have hl : (((ys.take i).filter p).map f).length < 1000000 := by
      rw [List.length_map]
      have := List.length_filter_le p (ys.take i)
      rw [List.length_take] at this
      omega
    refine hs y H'' (List.mem_of_getElem? hy) L.fr _ _ (fun hp H3 e => ?_) (fun hp H3 e => ?_)
    · refine lc_yes L (fun i acc H' D o _ _ e => e) e hl ?_
      rw [tk hy, List.filter_append, List.map_append, List.filter_cons, if_pos hp]
      rfl
    · refine lc_no L e ?_
      rw [tk hy, List.filter_append, List.map_append, List.filter_cons, if_neg (by rw [hp]; decide)]
      simp
  · rintro D acc H' hD e h rfl
    rw [List.take_length] at h
    exact hd D H' hD e h
/-- no test -/
theorem lc_map {α : Type} {ys : List α} {val : α → V} {te : TE} {vs : List Nat} {Q : VK} (hR : RunsV J ys val S) (hS : ∀ H', Ex H1 H' → S H') (hz : ys.length < 1000000) (f : α → V)
    (hs : ∀ y H', y ∈ ys → Ex H1 H' → ∀ (B : V → Hp → Prop), (∀ H'', Ex H' H'' → B (f y) H'') → g (val y) (wipe σ vs) H' fun σ2 H2 => wipe σ2 vs = wipe σ vs ∧ te σ2 H2 B)
    (hd : ∀ D H', H1 D = none → Ex H1 H' → H' D = some (.lst (ys.map f)) → Q (.ref D) H')
    (hg : ∀ v σ H (P P' : L2.St → Hp → Prop), (∀ σ H, P σ H → P' σ H) → g v σ H P → g v σ H P' := by intro _ _ _ _ _ k h; exact k _ _ h) : LcGoal J g tYes te vs σ Q H1 := by
  refine lc_pure hR hS hz (fun _ => true) f (fun y H' hy e B A h1 h2 => ?_) (fun D H' hD e h => hd D H' hD e ?_)
  · exact hg _ _ _ _ _ (fun σ2 H2 h => ⟨h.1, h.2⟩) (hs y H' hy e B (h1 rfl))
  · rwa [List.filter_eq_self.mpr (fun _ _ => rfl)] at h
theorem st_yes {P : Bool → Hp → Prop} (h : P true H) : tYes σ H P := h
/-- isinstance(b, bool) -/
theorem st_isBool {Q : VK} {b : Bool} (h : Q (.bl true) H) : rIs [.bl b, .ty "bool"] H Q := ⟨"bool", rfl, true, by decide +kernel, h⟩
theorem st_iStr {te : TE} {R : It → Hp → Prop} (h : te σ H (fun v H1 => ∃ x, v = .str x ∧ R (Its x) H1)) : iStr te σ H R := h
theorem st_isStr {x : Str} {P : Str → Prop} (h : P x) : ∃ y, V.str x = .str y ∧ P y := ⟨x, rfl, h⟩
theorem st_iList {tl : TE} {R : It → Hp → Prop} (h : tl σ H (fun x H1 => ∃ a, x = .ref a ∧ (∃ xs, SqL K H1 a xs) ∧ R (Itl K a) H1)) : iList K tl σ H R := h
theorem st_isList {a : Addr} {xs : List V} {P : Addr → Prop} (h1 : lstAt H a = some xs) (h : P a) : ∃ b, V.ref a = .ref b ∧ (∃ xs, SqL K H b xs) ∧ P b := ⟨a, rfl, ⟨xs, lstAt_sq h1⟩, h⟩
theorem st_iTup {tl : TE} {R : It → Hp → Prop} (h : tl σ H (fun x H1 => ∃ a, x = .ref a ∧ (∃ xs, SqT K H1 a xs) ∧ R (Itt K a) H1)) : iTup K tl σ H R := h
theorem st_isTup {a : Addr} {xs : List V} {P : Addr → Prop} (h1 : tupAt H a = some xs) (h : P a) : ∃ b, V.ref a = .ref b ∧ (∃ xs, SqT K H b xs) ∧ P b := ⟨a, rfl, ⟨xs, tupAt_sq h1⟩, h⟩
theorem st_iR1 {ta : TA} {R : It → Hp → Prop} (h : ta σ H (fun vs H1 => ∃ j : Int, vs = [.int j] ∧ -(2 ^ 62) ≤ j ∧ j < 2 ^ 62 ∧ R (Itr 0 j.toNat) H1)) : iRng1 ta σ H R := h
theorem st_isR1 {j : Int} {P : Int → Prop} (h1 : -1000000000000 ≤ j ∧ j < 1000000000000) (h : P j) : ∃ i : Int, [V.int j] = [.int i] ∧ -(2 ^ 62) ≤ i ∧ i < 2 ^ 62 ∧ P i := ⟨j, rfl, by omega, by omega, h⟩
theorem st_iR2 {ta : TA} {R : It → Hp → Prop} (h : ta σ H (fun vs H1 => ∃ i j : Int, vs = [.int i, .int j] ∧ (-(2 ^ 62) ≤ i ∧ i < 2 ^ 62 ∧ -(2 ^ 62) ≤ j ∧ j < 2 ^ 62) ∧ R (Itr i (j - i).toNat) H1)) : iRng2 ta σ H R := h
theorem st_isR2 {i j : Int} {P : Int → Int → Prop} (h1 : -1000000000000 ≤ i ∧ i < 1000000000000 ∧ -1000000000000 ≤ j ∧ j < 1000000000000) (h : P i j) : ∃ i' j' : Int, [V.int i, V.int j] = [.int i', .int j'] ∧ (-(2 ^ 62) ≤ i' ∧ i' < 2 ^ 62 ∧ -(2 ^ 62) ≤ j' ∧ j' < 2 ^ 62) ∧ P i' j' := ⟨i, j, rfl, ⟨by omega, by omega, by omega, by omega⟩, h⟩
theorem st_iEn {ta : TA} {R : It → Hp → Prop} (h : ta σ H (fun vs H1 => ∃ a xs, vs = [.ref a] ∧ SqL K H1 a xs ∧ R (Ite K a) H1)) : iEnum K ta σ H R := h
theorem st_isEn {a : Addr} {xs : List V} {P : Addr → Prop} (h1 : lstAt H a = some xs) (h : P a) : ∃ b xs, [V.ref a] = [.ref b] ∧ SqL K H b xs ∧ P b := ⟨a, xs, rfl, lstAt_sq h1, h⟩
theorem st_iZp {ta : TA} {R : It → Hp → Prop} (h : ta σ H (fun vs H1 => ∃ a b xs ys, vs = [.ref a, .ref b] ∧ SqL K H1 a xs ∧ SqL K H1 b ys ∧ R (Itz K a b) H1)) : iZip K ta σ H R := h
theorem st_isZp {a b : Addr} {xs ys : List V} {P : Addr → Addr → Prop} (h1 : lstAt H a = some xs) (h2 : lstAt H b = some ys) (h : P a b) : ∃ a' b' xs ys, [V.ref a, V.ref b] = [.ref a', .ref b'] ∧ SqL K H a' xs ∧ SqL K H b' ys ∧ P a' b' := ⟨a, b, xs, ys, rfl, lstAt_sq h1, lstAt_sq h2, h⟩
theorem st_lc {wi : TI} {tt : TT} {te : TE} {vs : List Nat} {Q : VK} (h : wi σ H fun J H1 => LcGoal J g tt te vs σ Q H1) : tLc wi g tt te vs σ H Q := h
theorem st_for {wi : TI} {tb : TS} {D : Ends} (h : wi σ H fun J H1 => ForGoal J g tb D σ H1) : tFor wi g tb D σ H := h
end
section
variable {H : Hp} {Q : VK} {σ : L2.St}
theorem st_inC {c : Nat} {z : Str} (h : Q (.bl (decide (c ∈ z.cps.toList))) H) : rInU false (.str (tx [c])) (.str z) H Q := by
  refine ⟨_, rfl, ?_⟩
  show Q (.bl (!(Builtin.Str.occurrences z ⟨#[c]⟩ 0 z.length 1).isEmpty)) H
  rw [PySem.StrLaws.found_one]
  exact h
theorem st_ninC {c : Nat} {z : Str} (h : Q (.bl (!decide (c ∈ z.cps.toList))) H) : rInU true (.str (tx [c])) (.str z) H Q := by
  refine ⟨_, rfl, ?_⟩
  show Q (.bl (!(!(Builtin.Str.occurrences z ⟨#[c]⟩ 0 z.length 1).isEmpty))) H
  rw [PySem.StrLaws.found_one]
  exact h
theorem st_all {p : Addr} {bs : List Bool} {xs : List V} (h1 : H p = some (.lst xs)) (e : xs = bs.map V.bl) (h : Q (.bl (bs.all id)) H) : rAllU [.ref p] H Q := ⟨bs, by rw [lst_of h1, e], h⟩
theorem st_gtup {K : PySem.W.Frag} {a : Addr} {xs : List V} {n : Nat} {t : TGs} {R : L2.St → Hp → Prop} (h1 : H a = some (.tup xs)) (hn : xs.length = n) (h : t xs σ H R) : gTup K n t (.ref a) σ H R := ⟨a, xs, rfl, tupAt_sq (tup_of h1), hn, h⟩
theorem st_glst {K : PySem.W.Frag} {a : Addr} {xs : List V} {n : Nat} {t : TGs} {R : L2.St → Hp → Prop} (h1 : H a = some (.lst xs)) (hn : xs.length = n) (h : t xs σ H R) : gLst K n t (.ref a) σ H R := ⟨a, xs, rfl, lstAt_sq (lst_of h1), hn, h⟩
theorem st_gcons {v : V} {r : List V} {t : TG} {u : TGs} {R : L2.St → Hp → Prop} (h : t v σ H fun σ' H' => u r σ' H' R) : gCons t u (v :: r) σ H R := ⟨v, r, rfl, h⟩
theorem st_gnil {R : L2.St → Hp → Prop} (h : R σ H) : gNil [] σ H R := ⟨rfl, h⟩
theorem st_m1 {r : V → List V → Hp → VK → Prop} {to te : TE} (h : to σ H (fun x H1 => (∃ a, x = .str a) ∧ te σ H1 fun y H2 => r x [y] H2 Q)) : tM1 r to te σ H Q := h
theorem st_isS {a : Str} {P : Prop} (h : P) : (∃ b, V.str a = .str b) ∧ P := ⟨⟨a, rfl⟩, h⟩
theorem st_bm {K : PySem.W.Frag} {T : String} {r : V → List V → Hp → VK → Prop} {to : TE} {t : TA} (h : to σ H (fun x H1 => tyV K T x H1 ∧ t σ H1 fun xs H2 => r x xs H2 Q)) : tBM K T r to t σ H Q := h
theorem st_bm0 {K : PySem.W.Frag} {T : String} {r : V → List V → Hp → VK → Prop} {to : TE} (h : to σ H (fun x H1 => tyV K T x H1 ∧ r x [] H1 Q)) : tBM0 K T r to σ H Q := h
theorem st_tyL {K : PySem.W.Frag} {p : Addr} {xs : List V} {P : Prop} (h1 : H p = some (.lst xs)) (h : P) : tyV K "list" (.ref p) H ∧ P := ⟨.inl ⟨rfl, xs, lstAt_sq (lst_of h1)⟩, h⟩
theorem st_app {p : Addr} {xs : List V} {y : V} (h1 : H p = some (.lst xs)) (hz : xs.length < 16777216) (h : Q .non (upd H p (.lst (xs ++ [y])))) : rAppend (.ref p) [y] H Q := ⟨p, xs, y, rfl, rfl, h1, by rw [sl16]; exact hz, h⟩
theorem st_listS {K : PySem.W.Frag} {z : Str} (hz : z.length ≤ 16777216) (h : ∀ p H', H p = none → Ex H H' → H' p = some (.lst (z.cps.toList.map fun c => V.str (tx [c]))) → Q (.ref p) H') : rListU K [.str z] H Q := ⟨hz, fun p hp => h p _ hp (Fr.new hp) upd_same⟩
theorem st_listQ {K : PySem.W.Frag} {a : Addr} {ys : List V} (h1 : seqAt H a = some ys) (h : ∀ p H', H p = none → Ex H H' → H' p = some (.lst ys) → Q (.ref p) H') : rListU K [.ref a] H Q := ⟨ys, seqAt_sq h1, fun p hp => h p _ hp (Fr.new hp) upd_same⟩
theorem st_tupS {K : PySem.W.Frag} {z : Str} (hz : z.length ≤ 16777216) (h : ∀ p H', H p = none → Ex H H' → H' p = some (.tup (z.cps.toList.map fun c => V.str (tx [c]))) → Q (.ref p) H') : rTupU K [.str z] H Q := ⟨hz, fun p hp => h p _ hp (Fr.new hp) upd_same⟩
theorem st_tupL {K : PySem.W.Frag} {a : Addr} {ys : List V} (h1 : lstAt H a = some ys) (h : ∀ p H', H p = none → Ex H H' → H' p = some (.tup ys) → Q (.ref p) H') : rTupU K [.ref a] H Q := ⟨ys, .inl ⟨lstAt_sq h1, fun p hp => h p _ hp (Fr.new hp) upd_same⟩⟩
def DispEnd (p : Addr) (Q : VK) (ps : List (V × V)) (H2 : Hp) : Prop := H2 p = some (.dK []) ∧ ∃ kvs : List (Key × V), ps = kvs.map (fun kv => (kV kv.1, kv.2)) ∧ kvs.length ≤ 15 ∧ Q (.ref p) (upd H2 p (.dK (mergeK [] kvs)))
theorem st_disp {trs : List (TE × TE)} (h : ∀ p H', H p = none → Ex H H' → H' p = some (.dK []) → tPairs trs σ H' (DispEnd p Q)) : tDisp trs σ H Q := fun p hp => h p _ hp (Fr.new hp) upd_same
theorem st_pair {tk tv : TE} {r : List (TE × TE)} {P : List (V × V) → Hp → Prop} (h : tk σ H fun x H1 => tv σ H1 fun y H2 => tPairs r σ H2 fun ps H3 => P ((x, y) :: ps) H3) : tPairs ((tk, tv) :: r) σ H P := h
theorem st_pairs0 {P : List (V × V) → Hp → Prop} (h : P [] H) : tPairs [] σ H P := h
theorem st_clear {p : Addr} {xs : List V} (h1 : H p = some (.lst xs)) (h : Q .non (upd H p (.lst []))) : rClear (.ref p) [] H Q := ⟨p, xs, rfl, rfl, h1, h⟩
theorem st_isL {p : Addr} {xs : List V} {n : String} {b : Bool} (h1 : H p = some (.lst xs)) (h2 : kitB "list" n = some b) (h : Q (.bl b) H) : rIs [.ref p, .ty n] H Q := ⟨"list", by show tyO (H p) = _; rw [h1]; rfl, b, h2, h⟩
theorem st_isT {p : Addr} {xs : List V} {n : String} {b : Bool} (h1 : H p = some (.tup xs)) (h2 : kitB "tuple" n = some b) (h : Q (.bl b) H) : rIs [.ref p, .ty n] H Q := ⟨"tuple", by show tyO (H p) = _; rw [h1]; rfl, b, h2, h⟩
theorem st_isI {i : Int} {n : String} {b : Bool} (h2 : kitB "int" n = some b) (h : Q (.bl b) H) : rIs [.int i, .ty n] H Q := ⟨"int", rfl, b, h2, h⟩
theorem st_isB {i : Bool} {n : String} {b : Bool} (h2 : kitB "bool" n = some b) (h : Q (.bl b) H) : rIs [.bl i, .ty n] H Q := ⟨"bool", rfl, b, h2, h⟩
theorem st_isS' {i : Str} {n : String} {b : Bool} (h2 : kitB "str" n = some b) (h : Q (.bl b) H) : rIs [.str i, .ty n] H Q := ⟨"str", rfl, b, h2, h⟩
theorem kit_ii : kitB "int" "int" = some true := by decide +kernel
theorem kit_ib : kitB "int" "bool" = some false := by decide +kernel
theorem kit_il : kitB "int" "list" = some false := by decide +kernel
theorem kit_is : kitB "int" "str" = some false := by decide +kernel
theorem kit_it : kitB "int" "tuple" = some false := by decide +kernel
theorem kit_ll : kitB "list" "list" = some true := by decide +kernel
theorem kit_lt : kitB "list" "tuple" = some false := by decide +kernel
theorem kit_tt : kitB "tuple" "tuple" = some true := by decide +kernel
theorem kit_tl : kitB "tuple" "list" = some false := by decide +kernel
theorem kit_ss : kitB "str" "str" = some true := by decide +kernel
theorem kit_bb : kitB "bool" "bool" = some true := by decide +kernel
theorem kit_bi : kitB "bool" "int" = some true := by decide +kernel
theorem cutV_from (xs : List V) (k : Nat) : cutV xs (some (k : Int)) none = xs.drop k := by
  unfold cutV
  rw [HT.sIx_nat, HT.sIx_none]
  by_cases h : k ≤ xs.length
  · rw [Nat.min_eq_left h, List.take_of_length_le (by rw [List.length_drop]; exact Nat.le_refl _)]
  · rw [Nat.min_eq_right (by omega), List.drop_of_length_le (Nat.le_refl _), List.drop_of_length_le (by omega)]
    simp
/-- a table that is read -/
structure TabR (H : Hp) (p : Addr) (rs : List Addr) (row : Nat → List V) : Prop where
  at_ : H p = some (.lst (rs.map V.ref))
  rows : ∀ k r, rs[k]? = some r → H r = some (.lst (row k))
theorem TabR.ex {H H' : Hp} {p : Addr} {rs : List Addr} {row : Nat → List V} (T : TabR H p rs row) (e : Ex H H') : TabR H' p rs row := ⟨e.get T.at_, fun k r h => e.get (T.rows k r h)⟩
theorem at_last {xs : List V} {n : Nat} {v : V} (hl : xs.length = n + 1) (h : xs[n]? = some v) : atI xs (-1) = some v := by
  unfold atI ixN
  rw [if_neg (by decide), hl, if_pos (by omega)]
  have e : (-1 + ((n + 1 : Nat) : Int)).toNat = n := by omega
  show xs[(-1 + ((n + 1 : Nat) : Int)).toNat]? = _
  rw [e]
  exact h
/-- x is a thing whose type is known -/
def Ty (H : Hp) (v : V) : Prop := ∃ t, tyN H v = some t
theorem ty_lst {p : Addr} {xs : List V} (h : H p = some (.lst xs)) : Ty H (.ref p) := ⟨"list", by show tyO (H p) = _; rw [h]; rfl⟩
theorem ty_tup {p : Addr} {xs : List V} (h : H p = some (.tup xs)) : Ty H (.ref p) := ⟨"tuple", by show tyO (H p) = _; rw [h]; rfl⟩
theorem ty_str (z : Str) : Ty H (.str z) := ⟨"str", rfl⟩
theorem ty_int (z : Int) : Ty H (.int z) := ⟨"int", rfl⟩
theorem ty_bl (z : Bool) : Ty H (.bl z) := ⟨"bool", rfl⟩
theorem ty_non : Ty H .non := ⟨"NoneType", rfl⟩
theorem tyN_ex {H' : Hp} {v : V} {t : String} (e : Ex H H') (h : tyN H v = some t) : tyN H' v = some t := by
  cases v with
  | ref p =>
    have h : tyO (H p) = some t := h
    show tyO (H' p) = some t
    cases q : H p with
    | none => rw [q] at h; cases h
    | some o =>
      rw [e p o (fun z => z) q]
      rw [q] at h
      exact h
  | _ => exact h
theorem Ty.ex {H' : Hp} {v : V} (h : Ty H v) (e : Ex H H') : Ty H' v := by
  obtain ⟨t, h⟩ := h
  exact ⟨t, tyN_ex e h⟩
def isStrV : V → Bool
  | .str _ => true
  | _ => false
theorem kb_str : kitB "NoneType" "str" = some false ∧ kitB "bool" "str" = some false ∧ kitB "int" "str" = some false ∧ kitB "str" "str" = some true ∧ kitB "list" "str" = some false ∧ kitB "tuple" "str" = some false ∧ kitB "dict" "str" = some false := by decide +kernel
theorem st_isStrT {x : V} (h1 : Ty H x) (h : Q (.bl (isStrV x)) H) : rIs [x, .ty "str"] H Q := by
  obtain ⟨t, h1⟩ := h1
  obtain ⟨k1, k2, k3, k4, k5, k6, k7⟩ := kb_str
  refine st_is h1 (b := isStrV x) ?_ h
  cases x with
  | ref p =>
    have h1 : tyO (H p) = some t := h1
    unfold tyO at h1
    split at h1 <;> first | (cases h1; assumption) | cases h1
  | _ => first | (cases h1; assumption) | cases h1
end
theorem lstAt_ex {H H' : Hp} {a : Addr} {xs : List V} (e : Ex H H') (h : lstAt H a = some xs) : lstAt H' a = some xs := by
  unfold lstAt at h ⊢
  cases q : H a with
  | none => rw [q] at h; cases h
  | some o => rw [e a o (fun z => z) q]; rw [q] at h; exact h
theorem tupAt_ex {H H' : Hp} {a : Addr} {xs : List V} (e : Ex H H') (h : tupAt H a = some xs) : tupAt H' a = some xs := by
  unfold tupAt at h ⊢
  cases q : H a with
  | none => rw [q] at h; cases h
  | some o => rw [e a o (fun z => z) q]; rw [q] at h; exact h
mutual
theorem Rp.ex {H H' : Hp} (e : Ex H H') : ∀ {v : V} {d : PyData}, Rp H v d → Rp H' v d
  | _, _, .non => .non
  | _, _, .bl b => .bl b
  | _, _, .int i => .int i
  | _, _, .str x => .str x
  | _, _, .lst h k => .lst (lstAt_ex e h) (RpA.ex e k)
  | _, _, .tup h k => .tup (tupAt_ex e h) (RpA.ex e k)
theorem RpA.ex {H H' : Hp} (e : Ex H H') : ∀ {vs : List V} {ds : List PyData}, RpA H vs ds → RpA H' vs ds
  | _, _, .nil => .nil
  | _, _, .cons h k => .cons (Rp.ex e h) (RpA.ex e k)
end
theorem rpA_map {H : Hp} {α : Type} {val : α → V} {enc : α → PyData} : ∀ {xs : List α}, (∀ x ∈ xs, Rp H (val x) (enc x)) → RpA H (xs.map val) (xs.map enc)
  | [], _ => .nil
  | a :: r, h => .cons (h a List.mem_cons_self) (rpA_map fun x hx => h x (List.mem_cons_of_mem _ hx))
theorem eqvAll_map {α : Type} [DecidableEq α] {enc : α → PyData} (h : ∀ a b, PyData.eqv (enc a) (enc b) = decide (a = b)) : ∀ xs ys : List α, PyData.eqvAll (xs.map enc) (ys.map enc) = decide (xs = ys)
  | [], [] => by simp [PyData.eqvAll]
  | [], _ :: _ => by simp [PyData.eqvAll]
  | _ :: _, [] => by simp [PyData.eqvAll]
  | a :: r, b :: s => by
    have ih := eqvAll_map h r s
    simp only [List.map_cons, PyData.eqvAll, h, ih]
    rw [Bool.eq_iff_iff]
    simp
theorem eqv_int (a b : Int) : PyData.eqv (.int a) (.int b) = decide (a = b) := by simp only [PyData.eqv]; rfl
theorem eqv_str (a b : Str) : PyData.eqv (.str a) (.str b) = decide (a = b) := by simp only [PyData.eqv]; rfl
theorem eqv_list {α : Type} [DecidableEq α] {enc : α → PyData} (h : ∀ a b, PyData.eqv (enc a) (enc b) = decide (a = b)) (xs ys : List α) : PyData.eqv (.list (xs.map enc)) (.list (ys.map enc)) = decide (xs = ys) := by
  simp only [PyData.eqv]
  exact eqvAll_map h xs ys
theorem depth_map {α : Type} {enc : α → PyData} {n : Nat} : ∀ {xs : List α}, (∀ x ∈ xs, (enc x).depth ≤ n) → PyData.depthAll (xs.map enc) ≤ n
  | [], _ => by simp [PyData.depthAll]
  | a :: r, h => by
    simp only [List.map_cons, PyData.depthAll]
    exact Nat.max_le.mpr ⟨h a List.mem_cons_self, depth_map fun x hx => h x (List.mem_cons_of_mem _ hx)⟩
structure Df (K : PySem.W.Frag) (mg : Str → Option Value) (x : Str) (st : Stmt) (ps : List Str) (f : Addr) (fd : FuncData) : Prop where
  g : mg x = some (.ref f)
  F : Fun K x x st f fd
  b : Binds K fd ps []
theorem df_mk {K : PySem.W.Frag} {h : Heap} {mg : Str → Option Value} {x : Str} {st : Stmt} {ps : List Str} {f : Addr} {oc : Value} {od an : Option Addr} {osl : Array (Option Value)} {kV dc pm cd ct : Value} (X : K.In h) (G : h.Ns mainGlobals mg)
    (a : PySem.W.nsIn K mainGlobals x = some (some (.ref f))) (l : K.lookup f = some ⟨oc, od, .func (PySem.W.fnOf x x (defArgs st) (defBody st) (defScope st) .none kV dc pm an cd ct), osl⟩) (c : PySem.W.codeIn K cd x = true) (k : PySem.W.keepIn K (.ref f) = true)
    (hb : ∀ (kV doc pm : Value) (an : Option Addr) (cdv ct : Value) (us : List Value), us.length = ps.length → bindArgs (PySem.W.fnOf x x (defArgs st) (defBody st) (defScope st) .none kV doc pm an cdv ct) ⟨us, []⟩ = pure (ps.zip us)) :
    Df K mg x st ps f (PySem.W.fnOf x x (defArgs st) (defBody st) (defScope st) .none kV dc pm an cd ct) :=
  have F := fun_mk (st := st) l c k
  ⟨PySem.W.mg_of X G a, F, F.binds hb⟩
/-- the script: a list of ints that is read, never written -/
def Scr (K : PySem.W.Frag) (H : Hp) (a : Addr) (ns : List Int) : Prop :=
  (∃ o, H a = some (.frz o (.lst (ns.map V.int)))) ∨ ∃ (o : Obj) (its : Array Value) (n : Nat), K.lookup a = some o ∧ o.cls = .type "list" ∧ o.dict = none ∧ o.data = .seq its n ∧ its.size ≤ sizeLine ∧ Vals (ns.map V.int) its.toList
theorem FrP.fresh {H0 H1 H2 : Hp} {p : Addr} (e : Ex H0 H1) (h : H0 p = none) (f : FrP p H1 H2) : Ex H0 H2 := fun b o _ q => f b o (ne_of_none q h) (e b o (fun z => z) q)
theorem tx_nil : ("" : Str) = tx [] := by decide +kernel
theorem app_tx (a b : List Nat) : tx a ++ tx b = tx (a ++ b) := tx_append a b
/-- texts joined by nothing -/
theorem join_txs (ls : List (List Nat)) : Txt.join "" (ls.map tx) = tx ls.flatten := by
  show Builtin.Str.glued "" _ = _
  rw [PySem.StrLaws.glued_eq_join]
  induction ls with
  | nil => rfl
  | cons a r ih =>
    cases r with
    | nil => show tx a = tx (a ++ []); rw [List.append_nil]
    | cons b r =>
      show tx a ++ "" ++ Str.join "" ((b :: r).map tx) = tx (a ++ (b :: r).flatten)
      rw [ih, tx_nil, app_tx, app_tx, List.append_nil]
theorem Scr.ex {K : PySem.W.Frag} {H H' : Hp} {a : Addr} {ns : List Int} (h : Scr K H a ns) (e : Ex H H') : Scr K H' a ns := by
  rcases h with ⟨o, h⟩ | h
  · exact .inl ⟨o, e.get h⟩
  · exact .inr h
theorem Scr.frp {K : PySem.W.Frag} {H H' : Hp} {a p : Addr} {ns : List Int} (h : Scr K H a ns) (hp : Purse H p) (e : FrP p H H') : Scr K H' a ns := by
  rcases h with ⟨o, h⟩ | h
  · refine .inl ⟨o, e.get (fun z => ?_) h⟩
    obtain ⟨x, y, z', q⟩ := hp
    rw [z, q] at h
    cases h
  · exact .inr h
end Zb
namespace Zb
open PySem PySem.Spec PyProof.Rows L2
def Ites (x : Str) : It := ⟨fun i _ => i < x.cps.size, fun i H v H' => ∃ T c, v = .ref T ∧ H T = none ∧ H' = upd H T (.tup [.int (i : Nat), .str (tx [c])]) ∧ x.cps[i]? = some c, fun i _ => i = x.cps.size⟩
theorem turn_enumS {P : Program} {w : World} {K : PySem.W.Frag} {elts : List Expr} {kk : Nat} {tpos : Pos} (x : Str) (t : Tok) (e it : Addr) (hne : e ≠ it) :
    Turn P w K (.Tuple elts kk tpos) (Ites x) [e, it] e (fun i h => (∃ old, IsEnum h e it ((0 : Int) + ((i : Nat) : Int)) old) ∧ h.IsStrIter it (strIterType x) x t i) where
  mem := by simp
  obj := fun i h st b hb => by
    obtain ⟨⟨old, he⟩, ⟨o, ho, hc, hd⟩⟩ := st
    have e' : b = e ∨ b = it := by simpa using hb
    rcases e' with z | z
    · rw [z]; exact ⟨_, he, fun v q => nomatch q⟩
    · rw [z]; exact ⟨o, ho, fun v q => by rw [hd] at q; cases q⟩
  keep := fun i h h' st k => let ⟨⟨old, he⟩, o, ho, r⟩ := st; ⟨⟨old, k e (by simp) _ he⟩, o, k it (by simp) o ho, r⟩
  item := by
    intro X hP hw hK hc i pins s σ H E I hf st hg
    subst hP hw hK
    have D : Draws X.prog X.w X.A.in1 it [it] x.cps.size (fun i v => ∃ c u, x.cps[i]? = some c ∧ v = .str ⟨#[c]⟩ u) (fun i h => h.IsStrIter it (strIterType x) x t i) := Draws.text (A := X.A.in1) (I.ok.hd hc) it x t
    have W := WalksT.enumFrom (A := X.A) 0 D e hne (by simpa using hne) (by simp)
    have hel : e < s.heap.objs.size := by obtain ⟨⟨_, he⟩, _⟩ := st; exact Heap.lt_size he
    have hil : it < s.heap.objs.size := by obtain ⟨_, _, q, _⟩ := st; exact Heap.lt_size q
    refine W.item i s _ _ hg st fun T vals h' tk hP hTn hT hM kp => ?_
    obtain ⟨t2, v, ⟨c, u, hcx, rfl⟩, rfl⟩ := hP
    refine ⟨_, rfl, W.go elts kk tpos i T { s with heap := h', toks := tk } _ _ hM fun h'' st2 kp2 => ?_⟩
    have hTa := W.apart i T h' hM
    obtain ⟨oT, hoT, hcT, nT, hdT⟩ := hT
    have new : ObjOk X.prog X.w (upd H T (.tup [.int (i : Nat), .str (tx [c])])) h'' T (.tup [.int (i : Nat), .str (tx [c])]) :=
      ⟨by show 2 ≤ sizeLine; rw [sl16]; decide, [.int ((0 : Int) + (i : Int)) t2, .str ⟨#[c]⟩ u], .cons ⟨t2, by rw [Int.zero_add]⟩ (.cons ⟨u, rfl⟩ .nil), ⟨oT, kp2 T oT hTa hoT, hcT, nT, hdT⟩⟩
    have I1 : Inv X pins σ (upd H T (.tup [.int (i : Nat), .str (tx [c])])) { s with heap := h'', toks := tk } :=
      I.turnedNew (ch := [e, it]) (fun b ob hb q => kp2 b ob hb (kp b ob hb q)) hf hTn new
    refine ⟨.ref T, _, I1, rfl, ⟨T, c, rfl, I.hok.fresh hTn, rfl, hcx⟩, st2, fun b hb => ?_⟩
    have hb' : b < s.heap.objs.size := by
      have e' : b = e ∨ b = it := by simpa using hb
      rcases e' with z | z
      · rw [z]; exact hel
      · rw [z]; exact hil
    rw [upd_ne (Nat.ne_of_lt (Nat.lt_of_lt_of_le hb' hTn))]
    exact (hf b hb).1
  done := by
    intro X hP hw hK hc i pins s σ H E I hf st hg
    subst hP hw hK
    obtain ⟨f0, f1, f2, f3, f4, f5⟩ := hf it (by simp)
    obtain ⟨⟨old, he⟩, hit⟩ := st
    have D := Draws.text (prog := X.prog) (w := X.w) (A := X.A.in1) (I.ok.hd hc) it x t
    have hg : i = x.cps.size := hg
    subst hg
    exact wpAny_pyNext_enum_endD D he hit fun h' eb => ⟨rfl, I.turned (t' := s.toks) (fun b o hb q => eb b o hb q) f0 f1 f3 f4 f5⟩
  self := fun A i s Q E st h => let ⟨⟨_, he⟩, _⟩ := st; wpAny_pyIter_enum he h
def iEnS (ta : TA) : TI := fun σ H R => ta σ H fun vs H1 => ∃ x, vs = [.str x] ∧ R (Ites x) H1
theorem pi_enumS {X : Cx} {e : Expr} {ta : TA} {p pos tpos : Pos} {elts : List Expr} {kk : Nat} (hg : Gl X "enumerate") (hm : X.mg "enumerate" = none) (ha : PA X [e] ta) (hs : starEach [e] X.env = [(false, eval e X.env)] := by rfl) :
    PI X (.Tuple elts kk tpos) (.Call (.Name "enumerate" p) [e] [] pos) (iEnS ta) := by
  refine ⟨fun pins s σ H R I h => ?_⟩
  refine Call_ (ld_blt I hg hm boot_enumerate (PyProof.Rows.callWith_type1 (thn (ha.run pos pins s σ H _ I h) fun us s1 ⟨vs, H1, I1, r1, q1⟩ => ?_) hs rfl))
  obtain ⟨x, ex, q⟩ := q1
  subst ex
  obtain ⟨u, rfl, t, rfl⟩ := vals1 r1
  refine call_enumerate_str fun h' he hit hsz hk => wpAny_pyIter_enum he ?_
  have I2 : Inv X pins σ H1 { s1 with heap := h' } := I1.kept (t' := s1.toks) hk
  refine ⟨s1.heap.objs.size + 1, [s1.heap.objs.size + 1, s1.heap.objs.size], _, _, H1, rfl, I2, turn_enumS x t (s1.heap.objs.size + 1) s1.heap.objs.size (Nat.succ_ne_self _), ⟨⟨.none, he⟩, hit⟩, fun b hb => ?_, q⟩
  have e' : b = s1.heap.objs.size + 1 ∨ b = s1.heap.objs.size := by simpa using hb
  have hle : s1.heap.objs.size ≤ b := by
    rcases e' with z | z
    · rw [z]; exact Nat.le_add_right _ _
    · rw [z]; exact Nat.le_refl _
  exact I1.fpOk hle (I1.hok.fresh hle)
theorem runs_enumS (z : Str) : Runs (Ites z) z.length (fun _ => True) (fun i x H H' => ∃ T c, x = .ref T ∧ H T = none ∧ Ex H H' ∧ H' T = some (.tup [.int (i : Nat), .str (tx [c])]) ∧ z.cps.toList[i]? = some c) :=
  ⟨fun _ _ h _ => h, fun _ _ => rfl, fun i H x H' _ _ y => by
    obtain ⟨T, c, e1, e2, e3, e4⟩ := y
    subst e3
    exact ⟨T, c, e1, e2, Fr.new e2, upd_same, by rw [Array.getElem?_toList]; exact e4⟩⟩
theorem st_iEnS {ta : TA} {σ : L2.St} {H : Hp} {R : It → Hp → Prop} (h : ta σ H (fun vs H1 => ∃ x, vs = [.str x] ∧ R (Ites x) H1)) : iEnS ta σ H R := h
theorem st_isEnS {x : Str} {P : Str → Prop} (h : P x) : ∃ y, [V.str x] = [.str y] ∧ P y := ⟨x, rfl, h⟩
end Zb
namespace Zb
open PySem PySem.Spec PyProof.Rows L2
def clsA (K : PySem.W.Frag) (nm : Str) : Addr := match PySem.W.nsIn K mainGlobals nm with
  | some (some (.ref C)) => C
  | _ => 0
theorem clsA_of {K : PySem.W.Frag} {nm : Str} {C : Addr} (h : PySem.W.nsIn K mainGlobals nm = some (some (.ref C))) : clsA K nm = C := by unfold clsA; rw [h]
/-- a class that is named in an except clause -/
structure EC (K : PySem.W.Frag) (mg : Str → Option Value) (nm : Str) : Prop where
  g : mg nm = some (.ref (clsA K nm))
  sb : PySem.W.subIn K (.ref (clsA K nm)) (.type "BaseException") = some true
  hd : PySem.W.hasDictIn K (clsA K nm) = true
  ty : PySem.W.typeIn K (.ref (clsA K nm)) = some (.type "type")
/-- what an isinstance, a field, of an exception in hand wants -/
structure XI (K : PySem.W.Frag) (C : Addr) : Prop where
  hc : (PySem.W.clsIn K C).isSome = true
  ga : PySem.W.findIn K (.ref C) "__getattribute__" = some (some (.builtin "BaseException.__getattribute__"))
  gg : PySem.W.findIn K (.ref C) "__getattr__" = some none
  sb : PySem.W.subIn K (.ref C) (.type "BaseException") = some true
  hd : PySem.W.hasDictIn K C = true
  ca : PySem.W.findIn K (.ref C) "__class__" = some (some (.builtin "object.__class__"))
  cn : PySem.W.specialIn K (.builtin "object.__class__") "__get__" = some (some (.builtin "getset_descriptor.__get__"))
  ct : PySem.W.takesIn K (.builtin "object.__class__") = some true
  cm : PySem.W.mroIn K C (.type "object") = some true
theorem EC.xm {K : PySem.W.Frag} {mg : Str → Option Value} {nm : Str} {cls : Value} {b : Bool} (e : EC K mg nm) (h : PySem.W.subIn K cls (.ref (clsA K nm)) = some b) : PySem.W.exmOne K cls (.ref (clsA K nm)) = some b := PySem.W.exm_ref e.sb e.hd e.ty h
theorem EC.kit {K : PySem.W.Frag} {mg : Str → Option Value} {nm : Str} {D : Addr} {b : Bool} (e : EC K mg nm) (h : PySem.W.subIn K (.ref D) (.ref (clsA K nm)) = some b) (hs : PySem.W.subIn K (.ref (clsA K nm)) (.ref (clsA K nm)) = some true) : PySem.W.kitOne K (.ref D) (.ref (clsA K nm)) = some b := by
  unfold PySem.W.kitOne
  by_cases q : D = clsA K nm
  · subst q
    rw [hs] at h
    cases h
    rw [if_pos (beq_self_eq_true _)]
  · have hq : ((Value.ref D) == (Value.ref (clsA K nm))) = false := beq_eq_false_iff_ne.mpr fun z => q (Value.ref.inj z)
    rw [hq, if_neg Bool.false_ne_true]
    show (if ((PySem.W.clsIn K (clsA K nm)).isSome && PySem.W.typeIn K (.ref (clsA K nm)) == some (.type "type")) = true then PySem.W.subIn K (.ref D) (.ref (clsA K nm)) else none) = some b
    obtain ⟨cd, hc, _⟩ := PySem.W.any_some e.hd
    rw [hc, e.ty]
    exact h
theorem kit_ve {K : PySem.W.Frag} {D : Addr} {b : Bool} (h : PySem.W.subIn K (.ref D) (.type "ValueError") = some b) : PySem.W.kitOne K (.ref D) (.type "ValueError") = some b := by
  unfold PySem.W.kitOne
  have hq : ((Value.ref D) == (Value.type "ValueError")) = false := rfl
  rw [hq, if_neg Bool.false_ne_true]
  show (if PySem.W.kitMeta "ValueError" = true then PySem.W.subIn K (.ref D) (.type "ValueError") else none) = some b
  rw [if_pos (by decide +kernel)]
  exact h
abbrev Cl := Value × Option Nat × (Addr → Value → Option Addr → TS)
def goneD (i : Nat) (D : Ends) : Ends := { nx := fun σ' H' => D.nx (σ'.set i none) H', rt := D.rt, bk := fun σ' H' => D.bk (σ'.set i none) H', ct := fun σ' H' => D.ct (σ'.set i none) H' }
def clD : Option Nat → Ends → Ends
  | none, D => D
  | some i, D => goneD i D
def clS : Option Nat → Addr → L2.St → L2.St
  | none, _, σ => σ
  | some i, a, σ => σ.set i (some (.ref a))
def wG (K : PySem.W.Frag) (Wout : WX) (D : Ends) : List Cl → WX
  | [] => Wout
  | (c, i, ts) :: r => fun cls d σ H => ∃ b, PySem.W.exmOne K cls c = some b ∧ (b = true → ∀ a, H a = none → ts a cls d (clD i D) (clS i a σ) H) ∧ (b = false → wG K Wout D r cls d σ H)
inductive HdG (X : Cx) : List ExceptHandler → List Cl → Prop
  | nil : HdG X [] []
  | one {x : Str} {c : Value} {ts : Addr → Value → Option Addr → TS} {b₀ : Stmt} {suite : List Stmt} {np pos' : Pos} {hds : List ExceptHandler} {l : List Cl} (hc : Names X x c)
      (hsu : ∀ (a : Addr) (oe : Obj) (cls : Value) (d : Option Addr) (pn : List (Addr × Obj)), Zc cls d oe → (∃ vs, oe.data = .fields vs) → PSs (X.suite a ((a, oe) :: pn)) (b₀ :: suite) (ts a cls d)) (r : HdG X hds l) :
      HdG X (.ExceptHandler (some (.Name x np)) none (b₀ :: suite) pos' :: hds) ((c, none, ts) :: l)
  | named {x n : Str} {c : Value} {i : Nat} {ts : Addr → Value → Option Addr → TS} {b₀ : Stmt} {suite : List Stmt} {np pos' : Pos} {hds : List ExceptHandler} {l : List Cl} (hN : X.N.Nodup) (hi : X.N[i]? = some n) (hln : X.env.kindOf n = some .local) (hc : Names X x c)
      (hsu : ∀ (a : Addr) (oe : Obj) (cls : Value) (d : Option Addr) (pn : List (Addr × Obj)), Zc cls d oe → (∃ vs, oe.data = .fields vs) → PSs (X.suite a ((a, oe) :: pn)) (b₀ :: suite) (ts a cls d)) (r : HdG X hds l) :
      HdG X (.ExceptHandler (some (.Name x np)) (some n) (b₀ :: suite) pos' :: hds) ((c, some i, ts) :: l)
section
variable {X : Cx} {body orelse : List Stmt} {h₀ : ExceptHandler} {hds : List ExceptHandler} {l : List Cl} {pos : Pos} {tb : WX → TS} {u : TS} {Wout : WX}
def tTry (K : PySem.W.Frag) (Wout : WX) (tb : WX → TS) (u : TS) (l : List Cl) : TS := fun D σ H => tb (wG K Wout D l) { D with nx := u D } σ H
theorem ps_tryG (hs : X.stack = X.env :: X.outer) (hf : X.env.frame = some X.env.locals) (tk : Takes X Wout)
    (hb : ∀ (W : WX) (pn : List (Addr × Obj)) (xe : Value → Shared → Prop), Takes (X.tr pn xe) W → PassesOwn (model X.prog X.w) X.A X.env xe → PSs (X.tr pn xe) body (tb W))
    (hh : HdG X (h₀ :: hds) l) (ho : PSs X orelse u) : PS X (.Try body (h₀ :: hds) orelse [] pos) (tTry X.K Wout tb u l) := by
  refine ⟨fun pins s σ H D I h => ?_⟩
  have ok := I.ok
  have hfr : X.A.frames = some (X.env :: X.outer) := by rw [ok.frames, hs]
  refine wpAny_Try_except ?_
  refine wpAny_mono ((hb (wG X.K Wout D l) (X.pn ++ pins) (fun e s₁ => wpAny (model X.prog X.w) X.A (noteFrame e X.env) (fun _ s₂ => wpAny (model X.prog X.w) X.A (setFlight e none) (fun _ s₃ =>
    wpAny (model X.prog X.w) X.A (handleBy e X.env (h₀ :: hds)) (SP X pins D) X.xe s₃) X.xe s₂) X.xe s₁) (fun u s' xx => ?_) PassesOwn.looking).run [] s σ H { D with nx := u D } (I.toTry _) h) (fun f s1 hsp => ?_) (fun e s1 he => he)
  · obtain ⟨a, B, sI, pins', σ', H', cls, d, rfl, J', nb, up, sky, na, os, ag, w⟩ := xx
    have J : Inv X pins σ' H' sI := J'.ofTry ok
    have sky' : Sky B (X.env :: X.outer) a (Zc cls d) X.env.locals s'.heap := by rw [← hs]; exact sky
    show wpAny (model X.prog X.w) X.A (noteFrame (.ref a) X.env) _ _ _
    refine Sky.land Zc.steady hfr hf sky' fun h3 fl3 up3 => ?_
    have J3 : Inv X pins σ' H' { s' with heap := h3 } := J.landed nb fl3.1 (up.trans up3) os ag
    obtain ⟨oe3, vs3, he3, hz3, hd3⟩ := fl3.there
    have notFr : ∀ {h : Heap} {o : Obj} {vs : Array Value}, h.FunFrames B (X.env :: X.outer) → h.get? a = some o → o.data = .fields vs → a ∉ frs (X.env :: X.outer) := fun {h o vs} ff e dd hm => by
      obtain ⟨_, o', e', hnf⟩ := ff.mem hm
      rw [e] at e'; cases e'
      exact hnf _ dd
    have nfr := notFr fl3.2.2.1 he3 hd3
    have nL : a ≠ X.env.locals := fun z => nfr (List.mem_filterMap.mpr ⟨X.env, List.mem_cons_self, by rw [hf, z]⟩)
    have nF : a ∉ X.fs := fun hm => by
      obtain ⟨e, he, q⟩ := List.mem_filterMap.mp hm
      exact nfr (List.mem_filterMap.mpr ⟨e, List.mem_cons_of_mem _ he, q⟩)
    have S3 := J3.suite he3 hd3 na nL nF
    have LT : PySem.W.Looks (model X.prog X.w) h3 (typeOf (.ref a)) cls := fun A Q E s k q => wpAny_typeOf_ref (k _ _ he3) (by rw [hz3.1]; exact q)
    have test : ∀ {x : Str} {c : Value} {np : Pos} {Q : Value → Shared → Prop} {E : Value → Shared → Prop}, Names X x c → Q c { s' with heap := h3 } → wpAny (model X.prog X.w) (X.A.mark (some (.ref a))) (eval (.Name x np) X.env) Q E { s' with heap := h3 } := fun {x c np Q E} hc q => by
      obtain ⟨hg, hdbg, hm | ⟨hm, hv, hnn⟩⟩ := hc
      · exact ld_glob (X := X.suite a ((a, oe3) :: (X.pn ++ pins))) S3 hg hm q hdbg
      · exact ld_blt (X := X.suite a ((a, oe3) :: (X.pn ++ pins))) S3 hg hm hv q hnn hdbg
    have go : ∀ {hds' : List ExceptHandler} {l' : List Cl}, HdG X hds' l' → wG X.K Wout D l' cls d σ' H' →
        wpAny (model X.prog X.w) X.A (handleBy (.ref a) X.env hds') (SP X pins D) X.xe { s' with heap := h3 } := by
      intro hds' l' hk
      induction hk with
      | nil =>
        intro w
        refine wpAny_handleBy_nil ?_
        obtain ⟨k1, k2, k3, oe, vs, T, oT, ts', he, hz, hd, h1, hr⟩ := id fl3
        unfold PySem.passOn
        refine wpAny_bind (wpAny_field he hd h1 ?_)
        rw [if_neg (show ¬ ((Value.ref T == Value.none) = true) from by simp)]
        have fin : wpAny (model X.prog X.w) X.A (setFlight (.ref a) X.env.frame) (fun _ s4 => wpAny (model X.prog X.w) X.A (throw (.ref a) : Sem Flow) (SP X pins D) X.xe s4) X.xe { s' with heap := h3 } := by
          rw [hf]
          refine HandSPX.setFlight_upZ fl3 fun h4 hh4 up4 => wpAny_throw (tk _ _ ?_)
          exact ⟨a, B, sI, pins, σ', H', cls, d, rfl, J, nb, (up.trans up3).trans up4, .inr (.inr (by rw [hs]; exact hh4)), na, os, ag, w⟩
        first
          | exact wpAny_bind (wpAny_pure (wpAny_bind fin))
          | exact wpAny_bind fin
      | @one x c ts b₀ suite np pos' hds2 l2 hc hsu r ih =>
        intro w
        obtain ⟨b, hb1, hyes, hno⟩ := w
        refine wpAny_handleBy_cons (codeAny_handlers_test ?_) (by intro q; cases q)
        have LM := PySem.W.exm_one (M := model X.prog X.w) (J3.kIn) LT hb1
        refine test hc (LM.here ?_)
        cases b with
        | true =>
          refine codeAny_handlers_suite ?_
          refine HandSPX.lands_againZ fl3 fun h4 fl4 up4 => ?_
          have J4 : Inv X pins σ' H' { s' with heap := h4 } := J.landed nb fl4.1 ((up.trans up3).trans up4) os ag
          obtain ⟨oe4, vs4, he4, hz4, hd4⟩ := fl4.there
          have S4 := J4.suite he4 hd4 na nL nF
          refine wpAny_mono ((hsu a oe4 cls d (X.pn ++ pins) hz4 ⟨_, hd4⟩).run [] _ _ H' _ S4 (hyes rfl a na)) (fun f s6 hsp => ?_) (fun _ _ z => False.elim z)
          cases f with
          | next =>
            obtain ⟨σ6, H6, S6, q6⟩ := hsp
            exact ⟨_, _, S6.unsuite ok, q6⟩
          | brk =>
            obtain ⟨σ6, H6, S6, q6⟩ := hsp
            exact ⟨_, _, S6.unsuite ok, q6⟩
          | cont =>
            obtain ⟨σ6, H6, S6, q6⟩ := hsp
            exact ⟨_, _, S6.unsuite ok, q6⟩
          | ret u =>
            obtain ⟨v6, σ6, H6, S6, r6, q6⟩ := hsp
            exact ⟨_, _, _, S6.unsuite ok, r6, q6⟩
        | false =>
          show wpAny _ X.A (handleBy (.ref a) X.env hds2) _ _ _
          exact ih (hno rfl)
      | @named x n c i ts b₀ suite np pos' hds2 l2 hN hi hln hc hsu r ih =>
        intro w
        obtain ⟨b, hb1, hyes, hno⟩ := w
        refine wpAny_handleBy_cons (codeAny_handlers_test ?_) (by intro q; cases q)
        have LM := PySem.W.exm_one (M := model X.prog X.w) (J3.kIn) LT hb1
        refine test hc (LM.here ?_)
        have hloc : Loc X.env.scope n := .inl hln
        cases b with
        | true =>
          refine codeAny_handlers_suite_as ?_
          refine HandSPX.lands_againZ fl3 fun h4 fl4 up4 => ?_
          have J4 : Inv X pins σ' H' { s' with heap := h4 } := J.landed nb fl4.1 ((up.trans up3).trans up4) os ag
          obtain ⟨oe4, vs4, he4, hz4, hd4⟩ := fl4.there
          have S4 := J4.suite he4 hd4 na nL nF
          refine store_ok (X := X.suite a ((a, oe4) :: (X.pn ++ pins))) (v := .ref a) S4 hN hi hloc rfl (fun s5 S5 => ?_) (.inr hln)
          refine wpAny_mono ((hsu a oe4 cls d (X.pn ++ pins) hz4 ⟨_, hd4⟩).run [] s5 _ H' _ S5 (hyes rfl a na)) (fun f s6 hsp => ?_) (fun _ _ z => False.elim z)
          have end_ : ∀ {σ6 : L2.St} {H6 : Hp} {Q : Shared → Prop}, Inv (X.suite a ((a, oe4) :: (X.pn ++ pins))) [] σ6 H6 s6 → (∀ s7, Inv X pins (σ6.set i none) H6 s7 → Q s7) →
              wpAny (model X.prog X.w) X.A (do bindName X.env n .none; unbindBehindTheSuite X.env n pos') (fun _ s7 => Q s7) X.xe s6 := fun {σ6 H6 Q} S6 hq => gone_ok (S6.unsuite ok) hN hi hln hq
          cases f with
          | next =>
            obtain ⟨σ6, H6, S6, q6⟩ := hsp
            exact end_ S6 fun s7 J7 => ⟨_, _, J7, q6⟩
          | brk =>
            obtain ⟨σ6, H6, S6, q6⟩ := hsp
            exact end_ S6 fun s7 J7 => ⟨_, _, J7, q6⟩
          | cont =>
            obtain ⟨σ6, H6, S6, q6⟩ := hsp
            exact end_ S6 fun s7 J7 => ⟨_, _, J7, q6⟩
          | ret u =>
            obtain ⟨v6, σ6, H6, S6, r6, q6⟩ := hsp
            exact end_ S6 fun s7 J7 => ⟨_, _, _, J7, r6, q6⟩
        | false =>
          show wpAny _ X.A (handleBy (.ref a) X.env hds2) _ _ _
          exact ih (hno rfl)
    exact go hh w
  · cases f with
    | next =>
      obtain ⟨σ', H', J', q⟩ := hsp
      exact ho.run pins s1 σ' H' D (J'.ofTry ok) q
    | brk =>
      obtain ⟨σ', H', J', q⟩ := hsp
      exact ⟨σ', H', J'.ofTry ok, q⟩
    | cont =>
      obtain ⟨σ', H', J', q⟩ := hsp
      exact ⟨σ', H', J'.ofTry ok, q⟩
    | ret u =>
      obtain ⟨v, σ', H', J', r, q⟩ := hsp
      exact ⟨v, σ', H', J'.ofTry ok, r, q⟩
end
def XeP (K : PySem.W.Frag) (a : Addr) (cls : Value) (d : Option Addr) (n : Str) (Q : VK) : VK := fun x H1 => x = .ref a ∧ ∃ C, cls = .ref C ∧ XI K C ∧ PySem.W.findIn K (.ref C) n = some none ∧ ∃ (dd : Addr) (fs : List (Str × V)) (v : V), d = some dd ∧ H1 dd = some (.xd fs) ∧ fs.lookup n = some v ∧ Q v H1
def tXe (K : PySem.W.Frag) (a : Addr) (cls : Value) (d : Option Addr) (n : Str) (te : TE) : TE := fun σ H Q => te σ H (XeP K a cls d n Q)
theorem pe_xe {X : Cx} {a : Addr} {oe : Obj} {cls : Value} {d : Option Addr} {pn : List (Addr × Obj)} {e : Expr} {te : TE} {pos : Pos} {n : Str}
    (hz : Zc cls d oe) (hf : ∃ vs, oe.data = .fields vs) (he : PE (X.suite a ((a, oe) :: pn)) e te) (hb : attributeBase e n X.env (eval e X.env) = eval e X.env := by rfl) :
    PE (X.suite a ((a, oe) :: pn)) (.Attribute e n pos) (tXe X.K a cls d n te) := by
  refine ⟨fun pins s σ H Q I h => ?_⟩
  refine attr_of hb (thn (he.run pins s σ H _ I h) fun u s1 hh => ?_)
  obtain ⟨x, H1, I1, rx, ex, C, ec, T, hno, dd, fs, v, ed, ea, l, q⟩ := hh
  subst ex
  obtain rfl : u = Value.ref a := rx
  subst ec
  subst ed
  obtain ⟨ha, _⟩ := I1.pin (a, oe) (List.mem_append_left _ List.mem_cons_self)
  obtain ⟨vs, hd⟩ := hf
  have hx : ObjOk X.prog X.w H1 s1.heap dd (.xd fs) := I1.hok dd _ ea
  obtain ⟨mA, hns, hr⟩ := hx
  obtain ⟨od, ho, hl⟩ := lookIn_ns hns
  obtain ⟨u, hu, ru⟩ := RelO.some_of (v := v) (o := mA n) (by rw [← l]; exact hr n)
  have J : PySem.W.InstAt s1.heap a oe C (some od) := ⟨ha, hz.1, by unfold PySem.W.notCls; rw [hd] <;> rfl, by rw [hz.2]; exact ho⟩
  exact HandSPX.exc_get I1.kIn J T.ga T.gg T.sb (PySem.W.findObj_own T.hd hno rfl (by rw [hl, hu])) (handed_of ru) ⟨v, H1, I1.tok _, ru, q⟩
def rIsX (K : PySem.W.Frag) (a : Addr) (cls : Value) (d : Option Addr) : List V → Hp → VK → Prop := fun xs H Q => ∃ (c : V) (cv : Value) (b : Bool) (C dd : Addr) (fs : List (Str × V)), xs = [.ref a, c] ∧ (∀ u, RelV c u → u = cv) ∧ cls = .ref C ∧ XI K C ∧ d = some dd ∧ H dd = some (.xd fs) ∧ PySem.W.kitOne K (.ref C) cv = some b ∧ Q (.bl b) H
theorem call_isX {X : Cx} {a : Addr} {cls : Value} {d : Option Addr} {oe : Obj} {pn : List (Addr × Obj)} (hz : Zc cls d oe) (hf : ∃ vs, oe.data = .fields vs) : CallR (X.suite a ((a, oe) :: pn)) (.builtin "isinstance") (rIsX X.K a cls d) := by
  intro pins s σ H xs us Q I r h
  obtain ⟨c, cv, b, C, dd, fs, rfl, hcv, ec, T, ed, ea, e, q⟩ := h
  subst ec
  subst ed
  cases r with
  | cons rx rr =>
    cases rr with
    | cons rt rr =>
      cases rr
      cases rx
      have ecv := hcv _ rt
      subst ecv
      obtain ⟨hget, _⟩ := I.pin (a, oe) (List.mem_append.mpr (.inl List.mem_cons_self))
      obtain ⟨vs, hv⟩ := hf
      have hx : ObjOk X.prog X.w H s.heap dd (.xd fs) := I.hok dd _ ea
      obtain ⟨mA, hns, hr⟩ := hx
      obtain ⟨od, ho, hl⟩ := lookIn_ns hns
      have J : PySem.W.InstAt s.heap a oe C (some od) := ⟨hget, hz.1, by unfold PySem.W.notCls; rw [hv] <;> rfl, by rw [hz.2]; exact ho⟩
      exact PySem.W.kia_one (PySem.W.kitx_exc T.hc T.ga T.gg T.sb T.ca T.cn T.ct T.cm) I.kIn J e (fun z => nomatch z) fun tk => ⟨.bl b, H, I.kept (t' := tk) fun _ _ z => z, rfl, q⟩
structure BI (K : PySem.W.Frag) (mg : Str → Option Value) (nm : Str) : Prop where
  g : mg nm = some (.ref (clsA K nm))
  ga : PySem.W.specialIn K (.ref (clsA K nm)) "__getattribute__" = some (some (.builtin "type.__getattribute__"))
  rd : PySem.W.readsIn K (clsA K nm) (.type "type") = true
  fi : PySem.W.findCls K (.ref (clsA K nm)) (.type "type") "__init__" = some (.val (.builtin "ValueError.__init__"))
section
variable {X : Cx} {e : Expr} {es : List Expr} {ta : TA} {p1 p2 pos : Pos} {nm : Str}
theorem pe_oinit {pl : Sem Bool} (B : BI X.K X.mg nm) (hg : Gl X nm) (ha : PA X (e :: es) ta) (hdb : (nm == ("__debug__" : Str)) = false := by decide)
    (hc : eval (.Call (.Attribute (.Name nm p1) "__init__" p2) (e :: es) [] pos) X.env = (do
      let ov ← eval (.Name nm p1) X.env
      standAt p2.atName
      let (f, first) ← holding [ov] (getMethod ov "__init__" pl)
      callWith pos f first (backTo pos (starEach (e :: es) X.env)) (backToKw pos (keywordEach [] X.env))) := by rfl)
    (he : starEach (e :: es) X.env = (false, eval e X.env) :: starEach es X.env := by rfl) (hpl : (backTo pos (starEach es X.env)).any (·.1) = false := by rfl) :
    PE X (.Call (.Attribute (.Name nm p1) "__init__" p2) (e :: es) [] pos) (tVeI X.K ta) := by
  refine ⟨fun pins s σ H Q I h => ?_⟩
  refine PySem.W.methodCall_KW (ld_glob I hg B.g ?_ hdb) hc
  refine PySem.W.method_cls I.kIn B.ga (PySem.W.cls_value I.kIn B.rd B.fi (by decide +kernel) ?_)
  show wpAny _ _ (callWith pos (Value.builtin "ValueError.__init__") [] (backTo pos (starEach (e :: es) X.env)) []) _ _ _
  refine PyProof.Rows.callWith_method1 (thn (ha.run pos pins _ σ H _ (I.tok _) h) fun us s1 ⟨vs, H1, I1, r1, a, C, ws, ev, hl, T, ea, q⟩ => ?_) he hpl
  subst ev
  cases r1 with
  | @cons _ u0 _ ur ra rw' =>
    obtain rfl : u0 = Value.ref a := ra
    have hlen : ur.length ≤ sizeLine := by
      rw [← Paired.length rw', sizeLine_eq]
      omega
    exact oinit_ok T I1 ea hlen fun s' J => ⟨.non, H1, J, rfl, q⟩
end
/-- its __init__ of one field, of two -/
def spI1 (K : PySem.W.Frag) (f : Str) : Sp := fun vs H Q _ => ∃ (a C : Addr) (y : V), vs = [.ref a, y] ∧ OexC K C ∧ PySem.W.findIn K (.ref C) f = some none ∧ H a = some (exo a C none) ∧
  ∀ dx, H dx = none → dx ≠ a → Q .non (upd (upd H dx (exd dx [(f, y)])) a (exo a C (some dx)))
def spI2 (K : PySem.W.Frag) (f g : Str) : Sp := fun vs H Q _ => ∃ (a C : Addr) (y z : V), vs = [.ref a, y, z] ∧ OexC K C ∧ PySem.W.findIn K (.ref C) f = some none ∧ PySem.W.findIn K (.ref C) g = some none ∧ H a = some (exo a C none) ∧
  ∀ dx, H dx = none → dx ≠ a → Q .non (upd (upd (upd H dx (exd dx [(f, y)])) a (exo a C (some dx))) dx (exd dx [(g, z), (f, y)]))
structure EX (P : Program) (w : World) (K : PySem.W.Frag) (mg : Str → Option Value) (base : Heap) (nm : Str) (ps : List Str) (sp : Sp) : Prop where
  g : mg nm = some (.ref (clsA K nm))
  o : OexC K (clsA K nm)
  i : ∃ (fI : Addr) (fd : FuncData), PySem.W.findIn K (.ref (clsA K nm)) "__init__" = some (some (.ref fI)) ∧ PySem.W.typeIn K (.ref fI) = some (.type "function") ∧ FnOk P w K mg base CX0 1 fI fd ps sp ∧ Binds K fd ps []
def MkG (C : Addr) (sp : Sp) (vs : List V) (Q : XK) (H1 : Hp) : Prop := vs.length ≤ 1000 ∧ ∀ a, H1 a = none → sp (.ref a :: (vs ++ [])) (upd H1 a (exo a C none))
  (fun v H2 => v = .non ∧ ∃ (d : Addr) (fs : List (Str × V)), H2 a = some (exo a C (some d)) ∧ H2 d = some (exd d fs) ∧ H1 d = none ∧ Q (.ref C) (some d) (upd (del H2 a) d (.xd fs))) (fun _ _ _ => False)
def tRaise (C : Addr) (sp : Sp) (W : WX) (ta : TA) : TS := fun _ σ H => ta σ H fun vs H1 => MkG C sp vs (fun cls d H' => W cls d σ H') H1
section
variable {X : Cx} {e : Expr} {es : List Expr} {ta : TA} {p pos pos2 : Pos} {nm : Str} {ps : List Str} {sp : Sp} {W : WX}
theorem ps_raiseG (hc : X.calm = true) (T : EX X.prog X.w X.K X.mg X.base nm ps sp) (hr : Room 2 X.A) (tk : Takes X W) (hg : Gl X nm) (ha : PA X (e :: es) ta)
    (hdb : (nm == ("__debug__" : Str)) = false := by decide) (he : starEach (e :: es) X.env = (false, eval e X.env) :: starEach es X.env := by rfl) (hpl : (backTo pos (starEach es X.env)).any (·.1) = false := by rfl) :
    PS X (.Raise (some (.Call (.Name nm p) (e :: es) [] pos)) none pos2) (tRaise (clsA X.K nm) sp W ta) := by
  obtain ⟨fI, fd, i1, i2, i3, i4⟩ := T.i
  exact ps_raise hc tk (pmk_oex (dvs := []) T.o i1 i2 i3 hr i4 .nil pass0 hg T.g ha hdb he hpl)
end
theorem mk_heap {H1 : Hp} {a dx : Addr} {o1 o2 o3 u : HO} (hn : H1 a = none) (ne : dx ≠ a) : upd (del (upd (upd (upd H1 a o1) dx o2) a o3) a) dx u = upd H1 dx u := by
  funext b
  by_cases h1 : b = dx
  · rw [h1, upd_same, upd_same]
  · rw [upd_ne h1, upd_ne h1]
    by_cases h2 : b = a
    · rw [h2, del_same, hn]
    · rw [del_ne h2, upd_ne h2, upd_ne h1, upd_ne h2]
theorem mk_heap2 {H1 : Hp} {a dx : Addr} {o1 o2 o3 o4 u : HO} (hn : H1 a = none) (ne : dx ≠ a) : upd (del (upd (upd (upd (upd H1 a o1) dx o2) a o3) dx o4) a) dx u = upd H1 dx u := by
  funext b
  by_cases h1 : b = dx
  · rw [h1, upd_same, upd_same]
  · rw [upd_ne h1, upd_ne h1]
    by_cases h2 : b = a
    · rw [h2, del_same, hn]
    · rw [del_ne h2, upd_ne h1, upd_ne h2, upd_ne h1, upd_ne h2]
section
variable {K : PySem.W.Frag} {C : Addr} {Q : XK} {H : Hp} {f g : Str}
theorem st_mk1 {v : V} (T : OexC K C) (hf : PySem.W.findIn K (.ref C) f = some none) (h : ∀ d H', H d = none → Ex H H' → H' d = some (.xd [(f, v)]) → Q (.ref C) (some d) H') : MkG C (spI1 K f) [v] Q H := by
  refine ⟨(by decide : 1 ≤ 1000), fun a ha => ⟨a, C, v, rfl, T, hf, upd_same, fun dx hdx ne => ⟨rfl, dx, [(f, v)], upd_same, ?_, ?_, ?_⟩⟩⟩
  · rw [upd_ne ne]; exact upd_same
  · rw [upd_ne ne] at hdx; exact hdx
  · rw [upd_ne ne] at hdx
    rw [mk_heap ha ne]
    exact h dx _ hdx (Fr.new hdx) upd_same
theorem st_mk2 {v z : V} (T : OexC K C) (hf : PySem.W.findIn K (.ref C) f = some none) (hg : PySem.W.findIn K (.ref C) g = some none) (h : ∀ d H', H d = none → Ex H H' → H' d = some (.xd [(g, z), (f, v)]) → Q (.ref C) (some d) H') : MkG C (spI2 K f g) [v, z] Q H := by
  refine ⟨(by decide : 2 ≤ 1000), fun a ha => ⟨a, C, v, z, rfl, T, hf, hg, upd_same, fun dx hdx ne => ⟨rfl, dx, [(g, z), (f, v)], ?_, upd_same, ?_, ?_⟩⟩⟩
  · rw [upd_ne (Ne.symm ne)]; exact upd_same
  · rw [upd_ne ne] at hdx; exact hdx
  · rw [upd_ne ne] at hdx
    rw [mk_heap2 ha ne]
    exact h dx _ hdx (Fr.new hdx) upd_same
end
structure IniF (K : PySem.W.Frag) (nm qual : Str) (st : Stmt) (ps : List Str) : Prop where
  ex : ∃ (fI : Addr) (fd : FuncData), PySem.W.findIn K (.ref (clsA K nm)) "__init__" = some (some (.ref fI)) ∧ PySem.W.typeIn K (.ref fI) = some (.type "function") ∧ Fun K "__init__" qual st fI fd ∧ Binds K fd ps []
theorem ini_mk {K : PySem.W.Frag} {nm qual : Str} {st : Stmt} {ps : List Str} {f : Addr} {oc : Value} {od an : Option Addr} {osl : Array (Option Value)} {kV dc pm cd ct : Value} (i : PySem.W.findIn K (.ref (clsA K nm)) "__init__" = some (some (.ref f))) (t : PySem.W.typeIn K (.ref f) = some (.type "function"))
    (l : K.lookup f = some ⟨oc, od, .func (PySem.W.fnOf "__init__" qual (defArgs st) (defBody st) (defScope st) .none kV dc pm an cd ct), osl⟩) (c : PySem.W.codeIn K cd qual = true) (k : PySem.W.keepIn K (.ref f) = true)
    (hb : ∀ (kV doc pm : Value) (an : Option Addr) (cdv ct : Value) (us : List Value), us.length = ps.length → bindArgs (PySem.W.fnOf "__init__" qual (defArgs st) (defBody st) (defScope st) .none kV doc pm an cdv ct) ⟨us, []⟩ = pure (ps.zip us)) : IniF K nm qual st ps :=
  have F := fun_mk (st := st) l c k
  ⟨f, _, i, t, F, F.binds hb⟩
theorem xi_mk {K : PySem.W.Frag} {C : Addr} (ga : PySem.W.findIn K (.ref C) "__getattribute__" = some (some (.builtin "BaseException.__getattribute__"))) (gg : PySem.W.findIn K (.ref C) "__getattr__" = some none) (sb : PySem.W.subIn K (.ref C) (.type "BaseException") = some true) (hd : PySem.W.hasDictIn K C = true)
    (ca : PySem.W.findIn K (.ref C) "__class__" = some (some (.builtin "object.__class__"))) (cn : PySem.W.specialIn K (.builtin "object.__class__") "__get__" = some (some (.builtin "getset_descriptor.__get__"))) (ct : PySem.W.takesIn K (.builtin "object.__class__") = some true) (cm : PySem.W.mroIn K C (.type "object") = some true) : XI K C :=
  ⟨by obtain ⟨cd, hc, _⟩ := PySem.W.any_some hd; rw [hc]; rfl, ga, gg, sb, hd, ca, cn, ct, cm⟩
theorem ini1_go {K : PySem.W.Frag} {f tx : Str} {a C : Addr} {y : V} {H : Hp} {Q : VK} (hO : OexC K C) (hn : PySem.W.findIn K (.ref C) f = some none) (ha : H a = some (exo a C none))
    (k : ∀ dx, H dx = none → dx ≠ a → Q .non (upd (upd H dx (exd dx [(f, y)])) a (exo a C (some dx)))) :
    tSeq (tDrop (tVeI K (tCons (tVar 0) (tCons (tC (.str tx)) tNil)))) (tOst K f (tVar 0) (tVar 1)) { nx := fun _ H' => Q .non H', rt := Q } [some (.ref a), some y] H :=
  ⟨.ref a, rfl, a, C, [.str tx], rfl, Nat.le_of_ble_eq_true rfl, hO, ha, y, rfl, .ref a, rfl, a, C, rfl, hO, hn, .inl ⟨ha, k⟩⟩
theorem ini2_go {K : PySem.W.Frag} {f g tx : Str} {a C : Addr} {y z : V} {H : Hp} {Q : VK} (hO : OexC K C) (hn : PySem.W.findIn K (.ref C) f = some none) (hg : PySem.W.findIn K (.ref C) g = some none) (ha : H a = some (exo a C none))
    (k : ∀ dx, H dx = none → dx ≠ a → Q .non (upd (upd (upd H dx (exd dx [(f, y)])) a (exo a C (some dx))) dx (exd dx [(g, z), (f, y)]))) :
    tSeq (tDrop (tVeI K (tCons (tVar 0) (tCons (tC (.str tx)) tNil)))) (tSeq (tOst K f (tVar 0) (tVar 1)) (tOst K g (tVar 0) (tVar 2))) { nx := fun _ H' => Q .non H', rt := Q } [some (.ref a), some y, some z] H :=
  ⟨.ref a, rfl, a, C, [.str tx], rfl, Nat.le_of_ble_eq_true rfl, hO, ha, y, rfl, .ref a, rfl, a, C, rfl, hO, hn, .inl ⟨ha, fun dx h1 h2 => ⟨z, rfl, .ref a, rfl, a, C, rfl, hO, hg, .inr ⟨dx, [(f, y)], upd_same, by rw [upd_ne h2]; exact upd_same, Nat.le_of_ble_eq_true rfl, k dx h1 h2⟩⟩⟩⟩
/-- a thing of a kind that is known; a text not too long -/
def Thg (H : Hp) (v : V) : Prop := Ty H v ∧ ∀ z, v = .str z → z.length ≤ 16777216
theorem Thg.ex {H H' : Hp} {v : V} (h : Thg H v) (e : Ex H H') : Thg H' v := ⟨h.1.ex e, h.2⟩
theorem thg_str {H : Hp} {z : Str} (h : z.length ≤ 16777216) : Thg H (.str z) := ⟨ty_str _, fun _ e => by cases e; exact h⟩
/-- an error of the class nm that holds these fields is let out -/
def RaF (K : PySem.W.Frag) (E : XK) (H : Hp) (nm : Str) (fs : List (Str × V)) : Prop := ∀ d H', H d = none → Ex H H' → H' d = some (.xd fs) → E (.ref (clsA K nm)) (some d) H'
abbrev RaR (K : PySem.W.Frag) (E : XK) (H : Hp) (nm f : Str) (v : V) : Prop := RaF K E H nm [(f, v)]
theorem RaF.ex {K : PySem.W.Frag} {E : XK} {H H1 : Hp} {nm : Str} {fs : List (Str × V)} (h : RaF K E H nm fs) (e : Ex H H1) : RaF K E H1 nm fs := fun d H' h1 h2 h3 => h d H' (Ex.free e h1) (e.trans h2) h3
section
variable {D : Ends} {σ : L2.St} {H : Hp} {Q : VK} {K : PySem.W.Frag}
theorem st_raise {C : Addr} {sp : Sp} {W : WX} {ta : TA} (h : ta σ H fun vs H1 => MkG C sp vs (fun cls d H' => W cls d σ H') H1) : tRaise C sp W ta D σ H := h
theorem st_try {Wout : WX} {tb : WX → TS} {u : TS} {l : List Cl} (h : tb (wG K Wout D l) { D with nx := u D } σ H) : tTry K Wout tb u l D σ H := h
theorem st_callS {sp : Sp} {W : WX} {t : TA} (h : t σ H fun vs H1 => sp vs H1 Q (WE W σ)) : tCallS sp (WE W) t σ H Q := h
theorem st_hYn {Wout : WX} {c : Value} {i : Nat} {ts : Addr → Value → Option Addr → TS} {r : List Cl} {cls : Value} {d : Option Addr} (e : PySem.W.exmOne K cls c = some true) (h : ∀ a, H a = none → ts a cls d { nx := fun σ' H' => D.nx (σ'.set i none) H', rt := D.rt, bk := fun σ' H' => D.bk (σ'.set i none) H', ct := fun σ' H' => D.ct (σ'.set i none) H' } (σ.set i (some (.ref a))) H) : wG K Wout D ((c, some i, ts) :: r) cls d σ H := ⟨true, e, fun _ => h, fun z => nomatch z⟩
theorem st_hY0 {Wout : WX} {c : Value} {ts : Addr → Value → Option Addr → TS} {r : List Cl} {cls : Value} {d : Option Addr} (e : PySem.W.exmOne K cls c = some true) (h : ∀ a, H a = none → ts a cls d D σ H) : wG K Wout D ((c, none, ts) :: r) cls d σ H := ⟨true, e, fun _ => h, fun z => nomatch z⟩
theorem st_hN {Wout : WX} {c : Value} {i : Option Nat} {ts : Addr → Value → Option Addr → TS} {r : List Cl} {cls : Value} {d : Option Addr} (e : PySem.W.exmOne K cls c = some false) (h : wG K Wout D r cls d σ H) : wG K Wout D ((c, i, ts) :: r) cls d σ H := ⟨false, e, (fun z => by cases z), fun _ => h⟩
theorem st_xe {a : Addr} {cls : Value} {d : Option Addr} {n : Str} {te : TE} (h : te σ H (XeP K a cls d n Q)) : tXe K a cls d n te σ H Q := h
theorem st_xeP {a C dd : Addr} {n : Str} {fs : List (Str × V)} {v : V} (T : XI K C) (hno : PySem.W.findIn K (.ref C) n = some none) (h1 : H dd = some (.xd fs)) (h2 : fs.lookup n = some v) (h : Q v H) : XeP K a (.ref C) (some dd) n Q (.ref a) H := ⟨rfl, C, rfl, T, hno, dd, fs, v, rfl, h1, h2, h⟩
theorem st_isX {a C C' dd : Addr} {fs : List (Str × V)} {b : Bool} (T : XI K C) (h1 : H dd = some (.xd fs)) (e : PySem.W.kitOne K (.ref C) (.ref C') = some b) (h : Q (.bl b) H) : rIsX K a (.ref C) (some dd) [.ref a, .ref C'] H Q := ⟨.ref C', .ref C', b, C, dd, fs, rfl, fun _ r => r, rfl, T, rfl, h1, e, h⟩
theorem st_isXT {a C dd : Addr} {fs : List (Str × V)} {n : String} {b : Bool} (T : XI K C) (h1 : H dd = some (.xd fs)) (e : PySem.W.kitOne K (.ref C) (.type n) = some b) (h : Q (.bl b) H) : rIsX K a (.ref C) (some dd) [.ref a, .ty n] H Q := ⟨.ty n, .type n, b, C, dd, fs, rfl, fun _ r => r, rfl, T, rfl, h1, e, h⟩
end
end Zb
namespace Zb
open PySem PySem.Spec PyProof.Rows L2
abbrev ixSt (lo hi : Option Int) (k : Int) (n : Nat) : List Nat := Builtin.Str.strSliceIndices lo hi k n
def pick {α : Type} (is : List Nat) (xs : List α) : List α := is.filterMap (xs[·]?)
theorem vals_pick {xs : List V} {its : List Value} (r : Vals xs its) : ∀ is : List Nat, Vals (pick is xs) (pick is its)
  | [] => .nil
  | i :: is => by
    have ih := vals_pick r is
    unfold pick at ih ⊢
    rw [List.filterMap_cons, List.filterMap_cons]
    cases e : xs[i]? with
    | some v =>
      obtain ⟨u, hu, ru⟩ := r.get e
      rw [hu]
      exact .cons ru ih
    | none =>
      have hl := r.length
      rw [List.getElem?_eq_none (by rw [List.getElem?_eq_none_iff] at e; omega)]
      exact ih
theorem pick_get {α : Type} {xs : List α} : ∀ {is : List Nat}, (∀ j ∈ is, j < xs.length) → ∀ i : Nat, (pick is xs)[i]? = is[i]?.bind (xs[·]?)
  | [], _, i => by simp [pick]
  | j :: is, h, i => by
    have hj := h j List.mem_cons_self
    have ih := pick_get (xs := xs) (is := is) fun k hk => h k (List.mem_cons_of_mem _ hk)
    unfold pick at ih ⊢
    rw [List.filterMap_cons, List.getElem?_eq_getElem hj]
    cases i with
    | zero => simp [hj]
    | succ i => simpa using ih i
theorem pick_rev {α : Type} (xs : List α) : pick (ixSt none none (-1) xs.length) xs = xs.reverse := by
  have e : ixSt none none (-1) xs.length = (List.range xs.length).map fun (i : Nat) => ((xs.length : Int) - 1 + (-1) * (i : Int)).toNat := by
    show sliceRange _ _ _ = _
    unfold sliceRange
    have h0 : ¬ ((-1 : Int) > 0) := by decide
    simp only [h0, if_false]
    by_cases h : xs.length = 0
    · rw [h]; rfl
    · have h1 : ((xs.length : Int) - 1) > -1 := by omega
      simp only [h1, if_true]
      have h2 : (((xs.length : Int) - 1 - -1 - -1 - 1) / - -1).toNat = xs.length := by rw [Int.neg_neg, Int.ediv_one]; omega
      rw [h2]
  apply List.ext_getElem?
  intro i
  rw [pick_get (fun j hj => by
    rw [e, List.mem_map] at hj
    obtain ⟨i, hi, rfl⟩ := hj
    rw [List.mem_range] at hi
    show ((xs.length : Int) - 1 + (-1) * (i : Int)).toNat < xs.length
    omega), e, List.getElem?_map]
  by_cases hi : i < xs.length
  · rw [List.getElem?_range hi, List.getElem?_reverse hi]
    show xs[((xs.length : Int) - 1 + (-1) * (i : Int)).toNat]? = _
    congr 1
    omega
  · rw [List.getElem?_eq_none (l := List.range _) (by rw [List.length_range]; omega), List.getElem?_eq_none (l := xs.reverse) (by rw [List.length_reverse]; omega)]
    rfl
/-- the items at 0, 2, .. ; at 1, 3, .. -/
def evL {α : Type} : List α → List α
  | [] => []
  | [a] => [a]
  | a :: _ :: r => a :: evL r
def odL {α : Type} : List α → List α
  | [] => []
  | [_] => []
  | _ :: b :: r => b :: odL r
theorem evL_get {α : Type} : ∀ (xs : List α) (i : Nat), (evL xs)[i]? = xs[2 * i]?
  | [], i => by simp [evL]
  | [a], i => by cases i <;> simp [evL]
  | a :: b :: r, i => by
    cases i with
    | zero => simp [evL]
    | succ i =>
      have ih := evL_get r i
      show (a :: evL r)[i + 1]? = (a :: b :: r)[2 * (i + 1)]?
      rw [List.getElem?_cons_succ, ih, show 2 * (i + 1) = 2 * i + 1 + 1 from rfl, List.getElem?_cons_succ, List.getElem?_cons_succ]
theorem odL_get {α : Type} : ∀ (xs : List α) (i : Nat), (odL xs)[i]? = xs[2 * i + 1]?
  | [], i => by simp [odL]
  | [a], i => by simp [odL]
  | a :: b :: r, i => by
    cases i with
    | zero => simp [odL]
    | succ i =>
      have ih := odL_get r i
      show (b :: odL r)[i + 1]? = (a :: b :: r)[2 * (i + 1) + 1]?
      rw [List.getElem?_cons_succ, ih, show 2 * (i + 1) + 1 = 2 * i + 1 + 1 + 1 from rfl, List.getElem?_cons_succ, List.getElem?_cons_succ]
theorem pick_ev {α : Type} (xs : List α) : pick (ixSt none none 2 xs.length) xs = evL xs := by
  have e : ixSt none none 2 xs.length = (List.range ((xs.length + 1) / 2)).map fun (i : Nat) => ((0 : Int) + 2 * (i : Int)).toNat := by
    show sliceRange _ _ _ = _
    unfold sliceRange
    have h0 : ((2 : Int) > 0) := by decide
    simp only [h0, if_true]
    by_cases h : xs.length = 0
    · rw [h]; rfl
    · have h1 : (0 : Int) < (xs.length : Int) := by omega
      simp only [h1, if_true]
      have h2 : (((xs.length : Int) - 0 + 2 - 1) / 2).toNat = (xs.length + 1) / 2 := by omega
      rw [h2]
  apply List.ext_getElem?
  intro i
  rw [pick_get (fun j hj => by
    rw [e, List.mem_map] at hj
    obtain ⟨i, hi, rfl⟩ := hj
    rw [List.mem_range] at hi
    show ((0 : Int) + 2 * (i : Int)).toNat < xs.length
    omega), e, List.getElem?_map, evL_get]
  by_cases hi : i < (xs.length + 1) / 2
  · rw [List.getElem?_range hi]
    show xs[((0 : Int) + 2 * (i : Int)).toNat]? = _
    congr 1
    omega
  · rw [List.getElem?_eq_none (l := List.range _) (by rw [List.length_range]; omega), List.getElem?_eq_none (l := xs) (by omega)]
    rfl
theorem pick_od {α : Type} (xs : List α) : pick (ixSt (some 1) none 2 xs.length) xs = odL xs := by
  have e : ixSt (some 1) none 2 xs.length = (List.range (xs.length / 2)).map fun (i : Nat) => ((1 : Int) + 2 * (i : Int)).toNat := by
    show sliceRange _ _ _ = _
    unfold sliceRange
    have h0 : ((2 : Int) > 0) := by decide
    have h9 : ¬ ((1 : Int) < 0) := by decide
    simp only [h0, h9, if_true, if_false]
    by_cases h : xs.length = 0
    · rw [h]; rfl
    · have h3 : (max 0 (min 1 (xs.length : Int))) = 1 := by omega
      rw [h3]
      by_cases h1 : (1 : Int) < (xs.length : Int)
      · simp only [h1, if_true]
        have h2 : (((xs.length : Int) - 1 + 2 - 1) / 2).toNat = xs.length / 2 := by omega
        rw [h2]
      · simp only [h1, if_false]
        have h2 : xs.length / 2 = 0 := by omega
        rw [h2]
        rfl
  apply List.ext_getElem?
  intro i
  rw [pick_get (fun j hj => by
    rw [e, List.mem_map] at hj
    obtain ⟨i, hi, rfl⟩ := hj
    rw [List.mem_range] at hi
    show ((1 : Int) + 2 * (i : Int)).toNat < xs.length
    omega), e, List.getElem?_map, odL_get]
  by_cases hi : i < xs.length / 2
  · rw [List.getElem?_range hi]
    show xs[((1 : Int) + 2 * (i : Int)).toNat]? = _
    congr 1
    omega
  · rw [List.getElem?_eq_none (l := List.range _) (by rw [List.length_range]; omega), List.getElem?_eq_none (l := xs) (by omega)]
    rfl
theorem pick_len {α : Type} (is : List Nat) (xs : List α) : (pick is xs).length ≤ is.length := List.length_filterMap_le _ _
theorem ixSt_len (lo hi : Option Int) (k : Int) (n : Nat) : (ixSt lo hi k n).length ≤ n := by
  have h := PySem.sliceRange_length_le (sliceBounds lo hi (some k) n).1 (sliceBounds lo hi (some k) n).2.1 (sliceBounds lo hi (some k) n).2.2 n (fun hc => ?_) (fun hc => ?_)
  · exact h
  · simp only [sliceBounds, Option.getD_some] at hc ⊢
    simp only [hc, if_true]
    constructor
    · cases lo with
      | none => simp
      | some i => dsimp only; omega
    · cases hi with
      | none => simp
      | some i => dsimp only; omega
  · simp only [sliceBounds, Option.getD_some] at hc ⊢
    simp only [hc, if_false]
    constructor
    · cases lo with
      | none => simp
      | some i => dsimp only; omega
    · cases hi with
      | none => simp
      | some i => dsimp only; omega
def rSt (K : PySem.W.Frag) : V → Option Int → Option Int → Int → Hp → VK → Prop := fun x lo hi k H Q => match x with
  | .str z => z.length ≤ 16777216 ∧ k ≠ 0 ∧ k ≠ 1 ∧ Q (.str (tx (pick (ixSt lo hi k z.length) z.cps.toList))) H
  | .ref p => ∃ xs, SqL K H p xs ∧ k ≠ 0 ∧ ∀ q, H q = none → Q (.ref q) (upd H q (.lst (pick (ixSt lo hi k xs.length) xs)))
  | _ => False
def tSt (r : V → Option Int → Option Int → Int → Hp → VK → Prop) (te : TE) (tl th : TO) (ts : TE) : TE := fun σ H Q => te σ H fun x H1 => tl σ H1 fun l H2 => th σ H2 fun u H3 => ts σ H3 fun s H4 => ∃ k, s = .int k ∧ r x l u k H4 Q
section
variable {X : Cx} {e st : Expr} {te ts : TE} {lo hi : Option Expr} {tl th : TO} {pos p2 : Pos} {K : PySem.W.Frag}
theorem pe_slice3 (he : PE X e te) (hl : PO X lo tl) (hu : PO X hi th) (hs : PE X st ts) (hK : X.K = K := by rfl) : PE X (.Subscript e (.Slice lo hi (some st) p2) pos) (tSt (rSt K) te tl th ts) := by
  subst hK
  refine ⟨fun pins s σ H Q I h => ?_⟩
  rw [eval_Subscript]
  refine wpAny_bind (thn (he.run pins s σ H _ I h) fun v s1 ⟨x, H1, I1, r1, q1⟩ => wpAny_bind (wpAny_holding (wpAny_Slice (thn (hl.run pins s1 σ H1 _ I1 q1) fun vl s2 ⟨l, H2, I2, pl, q2⟩ => thn (hu.run pins s2 σ H2 _ I2 q2) fun vu s3 ⟨u, H3, I3, pu, q3⟩ => ?_))))
  rw [evalPart_some]
  refine thn (hs.run pins s3 σ H3 _ I3 q3) fun vk s4 ⟨xk, H4, I4, rk, q4⟩ => ?_
  obtain ⟨k, ek, q⟩ := q4
  subst ek
  obtain ⟨tk, rfl⟩ := rk
  refine wpAny_bind (wpAny_standAt ?_)
  have I5 : Inv X pins σ H4 { s4 with heap := s4.heap.push { cls := .type "slice", data := .fields #[vl, vu, .int k tk] } } := I4.kept (t' := s4.toks) fun b ob q => Heap.get?_push_of_some _ q
  have go : ∀ {T id : String}, typeLookup (.type T) "__getitem__" = pure (some (.builtin id)) → ({ s4 with heap := s4.heap.push { cls := .type "slice", data := .fields #[vl, vu, .int k tk] } } : Shared).TypeIs v T → wpAny (model X.prog X.w) X.A (getItem v (.ref s4.heap.objs.size)) (EP X pins σ Q) X.xe { s4 with heap := s4.heap.push { cls := .type "slice", data := .fields #[vl, vu, .int k tk] } } →
      wpAny (model X.prog X.w) X.A (subscriptTail e (.Slice lo hi (some st) p2) v (.ref s4.heap.objs.size)) (EP X pins σ Q) X.xe { s4 with heap := s4.heap.push { cls := .type "slice", data := .fields #[vl, vu, .int k tk] } } := by
    intro T id hT ht hg
    exact tail_any (ops := [v, .ref s4.heap.objs.size]) ht hT hg (by with_unfolding_all rfl)
  have hsl : ({ s4 with heap := s4.heap.push { cls := .type "slice", data := .fields #[vl, vu, .int k tk] } } : Shared).heap.IsSliceOf s4.heap.objs.size vl vu (.int k tk) := Heap.IsSliceOf.new ..
  cases x with
  | str z =>
    obtain ⟨hz, hk0, hk1, q⟩ := q
    obtain ⟨tz, rfl⟩ := r1
    obtain ⟨l', rfl, rfl⟩ := IsPart.raw pl
    obtain ⟨u', rfl, rfl⟩ := IsPart.raw pu
    refine go F.slot_str_getitem.lookup (typeIs_str _ _ _) ?_
    refine wpAny_getItem_str_slice (l := l') (u := u') (st := some (k, tk)) hsl (by simpa using hk0) ?_
    have c : ¬ ((k == 1 && (ixSt (l'.map (·.1)) (u'.map (·.1)) k z.length).length == z.length) = true) := by
      intro z
      rw [Bool.and_eq_true] at z
      exact hk1 (by simpa using z.1)
    show Made.post (if (k == 1 && (ixSt (l'.map (·.1)) (u'.map (·.1)) k z.length).length == z.length) = true then Made.val (.str z tz)
      else Made.str ⟨((ixSt (l'.map (·.1)) (u'.map (·.1)) k z.length).filterMap (z.cps[·]?)).toArray⟩) (EP X pins σ Q) _
    rw [if_neg c]
    have e1 : (ixSt (l'.map (·.1)) (u'.map (·.1)) k z.length).filterMap (z.cps[·]?) = pick (ixSt (l'.map (·.1)) (u'.map (·.1)) k z.length) z.cps.toList := by
      unfold pick
      congr 1
      funext j
      rw [Array.getElem?_toList]
    rw [e1]
    refine ⟨?_, .str _, H4, I5.tok _, ⟨_, rfl⟩, q⟩
    show (tx (pick _ _)).length ≤ sizeLine
    rw [tx_length, sl16]
    exact Nat.le_trans (pick_len _ _) (Nat.le_trans (ixSt_len _ _ _ _) hz)
  | ref p =>
    obtain ⟨xs, hx, hk0, q⟩ := q
    obtain rfl : v = Value.ref p := r1
    obtain ⟨its, r, ht, hz⟩ := I5.list hx
    have hlen := r.length
    refine go slot_list_getitem.lookup ht.isList.typeIs ?_
    refine wpAny_getItem_list_slice ht.isList hsl pl pu (.int k tk) (by simpa using hk0) ?_ (by rw [List.size_toArray] <;> omega)
    have e1 : slicePick its.toArray l u (some k) = (pick (ixSt l u k xs.length) its).toArray := by
      unfold slicePick pick
      congr 1
      rw [hlen]
      show (ixSt l u k its.toArray.size).filterMap _ = _
      rw [List.size_toArray]
      congr 1
      funext j
      rw [List.getElem?_toArray]
    rw [e1]
    refine ⟨.ref _, _, I5.laid (t' := s4.toks) (o := .lst (pick (ixSt l u k xs.length) xs)) (fun b ob q => Heap.get?_push_of_some _ q) (Nat.le_refl _) ?_, rfl, q _ (I5.hok.fresh (Nat.le_refl _))⟩
    exact ⟨Nat.le_trans (pick_len _ _) (Nat.le_trans (ixSt_len _ _ _ _) hz), _, 0, vals_pick r _, Heap.get?_push_size _ rfl⟩
  | _ => exact q.elim
end
section
variable {K : PySem.W.Frag} {H : Hp} {σ : L2.St} {Q : VK}
theorem st_st3 {r : V → Option Int → Option Int → Int → Hp → VK → Prop} {te ts : TE} {tl th : TO} (h : te σ H fun x H1 => tl σ H1 fun l H2 => th σ H2 fun u H3 => ts σ H3 fun s H4 => ∃ k, s = .int k ∧ r x l u k H4 Q) : tSt r te tl th ts σ H Q := h
theorem st_revS {z : Str} (hz : z.length ≤ 16777216) (h : Q (.str (tx z.cps.toList.reverse)) H) : rSt K (.str z) none none (-1) H Q := ⟨hz, by decide, by decide, by
  have e : z.length = z.cps.toList.length := Array.length_toList.symm
  rw [e, pick_rev]; exact h⟩
theorem st_evS {z : Str} (hz : z.length ≤ 16777216) (h : Q (.str (tx (evL z.cps.toList))) H) : rSt K (.str z) none none 2 H Q := ⟨hz, by decide, by decide, by
  have e : z.length = z.cps.toList.length := Array.length_toList.symm
  rw [e, pick_ev]; exact h⟩
theorem st_odS {z : Str} (hz : z.length ≤ 16777216) (h : Q (.str (tx (odL z.cps.toList))) H) : rSt K (.str z) (some 1) none 2 H Q := ⟨hz, by decide, by decide, by
  have e : z.length = z.cps.toList.length := Array.length_toList.symm
  rw [e, pick_od]; exact h⟩
theorem st_revL {p : Addr} {xs : List V} (hx : SqL K H p xs) (h : ∀ q H', H q = none → Ex H H' → H' q = some (.lst xs.reverse) → Q (.ref q) H') : rSt K (.ref p) none none (-1) H Q := ⟨xs, hx, by decide, fun q hq => by
  rw [pick_rev]; exact h q _ hq (Fr.new hq) upd_same⟩
theorem st_evL {p : Addr} {xs : List V} (hx : SqL K H p xs) (h : ∀ q H', H q = none → Ex H H' → H' q = some (.lst (evL xs)) → Q (.ref q) H') : rSt K (.ref p) none none 2 H Q := ⟨xs, hx, by decide, fun q hq => by
  rw [pick_ev]; exact h q _ hq (Fr.new hq) upd_same⟩
theorem st_odL {p : Addr} {xs : List V} (hx : SqL K H p xs) (h : ∀ q H', H q = none → Ex H H' → H' q = some (.lst (odL xs)) → Q (.ref q) H') : rSt K (.ref p) (some 1) none 2 H Q := ⟨xs, hx, by decide, fun q hq => by
  rw [pick_od]; exact h q _ hq (Fr.new hq) upd_same⟩
end
end Zb
namespace Zb
open PySem PySem.Spec PyProof.Rows L2 PySem.SeqAt
inductive PEq (H : Hp) : V → V → Bool → Prop
  | same (a : Addr) : PEq H (.ref a) (.ref a) true
  | dat {x y : V} {d e : PyData} : Rp H x d → Rp H y e → min d.depth e.depth ≤ 60 → PEq H x y (PyData.eqv d e)
inductive PEqs (H : Hp) : List V → List V → List Bool → Prop
  | nil : PEqs H [] [] []
  | cons {x y : V} {b : Bool} {xs ys : List V} {bs : List Bool} : PEq H x y b → PEqs H xs ys bs → PEqs H (x :: xs) (y :: ys) (b :: bs)
theorem PEqs.len {H : Hp} : ∀ {xs ys : List V} {bs : List Bool}, PEqs H xs ys bs → ys.length = xs.length ∧ bs.length = xs.length
  | _, _, _, .nil => ⟨rfl, rfl⟩
  | _, _, _, .cons _ r => ⟨congrArg (· + 1) r.len.1, congrArg (· + 1) r.len.2⟩
theorem PEqs.at {H : Hp} : ∀ {xs ys : List V} {bs : List Bool}, PEqs H xs ys bs → ∀ j (x y : V), xs[j]? = some x → ys[j]? = some y → PEq H x y (bs.getD j true)
  | _, _, _, .nil, j, x, y, h, _ => by simp at h
  | _, _, _, .cons a r, 0, x, y, h, k => by
    have e1 : _ = x := Option.some.inj h
    have e2 : _ = y := Option.some.inj k
    rw [← e1, ← e2]
    exact a
  | _, _, _, .cons a r, j + 1, x, y, h, k => by
    have h : _ = some x := h
    have := r.at j x y (by simpa using h) (by simpa using k)
    simpa using this
section
variable {X : Cx} {H : Hp} {Q : VK} {σ : L2.St}
def rIsN : R2 := fun x y H Q => y = .non ∧ Q (.bl (decide (x = .non))) H
def rNotN : R2 := fun x y H Q => y = .non ∧ Q (.bl (!decide (x = .non))) H
theorem st_isN {x : V} (h : Q (.bl (decide (x = .non))) H) : Zb.rIsN x .non H Q := ⟨rfl, h⟩
theorem st_notN {x : V} (h : Q (.bl (!decide (x = .non))) H) : Zb.rNotN x .non H Q := ⟨rfl, h⟩
def rInt1 : List V → Hp → VK → Prop := fun vs H Q => match vs with
  | [.int i] => Q (.int i) H
  | [.bl k] => Q (.int (if k then 1 else 0)) H
  | _ => False
theorem c_int : CallR X (.type "int") rInt1 := by
  intro pins s σ H xs us Q I r h
  unfold rInt1 at h
  split at h
  · exact call_int1 pins s σ H _ us Q I r (.inl ⟨_, rfl, h⟩)
  · exact call_int1 pins s σ H _ us Q I r (.inr ⟨_, rfl, h⟩)
  · exact h.elim
theorem st_intI {i : Int} (h : Q (.int i) H) : rInt1 [.int i] H Q := h
theorem st_intB {k : Bool} (h : Q (.int (if k then 1 else 0)) H) : rInt1 [.bl k] H Q := h
theorem st_iR3 {ta : TA} {R : It → Hp → Prop} (h : ta σ H (fun vs H1 => ∃ (i j c : Int) (n : Nat), vs = [.int i, .int j, .int c] ∧ RgC i j c n ∧ R (Itc i c n) H1)) : iRng3 ta σ H R := h
end
end Zb
namespace Zb
open PySem PySem.Spec PyProof.Rows L2
/-- at these addresses these objects -/
inductive ObjsAt (H : Hp) : List Addr → List HO → Prop
  | nil : ObjsAt H [] []
  | cons {a : Addr} {o : HO} {ts : List Addr} {os : List HO} : H a = some o → ObjsAt H ts os → ObjsAt H (a :: ts) (o :: os)
section
variable {H H' : Hp}
theorem ObjsAt.len : ∀ {ts : List Addr} {os : List HO}, ObjsAt H ts os → ts.length = os.length
  | _, _, .nil => rfl
  | _, _, .cons _ r => congrArg (· + 1) r.len
theorem ObjsAt.ex (e : Ex H H') : ∀ {ts : List Addr} {os : List HO}, ObjsAt H ts os → ObjsAt H' ts os
  | _, _, .nil => .nil
  | _, _, .cons h r => .cons (e.get h) (r.ex e)
theorem ObjsAt.fr {M : Addr → Prop} (e : Fr M H H') : ∀ {ts : List Addr} {os : List HO}, (∀ a ∈ ts, ¬ M a) → ObjsAt H ts os → ObjsAt H' ts os
  | _, _, _, .nil => .nil
  | _, _, hm, .cons h r => .cons (e _ _ (hm _ List.mem_cons_self) h) (r.fr e fun a ha => hm a (List.mem_cons_of_mem _ ha))
theorem ObjsAt.up {D : Addr} {u : HO} : ∀ {ts : List Addr} {os : List HO}, D ∉ ts → ObjsAt H ts os → ObjsAt (upd H D u) ts os
  | _, _, _, .nil => .nil
  | _, _, hn, .cons h r => .cons (by rw [upd_ne (fun z => hn (by rw [← z]; exact List.mem_cons_self))]; exact h) (r.up fun z => hn (List.mem_cons_of_mem _ z))
theorem ObjsAt.app : ∀ {ts us : List Addr} {os ps : List HO}, ObjsAt H ts os → ObjsAt H us ps → ObjsAt H (ts ++ us) (os ++ ps)
  | _, _, _, _, .nil, k => k
  | _, _, _, _, .cons h r, k => .cons h (r.app k)
theorem ObjsAt.one {a : Addr} {o : HO} (h : H a = some o) : ObjsAt H [a] [o] := .cons h .nil
theorem ObjsAt.at : ∀ {ts : List Addr} {os : List HO}, ObjsAt H ts os → ∀ (k : Nat) a o, ts[k]? = some a → os[k]? = some o → H a = some o
  | _, _, .nil, k, a, o, h, _ => by simp at h
  | _, _, .cons h r, 0, a, o, h1, h2 => by
    have e1 : _ = a := Option.some.inj h1
    have e2 : _ = o := Option.some.inj h2
    rw [← e1, ← e2]; exact h
  | _, _, .cons h r, k + 1, a, o, h1, h2 => r.at k a o (by simpa using h1) (by simpa using h2)
theorem ObjsAt.of : ∀ {ts : List Addr} {os : List HO}, ts.length = os.length → (∀ (k : Nat) a o, ts[k]? = some a → os[k]? = some o → H a = some o) → ObjsAt H ts os
  | [], [], _, _ => .nil
  | [], _ :: _, h, _ => by simp at h
  | _ :: _, [], h, _ => by simp at h
  | a :: ts, o :: os, h, k => .cons (k 0 a o rfl rfl) (ObjsAt.of (by simpa using h) fun j x y h1 h2 => k (j + 1) x y (by simpa using h1) (by simpa using h2))
/-- one of them changes -/
theorem ObjsAt.set {a : Addr} {u : HO} {ts : List Addr} {os : List HO} {k : Nat} (h : ObjsAt H ts os) (nd : ts.Nodup) (hk : ts[k]? = some a) : ObjsAt (upd H a u) ts (os.set k u) := by
  refine .of (by rw [List.length_set, h.len]) fun j b o h1 h2 => ?_
  by_cases e : j = k
  · subst e
    rw [hk] at h1
    cases h1
    have hl : j < os.length := by
      rw [← h.len]
      exact (List.getElem?_eq_some_iff.mp hk).1
    rw [List.getElem?_set_self hl] at h2
    cases h2
    exact upd_same
  · rw [List.getElem?_set_ne (Ne.symm e)] at h2
    rw [upd_ne (fun z : b = a => e (nd_ix nd h1 (by rw [z]; exact hk)))]
    exact h.at j b o h1 h2
end
section
variable {J : It} {S : Hp → Prop} {g : TG} {σ : L2.St} {H1 : Hp}
theorem lc_objs {α : Type} {ys : List α} {val : α → V} {tt : TT} {te : TE} {vs : List Nat} {Q : VK} (hR : RunsV J ys val S) (hS : ∀ H', Ex H1 H' → S H') (hz : ys.length < 1000000) (p : α → Bool) (o : α → HO)
    (hs : ∀ y H', y ∈ ys → Ex H1 H' → ∀ (B : V → Hp → Prop) (A : Hp → Prop), (p y = true → ∀ a H'', H' a = none → Ex H' H'' → H'' a = some (o y) → B (.ref a) H'') → (p y = false → ∀ H'', Ex H' H'' → A H'') → g (val y) (wipe σ vs) H' fun σ2 H2 => wipe σ2 vs = wipe σ vs ∧ tt σ2 H2 fun b H3 => if b = true then te σ2 H3 B else A H3)
    (hd : ∀ D H' ts, H1 D = none → Ex H1 H' → H' D = some (.lst (ts.map V.ref)) → ObjsAt H' ts ((ys.filter p).map o) → ts.Nodup → D ∉ ts → (∀ a ∈ ts, H1 a = none) → Q (.ref D) H') : LcGoal J g tt te vs σ Q H1 := by
  intro D hD
  obtain ⟨W, hW⟩ : ∃ W : Nat → Hp → Prop, W = fun i H => ∃ ts : List Addr, H D = some (.lst (ts.map V.ref)) ∧ Ex H1 H ∧ ObjsAt H ts (((ys.take i).filter p).map o) ∧ ts.Nodup ∧ D ∉ ts ∧ ∀ a ∈ ts, H1 a = none := ⟨_, rfl⟩
  have hWi : ∀ i H, W i H ↔ ∃ ts : List Addr, H D = some (.lst (ts.map V.ref)) ∧ Ex H1 H ∧ ObjsAt H ts (((ys.take i).filter p).map o) ∧ ts.Nodup ∧ D ∉ ts ∧ ∀ a ∈ ts, H1 a = none := fun i H => by rw [hW]
  refine ⟨fun i m H => m = ys.length - i ∧ i ≤ ys.length ∧ W i H, ⟨ys.length, by simp, Nat.zero_le _, (hWi _ _).mpr ⟨[], upd_same, Fr.new hD, by rw [List.take_zero]; exact .nil, List.nodup_nil, by simp, by simp⟩⟩, ?_⟩
  rintro i m H ⟨rfl, hi, hw⟩
  obtain ⟨ts, h1, h2, h3, h4, h5, h6⟩ := (hWi _ _).mp hw
  by_cases hlt : i < ys.length
  · refine .inr ⟨hR.go i H hlt (hS H h2), W (i + 1), fun H' p' => ⟨ys.length - (i + 1), by omega, rfl, hlt, p'⟩, fun x H' y => ?_⟩
    obtain ⟨rfl, y0, hy, rfl⟩ := hR.yld i H x H' hlt (hS H h2) y
    have ht : ys.take (i + 1) = ys.take i ++ [y0] := by rw [List.take_add_one, hy]; rfl
    refine hs y0 H' (List.mem_of_getElem? hy) h2 (fun v H4 => ∃ acc, H4 D = some (.lst acc) ∧ acc.length < sizeLine ∧ W (i + 1) (upd H4 D (.lst (acc ++ [v])))) (W (i + 1)) ?_ ?_
    · intro hp a H4 ha e hv
      have hDa : a ≠ D := fun z => by rw [z, h1] at ha; cases ha
      have haN : a ∉ ts := fun z => by
        obtain ⟨k, hk⟩ := List.getElem?_of_mem z
        have hk2 : k < (((ys.take i).filter p).map o).length := by
          rw [← h3.len]; exact (List.getElem?_eq_some_iff.mp hk).1
        have := h3.at k a _ hk (List.getElem?_eq_getElem hk2)
        rw [this] at ha
        cases ha
      have hlen : ts.length < 1000000 := by
        rw [h3.len, List.length_map]
        have := List.length_filter_le p (ys.take i)
        rw [List.length_take] at this
        omega
      refine ⟨ts.map V.ref, e.get h1, by rw [List.length_map, sl16]; omega, (hWi _ _).mpr ⟨ts ++ [a], by rw [upd_same, List.map_append]; rfl, (h2.trans e).mut hD, ?_, ?_, ?_, ?_⟩⟩
      · rw [ht, List.filter_append, List.map_append, List.filter_cons_of_pos hp, List.filter_nil]
        refine .up ?_ ((h3.ex e).app (.one hv))
        rw [List.mem_append, List.mem_singleton]
        rintro (z | z)
        · exact h5 z
        · exact hDa z.symm
      · rw [List.nodup_append]
        exact ⟨h4, by simp, fun b hb c hc => by rw [List.mem_singleton.mp hc]; exact fun z => haN (z ▸ hb)⟩
      · rw [List.mem_append, List.mem_singleton]
        rintro (z | z)
        · exact h5 z
        · exact hDa z.symm
      · intro b hb
        rcases List.mem_append.mp hb with h | h
        · exact h6 b h
        · rw [List.mem_singleton.mp h]; exact Ex.free h2 ha
    · intro hp H4 e
      refine (hWi _ _).mpr ⟨ts, e.get h1, h2.trans e, ?_, h4, h5, h6⟩
      rw [ht, List.filter_append, List.filter_cons_of_neg (by rw [hp]; decide), List.filter_nil, List.append_nil]
      exact h3.ex e
  · have e : i = ys.length := by omega
    subst e
    rw [List.take_length] at h3
    exact .inl ⟨hR.stop H (hS H h2), hd D H ts hD h2 h1 h3 h4 h5 h6⟩
/-- no test -/
theorem lc_objs0 {α : Type} {ys : List α} {val : α → V} {te : TE} {vs : List Nat} {Q : VK} (hR : RunsV J ys val S) (hS : ∀ H', Ex H1 H' → S H') (hz : ys.length < 1000000) (o : α → HO)
    (hs : ∀ y H', y ∈ ys → Ex H1 H' → ∀ (B : V → Hp → Prop), (∀ a H'', H' a = none → Ex H' H'' → H'' a = some (o y) → B (.ref a) H'') → g (val y) (wipe σ vs) H' fun σ2 H2 => wipe σ2 vs = wipe σ vs ∧ te σ2 H2 B)
    (hd : ∀ D H' ts, H1 D = none → Ex H1 H' → H' D = some (.lst (ts.map V.ref)) → ObjsAt H' ts (ys.map o) → ts.Nodup → D ∉ ts → (∀ a ∈ ts, H1 a = none) → Q (.ref D) H')
    (hg : ∀ v σ H (P P' : L2.St → Hp → Prop), (∀ σ H, P σ H → P' σ H) → g v σ H P → g v σ H P' := by intro _ _ _ _ _ k h; exact k _ _ h) : LcGoal J g tYes te vs σ Q H1 := by
  refine lc_objs hR hS hz (fun _ => true) o (fun y H' hy e B A h1 h2 => ?_) (fun D H' ts hD e h h3 h4 h5 h6 => hd D H' ts hD e h ?_ h4 h5 h6)
  · exact hg _ _ _ _ _ (fun σ2 H2 h => ⟨h.1, h.2⟩) (hs y H' hy e B (h1 rfl))
  · rwa [List.filter_eq_self.mpr (fun _ _ => rfl)] at h3
end
section
variable {H : Hp} {Q : VK} {σ : L2.St}
theorem st_ext {l b : Addr} {xs zs : List V} (h1 : H l = some (.lst xs)) (h2 : H b = some (.lst zs)) (hz : xs.length + zs.length ≤ 16777216) (h : Q .non (upd H l (.lst (xs ++ zs)))) : rExtend (.ref l) [.ref b] H Q := ⟨l, b, xs, zs, rfl, rfl, h1, h2, by rw [sl16]; exact hz, h⟩
def DGet2P (a : Addr) (y z : V) (Q : VK) (H : Hp) : Prop := ∃ o, DGet H a y o ∧ Q (o.getD z) H
theorem st_dget2 {td ty tx : TE} (h : td σ H fun x H1 => ∃ a, x = .ref a ∧ IsD H1 a ∧ ty σ H1 fun y H2 => tx σ H2 fun z H3 => DGet2P a y z Q H3) : tDGet2 td ty tx σ H Q := h
theorem st_isD {a : Addr} {kvs : List (Key × V)} {P : Addr → Prop} (h1 : H a = some (.dK kvs)) (h : P a) : ∃ b, V.ref a = .ref b ∧ IsD H b ∧ P b := ⟨a, rfl, .inl ⟨kvs, .inl h1⟩, h⟩
theorem st_dget2P {a : Addr} {k : Key} {z : V} {kvs : List (Key × V)} (h1 : H a = some (.dK kvs)) (h : Q ((valV kvs k).getD z) H) : DGet2P a (kV k) z Q H := ⟨_, .inl ⟨kvs, k, .inl h1, rfl, rfl⟩, h⟩
def DSetP (a : Addr) (y z : V) (Q : VK) (H3 : Hp) : Prop := ∃ (kvs : List (Key × V)) (k : Key), H3 a = some (.dK kvs) ∧ y = kV k ∧ kvs.length < sizeLine ∧ (∀ v, valV kvs k = some v → Q v H3) ∧ (valV kvs k = none → Q z (upd H3 a (.dK (putK kvs k z))))
theorem st_dsetd {td ty tx : TE} (h : td σ H fun x H1 => ∃ a, x = .ref a ∧ IsD H1 a ∧ ty σ H1 fun y H2 => tx σ H2 fun z H3 => DSetP a y z Q H3) : tDSetd td ty tx σ H Q := h
theorem st_dsetP {a : Addr} {z : V} {kvs : List (Key × V)} (k : Key) (h1 : H a = some (.dK kvs)) (hl : kvs.length < 16777216) (h2 : ∀ v, valV kvs k = some v → Q v H) (h3 : valV kvs k = none → Q z (upd H a (.dK (putK kvs k z)))) : DSetP a (kV k) z Q H := ⟨kvs, k, h1, rfl, by rw [sl16]; exact hl, h2, h3⟩
/-- {} -/
def DNew (Q : VK) (H : Hp) : Prop := ∀ p H', H p = none → Ex H H' → H' p = some (.dK []) → Q (.ref p) H'
theorem st_dnew (h : DNew Q H) : tDNewK σ H Q := fun p hp => h p _ hp (Fr.new hp) upd_same
theorem st_dnewP (h : ∀ p H', H p = none → Ex H H' → H' p = some (.dK []) → Q (.ref p) H') : DNew Q H := h
end
theorem at_nat {α : Type} {xs : List α} {i : Nat} {a : α} (h : xs[i]? = some a) : atI xs (i : Int) = some a := by
  unfold atI
  rw [Evl.ixN_nat (List.getElem?_eq_some_iff.mp h).1]
  exact h
theorem at_mapN {α β : Type} {f : α → β} {xs : List α} {i : Nat} {a : α} (h : xs[i]? = some a) : atI (xs.map f) (i : Int) = some (f a) := at_nat (by rw [List.getElem?_map, h]; rfl)
theorem snoc_ind {α : Type} {P : List α → Prop} (h0 : P []) (hs : ∀ l a, P l → P (l ++ [a])) (l : List α) : P l := by
  have h : ∀ r : List α, P r.reverse := by
    intro r
    induction r with
    | nil => exact h0
    | cons a r ih => rw [List.reverse_cons]; exact hs _ _ ih
  have := h l.reverse
  rwa [List.reverse_reverse] at this
theorem nodup_map {α β : Type} {f : α → β} {l : List α} (nd : l.Nodup) (h : ∀ a b, f a = f b → a = b) : (l.map f).Nodup := List.pairwise_map.mpr (List.Pairwise.imp (fun n e => n (h _ _ e)) nd)
theorem valV_none {kvs : List (Key × V)} {k : Key} : valV kvs k = none ↔ ∀ q ∈ kvs, q.1 ≠ k := by
  unfold valV
  rw [Option.map_eq_none_iff, List.find?_eq_none]
  simp
theorem putK_new {kvs : List (Key × V)} {k : Key} {v : V} (h : valV kvs k = none) : putK kvs k v = kvs ++ [(k, v)] := by
  unfold putK
  rw [if_neg]
  rw [List.any_eq_true]
  rintro ⟨q, hq, e⟩
  exact valV_none.mp h q hq (by simpa using e)
theorem valV_at {kvs : List (Key × V)} {k : Key} {v : V} {i : Nat} (nd : (kvs.map (·.1)).Nodup) (h : kvs[i]? = some (k, v)) : valV kvs k = some v := by
  induction kvs generalizing i with
  | nil => simp at h
  | cons a r ih =>
    rw [List.map_cons, List.nodup_cons] at nd
    cases i with
    | zero =>
      have e : a = (k, v) := by simpa using h
      subst e
      unfold valV
      simp
    | succ i =>
      have h' : r[i]? = some (k, v) := by simpa using h
      have hm : k ∈ r.map (·.1) := List.mem_map.mpr ⟨(k, v), List.mem_of_getElem? h', rfl⟩
      have ne : a.1 ≠ k := fun z => nd.1 (z ▸ hm)
      have := ih nd.2 h'
      unfold valV at this ⊢
      rw [List.find?_cons_of_neg (by simpa using ne)]
      exact this
end Zb
namespace Zb
open PySem PySem.Spec PyProof.Rows L2
theorem Ex.trans {H H1 H2 : Hp} (a : Ex H H1) (b : Ex H1 H2) : Ex H H2 := Fr.trans a b
section
variable {X : Cx} {H : Hp} {Q : VK} {σ : L2.St} {K : PySem.W.Frag}
def rIsB : R2 := fun x y H Q => ∃ a b, x = .bl a ∧ y = .bl b ∧ Q (.bl (decide (a = b))) H
def rNotB : R2 := fun x y H Q => ∃ a b, x = .bl a ∧ y = .bl b ∧ Q (.bl (!decide (a = b))) H
theorem c_any (hc : X.calm = true) (hK : X.K = K := by rfl) : CallR X (.builtin "any") (rAny K) := by subst hK; exact cr_any hc
theorem st_isB2 {a b : Bool} (h : Q (.bl (decide (a = b))) H) : rIsB (.bl a) (.bl b) H Q := ⟨a, b, rfl, rfl, h⟩
theorem st_notB2 {a b : Bool} (h : Q (.bl (!decide (a = b))) H) : rNotB (.bl a) (.bl b) H Q := ⟨a, b, rfl, rfl, h⟩
theorem st_chain {r r' : R2} {ta tb tc : TE} (h : ta σ H fun x H1 => tb σ H1 fun y H2 => r x y H2 fun z H3 => ∃ k, z = .bl k ∧ (if k = true then tc σ H3 fun w' H4 => r' y w' H4 Q else Q (.bl false) H3)) : tChain r r' ta tb tc σ H Q := h
def isIntV : V → Bool
  | .int _ => true
  | .bl _ => true
  | _ => false
theorem kb_int : kitB "NoneType" "int" = some false ∧ kitB "bool" "int" = some true ∧ kitB "int" "int" = some true ∧ kitB "str" "int" = some false ∧ kitB "list" "int" = some false ∧ kitB "tuple" "int" = some false ∧ kitB "dict" "int" = some false := by decide +kernel
theorem st_isIntT {x : V} (h1 : Ty H x) (h : Q (.bl (isIntV x)) H) : rIs [x, .ty "int"] H Q := by
  obtain ⟨t, h1⟩ := h1
  obtain ⟨k1, k2, k3, k4, k5, k6, k7⟩ := kb_int
  refine st_is h1 (b := isIntV x) ?_ h
  cases x with
  | ref p =>
    have h1 : tyO (H p) = some t := h1
    unfold tyO at h1
    split at h1 <;> first | (cases h1; assumption) | cases h1
  | _ => first | (cases h1; assumption) | cases h1
/-- a value as a test -/
def tTru (K : PySem.W.Frag) (ta : TE) : TT := fun σ H B => ta σ H fun x H' => ∃ k, TruV K x H' k ∧ B k H'
theorem pt_tru {a : Expr} {ta : TE} (ha : PE X a ta) (he : ∀ whole, isTrue a X.env whole = (do let v ← whole; standAt a.pos; holding [v] (truthy v))) (hK : X.K = K := by rfl) : PT X a (tTru K ta) := by subst hK; exact pt_truth ha he
theorem st_tru {ta : TE} {B : Bool → Hp → Prop} (h : ta σ H fun x H' => ∃ k, TruV K x H' k ∧ B k H') : tTru K ta σ H B := h
theorem st_truB {b : Bool} {P : Bool → Prop} (h : P b) : ∃ k, TruV K (.bl b) H k ∧ P k := ⟨b, rfl, h⟩
theorem st_truI {i : Int} {P : Bool → Prop} (h : P (i != 0)) : ∃ k, TruV K (.int i) H k ∧ P k := ⟨_, rfl, h⟩
def WhPost (W : Nat → L2.St → Hp → Prop) (m : Nat) (tb : TS) (D : Ends) (σ : L2.St) : Bool → Hp → Prop := fun b H1 => if b = true then ∃ N : L2.St → Hp → Prop, (∀ σ' H', N σ' H' → ∃ m', m' < m ∧ W m' σ' H') ∧ tb { D with nx := N, ct := N, bk := D.nx } σ H1 else D.nx σ H1
def WhGoal (c : TT) (tb : TS) (D : Ends) (σ : L2.St) (H : Hp) : Prop := ∃ W : Nat → L2.St → Hp → Prop, (∃ m, W m σ H) ∧ ∀ m σ H, W m σ H → c σ H (WhPost W m tb D σ)
theorem st_while {c : TT} {tb : TS} {D : Ends} (h : WhGoal c tb D σ H) : tWhile c tb D σ H := h
/-- W: the word of the loop, with a number that falls -/
theorem while_inv {c : TT} {tb : TS} {D : Ends} (W : Nat → L2.St → Hp → Prop) (h0 : ∃ m, W m σ H) (hs : ∀ m σ H, W m σ H → c σ H (WhPost W m tb D σ)) : WhGoal c tb D σ H := ⟨W, h0, hs⟩
theorem wh_T {W : Nat → L2.St → Hp → Prop} {m : Nat} {tb : TS} {D : Ends} {b : Bool} (hb : b = true) (h : tb { D with nx := fun σ' H' => ∃ m', m' < m ∧ W m' σ' H', ct := fun σ' H' => ∃ m', m' < m ∧ W m' σ' H', bk := D.nx } σ H) : WhPost W m tb D σ b H := by
  unfold WhPost
  rw [if_pos hb]
  exact ⟨_, fun _ _ z => z, h⟩
theorem wh_F {W : Nat → L2.St → Hp → Prop} {m : Nat} {tb : TS} {D : Ends} {b : Bool} (hb : b = false) (h : D.nx σ H) : WhPost W m tb D σ b H := by
  unfold WhPost
  rw [hb, if_neg Bool.false_ne_true]
  exact h
end
def tupO (q : Nat × Nat) : HO := .tup [.int (q.1 : Nat), .int (q.2 : Nat)]
abbrev ZP := Addr × (Nat × Nat)
abbrev zV (z : ZP) : V := .ref z.1
/-- each of these stands as its tuple -/
def TP (H : Hp) (zs : List ZP) : Prop := ∀ z ∈ zs, H z.1 = some (tupO z.2)
section
variable {H H' : Hp} {zs ys : List ZP}
theorem TP.ex (h : TP H zs) (e : Ex H H') : TP H' zs := fun z hz => e.get (h z hz)
theorem TP.sub (h : TP H zs) (e : ∀ z ∈ ys, z ∈ zs) : TP H ys := fun z hz => h z (e z hz)
theorem tup_ne_purse {a p : Addr} {q : Nat × Nat} (h : H a = some (tupO q)) (hp : Purse H p) : a ≠ p := fun e => by
  obtain ⟨x, y, z, hp⟩ := hp
  rw [e, hp] at h
  cases h
theorem zs_ne_purse {a p : Addr} (h : H a = some (.lst (zs.map zV))) (hp : Purse H p) : a ≠ p := fun e => by
  obtain ⟨x, y, z, hp⟩ := hp
  rw [e, hp] at h
  cases zs with
  | nil => cases h
  | cons c r =>
    have h : HO.lst [V.int x, V.int y, V.int z] = HO.lst (V.ref c.1 :: r.map zV) := Option.some.inj h
    cases h
theorem TP.frp {p : Addr} (h : TP H zs) (hp : Purse H p) (e : FrP p H H') : TP H' zs := fun z hz => e.get (tup_ne_purse (h z hz) hp) (h z hz)
theorem TP.up {D : Addr} {xs : List V} {u : HO} (h : TP H zs) (hD : H D = some (.lst xs)) : TP (upd H D u) zs := fun z hz => by
  rw [upd_ne fun e => ?_]
  · exact h z hz
  · have := h z hz
    rw [e, hD] at this
    cases this
theorem TP.app (h : TP H zs) (k : TP H ys) : TP H (zs ++ ys) := fun z hz => by
  rcases List.mem_append.mp hz with q | q
  · exact h z q
  · exact k z q
theorem TP.cons {z : ZP} (h : H z.1 = some (tupO z.2)) (k : TP H ys) : TP H (z :: ys) := fun y hy => by
  rcases List.mem_cons.mp hy with q | q
  · rw [q]; exact h
  · exact k y q
theorem TP.perm (h : TP H zs) (e : ys.Perm zs) : TP H ys := h.sub fun z hz => e.mem_iff.mp hz
def encQ (q : Nat × Nat) : PyData := .tuple [.int (q.1 : Nat), .int (q.2 : Nat)]
theorem TP.rp1 {z : ZP} (h : H z.1 = some (tupO z.2)) : Rp H (zV z) (encQ z.2) := .tup (tup_of h) (.cons (.int _) (.cons (.int _) .nil))
theorem TP.rp (h : TP H zs) : RpA H (zs.map zV) (zs.map fun z => encQ z.2) := rpA_map fun z hz => TP.rp1 (h z hz)
theorem TP.rpL {a : Addr} (h : TP H zs) (ha : H a = some (.lst (zs.map zV))) : Rp H (.ref a) (.list (zs.map fun z => encQ z.2)) := .lst (lst_of ha) h.rp
theorem encQ_depth (q : Nat × Nat) : (encQ q).depth ≤ 2 := by simp [encQ, PyData.depth, PyData.depthAll]
theorem eqv_encQ (a b : Nat × Nat) : PyData.eqv (encQ a) (encQ b) = decide (a = b) := by
  obtain ⟨a1, a2⟩ := a
  obtain ⟨b1, b2⟩ := b
  simp only [encQ, PyData.eqv, PyData.eqvAll, Bool.and_true]
  rw [Bool.eq_iff_iff]
  simp [Prod.ext_iff]
  omega
end
end Zb
namespace Zb
open PySem PySem.Spec PyProof.Rows L2
/-- a def's promise, where no list is being shown -/
structure FnG (P : Program) (w : World) (K : PySem.W.Frag) (mg : Str → Option Value) (base : Heap) (CX : CXT) (k : Nat) (f : Addr) (fd : FuncData) (ps : List Str) (sp : Sp) : Prop where
  len : ∀ vs H Q E, sp vs H Q E → vs.length = ps.length
  go : ∀ (A : Around) (outer : List Env) (s : Shared) (H : Hp) (args : Args) (us : List Value) (vs : List V) (Q : VK) (E : XK), A.guards = some [] → Room k A → Env0 P w K mg base A outer s H → BindsTo s fd args (ps.zip us) → Vals vs us → sp vs H Q E →
    codeAny (model P w) A (.call (.ref f) args) (CR CX outer P w H s Q E) s
section
variable {P : Program} {w : World} {K : PySem.W.Frag} {mg : Str → Option Value} {base : Heap} {k : Nat} {f : Addr} {fd : FuncData} {ps : List Str} {sp : Sp}
theorem FnG.of {CX : CXT} (F : FnOk P w K mg base CX k f fd ps sp) : FnG P w K mg base CX k f fd ps sp := ⟨F.len, fun A outer s H args us vs Q E _ => F.run A outer s H args us vs Q E⟩
end
def keyD : Key → PyData
  | .inl i => .int i
  | .inr x => .str x
mutual
inductive Rq (H : Hp) : V → PyData → Prop
  | non : Rq H .non .none
  | bl (b : Bool) : Rq H (.bl b) (.bool b)
  | int (i : Int) : Rq H (.int i) (.int i)
  | str (x : Str) : Rq H (.str x) (.str x)
  | lst {a : Addr} {xs : List V} {ds : List PyData} : lstAt H a = some xs → RqA H xs ds → Rq H (.ref a) (.list ds)
  | tup {a : Addr} {xs : List V} {ds : List PyData} : tupAt H a = some xs → RqA H xs ds → Rq H (.ref a) (.tuple ds)
  | dk {a : Addr} {kvs : List (Key × V)} {ds : List PyData} : H a = some (.dK kvs) → RqA H (kvs.map (·.2)) ds → Rq H (.ref a) (.dict ((kvs.map fun q => keyD q.1).zip ds))
inductive RqA (H : Hp) : List V → List PyData → Prop
  | nil : RqA H [] []
  | cons {v : V} {vs : List V} {d : PyData} {ds : List PyData} : Rq H v d → RqA H vs ds → RqA H (v :: vs) (d :: ds)
end
theorem RqA.len {H : Hp} : ∀ {vs : List V} {ds : List PyData}, RqA H vs ds → vs.length = ds.length
  | _, _, .nil => rfl
  | _, _, .cons _ k => congrArg (· + 1) k.len
theorem Rq.dk0 {H : Hp} {a : Addr} (h : H a = some (.dK [])) : Rq H (.ref a) (.dict []) := .dk h .nil
mutual
theorem Rp.rq {H : Hp} : ∀ {v : V} {d : PyData}, Rp H v d → Rq H v d
  | _, _, .non => .non
  | _, _, .bl b => .bl b
  | _, _, .int i => .int i
  | _, _, .str x => .str x
  | _, _, .lst h k => .lst h (RpA.rq k)
  | _, _, .tup h k => .tup h (RpA.rq k)
theorem RpA.rq {H : Hp} : ∀ {vs : List V} {ds : List PyData}, RpA H vs ds → RqA H vs ds
  | _, _, .nil => .nil
  | _, _, .cons h k => .cons (Rp.rq h) (RpA.rq k)
theorem noDict {H : Hp} : ∀ {v : V} {d : PyData}, Rp H v d → d.hasDict = false
  | _, _, .non => rfl
  | _, _, .bl b => rfl
  | _, _, .int i => rfl
  | _, _, .str x => rfl
  | _, _, .lst h k => by simp only [PyData.hasDict]; exact noDictA k
  | _, _, .tup h k => by simp only [PyData.hasDict]; exact noDictA k
theorem noDictA {H : Hp} : ∀ {vs : List V} {ds : List PyData}, RpA H vs ds → PyData.hasDictAll ds = false
  | _, _, .nil => rfl
  | _, _, .cons h k => by simp only [PyData.hasDictAll, noDict h, noDictA k, Bool.or_self]
end
section
variable {X : Cx} {pins : List (Addr × Obj)} {σ : L2.St} {H : Hp} {s : Shared}
theorem pairs_keys {h : Heap} {P : Program} {w : World} : ∀ {es : List DictEntry} {kvs : List (Key × V)} {vs : List (Key × Value)}, Pairs (mixKind P w) es vs → KV kvs vs → ∃ as, ReadsAll h (es.map (·.key)) (kvs.map fun q => keyD q.1) as
  | _, _, _, .nil, .nil => ⟨_, .nil⟩
  | _, _, _, .cons (e := e) (kv := kv) h1 h2 h3, .cons (a := p) q r => by
    obtain ⟨as, k⟩ := pairs_keys (h := h) h3 r
    have hk : (mixKind P w).is kv.1 e.key = true := h1
    rcases keyIs_shape hk with ⟨i, t, e1, e2⟩ | ⟨x, t, e1, e2⟩
    · refine ⟨_, .cons (as := []) ?_ k⟩
      show Reads h e.key (keyD p.1) []
      rw [q.1, e1, e2]
      exact .int i t
    · refine ⟨_, .cons (as := []) ?_ k⟩
      show Reads h e.key (keyD p.1) []
      rw [q.1, e1, e2]
      exact .str x t
theorem pairs_vals {P : Program} {w : World} : ∀ {es : List DictEntry} {kvs : List (Key × V)} {vs : List (Key × Value)}, Pairs (mixKind P w) es vs → KV kvs vs → Vals (kvs.map (·.2)) (es.map (·.val))
  | _, _, _, .nil, .nil => .nil
  | _, _, _, .cons (e := e) (kv := kv) h1 h2 h3, .cons (a := p) q r => .cons (by show RelV p.2 e.val; rw [h2]; exact q.2) (pairs_vals h3 r)
theorem zip_fst {α β : Type} : ∀ {xs : List α} {ys : List β}, xs.length = ys.length → (xs.zip ys).map (·.1) = xs := fun h => List.map_fst_zip (Nat.le_of_eq h)
theorem zip_snd {α β : Type} : ∀ {xs : List α} {ys : List β}, xs.length = ys.length → (xs.zip ys).map (·.2) = ys := fun h => List.map_snd_zip (Nat.le_of_eq h.symm)
/-- a tracked dict, as an object -/
theorem dk_obj (I : Inv X pins σ H s) {a : Addr} {kvs : List (Key × V)} (h : H a = some (.dK kvs)) : (a == sysModules) = false ∧ ∃ (o : Obj) (es : Array DictEntry) (n : Nat), s.heap.get? a = some o ∧ o.cls = .type "dict" ∧ o.data = .dict es n ∧ (∃ as, ReadsAll s.heap (es.toList.map (·.key)) (kvs.map fun q => keyD q.1) as) ∧ Vals (kvs.map (·.2)) (es.toList.map (·.val)) := by
  obtain ⟨_, hs, vs, rv, o, es, ep, e1, e2, e3, _, e5, _⟩ := dk_of I.hok h
  exact ⟨hs, o, es, ep, e1, e2.1, e3, pairs_keys e5 rv, pairs_vals e5 rv⟩
mutual
theorem Rq.reads (I : Inv X pins σ H s) : ∀ {v : V} {d : PyData} {u : Value}, Rq H v d → RelV v u → ∃ as, Reads s.heap u d as
  | _, _, u, .non, r => by cases r; exact ⟨_, .none⟩
  | _, _, u, .bl b, r => by cases r; exact ⟨_, .bool b⟩
  | _, _, u, .int i, r => by obtain ⟨t, rfl⟩ := r; exact ⟨_, .int i t⟩
  | _, _, u, .str x, r => by obtain ⟨t, rfl⟩ := r; exact ⟨_, .str x t⟩
  | _, _, u, @Rq.lst _ a xs ds h k, r => by
    obtain rfl : u = Value.ref a := r
    obtain ⟨its, rv, p, _⟩ := I.list (lstAt_sq h)
    obtain ⟨as, q1⟩ := RqA.reads I k rv
    obtain ⟨o, n, e1, e2, e3, e4⟩ := p
    exact ⟨_, .list e1 e2 e4 q1⟩
  | _, _, u, @Rq.tup _ a xs ds h k, r => by
    obtain rfl : u = Value.ref a := r
    obtain ⟨its, rv, p, _⟩ := I.tuple (tupAt_sq h)
    obtain ⟨as, q1⟩ := RqA.reads I k rv
    obtain ⟨o, e1, e2, n, e3⟩ := p
    exact ⟨_, .tuple e1 e2 e3 q1⟩
  | _, _, u, @Rq.dk _ a kvs ds h k, r => by
    obtain rfl : u = Value.ref a := r
    obtain ⟨_, o, es, n, e1, e2, e3, ⟨as, kr⟩, rv⟩ := dk_obj I h
    obtain ⟨bs, vr⟩ := RqA.reads I k rv
    have hl : (kvs.map fun q => keyD q.1).length = ds.length := by rw [List.length_map, ← k.len, List.length_map]
    exact ⟨_, .dict e1 e2 e3 (by rw [zip_fst hl]; exact kr) (by rw [zip_snd hl]; exact vr)⟩
theorem RqA.reads (I : Inv X pins σ H s) : ∀ {vs : List V} {ds : List PyData} {us : List Value}, RqA H vs ds → Vals vs us → ∃ as, ReadsAll s.heap us ds as
  | _, _, us, .nil, r => by cases r; exact ⟨_, .nil⟩
  | _, _, us, .cons h k, r => by
    cases r with
    | cons r1 r2 =>
      obtain ⟨as, a1⟩ := Rq.reads I h r1
      obtain ⟨bs, b1⟩ := RqA.reads I k r2
      exact ⟨_, .cons a1 b1⟩
end
end
end Zb
namespace Zb
open PySem PySem.Spec PyProof.Rows L2
def tyD : PyData → String
  | .none => "NoneType"
  | .bool _ => "bool"
  | .int _ => "int"
  | .str _ => "str"
  | .list _ => "list"
  | .tuple _ => "tuple"
  | .dict _ => "dict"
theorem Rq.tyn {H : Hp} {x : V} {d : PyData} (h : Rq H x d) : tyN H x = some (tyD d) := by
  cases h with
  | non => rfl
  | bl b => rfl
  | int i => rfl
  | str y => rfl
  | @lst a xs ds h _ =>
    show tyO (H a) = _
    unfold lstAt at h
    unfold tyO
    split at h <;> first | (rename_i e; rw [e]; rfl) | cases h
  | @tup a xs ds h _ =>
    show tyO (H a) = _
    unfold tupAt at h
    unfold tyO
    split at h <;> first | (rename_i e; rw [e]; rfl) | cases h
  | @dk a kvs ds h _ =>
    show tyO (H a) = _
    rw [h]
    rfl
theorem Rq.ty {H : Hp} {x : V} {d : PyData} (h : Rq H x d) : Ty H x := ⟨_, h.tyn⟩
theorem Rp.ty {H : Hp} {x : V} {d : PyData} (h : Rp H x d) : Ty H x := h.rq.ty
section
variable {H : Hp} {Q : VK} {K : PySem.W.Frag}
def isListD : PyData → Bool
  | .list _ => true
  | _ => false
def isTupD : PyData → Bool
  | .tuple _ => true
  | _ => false
theorem kb_list : kitB "NoneType" "list" = some false ∧ kitB "bool" "list" = some false ∧ kitB "int" "list" = some false ∧ kitB "str" "list" = some false ∧ kitB "list" "list" = some true ∧ kitB "tuple" "list" = some false ∧ kitB "dict" "list" = some false := by decide +kernel
theorem kb_tup : kitB "NoneType" "tuple" = some false ∧ kitB "bool" "tuple" = some false ∧ kitB "int" "tuple" = some false ∧ kitB "str" "tuple" = some false ∧ kitB "list" "tuple" = some false ∧ kitB "tuple" "tuple" = some true ∧ kitB "dict" "tuple" = some false := by decide +kernel
/-- the items of data -/
theorem Rp.listAt {x : V} {ds : List PyData} (h : Rp H x (.list ds)) : ∃ a xs, x = .ref a ∧ lstAt H a = some xs ∧ RpA H xs ds := by
  cases h with
  | lst h k => exact ⟨_, _, rfl, h, k⟩
theorem RpA.len : ∀ {xs : List V} {ds : List PyData}, RpA H xs ds → xs.length = ds.length
  | _, _, .nil => rfl
  | _, _, .cons _ k => congrArg (· + 1) k.len
theorem RpA.at : ∀ {xs : List V} {ds : List PyData}, RpA H xs ds → ∀ (i : Nat) x, xs[i]? = some x → ∃ d, ds[i]? = some d ∧ Rp H x d
  | _, _, .nil, i, x, h => by simp at h
  | _, _, .cons a k, 0, x, h => by
    have e : _ = x := Option.some.inj h
    exact ⟨_, rfl, e ▸ a⟩
  | _, _, .cons a k, i + 1, x, h => k.at i x (by simpa using h)
end
end Zb
namespace Zb
open PySem PySem.Spec PyProof.Rows L2
mutual
/-- v is d, by things that are not frozen; empty dicts may be among them -/
inductive Rn (H : Hp) : V → PyData → Prop
  | non : Rn H .non .none
  | bl (b : Bool) : Rn H (.bl b) (.bool b)
  | int (i : Int) : Rn H (.int i) (.int i)
  | str (x : Str) : Rn H (.str x) (.str x)
  | lst {a : Addr} {xs : List V} {ds : List PyData} : H a = some (.lst xs) → RnA H xs ds → Rn H (.ref a) (.list ds)
  | tup {a : Addr} {xs : List V} {ds : List PyData} : H a = some (.tup xs) → RnA H xs ds → Rn H (.ref a) (.tuple ds)
  | dk {a : Addr} : H a = some (.dK []) → Rn H (.ref a) (.dict [])
inductive RnA (H : Hp) : List V → List PyData → Prop
  | nil : RnA H [] []
  | cons {v : V} {vs : List V} {d : PyData} {ds : List PyData} : Rn H v d → RnA H vs ds → RnA H (v :: vs) (d :: ds)
end
section
variable {H H' : Hp}
mutual
theorem Rn.rq : ∀ {v : V} {d : PyData}, Rn H v d → Rq H v d
  | _, _, .non => .non
  | _, _, .bl b => .bl b
  | _, _, .int i => .int i
  | _, _, .str x => .str x
  | _, _, .lst h k => .lst (lst_of h) (RnA.rq k)
  | _, _, .tup h k => .tup (tup_of h) (RnA.rq k)
  | _, _, .dk h => .dk0 h
theorem RnA.rq : ∀ {vs : List V} {ds : List PyData}, RnA H vs ds → RqA H vs ds
  | _, _, .nil => .nil
  | _, _, .cons h k => .cons (Rn.rq h) (RnA.rq k)
end
mutual
theorem Rn.rp : ∀ {v : V} {d : PyData}, Rn H v d → d.hasDict = false → Rp H v d
  | _, _, .non, _ => .non
  | _, _, .bl b, _ => .bl b
  | _, _, .int i, _ => .int i
  | _, _, .str x, _ => .str x
  | _, _, .lst h k, n => .lst (lst_of h) (RnA.rp k (by simpa only [PyData.hasDict] using n))
  | _, _, .tup h k, n => .tup (tup_of h) (RnA.rp k (by simpa only [PyData.hasDict] using n))
  | _, _, .dk h, n => by simp [PyData.hasDict] at n
theorem RnA.rp : ∀ {vs : List V} {ds : List PyData}, RnA H vs ds → PyData.hasDictAll ds = false → RpA H vs ds
  | _, _, .nil, _ => .nil
  | _, _, .cons h k, n => by
    simp only [PyData.hasDictAll, Bool.or_eq_false_iff] at n
    exact .cons (Rn.rp h n.1) (RnA.rp k n.2)
end
mutual
theorem Rn.ex (e : Ex H H') : ∀ {v : V} {d : PyData}, Rn H v d → Rn H' v d
  | _, _, .non => .non
  | _, _, .bl b => .bl b
  | _, _, .int i => .int i
  | _, _, .str x => .str x
  | _, _, .lst h k => .lst (e.get h) (RnA.ex e k)
  | _, _, .tup h k => .tup (e.get h) (RnA.ex e k)
  | _, _, .dk h => .dk (e.get h)
theorem RnA.ex (e : Ex H H') : ∀ {vs : List V} {ds : List PyData}, RnA H vs ds → RnA H' vs ds
  | _, _, .nil => .nil
  | _, _, .cons h k => .cons (Rn.ex e h) (RnA.ex e k)
end
theorem Rn.listAt {x : V} {ds : List PyData} (h : Rn H x (.list ds)) : ∃ a xs, x = .ref a ∧ H a = some (.lst xs) ∧ RnA H xs ds := by
  cases h with
  | lst h k => exact ⟨_, _, rfl, h, k⟩
theorem Rn.tupAt {x : V} {ds : List PyData} (h : Rn H x (.tuple ds)) : ∃ a xs, x = .ref a ∧ H a = some (.tup xs) ∧ RnA H xs ds := by
  cases h with
  | tup h k => exact ⟨_, _, rfl, h, k⟩
theorem RnA.len : ∀ {xs : List V} {ds : List PyData}, RnA H xs ds → xs.length = ds.length
  | _, _, .nil => rfl
  | _, _, .cons _ k => congrArg (· + 1) k.len
theorem RnA.zipped : ∀ {xs : List V} {ds : List PyData}, RnA H xs ds → ∃ zs : List (V × PyData), xs = zs.map (·.1) ∧ ds = zs.map (·.2) ∧ ∀ z ∈ zs, Rn H z.1 z.2
  | _, _, .nil => ⟨[], rfl, rfl, fun _ h => nomatch h⟩
  | _, _, .cons (v := v) (d := d) a k => by
    obtain ⟨zs, rfl, rfl, h⟩ := RnA.zipped k
    refine ⟨(v, d) :: zs, rfl, rfl, fun z hz => ?_⟩
    rcases List.mem_cons.mp hz with e | e
    · rw [e]; exact a
    · exact h z e
theorem rnA_map {α : Type} {val : α → V} {enc : α → PyData} : ∀ {xs : List α}, (∀ x ∈ xs, Rn H (val x) (enc x)) → RnA H (xs.map val) (xs.map enc)
  | [], _ => .nil
  | x :: xs, h => .cons (h x List.mem_cons_self) (rnA_map fun y hy => h y (List.mem_cons_of_mem _ hy))
theorem TP.rn1 {z : ZP} (h : H z.1 = some (tupO z.2)) : Rn H (zV z) (encQ z.2) := .tup h (.cons (.int _) (.cons (.int _) .nil))
theorem TP.rn {zs : List ZP} (h : TP H zs) : RnA H (zs.map zV) (zs.map fun z => encQ z.2) := rnA_map fun z hz => TP.rn1 (h z hz)
theorem TP.rnL {zs : List ZP} {a : Addr} (h : TP H zs) (ha : H a = some (.lst (zs.map zV))) : Rn H (.ref a) (.list (zs.map fun z => encQ z.2)) := .lst ha h.rn
end
mutual
/-- how many things data holds -/
def szD : PyData → Nat
  | .list ds => 1 + szA ds
  | .tuple ds => 1 + szA ds
  | .dict _ => 1
  | _ => 1
def szA : List PyData → Nat
  | [] => 0
  | d :: ds => szD d + szA ds
end
end Zb
namespace Zb
open PySem PySem.Spec PyProof.Rows L2
mutual
/-- numbers of few figures, texts that are shown by few signs, no dict but the empty one -/
def okD : PyData → Bool
  | .none => true
  | .bool _ => true
  | .int i => decide (i.natAbs < 1000000)
  | .str x => decide ((reprText x).length ≤ 14)
  | .list ds => okA ds
  | .tuple ds => okA ds
  | .dict kvs => kvs.isEmpty
def okA : List PyData → Bool
  | [] => true
  | d :: ds => okD d && okA ds
end
/-- data that may be handed round: d is v, small, with no dict but itself -/
structure Sd (H : Hp) (v : V) (d : PyData) : Prop where
  rn : Rn H v d
  hd : d.hasDict = true → d = .dict []
  ok : okD d = true
  sz : szD d ≤ 999999
  dp : d.depth ≤ 59
theorem Sd.ex {H H' : Hp} {v : V} {d : PyData} (h : Sd H v d) (e : Ex H H') : Sd H' v d := ⟨h.rn.ex e, h.hd, h.ok, h.sz, h.dp⟩
/-- v is small data of n things, k deep -/
def Sm (H : Hp) (v : V) (n k : Nat) : Prop := ∃ d, Rn H v d ∧ d.hasDict = false ∧ okD d = true ∧ szD d ≤ n ∧ d.depth ≤ k
section
variable {H H' : Hp} {v : V} {n k m : Nat}
theorem Sm.up {n' k' : Nat} (h : Sm H v n k) (h1 : n ≤ n') (h2 : k ≤ k') : Sm H v n' k' := by
  obtain ⟨d, a, b, c, e, f⟩ := h
  exact ⟨d, a, b, c, by omega, by omega⟩
theorem Sm.ex (h : Sm H v n k) (e : Ex H H') : Sm H' v n k := by
  obtain ⟨d, a, b⟩ := h
  exact ⟨d, a.ex e, b⟩
theorem Sm.sd (h : Sm H v n k) (h1 : n ≤ 999999) (h2 : k ≤ 59) : ∃ d, Sd H v d := by
  obtain ⟨d, a, b, c, e, f⟩ := h
  exact ⟨d, a, (fun z => by rw [b] at z; cases z), c, by omega, by omega⟩
theorem Sm.non : Sm H .non 1 0 := ⟨_, .non, rfl, rfl, by simp [szD], by simp [PyData.depth]⟩
theorem Sm.bl (b : Bool) : Sm H (.bl b) 1 0 := ⟨_, .bl b, rfl, rfl, by simp [szD], by simp [PyData.depth]⟩
theorem Sm.int {i : Int} (h : i.natAbs < 1000000) : Sm H (.int i) 1 0 := ⟨_, .int i, rfl, by simpa only [okD, decide_eq_true_eq] using h, by simp [szD], by simp [PyData.depth]⟩
theorem Sm.str {x : Str} (h : (reprText x).length ≤ 14) : Sm H (.str x) 1 0 := ⟨_, .str x, rfl, by simpa only [okD, decide_eq_true_eq] using h, by simp [szD], by simp [PyData.depth]⟩
theorem Sm.all : ∀ {xs : List V}, (∀ x ∈ xs, Sm H x n k) → ∃ ds, RnA H xs ds ∧ PyData.hasDictAll ds = false ∧ okA ds = true ∧ szA ds ≤ xs.length * n ∧ PyData.depthAll ds ≤ k
  | [], _ => ⟨[], .nil, rfl, rfl, by simp [szA], by simp [PyData.depthAll]⟩
  | x :: xs, h => by
    obtain ⟨ds, a, b, c, e, f⟩ := Sm.all (xs := xs) fun y hy => h y (List.mem_cons_of_mem _ hy)
    obtain ⟨d, a1, b1, c1, e1, f1⟩ := h x List.mem_cons_self
    refine ⟨d :: ds, .cons a1 a, by simp [PyData.hasDictAll, b, b1], by simp [okA, c, c1], ?_, ?_⟩
    · simp only [szA, List.length_cons, Nat.succ_mul]; omega
    · simp only [PyData.depthAll]; omega
theorem Sm.lst {a : Addr} {xs : List V} (h : H a = some (.lst xs)) (hx : ∀ x ∈ xs, Sm H x n k) (hm : xs.length ≤ m) : Sm H (.ref a) (1 + m * n) (k + 1) := by
  obtain ⟨ds, h1, h2, h3, h4, h5⟩ := Sm.all hx
  refine ⟨.list ds, .lst h h1, by simpa only [PyData.hasDict] using h2, by simpa only [okD] using h3, ?_, by simp only [PyData.depth]; omega⟩
  have := Nat.mul_le_mul_right n hm
  simp only [szD]; omega
theorem Sm.tup {a : Addr} {xs : List V} (h : H a = some (.tup xs)) (hx : ∀ x ∈ xs, Sm H x n k) (hm : xs.length ≤ m) : Sm H (.ref a) (1 + m * n) (k + 1) := by
  obtain ⟨ds, h1, h2, h3, h4, h5⟩ := Sm.all hx
  refine ⟨.tuple ds, .tup h h1, by simpa only [PyData.hasDict] using h2, by simpa only [okD] using h3, ?_, by simp only [PyData.depth]; omega⟩
  have := Nat.mul_le_mul_right n hm
  simp only [szD]; omega
theorem Sd.dk {a : Addr} (h : H a = some (.dK [])) : Sd H (.ref a) (.dict []) := ⟨.dk h, fun _ => rfl, rfl, by simp [szD], by simp [PyData.depth, PyData.depthKv]⟩
theorem Sm.mem {xs : List V} (h : ∀ x ∈ xs, Sm H x n k) (hv : v ∈ xs) : Sm H v n k := h v hv
theorem Sm.cons {xs : List V} (h : Sm H v n k) (t : ∀ x ∈ xs, Sm H x n k) : ∀ x ∈ v :: xs, Sm H x n k := fun x hx => by
  rcases List.mem_cons.mp hx with e | e
  · rw [e]; exact h
  · exact t x e
theorem Sm.nil : ∀ x ∈ ([] : List V), Sm H x n k := fun _ h => nomatch h
theorem Sm.app {xs ys : List V} (h : ∀ x ∈ xs, Sm H x n k) (t : ∀ x ∈ ys, Sm H x n k) : ∀ x ∈ xs ++ ys, Sm H x n k := fun x hx => by
  rcases List.mem_append.mp hx with e | e
  · exact h x e
  · exact t x e
theorem Sm.upA {xs : List V} {n' k' : Nat} (h : ∀ x ∈ xs, Sm H x n k) (h1 : n ≤ n') (h2 : k ≤ k') : ∀ x ∈ xs, Sm H x n' k' := fun x hx => (h x hx).up h1 h2
variable {K : PySem.W.Frag} {Q : VK}
end
def cutL {α : Type} (xs : List α) (lo hi : Option Int) : List α := (xs.drop (HT.sIx xs.length 0 lo)).take (HT.sIx xs.length xs.length hi - HT.sIx xs.length 0 lo)
theorem cutV_map {α : Type} (f : α → V) (xs : List α) (lo hi : Option Int) : cutV (xs.map f) lo hi = (cutL xs lo hi).map f := by
  unfold cutV cutL
  rw [List.map_take, List.map_drop, List.length_map]
theorem cutL_sub {α : Type} (xs : List α) (lo hi : Option Int) : (cutL xs lo hi).Sublist xs := (List.take_sublist _ _).trans (List.drop_sublist _ _)
theorem cutL_len {α : Type} (xs : List α) (lo hi : Option Int) : (cutL xs lo hi).length ≤ xs.length := (cutL_sub xs lo hi).length_le
theorem cutV_mem {xs : List V} {lo hi : Option Int} {x : V} (h : x ∈ cutV xs lo hi) : x ∈ xs := by
  have h2 := cutV_map id xs lo hi
  rw [List.map_id, List.map_id] at h2
  rw [h2] at h
  exact (cutL_sub xs lo hi).subset h
abbrev HZ := Addr × List ZP
abbrev hV (g : HZ) : V := .ref g.1
/-- a few small pairs, each as its tuple -/
structure SP (H : Hp) (zs : List ZP) : Prop where
  tp : TP H zs
  few : zs.length ≤ 2305
  small : ∀ z ∈ zs, z.2.1 ≤ 1000 ∧ z.2.2 ≤ 1000
def HP (H : Hp) (gs : List HZ) : Prop := ∀ g ∈ gs, H g.1 = some (.lst (g.2.map zV)) ∧ SP H g.2
section
variable {H H' : Hp} {gs : List HZ} {zs ys : List ZP}
theorem SP.ex (h : SP H zs) (e : Ex H H') : SP H' zs := ⟨h.tp.ex e, h.few, h.small⟩
theorem SP.frp {p : Addr} (h : SP H zs) (hp : Purse H p) (e : FrP p H H') : SP H' zs := ⟨h.tp.frp hp e, h.few, h.small⟩
theorem SP.sub (h : SP H zs) (e : ys.Sublist zs) : SP H ys := ⟨h.tp.sub fun z hz => e.subset hz, Nat.le_trans e.length_le h.few, fun z hz => h.small z (e.subset hz)⟩
theorem SP.perm (h : SP H zs) (e : ys.Perm zs) : SP H ys := ⟨h.tp.perm e, by rw [e.length_eq]; exact h.few, fun z hz => h.small z (e.mem_iff.mp hz)⟩
theorem SP.up {D : Addr} {xs : List V} {u : HO} (h : SP H zs) (hD : H D = some (.lst xs)) : SP (upd H D u) zs := ⟨h.tp.up hD, h.few, h.small⟩
theorem HP.ex (h : HP H gs) (e : Ex H H') : HP H' gs := fun g hg => ⟨e.get (h g hg).1, (h g hg).2.ex e⟩
theorem HP.frp {p : Addr} (h : HP H gs) (hp : Purse H p) (e : FrP p H H') : HP H' gs := fun g hg => ⟨e.get (zs_ne_purse (h g hg).1 hp) (h g hg).1, (h g hg).2.frp hp e⟩
theorem HP.sub {fs : List HZ} (h : HP H gs) (e : ∀ g ∈ fs, g ∈ gs) : HP H fs := fun g hg => h g (e g hg)
/-- one of the lists changes -/
theorem HP.set {g : HZ} {i : Nat} (h : HP H gs) (nd : (gs.map (·.1)).Nodup) (hg : gs[i]? = some g) (hz : SP H zs) : HP (upd H g.1 (.lst (zs.map zV))) (gs.set i (g.1, zs)) := by
  have hgm := List.mem_of_getElem? hg
  have h1 := (h g hgm).1
  intro f hf
  obtain ⟨j, hj⟩ := List.getElem?_of_mem hf
  have hi : i < gs.length := (List.getElem?_eq_some_iff.mp hg).1
  by_cases e : j = i
  · subst e
    rw [List.getElem?_set_self hi] at hj
    cases hj
    exact ⟨upd_same, hz.up h1⟩
  · rw [List.getElem?_set_ne (Ne.symm e)] at hj
    have hfm := List.mem_of_getElem? hj
    have ne : f.1 ≠ g.1 := fun z => e (nd_ix (x := f.1) nd (by rw [List.getElem?_map, hj]; rfl) (by rw [List.getElem?_map, hg]; exact congrArg some z.symm))
    exact ⟨by rw [upd_ne ne]; exact (h f hfm).1, (h f hfm).2.up h1⟩
def encH (g : HZ) : PyData := .list (g.2.map fun z => encQ z.2)
theorem HP.rn {a : Addr} (h : HP H gs) (ha : H a = some (.lst (gs.map hV))) : Rn H (.ref a) (.list (gs.map encH)) := .lst ha (rnA_map fun g hg => (h g hg).2.tp.rnL (h g hg).1)
theorem HP.rp {a : Addr} (h : HP H gs) (ha : H a = some (.lst (gs.map hV))) : Rp H (.ref a) (.list (gs.map encH)) := .lst (lst_of ha) (rpA_map fun g hg => (h g hg).2.tp.rpL (h g hg).1)
theorem encH_depth (g : HZ) : (encH g).depth ≤ 3 := by
  have : PyData.depthAll (g.2.map fun z => encQ z.2) ≤ 2 := depth_map fun z _ => encQ_depth z.2
  simp only [encH, PyData.depth]
  omega
theorem gs_depth (gs : List HZ) : (PyData.list (gs.map encH)).depth ≤ 4 := by
  have : PyData.depthAll (gs.map encH) ≤ 3 := depth_map fun g _ => encH_depth g
  simp only [PyData.depth]
  omega
theorem okA_of {ds : List PyData} (h : ∀ d ∈ ds, okD d = true) : okA ds = true := by
  induction ds with
  | nil => rfl
  | cons d ds ih => simp only [okA, h d List.mem_cons_self, ih fun x hx => h x (List.mem_cons_of_mem _ hx), Bool.and_self]
theorem szA_le {ds : List PyData} {n : Nat} (h : ∀ d ∈ ds, szD d ≤ n) : szA ds ≤ ds.length * n := by
  induction ds with
  | nil => simp [szA]
  | cons d ds ih =>
    have h1 := h d List.mem_cons_self
    have h2 := ih fun x hx => h x (List.mem_cons_of_mem _ hx)
    simp only [szA, List.length_cons, Nat.succ_mul]
    omega
theorem hasDictA_of {ds : List PyData} (h : ∀ d ∈ ds, d.hasDict = false) : PyData.hasDictAll ds = false := by
  induction ds with
  | nil => rfl
  | cons d ds ih => simp only [PyData.hasDictAll, h d List.mem_cons_self, ih fun x hx => h x (List.mem_cons_of_mem _ hx), Bool.or_self]
theorem HP.sd {a : Addr} (h : HP H gs) (ha : H a = some (.lst (gs.map hV))) (hl : gs.length ≤ 100) : Sd H (.ref a) (.list (gs.map encH)) := by
  refine ⟨h.rn ha, fun z => ?_, ?_, ?_, Nat.le_trans (gs_depth gs) (by decide)⟩
  · have : PyData.hasDictAll (gs.map encH) = false := hasDictA_of fun d hd => by
      obtain ⟨g, hg, rfl⟩ := List.mem_map.mp hd
      exact hasDictA_of fun d hd => by
        obtain ⟨z, hz, rfl⟩ := List.mem_map.mp hd
        rfl
    simp only [PyData.hasDict, this] at z
    cases z
  · refine okA_of fun d hd => ?_
    obtain ⟨g, hg, rfl⟩ := List.mem_map.mp hd
    refine okA_of fun d hd => ?_
    obtain ⟨z, hz, rfl⟩ := List.mem_map.mp hd
    have := (h g hg).2.small z hz
    simp only [encQ, okD, okA, Bool.and_true, Bool.and_eq_true, decide_eq_true_eq]
    omega
  · have h1 : szA (gs.map encH) ≤ (gs.map encH).length * 6916 := szA_le fun d hd => by
      obtain ⟨g, hg, rfl⟩ := List.mem_map.mp hd
      have h2 : szA (g.2.map fun z => encQ z.2) ≤ (g.2.map fun z => encQ z.2).length * 3 := szA_le fun d hd => by
        obtain ⟨z, hz, rfl⟩ := List.mem_map.mp hd
        simp [encQ, szD, szA]
      have h3 := (h g hg).2.few
      rw [List.length_map] at h2
      simp only [encH, szD]
      omega
    rw [List.length_map] at h1
    simp only [szD]
    omega
variable {K : PySem.W.Frag} {Q : VK}
end
theorem Sm.cut {H : Hp} {xs : List V} {n k : Nat} {lo hi : Option Int} (h : ∀ x ∈ xs, Sm H x n k) : ∀ x ∈ cutV xs lo hi, Sm H x n k := fun x hx => h x (cutV_mem hx)
/-- any small data -/
def SdE (H : Hp) (v : V) : Prop := ∃ d, Sd H v d
theorem SdE.of {H : Hp} {v : V} {n k : Nat} (h : Sm H v n k) (h1 : n ≤ 999999) (h2 : k ≤ 59) : SdE H v := h.sd h1 h2
theorem SdE.ex {H H' : Hp} {v : V} (h : SdE H v) (e : Ex H H') : SdE H' v := by
  obtain ⟨d, h⟩ := h
  exact ⟨d, h.ex e⟩
theorem allE_nil {P : V → Prop} : ∀ x ∈ ([] : List V), P x := fun _ h => nomatch h
theorem allE_cons {P : V → Prop} {y : V} {ys : List V} (h : P y) (k : ∀ x ∈ ys, P x) : ∀ x ∈ y :: ys, P x := fun x hx => by
  rcases List.mem_cons.mp hx with e | e
  · rw [e]; exact h
  · exact k x e
mutual
/-- a thing is one data -/
theorem Rn.det {H : Hp} : ∀ {v : V} {d d' : PyData}, Rn H v d → Rn H v d' → d = d'
  | _, _, _, .non, .non => rfl
  | _, _, _, .bl _, .bl _ => rfl
  | _, _, _, .int _, .int _ => rfl
  | _, _, _, .str _, .str _ => rfl
  | _, _, _, .lst h k, .lst h' k' => by
    rw [h] at h'
    cases h'
    rw [RnA.det k k']
  | _, _, _, .tup h k, .tup h' k' => by
    rw [h] at h'
    cases h'
    rw [RnA.det k k']
  | _, _, _, .dk _, .dk _ => rfl
  | _, _, _, .lst h _, .tup h' _ => by rw [h] at h'; cases h'
  | _, _, _, .lst h _, .dk h' => by rw [h] at h'; cases h'
  | _, _, _, .tup h _, .lst h' _ => by rw [h] at h'; cases h'
  | _, _, _, .tup h _, .dk h' => by rw [h] at h'; cases h'
  | _, _, _, .dk h, .lst h' _ => by rw [h] at h'; cases h'
  | _, _, _, .dk h, .tup h' _ => by rw [h] at h'; cases h'
theorem RnA.det {H : Hp} : ∀ {vs : List V} {ds ds' : List PyData}, RnA H vs ds → RnA H vs ds' → ds = ds'
  | _, _, _, .nil, .nil => rfl
  | _, _, _, .cons h k, .cons h' k' => by rw [Rn.det h h', RnA.det k k']
end
theorem SdE.sd {H : Hp} {v : V} {d : PyData} (h : SdE H v) (r : Rn H v d) : Sd H v d := by
  obtain ⟨d', h⟩ := h
  rw [r.det h.rn]
  exact h
def SmA (H : Hp) (xs : List V) (n k : Nat) : Prop := ∃ ds, RnA H xs ds ∧ PyData.hasDictAll ds = false ∧ okA ds = true ∧ szA ds ≤ n ∧ PyData.depthAll ds ≤ k
section
variable {H : Hp} {v : V} {xs ys : List V} {n m k : Nat}
theorem SmA.of (h : ∀ x ∈ xs, Sm H x n k) (hm : xs.length ≤ m) : SmA H xs (m * n) k := by
  obtain ⟨ds, a, b, c, d, e⟩ := Sm.all h
  exact ⟨ds, a, b, c, Nat.le_trans d (Nat.mul_le_mul_right n hm), e⟩
theorem SmA.up {n' k' : Nat} (h : SmA H xs n k) (h1 : n ≤ n') (h2 : k ≤ k') : SmA H xs n' k' := by
  obtain ⟨ds, a, b, c, d, e⟩ := h
  exact ⟨ds, a, b, c, by omega, by omega⟩
theorem SmA.nil : SmA H [] 0 k := ⟨[], .nil, rfl, rfl, by simp [szA], by simp [PyData.depthAll]⟩
theorem SmA.cons (h : Sm H v n k) (t : SmA H xs m k) : SmA H (v :: xs) (n + m) k := by
  obtain ⟨ds, a, b, c, d, e⟩ := t
  obtain ⟨x, a1, b1, c1, d1, e1⟩ := h
  refine ⟨x :: ds, .cons a1 a, by simp [PyData.hasDictAll, b, b1], by simp [okA, c, c1], ?_, ?_⟩
  · simp only [szA]; omega
  · simp only [PyData.depthAll]; omega
theorem SmA.app : ∀ {xs : List V} {n : Nat}, SmA H xs n k → SmA H ys m k → SmA H (xs ++ ys) (n + m) k
  | [], n, _, t => t.up (by omega) (Nat.le_refl _)
  | x :: xs, n, ⟨ds, a, b, c, d, e⟩, t => by
    cases a with
    | @cons _ _ d0 ds0 a1 a2 =>
      simp only [PyData.hasDictAll, Bool.or_eq_false_iff] at b
      simp only [okA, Bool.and_eq_true] at c
      simp only [szA] at d
      simp only [PyData.depthAll] at e
      have h := SmA.app (xs := xs) ⟨ds0, a2, b.2, c.2, Nat.le_refl _, by omega⟩ t
      exact (SmA.cons (n := szD d0) ⟨d0, a1, b.1, c.1, Nat.le_refl _, by omega⟩ h).up (by omega) (Nat.le_refl _)
theorem SmA.lst {a : Addr} (h : H a = some (.lst xs)) (t : SmA H xs n k) : Sm H (.ref a) (1 + n) (k + 1) := by
  obtain ⟨ds, h1, h2, h3, h4, h5⟩ := t
  exact ⟨.list ds, .lst h h1, by simpa only [PyData.hasDict] using h2, by simpa only [okD] using h3, by simp only [szD]; omega, by simp only [PyData.depth]; omega⟩
theorem SmA.tup {a : Addr} (h : H a = some (.tup xs)) (t : SmA H xs n k) : Sm H (.ref a) (1 + n) (k + 1) := by
  obtain ⟨ds, h1, h2, h3, h4, h5⟩ := t
  exact ⟨.tuple ds, .tup h h1, by simpa only [PyData.hasDict] using h2, by simpa only [okD] using h3, by simp only [szD]; omega, by simp only [PyData.depth]; omega⟩
theorem ObjsAt.mem {ts : List Addr} {os : List HO} (h : ObjsAt H ts os) {a : Addr} (ha : a ∈ ts) : ∃ o ∈ os, H a = some o := by
  obtain ⟨j, hj⟩ := List.getElem?_of_mem ha
  have hl := h.len
  have hjl := (List.getElem?_eq_some_iff.mp hj).1
  obtain ⟨o, ho⟩ : ∃ o, os[j]? = some o := ⟨os[j]'(by omega), List.getElem?_eq_getElem _⟩
  exact ⟨o, List.mem_of_getElem? ho, h.at j a o hj ho⟩
end
theorem Ex.comp {M : Addr → Prop} {H0 H H' : Hp} (e0 : Ex H0 H) (e : Fr M H H') (n : ∀ b, M b → H0 b = none) : Ex H0 H' := fun b o _ q => e b o (fun m => by rw [n b m] at q; cases q) (e0 b o (fun z => z) q)
end Zb
namespace Zb
open PySem PySem.Spec PyProof.Rows L2
mutual
theorem Rq.ex {H H' : Hp} (e : Ex H H') : ∀ {v : V} {d : PyData}, Rq H v d → Rq H' v d
  | _, _, .non => .non
  | _, _, .bl b => .bl b
  | _, _, .int i => .int i
  | _, _, .str x => .str x
  | _, _, .lst h k => .lst (lstAt_ex e h) (RqA.ex e k)
  | _, _, .tup h k => .tup (tupAt_ex e h) (RqA.ex e k)
  | _, _, .dk h k => .dk (e.get h) (RqA.ex e k)
theorem RqA.ex {H H' : Hp} (e : Ex H H') : ∀ {vs : List V} {ds : List PyData}, RqA H vs ds → RqA H' vs ds
  | _, _, .nil => .nil
  | _, _, .cons h k => .cons (Rq.ex e h) (RqA.ex e k)
end
/-- v is d, and is shown by n signs at most, k deep -/
structure Sh (H : Hp) (v : V) (d : PyData) (n k : Nat) : Prop where
  rq : Rq H v d
  sw : d.showable = true
  dp : d.depth ≤ k
  sz : d.shown.length ≤ n
section
variable {H H' : Hp} {v : V} {d : PyData} {n k : Nat} {Q : VK}
theorem Sh.ex (h : Sh H v d n k) (e : Ex H H') : Sh H' v d n k := ⟨h.rq.ex e, h.sw, h.dp, h.sz⟩
theorem Sh.up {n' k' : Nat} (h : Sh H v d n k) (h1 : n ≤ n') (h2 : k ≤ k') : Sh H v d n' k' := ⟨h.rq, h.sw, by have := h.dp; omega, by have := h.sz; omega⟩
theorem Sh.non : Sh H .non .none 4 0 := ⟨.non, rfl, by simp [PyData.depth], by decide⟩
theorem Sh.bl (b : Bool) : Sh H (.bl b) (.bool b) 5 0 := ⟨.bl b, rfl, by simp [PyData.depth], by cases b <;> decide⟩
theorem Sh.str {x : Str} (hx : ∀ c ∈ x.cps.toList, c < 16 ^ 8) : Sh H (.str x) (.str x) (10 * x.length + 2) 0 := ⟨.str x, rfl, by simp [PyData.depth], PySem.StrLaws.reprText_len x hx⟩
theorem Sh.int {i : Int} {m : Nat} (hm : 0 < m) (h : i.natAbs < 10 ^ m) (h2 : i.natAbs.log2 < 1920) : Sh H (.int i) (.int i) (m + 1) 0 := ⟨.int i, by simpa only [PyData.showable, decide_eq_true_eq] using h2, by simp [PyData.depth], by
  have e := int_text_length_le10 hm h
  have e2 : (Str.ofString (toString i)).length = (toString i).length := PySem.ofString_length _
  show (Str.ofString (toString i)).length ≤ _
  omega⟩
/-- rows of shown things -/
inductive ShA (H : Hp) (k : Nat) : List V → List PyData → Nat → Prop
  | nil : ShA H k [] [] 0
  | cons {v : V} {d : PyData} {n : Nat} {vs : List V} {ds : List PyData} {m : Nat} : Sh H v d n k → ShA H k vs ds m → ShA H k (v :: vs) (d :: ds) (n + 2 + m)
theorem ShA.all : ∀ {vs : List V} {ds : List PyData} {m : Nat}, ShA H k vs ds m → RqA H vs ds ∧ PyData.showableAll ds = true ∧ PyData.depthAll ds ≤ k ∧ ((PyData.shownAll ds).map (·.length)).sum + 2 * ds.length ≤ m
  | _, _, _, .nil => ⟨.nil, rfl, by simp [PyData.depthAll], by simp [PyData.shownAll]⟩
  | _, _, _, .cons h t => by
    obtain ⟨a, b, c, e⟩ := ShA.all t
    refine ⟨.cons h.rq a, by simp [PyData.showableAll, h.sw, b], ?_, ?_⟩
    · have := h.dp
      simp only [PyData.depthAll]; omega
    · have := h.sz
      simp only [PyData.shownAll, List.map_cons, List.sum_cons, List.length_cons]; omega
theorem ShA.lst {a : Addr} {xs : List V} {ds : List PyData} (h : H a = some (.lst xs)) (t : ShA H k xs ds n) : Sh H (.ref a) (.list ds) (n + 3) (k + 1) := by
  obtain ⟨r, s, dp, sz⟩ := t.all
  have h2 := listText_len_le (PyData.shownAll ds)
  have h3 := PyData.shownAll_length ds
  exact ⟨.lst (lst_of h) r, by simpa only [PyData.showable] using s, by simp only [PyData.depth]; omega, by simp only [PyData.shown]; omega⟩
theorem ShA.tup {a : Addr} {xs : List V} {ds : List PyData} (h : H a = some (.tup xs)) (t : ShA H k xs ds n) : Sh H (.ref a) (.tuple ds) (n + 3) (k + 1) := by
  obtain ⟨r, s, dp, sz⟩ := t.all
  have h2 := tupleText_len_le (PyData.shownAll ds)
  have h3 := PyData.shownAll_length ds
  exact ⟨.tup (tup_of h) r, by simpa only [PyData.showable] using s, by simp only [PyData.depth]; omega, by simp only [PyData.shown]; omega⟩
theorem ShA.map {α : Type} {val : α → V} {enc : α → PyData} {m : Nat} : ∀ {xs : List α}, (∀ x ∈ xs, Sh H (val x) (enc x) m k) → ShA H k (xs.map val) (xs.map enc) (xs.length * (m + 2))
  | [], _ => by rw [List.length_nil, Nat.zero_mul]; exact .nil
  | x :: xs, h => by
    have := ShA.cons (h x List.mem_cons_self) (ShA.map fun y hy => h y (List.mem_cons_of_mem _ hy))
    rw [List.length_cons, Nat.succ_mul]
    rwa [show xs.length * (m + 2) + (m + 2) = m + 2 + xs.length * (m + 2) by omega]
theorem Sh.dk0 {a : Addr} (h : H a = some (.dK [])) : Sh H (.ref a) (.dict []) 2 1 := ⟨.dk0 h, rfl, by simp [PyData.depth, PyData.depthKv], by decide +kernel⟩
end
def rIsXs (K : PySem.W.Frag) (a : Addr) (cls : Value) (d : Option Addr) : List V → Hp → VK → Prop := fun xs H Q => ∃ (tp : Addr) (cs : List V) (cvs : List Value) (b : Bool) (C dd : Addr) (fs : List (Str × V)), xs = [.ref a, .ref tp] ∧ H tp = some (.tup cs) ∧ (∀ us, Vals cs us → us = cvs) ∧ cls = .ref C ∧ XI K C ∧ d = some dd ∧ H dd = some (.xd fs) ∧ PySem.W.kitAny K (.ref C) cvs = some b ∧ Q (.bl b) H
section
variable {K : PySem.W.Frag} {H : Hp} {Q : VK}
theorem st_isXs2 {a C C1 C2 dd tp : Addr} {fs : List (Str × V)} {b1 b2 : Bool} (T : XI K C) (h1 : H dd = some (.xd fs)) (ht : H tp = some (.tup [.ref C1, .ref C2])) (e1 : PySem.W.kitOne K (.ref C) (.ref C1) = some b1) (e2 : PySem.W.kitOne K (.ref C) (.ref C2) = some b2) (h : Q (.bl (b1 || b2)) H) : rIsXs K a (.ref C) (some dd) [.ref a, .ref tp] H Q := by
  refine ⟨tp, _, [.ref C1, .ref C2], b1 || b2, C, dd, fs, rfl, ht, fun us r => ?_, rfl, T, rfl, h1, ?_, h⟩
  · cases r with
    | cons r1 rr =>
      cases rr with
      | cons r2 rr =>
        cases rr
        cases r1
        cases r2
        rfl
  · unfold PySem.W.kitAny
    rw [e1]
    cases b1 with
    | true => rfl
    | false =>
      show PySem.W.kitAny K _ [.ref C2] = _
      unfold PySem.W.kitAny
      rw [e2]
      cases b2 <;> rfl
end
def hid (p : Addr) (H : Hp) : Hp := fun b => if b = p then none else H b
theorem hid_get {p a : Addr} {H : Hp} {o : HO} (h : H a = some o) (n : a ≠ p) : hid p H a = some o := by
  unfold hid
  rw [if_neg n]
  exact h
theorem hid_ex (p : Addr) (H : Hp) : Ex (hid p H) H := fun b o _ h => by
  unfold hid at h
  split at h
  · cases h
  · exact h
theorem hid_frp {p : Addr} {H H' : Hp} (e : FrP p H H') : Ex (hid p H) (hid p H') := fun b o _ h => by
  unfold hid at h ⊢
  by_cases n : b = p
  · rw [if_pos n] at h; cases h
  · rw [if_neg n] at h ⊢
    exact e b o n h
end Zb
namespace Zb
open PySem PySem.Spec PyProof.Rows L2
def rEqA (K : PySem.W.Frag) : R2 := fun x y H Q => rEqU x y H Q ∨ rEqV K x y H Q
theorem o_eqA {X : Cx} {K : PySem.W.Frag} (hu : X.A.units + 64 < cLine) (hK : X.K = K := by rfl) : OpR X (compareOp .Eq) (rEqA K) := by
  subst hK
  intro pins s σ H x y v u Q I rx ry h
  rcases h with h | h
  · exact o_eq hu pins s σ H x y v u Q I rx ry h
  · exact op_eqV hu pins s σ H x y v u Q I rx ry h
section
variable {K : PySem.W.Frag} {H : Hp} {Q : VK}
theorem st_eqA {x y : V} {d e : PyData} (h1 : Rp H x d) (h2 : Rp H y e) (hd : min d.depth e.depth ≤ 64) (h : Q (.bl (PyData.eqv d e)) H) : rEqA K x y H Q := .inl ⟨d, e, h1, h2, hd, h⟩
theorem st_eqA0 {a : Addr} (h1 : H a = some (.dK [])) (h : Q (.bl true) H) : rEqA K (.ref a) (.ref a) H Q :=
  .inr ⟨0, by decide, .inr ⟨a, a, [], [], rfl, rfl, h1, h1, rfl, fun _ h => (List.not_mem_nil h).elim⟩, h⟩
mutual
theorem eqv_self : ∀ d : PyData, d.hasDict = false → PyData.eqv d d = true
  | .none, _ => rfl
  | .bool b, _ => by simp [PyData.eqv]
  | .int i, _ => by simp [PyData.eqv]
  | .str x, _ => by simp [PyData.eqv]
  | .list ds, h => by
    simp only [PyData.eqv]
    exact eqvAll_self ds (by simpa only [PyData.hasDict] using h)
  | .tuple ds, h => by
    simp only [PyData.eqv]
    exact eqvAll_self ds (by simpa only [PyData.hasDict] using h)
  | .dict kvs, h => by simp [PyData.hasDict] at h
theorem eqvAll_self : ∀ ds : List PyData, PyData.hasDictAll ds = false → PyData.eqvAll ds ds = true
  | [], _ => rfl
  | d :: ds, h => by
    simp only [PyData.hasDictAll, Bool.or_eq_false_iff] at h
    simp only [PyData.eqvAll, eqv_self d h.1, eqvAll_self ds h.2, Bool.and_self]
end
/-- a thing is like itself -/
theorem st_eqSelf {x : V} {d : PyData} (h1 : Rn H x d) (hd : d.hasDict = true → d = .dict []) (hp : d.depth ≤ 64) (h : Q (.bl true) H) : rEqA K x x H Q := by
  cases hb : d.hasDict with
  | false => exact st_eqA (h1.rp hb) (h1.rp hb) (by omega) (by rw [eqv_self d hb]; exact h)
  | true =>
    have := hd hb
    subst this
    cases h1 with
    | dk h2 => exact st_eqA0 h2 h
end
end Zb
namespace Zb
open PySem PySem.Spec PyProof.Rows L2
def gSl (to : TE) (tl th : TO) : TG := fun v σ H Q => to σ H fun o H1 => tl σ H1 fun l H2 => th σ H2 fun u H3 => ∃ (p q : Addr) (xs ys : List V) (a c : Int), o = .ref p ∧ v = .ref q ∧ l = some a ∧ u = some c ∧ H3 p = some (.lst xs) ∧ H3 q = some (.lst ys) ∧ p ≠ q ∧ 0 ≤ a ∧ a ≤ c ∧ c ≤ xs.length ∧ xs.length + ys.length ≤ 16777216 ∧ Q σ (upd H3 p (.lst (xs.take a.toNat ++ ys ++ xs.drop c.toNat)))
theorem st_gsl {to : TE} {tl th : TO} {v : V} {σ : L2.St} {H : Hp} {R : L2.St → Hp → Prop} (h : to σ H fun o H1 => tl σ H1 fun l H2 => th σ H2 fun u H3 => ∃ (p q : Addr) (xs ys : List V) (a c : Int), o = .ref p ∧ v = .ref q ∧ l = some a ∧ u = some c ∧ H3 p = some (.lst xs) ∧ H3 q = some (.lst ys) ∧ p ≠ q ∧ 0 ≤ a ∧ a ≤ c ∧ c ≤ xs.length ∧ xs.length + ys.length ≤ 16777216 ∧ R σ (upd H3 p (.lst (xs.take a.toNat ++ ys ++ xs.drop c.toNat)))) : gSl to tl th v σ H R := h
abbrev TRg := L2.St → Hp → (Int → Int → Int → Hp → Prop) → Prop
def PRgC (X : Cx) (e : Expr) (t : TRg) : Prop := ∀ (pins : List (Addr × Obj)) (s : Shared) (σ : L2.St) (H : Hp) (Q : Int → Int → Int → Hp → Prop), Inv X pins σ H s → t σ H Q →
  wpAny (model X.prog X.w) X.A (eval e X.env) (fun x s' => ∃ r a b c t u v H', x = .ref r ∧ IsRange s'.heap r a b c t u v ∧ Inv X pins σ H' s' ∧ Q a b c H') X.xe s
def tRgC (ta : TA) : TRg := fun σ H Q => ta σ H fun vs H1 => match vs with
  | [.int n] => Q 0 n 1 H1
  | [.int i, .int j] => Q i j 1 H1
  | [.int i, .int j, .int c] => c ≠ 0 ∧ c.natAbs < 1073741824 ∧ Q i j c H1
  | _ => False
section
variable {X : Cx}
theorem prgC {es : List Expr} {e : Expr} {ta : TA} {p pos : Pos} (hg : Gl X "range") (hm : X.mg "range" = none) (ha : PA X (e :: es) ta) (hs : starEach (e :: es) X.env = (false, eval e X.env) :: starEach es X.env := by rfl)
    (hpl : (backTo pos (starEach es X.env)).any (·.1) = false := by rfl) : PRgC X (.Call (.Name "range" p) (e :: es) [] pos) (tRgC ta) := by
  intro pins s σ H Q I h
  refine Call_ (ld_blt I hg hm boot_range (PyProof.Rows.callWith_type1 (thn (ha.run pos pins s σ H _ I h) fun us s1 ⟨vs, H1, I1, r1, q1⟩ => ?_) hs hpl))
  dsimp only at q1
  split at q1
  · obtain ⟨u, rfl, t, rfl⟩ := vals1 r1
    exact call_range_1 ⟨_, _, _, _, _, _, _, H1, rfl, IsRange.new _ _ _ _ _ _ _, I1.kept fun _ _ z => Heap.get?_push_of_some _ z, q1⟩
  · obtain ⟨u, w, rfl, ⟨t, rfl⟩, t', rfl⟩ := vals2 r1
    exact call_range_2 ⟨_, _, _, _, _, _, _, H1, rfl, IsRange.new _ _ _ _ _ _ _, I1.kept fun _ _ z => Heap.get?_push_of_some _ z, q1⟩
  · obtain ⟨c0, c1, q1⟩ := q1
    cases r1 with
    | cons r rr =>
      obtain ⟨u, w, rfl, ⟨t1, rfl⟩, t2, rfl⟩ := vals2 rr
      obtain ⟨t, rfl⟩ := r
      exact call_range_3 c0 ⟨_, _, _, _, _, _, _, H1, rfl, IsRange.new _ _ _ _ _ _ _, I1.kept fun _ _ z => Heap.get?_push_of_some _ z, q1⟩ (.inl (PyProof.noPylong_small c1))
  · exact q1.elim
def rgL (a c : Int) (n : Nat) : List Int := (List.range n).map fun i : Nat => a + (i : Int) * c
theorem vals_rgL {a c : Int} {n : Nat} {acc : Array Value} (h : ItemsOf (fun i v => ∃ t, v = .int (a + i * c) t) acc n) : Vals ((rgL a c n).map V.int) acc.toList := by
  have e : acc.toList.length = n := by rw [Array.length_toList]; exact h.1
  unfold rgL
  rw [← e, List.map_map]
  refine vals_of_get acc.toList _ fun j u hj => ?_
  obtain ⟨t, rfl⟩ := h.2 j u (by rw [← hj, Array.getElem?_toList])
  exact ⟨t, rfl⟩
def tListRg (t : TRg) : TE := fun σ H Q => t σ H fun a b c H1 => ∃ n : Nat, Builtin.Range.small a b c = true ∧ Builtin.Range.rangeSize a b c = n ∧ n ≤ 16777216 ∧ ∀ q, H1 q = none → Q (.ref q) (upd H1 q (.lst ((rgL a c n).map V.int)))
theorem pe_listRgC {e : Expr} {t : TRg} {p pos : Pos} (hc : X.calm = true) (hg : Gl X "list") (hm : X.mg "list" = none) (he : PRgC X e t) (na : starEach [e] X.env = (false, eval e X.env) :: starEach [] X.env := by rfl) : PE X (.Call (.Name "list" p) [e] [] pos) (tListRg t) := by
  refine ⟨fun pins s σ H Q I h => ?_⟩
  refine Call_ (ld_blt I hg hm boot_list (PyProof.Rows.callWith_type1 (args_cons (thn (he pins s σ H _ I h) fun x s1 ⟨r, a, b, c, t, u, v, H1, ex, hr, I1, n, o1, o2, o3, q⟩ => args_nil ?_) na) na))
  subst ex
  refine call_list_range (n := n) (I1.ok.hd hc) hr o1 o2 o3 fun h' tk acc c' hk e' hi => ?_
  have hl : ((rgL a c n).map V.int).length ≤ sizeLine := by rw [List.length_map, rgL, List.length_map, List.length_range, sl16]; exact o3
  refine ⟨.ref s1.heap.objs.size, _, I1.laid (t' := tk) hk (Nat.le_refl _) (show ObjOk X.prog X.w _ h' _ (.lst _) from ⟨hl, acc.toList, c', vals_rgL hi, ?_⟩), rfl, q _ (I1.hok.fresh (Nat.le_refl _))⟩
  rw [Array.toArray_toList]
  exact e'
end
section
variable {σ : L2.St} {H : Hp} {Q : VK} {K : PySem.W.Frag}
def RgP (Q : VK) (a b c : Int) (H1 : Hp) : Prop := ∃ n : Nat, Builtin.Range.small a b c = true ∧ Builtin.Range.rangeSize a b c = n ∧ n ≤ 16777216 ∧ ∀ q, H1 q = none → Q (.ref q) (upd H1 q (.lst ((rgL a c n).map V.int)))
theorem st_listRg {t : TRg} (h : t σ H (RgP Q)) : tListRg t σ H Q := h
def RgQ (P : Int → Int → Int → Hp → Prop) (vs : List V) (H1 : Hp) : Prop := match vs with
  | [.int n] => P 0 n 1 H1
  | [.int i, .int j] => P i j 1 H1
  | [.int i, .int j, .int c] => c ≠ 0 ∧ c.natAbs < 1073741824 ∧ P i j c H1
  | _ => False
theorem st_rgC {ta : TA} {P : Int → Int → Int → Hp → Prop} (h : ta σ H (RgQ P)) : tRgC ta σ H P := h
theorem st_rg1 {n : Int} {P : Int → Int → Int → Hp → Prop} (h : P 0 n 1 H) : RgQ P [.int n] H := h
theorem st_rg2 {i j : Int} {P : Int → Int → Int → Hp → Prop} (h : P i j 1 H) : RgQ P [.int i, .int j] H := h
theorem st_rg3 {i j : Int} {P : Int → Int → Int → Hp → Prop} (h : P i j (-1) H) : RgQ P [.int i, .int j, .int (-1)] H := ⟨by decide, by decide, h⟩
theorem st_rgUp {a b : Int} (hz : -1000000 ≤ a ∧ a ≤ 1000000 ∧ -1000000 ≤ b ∧ b ≤ 1000000) (h : ∀ q H', H q = none → Ex H H' → H' q = some (.lst ((rgL a 1 (b - a).toNat).map V.int)) → Q (.ref q) H') : RgP Q a b 1 H :=
  ⟨(b - a).toNat, small_one (by omega) (by omega) (by omega) (by omega), rangeSize_nat a b, by omega, fun q hq => h q _ hq (Fr.new hq) upd_same⟩
theorem st_rgDown {a b : Int} (hz : -1000000 ≤ a ∧ a ≤ 1000000 ∧ -1000000 ≤ b ∧ b ≤ 1000000) (h : ∀ q H', H q = none → Ex H H' → H' q = some (.lst ((rgL a (-1) (a - b).toNat).map V.int)) → Q (.ref q) H') : RgP Q a b (-1) H :=
  ⟨(a - b).toNat, PySem.W.small_down (by omega) (by omega) (by omega) (by omega), PySem.W.rangeSize_downNat a b, by omega, fun q hq => h q _ hq (Fr.new hq) upd_same⟩
end
def iSeq (K : PySem.W.Frag) (tl : TE) : TI := fun σ H R => tl σ H fun x H1 => ∃ a xs, x = .ref a ∧ seqAt H1 a = some xs ∧ ∀ (J : It) (S : Hp → Prop), Runs J xs.length S (fun i x H H' => H' = H ∧ xs[i]? = some x) → (∀ H', H' a = H1 a → S H') → R J H1
theorem lstAt_eq {H H' : Hp} {a : Addr} {xs : List V} (h : lstAt H a = some xs) (e : H' a = H a) : lstAt H' a = some xs := by
  unfold lstAt at h ⊢
  rw [e]
  exact h
theorem tupAt_eq {H H' : Hp} {a : Addr} {xs : List V} (h : tupAt H a = some xs) (e : H' a = H a) : tupAt H' a = some xs := by
  unfold tupAt at h ⊢
  rw [e]
  exact h
theorem pi_seq {X : Cx} {l tg : Expr} {tl : TE} {K : PySem.W.Frag} (hl : PE X l tl) (hK : X.K = K := by rfl) : PI X tg l (iSeq K tl) := by
  subst hK
  refine ⟨fun pins s σ H R I h => ?_⟩
  refine thn (hl.run pins s σ H _ I h) fun v s1 ⟨x, H1, I1, r1, q1⟩ => ?_
  obtain ⟨a, xs, rfl, hq, q⟩ := q1
  cases r1
  have fp : ∀ b ∈ [s1.heap.objs.size], b = s1.heap.objs.size := fun b hb => by simpa using hb
  rcases seqAt_cases hq with hq | hq
  · obtain ⟨its, rv, p, hz⟩ := I1.list (lstAt_sq hq)
    refine wpAny_pyIter_list p.isList ?_
    refine ⟨s1.heap.objs.size, [s1.heap.objs.size], _, _, H1, rfl, I1.kept (t' := s1.toks) fun _ _ e => Heap.get?_push_of_some _ e, turn_list a _, ⟨_, Heap.get?_push_size _ rfl, rfl, rfl⟩, fun b hb => ?_, q _ _ (runs_list X.K a xs) fun H' e => lstAt_eq hq e⟩
    rw [fp b hb]
    exact I1.fpOk (Nat.le_refl _) (I1.hok.fresh (Nat.le_refl _))
  · obtain ⟨its, rv, p, hz⟩ := I1.tuple (tupAt_sq hq)
    refine wpAny_pyIter_tuple (show s1.heap.IsTuple a its.toArray from p) ?_
    refine ⟨s1.heap.objs.size, [s1.heap.objs.size], _, _, H1, rfl, I1.kept (t' := s1.toks) fun _ _ e => Heap.get?_push_of_some _ e, turn_tuple a _, ⟨_, Heap.get?_push_size _ rfl, rfl, rfl⟩, fun b hb => ?_, q _ _ (runs_tup X.K a xs) fun H' e => tupAt_eq hq e⟩
    rw [fp b hb]
    exact I1.fpOk (Nat.le_refl _) (I1.hok.fresh (Nat.le_refl _))
def Itet (K : PySem.W.Frag) (a : Addr) : It :=
  ⟨fun i H => ∃ (xs : List V) (x : V), SqT K H a xs ∧ xs[i]? = some x, fun i H v H' => ∃ T x, v = .ref T ∧ H T = none ∧ H' = upd H T (.tup [.int (i : Nat), x]) ∧ ∀ xs, SqT K H a xs → xs[i]? = some x, fun i H => ∃ xs : List V, SqT K H a xs ∧ xs.length ≤ i⟩
theorem sqT_inj {X : Cx} {pins : List (Addr × Obj)} {σ : L2.St} {H : Hp} {s : Shared} {a : Addr} {xs ys : List V} (I : Inv X pins σ H s) (h1 : SqT X.K H a xs) (h2 : SqT X.K H a ys) : xs = ys := I.tuple_inj h1 h2
theorem turn_enumT {P : Program} {w : World} {K : PySem.W.Frag} {elts : List Expr} {kk : Nat} {tpos : Pos} (a e it : Addr) :
    Turn P w K (.Tuple elts kk tpos) (Itet K a) [e, it] e (fun i h => (∃ old, IsEnum h e it ((i : Nat) : Int) old) ∧ h.IsTupleIter it a i ∧ e ≠ it) where
  mem := by simp
  obj := fun i h st b hb => by
    obtain ⟨⟨old, he⟩, ⟨o, ho, hc, hd⟩, _⟩ := st
    rcases (show b = e ∨ b = it by simpa using hb) with z | z
    · rw [z]; exact ⟨_, he, fun v q => nomatch q⟩
    · rw [z]; exact ⟨o, ho, fun v q => by rw [hd] at q; cases q⟩
  keep := fun i h h' st k => let ⟨⟨old, he⟩, hi, hne⟩ := st; ⟨⟨old, k e (by simp) _ he⟩, hi.at fun _ q => k it (by simp) _ q, hne⟩
  item := by
    intro X hP hw hK hc i pins s σ H E I hf st hg
    subst hP hw hK
    obtain ⟨⟨old, he⟩, hit, hne⟩ := st
    obtain ⟨xs, x, hq, hx⟩ := hg
    obtain ⟨its, rv, p, hz⟩ := I.tuple hq
    obtain ⟨u, hu, ru⟩ := rv.get hx
    have hel : e < s.heap.objs.size := Heap.lt_size he
    have hil : it < s.heap.objs.size := by obtain ⟨_, q, _⟩ := hit; exact Heap.lt_size q
    have hta : a ≠ it := fun z => by
      obtain ⟨o1, g1, c1, _⟩ := hit
      obtain ⟨o2, g2, c2, _⟩ := p
      rw [z] at g2
      rw [g1] at g2
      cases g2
      rw [c1] at c2
      exact absurd c2 (by decide)
    have hte : e ≠ a := fun z => by
      obtain ⟨o2, g2, c2, _⟩ := p
      rw [← z, he] at g2
      cases g2
      exact absurd (show Value.type "enumerate" = Value.type "tuple" from c2) (by decide)
    have D : Draws X.prog X.w X.A.in1 it [it, a] its.toArray.size (fun i v => its.toArray[i]? = some v) (fun i h => h.IsTupleIter it a i ∧ h.IsTuple a its.toArray) := Draws.tuple (A := X.A.in1) (I.ok.hd hc) it a hta its.toArray
    have hlt : i < its.toArray.size := by
      rw [List.size_toArray, ← rv.length]
      exact (List.getElem?_eq_some_iff.mp hx).1
    refine wpAny_pyNext_enum_itemC D he ⟨hit, p⟩ hlt hne (by simp [hne, hte]) fun y h' tk hy ho st2 hT hsz hk => ?_
    have hyu : y = u := by
      have : its.toArray[i]? = some u := by simpa using hu
      rw [this] at hy
      exact (Option.some.inj hy).symm
    subst hyu
    refine ⟨_, rfl, wpAny_letOwnedTupleGo_enum (s := { s with heap := h', toks := tk + 1 }) ho fun h'' he' sb => ?_⟩
    have hT2 : h''.get? s.heap.objs.size = some { cls := .type "tuple", data := .seq #[.int (i : Nat) tk, y] } := (sb.2 _ (Nat.ne_of_gt hel)).trans hT
    have new : ObjOk X.prog X.w (upd H s.heap.objs.size (.tup [.int (i : Nat), x])) h'' s.heap.objs.size (.tup [.int (i : Nat), x]) :=
      ⟨by show 2 ≤ sizeLine; rw [sl16]; decide, [.int (i : Nat) tk, y], .cons ⟨_, rfl⟩ (.cons ru .nil), ⟨_, hT2, rfl, _, rfl⟩⟩
    have I1 : Inv X pins σ (upd H s.heap.objs.size (.tup [.int (i : Nat), x])) { s with heap := h'', toks := tk + 1 } :=
      I.turnedNew (ch := [e, it]) (fun b ob hb q => (sb.2 b (fun z => hb (by simp [z]))).trans (hk b ob (fun z => hb (by simp [z])) (fun z => hb (by simp [z])) q)) hf (Nat.le_refl _) new
    refine ⟨.ref s.heap.objs.size, _, I1, rfl, ⟨_, x, rfl, I.hok.fresh (Nat.le_refl _), rfl, fun ys hy => by rw [sqT_inj I hy hq]; exact hx⟩, ⟨⟨y, ?_⟩, st2.1.at fun o q => (sb.2 it (Ne.symm hne)).trans q, hne⟩, fun b hb => ?_⟩
    · rw [show ((i + 1 : Nat) : Int) = (i : Int) + 1 by omega]; exact he'
    · have hb' : b < s.heap.objs.size := by
        rcases (show b = e ∨ b = it by simpa using hb) with z | z
        · rw [z]; exact hel
        · rw [z]; exact hil
      rw [upd_ne (Nat.ne_of_lt hb')]
      exact (hf b hb).1
  done := by
    intro X hP hw hK hc i pins s σ H E I hf st hg
    subst hP hw hK
    obtain ⟨⟨old, he⟩, hit, hne⟩ := st
    obtain ⟨xs, hq, hx⟩ := hg
    obtain ⟨its, rv, p, hz⟩ := I.tuple hq
    obtain ⟨f0, f1, f2, f3, f4, f5⟩ := hf it (by simp)
    have hl := rv.length
    have hT : s.TypeIs (.ref e) "enumerate" := ⟨_, he, rfl⟩
    unfold pyNext
    refine wpAny_bind (wpAny_attempt (wpAny_callSpecial?_slot (name := Str.ofString "__next__") hT F.slot_enumerate_next (wpAny_call_entry F.slot_enumerate_next hT F.entry_enumerate_next ?_ (F.args_enumerate_next_1 _))))
    show wpAny _ _ (field (.ref e) 2 >>= _) _ _ _
    refine wpAny_bind (wpAny_field he rfl (x := .ref it) rfl ?_)
    refine wpAny_bind (wpAny_nextOf_tuple_end (I.ok.hd hc) hit p (by simp; omega) fun h' x xb hx' => ?_)
    obtain ⟨o, ho, hoc⟩ := hx'
    refine wpAny_bind (wpAny_isInstance (T := "StopIteration") (b := true) ⟨o, ho, hoc⟩ isSubtype_stop ?_)
    exact wpAny_pure ⟨rfl, I.turned (t' := s.toks) (fun b o hb q => xb b o hb q) f0 f1 f3 f4 f5⟩
  self := fun A i s Q E st h => let ⟨⟨_, he⟩, _⟩ := st; wpAny_pyIter_enum he h
theorem meets_enumT (l : Addr) (items : Array Value) (n : Nat) (dct : Option Addr) (sl : Array (Option Value)) :
    Meets (Builtin.«enumerate.__new__» ⟨[.type "enumerate", .ref l], []⟩) (fun _ R s => s.heap.get? l = some { cls := .type "tuple", dict := dct, data := .seq items n, slots := sl } ∧
      R (.ok (.ret (.ref (s.heap.push { cls := .type "tuple_iterator", data := .fields #[.ref l, .int 0 0] }).objs.size)))
        { s with heap := (s.heap.push { cls := .type "tuple_iterator", data := .fields #[.ref l, .int 0 0] }).push { cls := .type "enumerate", data := .fields #[.none, .bool false, .ref s.heap.objs.size, rawInt 0, .none, .none] } }) :=
  .of_wp fun prog w A R s h => by
    obtain ⟨hp, g, d, tk, os⟩ := s
    obtain ⟨hl, h⟩ := h
    have hsub := sub_enumerate
    have hT : Heap.IsTuple (Shared.heap ⟨hp, g, d, tk, os⟩) l items := ⟨_, hl, rfl, n, rfl⟩
    wp_walk using AutoSeq1.wpAny_loadPart' hl
    refine wpAny_stack_any fun st => wpAny_pure ?_
    split
    · rename_i c _ _ _ _ _
      cases (c == Value.type "enumerate")
      · wp_walk using AutoSeq1.wpAny_loadPart' hl, wpAny_pyIter_tuple hT
        exact ⟨_, rfl, h⟩
      · wp_walk using AutoSeq1.wpAny_loadPart' hl, wpAny_pyIter_tuple hT
        exact ⟨_, rfl, h⟩
    · wp_walk using AutoSeq1.wpAny_loadPart' hl, wpAny_pyIter_tuple hT
      exact ⟨_, rfl, h⟩
theorem call_enumT {prog : Program} {w : World} {A : Around} {E : Value → Shared → Prop} {s : Shared} {l : Addr} {items : Array Value} {Q : Value → Shared → Prop} (hL : s.heap.IsTuple l items)
    (h : ∀ h', IsEnum h' (s.heap.objs.size + 1) s.heap.objs.size 0 .none → h'.IsTupleIter s.heap.objs.size l 0 → h'.objs.size = s.heap.objs.size + 2 →
      (∀ b o, s.heap.get? b = some o → h'.get? b = some o) → Q (.ref (s.heap.objs.size + 1)) { s with heap := h' }) : wpAny (model prog w) A (call (.type "enumerate") [.ref l]) Q E s := by
  obtain ⟨⟨c, dct, dt, sl⟩, hl, hc, n, hd⟩ := hL
  replace hc : c = .type "tuple" := hc
  replace hd : dt = .seq items n := hd
  subst hc hd
  obtain ⟨io, hio⟩ : ∃ io : Obj, io = { cls := .type "tuple_iterator", data := .fields #[.ref l, .int 0 0] } := ⟨_, rfl⟩
  obtain ⟨eo, heo⟩ : ∃ eo : Obj, eo = { cls := .type "enumerate", data := .fields #[.none, .bool false, .ref s.heap.objs.size, rawInt 0, .none, .none] } := ⟨_, rfl⟩
  refine callType_new F.called_enumerate (by decide) (F.typeCall_enumerate_1 _) (F.newCall_enumerate_1 _) (fun obj => F.args_object_init_2 obj _) F.entry_enumerate_new (meets_enumT l items n dct sl) ⟨hl, ?_⟩
  rw [← hio, ← heo]
  have hz : (s.heap.push io).objs.size = s.heap.objs.size + 1 := Heap.size_push ..
  show _ ∧ _
  rw [hz]
  have he : IsEnum ((s.heap.push io).push eo) (s.heap.objs.size + 1) s.heap.objs.size 0 .none := by
    have := Heap.get?_push_size (s.heap.push io) (o := eo) (by rw [heo]; rfl)
    rw [hz, heo] at this
    rw [heo]
    exact this
  refine ⟨⟨_, he, rfl⟩, h _ he ⟨_, Heap.get?_push_of_some _ (Heap.get?_push_size _ (by rw [hio]; rfl)), by rw [hio], by rw [hio]; rfl⟩ (by rw [Heap.size_push, hz]) fun b o x => Heap.get?_push_of_some _ (Heap.get?_push_of_some _ x)⟩
theorem runs_enumT (K : PySem.W.Frag) (a : Addr) (xs : List V) : Runs (Itet K a) xs.length (fun H => tupAt H a = some xs) (fun i x H H' => ∃ T v, x = .ref T ∧ H T = none ∧ Ex H H' ∧ H' T = some (.tup [.int (i : Nat), v]) ∧ xs[i]? = some v) :=
  ⟨fun i H h s => ⟨xs, xs[i], tupAt_sq s, by simp [h]⟩, fun _ s => ⟨xs, tupAt_sq s, Nat.le_refl _⟩, fun i H x H' _ s y => by
    obtain ⟨T, v, e1, e2, e3, e4⟩ := y
    subst e3
    exact ⟨T, v, e1, e2, Fr.new e2, upd_same, e4 xs (tupAt_sq s)⟩⟩
/-- enumerate of a list or a tuple -/
def iEnQ (K : PySem.W.Frag) (ta : TA) : TI := fun σ H R => ta σ H fun vs H1 => ∃ a xs, vs = [.ref a] ∧ seqAt H1 a = some xs ∧ ∀ (J : It) (S : Hp → Prop), Runs J xs.length S (fun i x H H' => ∃ T v, x = .ref T ∧ H T = none ∧ Ex H H' ∧ H' T = some (.tup [.int (i : Nat), v]) ∧ xs[i]? = some v) → (∀ H', H' a = H1 a → S H') → R J H1
theorem pi_enumQ {X : Cx} {e : Expr} {ta : TA} {p pos tpos : Pos} {elts : List Expr} {kk : Nat} {K : PySem.W.Frag} (hg : Gl X "enumerate") (hm : X.mg "enumerate" = none) (ha : PA X [e] ta) (hs : starEach [e] X.env = [(false, eval e X.env)] := by rfl) (hK : X.K = K := by rfl) :
    PI X (.Tuple elts kk tpos) (.Call (.Name "enumerate" p) [e] [] pos) (iEnQ K ta) := by
  subst hK
  refine ⟨fun pins s σ H R I h => ?_⟩
  refine Call_ (ld_blt I hg hm boot_enumerate (PyProof.Rows.callWith_type1 (thn (ha.run pos pins s σ H _ I h) fun us s1 ⟨vs, H1, I1, r1, q1⟩ => ?_) hs rfl))
  obtain ⟨a, xs, ex, hq, q⟩ := q1
  subst ex
  obtain ⟨u, rfl, ru⟩ := vals1 r1
  cases ru
  have bnd : ∀ b ∈ [s1.heap.objs.size + 1, s1.heap.objs.size], s1.heap.objs.size ≤ b := fun b hb => by
    rcases (show b = s1.heap.objs.size + 1 ∨ b = s1.heap.objs.size by simpa using hb) with z | z <;> omega
  rcases seqAt_cases hq with hq | hq
  · obtain ⟨its, rv, p', hz⟩ := I1.list (lstAt_sq hq)
    refine call_enumerate_list p'.isList fun h' he hit hsz hk => wpAny_pyIter_enum he ?_
    have I2 : Inv X pins σ H1 { s1 with heap := h' } := I1.kept (t' := s1.toks) hk
    exact ⟨s1.heap.objs.size + 1, [s1.heap.objs.size + 1, s1.heap.objs.size], _, _, H1, rfl, I2, turn_enum a (s1.heap.objs.size + 1) s1.heap.objs.size, ⟨⟨.none, he⟩, hit, Nat.succ_ne_self _⟩, fun b hb => I1.fpOk (bnd b hb) (I1.hok.fresh (bnd b hb)), q _ _ (runs_enum X.K a xs) fun H' e => lstAt_eq hq e⟩
  · obtain ⟨its, rv, p', hz⟩ := I1.tuple (tupAt_sq hq)
    refine call_enumT (show s1.heap.IsTuple a its.toArray from p') fun h' he hit hsz hk => wpAny_pyIter_enum he ?_
    have I2 : Inv X pins σ H1 { s1 with heap := h' } := I1.kept (t' := s1.toks) hk
    exact ⟨s1.heap.objs.size + 1, [s1.heap.objs.size + 1, s1.heap.objs.size], _, _, H1, rfl, I2, turn_enumT a (s1.heap.objs.size + 1) s1.heap.objs.size, ⟨⟨.none, he⟩, hit, Nat.succ_ne_self _⟩, fun b hb => I1.fpOk (bnd b hb) (I1.hok.fresh (bnd b hb)), q _ _ (runs_enumT X.K a xs) fun H' e => tupAt_eq hq e⟩
section
variable {σ : L2.St} {H : Hp} {K : PySem.W.Frag}
theorem st_iSeq {tl : TE} {R : It → Hp → Prop} (h : tl σ H fun x H1 => ∃ a xs, x = .ref a ∧ seqAt H1 a = some xs ∧ ∀ (J : It) (S : Hp → Prop), Runs J xs.length S (fun i x H H' => H' = H ∧ xs[i]? = some x) → (∀ H', H' a = H1 a → S H') → R J H1) : iSeq K tl σ H R := h
theorem st_isSeq {a : Addr} {xs : List V} {R : It → Hp → Prop} (h1 : seqAt H a = some xs) (h : ∀ (J : It) (S : Hp → Prop), Runs J xs.length S (fun i x H H' => H' = H ∧ xs[i]? = some x) → (∀ H', H' a = H a → S H') → R J H) : ∃ a' xs', V.ref a = .ref a' ∧ seqAt H a' = some xs' ∧ ∀ (J : It) (S : Hp → Prop), Runs J xs'.length S (fun i x H H' => H' = H ∧ xs'[i]? = some x) → (∀ H', H' a' = H a' → S H') → R J H := ⟨a, xs, rfl, h1, h⟩
theorem st_iEnQ {ta : TA} {R : It → Hp → Prop} (h : ta σ H fun vs H1 => ∃ a xs, vs = [.ref a] ∧ seqAt H1 a = some xs ∧ ∀ (J : It) (S : Hp → Prop), Runs J xs.length S (fun i x H H' => ∃ T v, x = .ref T ∧ H T = none ∧ Ex H H' ∧ H' T = some (.tup [.int (i : Nat), v]) ∧ xs[i]? = some v) → (∀ H', H' a = H1 a → S H') → R J H1) : iEnQ K ta σ H R := h
theorem st_isEnQ {a : Addr} {xs : List V} {R : It → Hp → Prop} (h1 : seqAt H a = some xs) (h : ∀ (J : It) (S : Hp → Prop), Runs J xs.length S (fun i x H H' => ∃ T v, x = .ref T ∧ H T = none ∧ Ex H H' ∧ H' T = some (.tup [.int (i : Nat), v]) ∧ xs[i]? = some v) → (∀ H', H' a = H a → S H') → R J H) : ∃ a' xs', [V.ref a] = [.ref a'] ∧ seqAt H a' = some xs' ∧ ∀ (J : It) (S : Hp → Prop), Runs J xs'.length S (fun i x H H' => ∃ T v, x = .ref T ∧ H T = none ∧ Ex H H' ∧ H' T = some (.tup [.int (i : Nat), v]) ∧ xs'[i]? = some v) → (∀ H', H' a' = H a' → S H') → R J H := ⟨a, xs, rfl, h1, h⟩
end
def rIsT2 : List V → Hp → VK → Prop := fun vs H Q => ∃ (x : V) (tp : Addr) (n m t : String) (b c : Bool), vs = [x, .ref tp] ∧ H tp = some (.tup [.ty n, .ty m]) ∧ tyN H x = some t ∧ kitB t n = some b ∧ kitB t m = some c ∧ Q (.bl (b || c)) H
theorem kitAny_two {K : PySem.W.Frag} {t n m : String} {b c : Bool} (h1 : kitB t n = some b) (h2 : kitB t m = some c) : PySem.W.kitAny K (.type t) [.type n, .type m] = some (b || c) := by
  refine kitAny_cons (kit_ty h1) (fun hb => ?_) (fun hb => by rw [hb]; rfl)
  refine kitAny_cons (kit_ty h2) (fun hc => ?_) (fun hc => by rw [hc, Bool.or_true])
  rw [hb, hc]
  rfl
theorem c_isT2 {X : Cx} : CallR X (.builtin "isinstance") rIsT2 := by
  intro pins s σ H xs us Q I r h
  obtain ⟨x, tp, n, m, t, b, c, rfl, hT, ht, h1, h2, q⟩ := h
  exact call_isiT pins s σ H _ us Q I r ⟨x, tp, _, _, [.type n, .type m], b || c, rfl, hT, .cons (.ty _) (.cons (.ty _) .nil), tyN_ok ht, kitAny_two h1 h2, q⟩
theorem st_isT2 {H : Hp} {Q : VK} {x : V} {tp : Addr} {n m t : String} {b c : Bool} (hT : H tp = some (.tup [.ty n, .ty m])) (ht : tyN H x = some t) (h1 : kitB t n = some b) (h2 : kitB t m = some c) (h : Q (.bl (b || c)) H) : rIsT2 [x, .ref tp] H Q := ⟨x, tp, n, m, t, b, c, rfl, hT, ht, h1, h2, h⟩
theorem seqAt_eq {H H' : Hp} {a : Addr} {xs : List V} (h : seqAt H a = some xs) (e : H' a = H a) : seqAt H' a = some xs := by
  unfold seqAt at h ⊢
  rw [e]
  exact h
theorem seqAt_ex {H H' : Hp} {a : Addr} {xs : List V} (e : Ex H H') (h : seqAt H a = some xs) : seqAt H' a = some xs := by
  cases q : H a with
  | none => unfold seqAt at h; rw [q] at h; cases h
  | some o => exact seqAt_eq h (by rw [e a o (fun z => z) q, q])
theorem seqAt_same {H H' : Hp} {a : Addr} {xs : List V} (e : Ex H H') (h : seqAt H a = some xs) : H' a = H a := by
  cases q : H a with
  | none => unfold seqAt at h; rw [q] at h; cases h
  | some o => exact e a o (fun z => z) q
theorem seqAt_same' {M : Addr → Prop} {H H' : Hp} {a : Addr} {xs : List V} (e : Fr M H H') (n : ¬ M a) (h : seqAt H a = some xs) : H' a = H a := by
  cases q : H a with
  | none => unfold seqAt at h; rw [q] at h; cases h
  | some o => exact e a o n q
/-- the place of a number in a list of numbers -/
theorem st_index {H : Hp} {Q : VK} {K : PySem.W.Frag} {p : Addr} {ns : List Int} {y : Int} {j : Nat} (h1 : SqL K H p (ns.map V.int)) (hj : ns[j]? = some y) (hn : ∀ i, i < j → ns[i]? ≠ some y) (h : Q (.int (j : Nat)) H) : rIndex K (.ref p) [.int y] H Q := by
  refine ⟨p, ns.map V.int, .int y, j, .int y, rfl, rfl, h1, rfl, ?_, ?_, ?_, ?_, h⟩
  · rw [List.all_eq_true]
    intro v hv
    obtain ⟨i, _, rfl⟩ := List.mem_map.mp hv
    rfl
  · rw [List.getElem?_map, hj]
    rfl
  · show (y == y) = true
    exact beq_self_eq_true y
  · intro m z hm hz
    rw [List.getElem?_map] at hz
    cases q : ns[m]? with
    | none => rw [q] at hz; cases hz
    | some i =>
      rw [q] at hz
      cases hz
      show (i == y) = false
      rw [beq_eq_false_iff_ne]
      intro e
      exact hn m hm (by rw [q, e])
theorem st_isLT {H : Hp} {Q : VK} {x : V} {d : PyData} {tp : Addr} (h1 : Rq H x d) (hT : H tp = some (.tup [.ty "list", .ty "tuple"])) (h : Q (.bl (isListD d || isTupD d)) H) : rIsT2 [x, .ref tp] H Q := by
  obtain ⟨a1, a2, a3, a4, a5, a6, a7⟩ := kb_list
  obtain ⟨b1, b2, b3, b4, b5, b6, b7⟩ := kb_tup
  refine st_isT2 hT h1.tyn (b := isListD d) (c := isTupD d) ?_ ?_ h
  all_goals (cases d <;> assumption)
theorem Rn.seq {H : Hp} {x : V} {d : PyData} (h : Rn H x d) (hd : (isListD d || isTupD d) = true) : ∃ a xs ds, x = .ref a ∧ seqAt H a = some xs ∧ RnA H xs ds ∧ (d = .list ds ∨ d = .tuple ds) := by
  cases h with
  | lst h k => exact ⟨_, _, _, rfl, seq_l h, k, .inl rfl⟩
  | tup h k => exact ⟨_, _, _, rfl, seq_t h, k, .inr rfl⟩
  | _ => cases hd
def rDivW : R2 := fun x y H Q => match x, y with
  | .int i, .int j => 0 < j ∧ j < 1267650600228229401496703205376 ∧ Q (.int (i / j)) H
  | _, _ => False
theorem st_divW {H : Hp} {Q : VK} {i j : Int} (hc : 0 < j ∧ j < 1267650600228229401496703205376) (h : Q (.int (i / j)) H) : rDivW (.int i) (.int j) H Q := ⟨hc.1, hc.2, h⟩
section
variable {X : Cx} {K : PySem.W.Frag} {T id : String} {name : Str} {r : V → List V → Hp → VK → Prop} {o e : Expr} {es : List Expr} {to : TE} {t : TA} {apos cpos : Pos}
theorem m_index (hK : X.K = K := by rfl) : MtR X "list.index" (rIndex K) := by
  subst hK
  exact mt_index
theorem pe_bmK (pa : PlainAttrs T) (slot : Slot T name id) (hty : typeOf (.builtin id) = pure (.type "method_descriptor")) (hm : MtR X id r) (ho : PE X o to) (ha : PA X (e :: es) t) (hK : X.K = K := by rfl)
    (h1 : attributeBase o name X.env (eval o X.env) = eval o X.env := by rfl)
    (h2 : ((backTo cpos (starEach (e :: es) X.env)).all (fun x => !x.1) && (backToKw cpos (keywordEach [] X.env)).all (fun x => x.1.isSome) && decide ((e :: es).length + ([] : List Keyword).length + (if ([] : List Keyword).isEmpty then 0 else 1) < 30)) = true := by rfl)
    (h3 : (apos.endLine == cpos.line) = true := by rfl) (h4 : starEach (e :: es) X.env = (false, eval e X.env) :: starEach es X.env := by rfl) (h5 : (backTo cpos (starEach es X.env)).any (·.1) = false := by rfl) :
    PE X (.Call (.Attribute o name apos) (e :: es) [] cpos) (tBM K T r to t) := by
  subst hK
  exact pe_bm pa slot hty hm ho ha h1 h2 h3 h4 h5
end
def rNeA (K : PySem.W.Frag) : R2 := fun x y H Q => rNeU x y H Q ∨ rNeDA x y H Q
theorem o_neA {X : Cx} {K : PySem.W.Frag} (hu : X.A.units + 64 < cLine) : OpR X (compareOp .NotEq) (rNeA K) := by
  intro pins s σ H x y v u Q I rx ry h
  rcases h with h | h
  · exact o_ne hu pins s σ H x y v u Q I rx ry h
  · exact op_ne_dictA (by omega) pins s σ H x y v u Q I rx ry h
section
variable {K : PySem.W.Frag} {H : Hp} {Q : VK}
theorem st_neA {x y : V} {d e : PyData} (h1 : Rp H x d) (h2 : Rp H y e) (hd : min d.depth e.depth ≤ 64) (h : Q (.bl (!PyData.eqv d e)) H) : rNeA K x y H Q := .inl ⟨d, e, h1, h2, hd, h⟩
end
end Zb
namespace Zb
open PySem PySem.Spec PyProof.Rows L2
section
variable {X : Cx} {K : PySem.W.Frag} {H : Hp} {Q : VK}
def rMaxL (K : PySem.W.Frag) : List V → Hp → VK → Prop := rMax K
theorem c_max1 (hc : X.calm = true) (hK : X.K = K := by rfl) : CallR X (.builtin "max") (rMaxL K) := by subst hK; exact cr_max hc
theorem st_maxL {a : Addr} {ns : List Int} (h1 : SqL K H a (ns.map V.int)) (h0 : 0 < ns.length) (h : ∀ m, m ∈ ns → (∀ y, y ∈ ns → y ≤ m) → Q (.int m) H) : rMaxL K [.ref a] H Q := ⟨a, ns, rfl, h1, h0, h⟩
end
theorem rv_of {α : Type} {J : It} {S : Hp → Prop} {ys : List α} {val : α → V} (h : Runs J (ys.map val).length S (fun i x H H' => H' = H ∧ (ys.map val)[i]? = some x)) : RunsV J ys val S := by
  rw [List.length_map] at h
  refine ⟨h.go, h.stop, fun i H x H' hi s y => ?_⟩
  obtain ⟨e1, e2⟩ := h.yld i H x H' hi s y
  rw [List.getElem?_map] at e2
  cases q : ys[i]? with
  | none => rw [q] at e2; cases e2
  | some z =>
    rw [q] at e2
    exact ⟨e1, z, rfl, (Option.some.inj e2).symm⟩
theorem gTup_mono {K : PySem.W.Frag} {n i j : Nat} : ∀ v σ H (P P' : L2.St → Hp → Prop), (∀ σ H, P σ H → P' σ H) → gTup K n (gCons (gName i) (gCons (gName j) gNil)) v σ H P → gTup K n (gCons (gName i) (gCons (gName j) gNil)) v σ H P' := by
  intro v σ H P P' k h
  obtain ⟨a, xs, h1, h2, h3, v1, r1, e1, v2, r2, e2, e3, h4⟩ := h
  exact ⟨a, xs, h1, h2, h3, v1, r1, e1, v2, r2, e2, e3, k _ _ h4⟩
/-- tuples of like things: the very same ones, or data that are alike -/
inductive Lk (H : Hp) : V → V → Prop
  | same (a : Addr) : Lk H (.ref a) (.ref a)
  | dat {x y : V} {d e : PyData} : Rp H x d → Rp H y e → min d.depth e.depth ≤ 60 → PyData.eqv d e = true → Lk H x y
section
variable {K : PySem.W.Frag} {H : Hp} {Q : VK}
theorem Lk.str (z : Str) : Lk H (.str z) (.str z) := .dat (.str z) (.str z) (by simp [PyData.depth]) (by rw [eqv_str]; exact decide_eq_true rfl)
theorem Lk.bl (z : Bool) : Lk H (.bl z) (.bl z) := .dat (.bl z) (.bl z) (by simp [PyData.depth]) (by cases z <;> rfl)
theorem Lk.int (z : Int) : Lk H (.int z) (.int z) := .dat (.int z) (.int z) (by simp [PyData.depth]) (by rw [eqv_int]; exact decide_eq_true rfl)
theorem st_dinU {ty td : TE} {σ : L2.St} (h : ty σ H fun y H1 => td σ H1 fun x H2 => ∃ a o, x = .ref a ∧ DGet H2 a y o ∧ Q (.bl o.isSome) H2) : tDIn ty td σ H Q := h
theorem st_dninU {ty td : TE} {σ : L2.St} (h : ty σ H fun y H1 => td σ H1 fun x H2 => ∃ a o, x = .ref a ∧ DGet H2 a y o ∧ Q (.bl (!o.isSome)) H2) : tDNotIn ty td σ H Q := h
theorem st_dputU {td ty tv : TE} {D : Ends} {σ : L2.St} (h : tv σ H fun v H1 => td σ H1 fun x H2 => ty σ H2 fun y H3 => ∃ a H4, x = .ref a ∧ DPut H3 a y v H4 ∧ D.nx σ H4) : sDPut td ty tv D σ H := h
theorem st_dnewT {σ : L2.St} (h : ∀ p H', H p = none → Ex H H' → H' p = some (.dT []) → Q (.ref p) H') : tDNewT σ H Q := fun p hp => h p _ hp (Fr.new hp) upd_same
end
end Zb
namespace Zb
open PySem PySem.Spec PyProof.Rows L2
/-- a method of the class cls -/
structure Dm (K : PySem.W.Frag) (cls m qual : Str) (st : Stmt) (ps : List Str) (f : Addr) (fd : FuncData) : Prop where
  g : Meth K (clsA K cls) m f
  F : Fun K m qual st f fd
  b : Binds K fd ps []
theorem dm_mk {K : PySem.W.Frag} {cls m qual : Str} {st : Stmt} {ps : List Str} {f : Addr} {oc : Value} {od an : Option Addr} {osl : Array (Option Value)} {kV dc pm cd ct : Value}
    (a : PySem.W.findIn K (.ref (clsA K cls)) m = some (some (.ref f))) (i : PySem.W.isFn K (.ref f) = true) (l : K.lookup f = some ⟨oc, od, .func (PySem.W.fnOf m qual (defArgs st) (defBody st) (defScope st) .none kV dc pm an cd ct), osl⟩) (c : PySem.W.codeIn K cd qual = true) (k : PySem.W.keepIn K (.ref f) = true)
    (hb : ∀ (kV doc pm : Value) (an : Option Addr) (cdv ct : Value) (us : List Value), us.length = ps.length → bindArgs (PySem.W.fnOf m qual (defArgs st) (defBody st) (defScope st) .none kV doc pm an cdv ct) ⟨us, []⟩ = pure (ps.zip us)) :
    Dm K cls m qual st ps f (PySem.W.fnOf m qual (defArgs st) (defBody st) (defScope st) .none kV dc pm an cd ct) :=
  have F := fun_mk (st := st) l c k
  ⟨⟨a, i, k⟩, F, F.binds hb⟩
section
variable {X : Cx} {K : PySem.W.Frag} {e o value : Expr} {f : Str} {pos pos' : Pos} {ta tv : TE}
theorem pe_fldK (he : PE X e ta) (hb : attributeBase e f X.env (eval e X.env) = eval e X.env) (hK : X.K = K := by rfl) : PE X (.Attribute e f pos) (tFld K ta f) := by subst hK; exact pe_fld he hb
theorem ps_fldK (ha : PE X o ta) (hv : PE X value tv) (hs : swapsWith value (some (.Attribute o f pos')) pos.line X.env = pure false) (hK : X.K = K := by rfl) : PS X (.Assign [.Attribute o f pos'] value pos) (sFld K ta tv f) := by subst hK; exact ps_fld ha hv hs
end
section
variable {K : PySem.W.Frag} {σ : L2.St} {H : Hp} {Q : VK} {D : Ends} {C : Addr}
def FldP (K : PySem.W.Frag) (f : Str) (Q : VK) (x : V) (H1 : Hp) : Prop := ∃ a C dx fs v, x = .ref a ∧ H1 a = some (.ins C dx fs) ∧ Cls K C ∧ NoAttr K C f ∧ fs.lookup f = some v ∧ Q v H1
theorem st_fld {ta : TE} {f : Str} (h : ta σ H (FldP K f Q)) : tFld K ta f σ H Q := h
theorem st_fldP {f : Str} {a dx : Addr} {fs : List (Str × V)} {v : V} (h1 : H a = some (.ins C dx fs)) (c : Cls K C) (n : NoAttr K C f) (l : fs.lookup f = some v) (h : Q v H) : FldP K f Q (.ref a) H := ⟨a, C, dx, fs, v, rfl, h1, c, n, l, h⟩
def FldS (K : PySem.W.Frag) (f : Str) (y : V) (P : Hp → Prop) (x : V) (H2 : Hp) : Prop := ∃ a C dx fs, x = .ref a ∧ H2 a = some (.ins C dx fs) ∧ Cls K C ∧ NoAttr K C f ∧ fs.length < 1000 ∧ P (upd H2 a (.ins C dx (putF f y fs)))
theorem st_fldS {ta tv : TE} {f : Str} (h : tv σ H fun y H1 => ta σ H1 (FldS K f y (D.nx σ))) : sFld K ta tv f D σ H := h
theorem st_fldSP {f : Str} {y : V} {P : Hp → Prop} {a dx : Addr} {fs : List (Str × V)} (h1 : H a = some (.ins C dx fs)) (c : Cls K C) (n : NoAttr K C f) (l : fs.length < 1000) (h : P (upd H a (.ins C dx (putF f y fs)))) : FldS K f y P (.ref a) H := ⟨a, C, dx, fs, rfl, h1, c, n, l, h⟩
theorem putF_nil {f : Str} {y : V} : putF f y [] = [(f, y)] := rfl
theorem putF_ne {f g : Str} {y v : V} {r : List (Str × V)} (h : ¬ g = f) : putF f y ((g, v) :: r) = (g, v) :: putF f y r := by
  show (if g = f then _ else _) = _
  rw [if_neg h]
def MethP (C : Addr) (m : Str) (sp : Sp) (dvs : List V) (E : XK) (t : TA) (σ : L2.St) (Q : VK) (x : V) (H1 : Hp) : Prop := ∃ a dx fs, x = .ref a ∧ H1 a = some (.ins C dx fs) ∧ fs.lookup m = none ∧ t σ H1 fun vs H2 => sp (x :: (vs ++ dvs)) H2 Q E
theorem st_meth {m : Str} {sp : Sp} {dvs : List V} {E : XK} {ta : TE} {t : TA} (h : ta σ H (MethP C m sp dvs E t σ Q)) : tMeth C m sp dvs E ta t σ H Q := h
theorem st_methP {m : Str} {sp : Sp} {dvs : List V} {E : XK} {t : TA} {a dx : Addr} {fs : List (Str × V)} (h1 : H a = some (.ins C dx fs)) (l : fs.lookup m = none) (h : t σ H fun vs H2 => sp (.ref a :: (vs ++ dvs)) H2 Q E) : MethP C m sp dvs E t σ Q (.ref a) H := ⟨a, dx, fs, rfl, h1, l, h⟩
def MakeP (C : Addr) (sp : Sp) (dvs : List V) (E : XK) (Q : VK) (vs : List V) (H1 : Hp) : Prop := ∀ x dx, H1 x = none → H1 dx = none → dx ≠ x → sp (.ref x :: (vs ++ dvs)) (upd (upd H1 dx (.own x)) x (.ins C dx [])) (fun v H2 => v = .non ∧ Q (.ref x) H2) E
theorem st_make {sp : Sp} {dvs : List V} {E : XK} {t : TA} (h : t σ H (MakeP C sp dvs E Q)) : tMake C sp dvs E t σ H Q := h
theorem st_makeP {sp : Sp} {dvs : List V} {E : XK} {vs : List V} (h : ∀ x dx H', H x = none → Ex H H' → H' x = some (.ins C dx []) → sp (.ref x :: (vs ++ dvs)) H' (fun v H2 => v = .non ∧ Q (.ref x) H2) E) : MakeP C sp dvs E Q vs H := fun x dx nx nd ne =>
  h x dx _ nx ((Fr.new nd).trans (Fr.new (by rw [upd_ne (Ne.symm ne)]; exact nx))) upd_same
end
/-- a comprehension whose items are new objects of which something is told -/
theorem lc_mk {J : It} {S : Hp → Prop} {item : Nat → V → Hp → Hp → Prop} {g : TG} {σ : L2.St} {H1 : Hp} {te : TE} {vs : List Nat} {Q : VK} {n : Nat} (hR : Runs J n S item) (hE : ∀ i x H H', item i x H H' → Ex H H') (hS : ∀ H', Ex H1 H' → S H') (hz : n < 1000000) (R : Nat → HO → Prop)
    (hs : ∀ i x H' H'', i < n → Ex H1 H' → item i x H' H'' → ∀ (B : V → Hp → Prop), (∀ a H3 o, H'' a = none → Ex H'' H3 → H3 a = some o → R i o → B (.ref a) H3) → g x (wipe σ vs) H'' fun σ2 H2 => wipe σ2 vs = wipe σ vs ∧ te σ2 H2 B)
    (hd : ∀ D H' ts os, H1 D = none → Ex H1 H' → H' D = some (.lst (ts.map V.ref)) → ObjsAt H' ts os → os.length = n → (∀ i o, os[i]? = some o → R i o) → D ∉ ts → (∀ a ∈ ts, H1 a = none) → Q (.ref D) H')
    (hg : ∀ v σ H (P P' : L2.St → Hp → Prop), (∀ σ H, P σ H → P' σ H) → g v σ H P → g v σ H P' := by intro _ _ _ _ _ k h; exact k _ _ h) : LcGoal J g tYes te vs σ Q H1 := by
  intro D hD
  let W : Nat → Hp → Prop := fun i H => ∃ (ts : List Addr) (os : List HO), H D = some (.lst (ts.map V.ref)) ∧ Ex H1 H ∧ ObjsAt H ts os ∧ os.length = i ∧ (∀ j o, os[j]? = some o → R j o) ∧ D ∉ ts ∧ ∀ a ∈ ts, H1 a = none
  refine ⟨fun i m H => m = n - i ∧ i ≤ n ∧ W i H, ⟨n, by simp, Nat.zero_le _, [], [], upd_same, Fr.new hD, .nil, rfl, by simp, by simp, by simp⟩, ?_⟩
  rintro i m H ⟨rfl, hi, ts, os, h1, h2, h3, h4, h5, h6, h7⟩
  by_cases hlt : i < n
  · refine .inr ⟨hR.go i H hlt (hS H h2), W (i + 1), fun H' p' => ⟨n - (i + 1), by omega, rfl, hlt, p'⟩, fun x H' y => ?_⟩
    have hx := hR.yld i H x H' hlt (hS H h2) y
    have e := hE _ _ _ _ hx
    refine hg _ _ _ _ _ (fun σ2 H2 h => ⟨h.1, h.2⟩) (hs i x H H' hlt h2 hx (fun v H4 => ∃ acc, H4 D = some (.lst acc) ∧ acc.length < sizeLine ∧ W (i + 1) (upd H4 D (.lst (acc ++ [v])))) ?_)
    intro a H3 o ha e3 hv hr
    have h1' := e.get h1
    have hDa : a ≠ D := fun z => by rw [z, h1'] at ha; cases ha
    have haN : a ∉ ts := fun z => by
      obtain ⟨k, hk⟩ := List.getElem?_of_mem z
      have hk2 : k < os.length := by
        rw [← h3.len]; exact (List.getElem?_eq_some_iff.mp hk).1
      have := e.get (h3.at k a _ hk (List.getElem?_eq_getElem hk2))
      rw [this] at ha
      cases ha
    refine ⟨ts.map V.ref, e3.get h1', by rw [List.length_map, h3.len, sl16]; omega, ts ++ [a], os ++ [o], by rw [upd_same, List.map_append]; rfl, ((h2.trans e).trans e3).mut hD, ?_, by rw [List.length_append, h4]; rfl, ?_, ?_, ?_⟩
    · refine .up ?_ (((h3.ex e).ex e3).app (.one hv))
      rw [List.mem_append, List.mem_singleton]
      rintro (z | z)
      · exact h6 z
      · exact hDa z.symm
    · intro j o' ho
      by_cases hj : j < os.length
      · rw [List.getElem?_append_left hj] at ho
        exact h5 j o' ho
      · rw [List.getElem?_append_right (by omega)] at ho
        have hj0 : j - os.length = 0 := by
          have := (List.getElem?_eq_some_iff.mp ho).1
          rw [List.length_singleton] at this
          omega
        rw [hj0] at ho
        cases ho
        rw [show j = i by omega]
        exact hr
    · rw [List.mem_append, List.mem_singleton]
      rintro (z | z)
      · exact h6 z
      · exact hDa z.symm
    · intro b hb
      rcases List.mem_append.mp hb with h | h
      · exact h7 b h
      · rw [List.mem_singleton.mp h]; exact Ex.free (h2.trans e) ha
  · have e : i = n := by omega
    subst e
    exact .inl ⟨hR.stop H (hS H h2), hd D H ts os hD h2 h1 h3 h4 h5 h6 h7⟩
theorem objs_choose {α : Type} {f : α → HO} {P : Nat → α → Prop} : ∀ {os : List HO}, (∀ i o, os[i]? = some o → ∃ c, o = f c ∧ P i c) → ∃ cs : List α, os = cs.map f ∧ ∀ i c, cs[i]? = some c → P i c := by
  intro os
  induction os using snoc_ind with
  | h0 => intro _; exact ⟨[], rfl, by simp⟩
  | hs l a ih =>
    intro h
    obtain ⟨cs, h1, h2⟩ := ih fun i o ho => h i o (by rw [List.getElem?_append_left (List.getElem?_eq_some_iff.mp ho).1]; exact ho)
    obtain ⟨c, h3, h4⟩ := h l.length a (by rw [List.getElem?_append_right (Nat.le_refl _), Nat.sub_self]; rfl)
    have hl : l.length = cs.length := by rw [h1, List.length_map]
    refine ⟨cs ++ [c], by rw [h1, h3, List.map_append]; rfl, fun i d hd => ?_⟩
    by_cases hi : i < cs.length
    · rw [List.getElem?_append_left hi] at hd
      exact h2 i d hd
    · rw [List.getElem?_append_right (by omega)] at hd
      have hi0 : i - cs.length = 0 := by
        have := (List.getElem?_eq_some_iff.mp hd).1
        rw [List.length_singleton] at this
        omega
      rw [hi0] at hd
      cases hd
      rw [show i = l.length by omega]
      exact h4
theorem evL_len {α : Type} : ∀ xs : List α, (evL xs).length = (xs.length + 1) / 2
  | [] => by simp [evL]
  | [_] => by simp [evL]
  | a :: b :: r => by
    show (evL r).length + 1 = (r.length + 2 + 1) / 2
    rw [evL_len r]
    omega
theorem odL_len {α : Type} : ∀ xs : List α, (odL xs).length = xs.length / 2
  | [] => by simp [odL]
  | [_] => by simp [odL]
  | a :: b :: r => by
    show (odL r).length + 1 = (r.length + 2) / 2
    rw [odL_len r]
    omega
/-- what is new in H' -/
def newO (H H' : Hp) : Hp := fun b => if H b = none then H' b else none
theorem newO_get {H H' : Hp} {a : Addr} {o : HO} (h : H' a = some o) (n : H a = none) : newO H H' a = some o := by
  unfold newO
  rw [if_pos n]
  exact h
theorem newO_is {H H' : Hp} {a : Addr} {o : HO} (h : newO H H' a = some o) : H a = none ∧ H' a = some o := by
  unfold newO at h
  by_cases n : H a = none
  · rw [if_pos n] at h; exact ⟨n, h⟩
  · rw [if_neg n] at h; cases h
theorem newO_ex (H H' : Hp) : Ex (newO H H') H' := fun _ _ _ h => (newO_is h).2
theorem newO_mono {H H' H'' : Hp} (e : Ex H' H'') : Ex (newO H H') (newO H H'') := fun b o _ h => newO_get (e.get (newO_is h).2) (newO_is h).1
/-- an old place is changed, a new thing stands -/
theorem newO_fr {H H' G : Hp} (h : ∀ b o, H b = none → H' b = some o → G b = some o) : Ex (newO H H') G := fun b o _ q => h b o (newO_is q).1 (newO_is q).2
theorem objs_in {H G : Hp} : ∀ {ts : List Addr} {os : List HO}, (∀ a ∈ ts, ∀ o, H a = some o → G a = some o) → ObjsAt H ts os → ObjsAt G ts os
  | _, _, _, .nil => .nil
  | _, _, hm, .cons h r => .cons (hm _ List.mem_cons_self _ h) (objs_in (fun a ha => hm a (List.mem_cons_of_mem _ ha)) r)
end Zb
namespace Zb
open PySem PySem.Spec PyProof.Rows L2
end Zb
namespace Zb
open PySem PySem.Spec PyProof.Rows L2
open Evl (tCut pss_cut)
/-- an exception of the class cls, its dict at d, kept at a -/
def XkO (a : Addr) (cls : Value) (d : Option Addr) : HO := .ext fun h => ∃ (oe : Obj) (vs : Array Value), h.get? a = some oe ∧ Zc cls d oe ∧ oe.data = .fields vs
def XkP (K : PySem.W.Frag) (n : Str) (Q : VK) : VK := fun x H1 => ∃ (a C dd : Addr) (fs : List (Str × V)) (v : V), x = .ref a ∧ H1 a = some (XkO a (.ref C) (some dd)) ∧ XI K C ∧ PySem.W.findIn K (.ref C) n = some none ∧ H1 dd = some (.xd fs) ∧ fs.lookup n = some v ∧ Q v H1
def tXk (K : PySem.W.Frag) (n : Str) (te : TE) : TE := fun σ H Q => te σ H (XkP K n Q)
section
variable {X : Cx} {K : PySem.W.Frag}
/-- isinstance(e, C), isinstance(e, (C1, ..)), e a kept exception -/
def rIsK (K : PySem.W.Frag) : List V → Hp → VK → Prop := fun xs H Q => ∃ (a : Addr) (c : V) (cv : Value) (b : Bool) (C dd : Addr) (fs : List (Str × V)), xs = [.ref a, c] ∧ H a = some (XkO a (.ref C) (some dd)) ∧ (∀ u, RelV c u → u = cv) ∧ XI K C ∧ H dd = some (.xd fs) ∧ PySem.W.kitOne K (.ref C) cv = some b ∧ Q (.bl b) H
def rIsKs (K : PySem.W.Frag) : List V → Hp → VK → Prop := fun xs H Q => ∃ (a tp : Addr) (cs : List V) (cvs : List Value) (b : Bool) (C dd : Addr) (fs : List (Str × V)), xs = [.ref a, .ref tp] ∧ H a = some (XkO a (.ref C) (some dd)) ∧ H tp = some (.tup cs) ∧ (∀ us, Vals cs us → us = cvs) ∧ XI K C ∧ H dd = some (.xd fs) ∧ PySem.W.kitAny K (.ref C) cvs = some b ∧ Q (.bl b) H
end
section
variable {K : PySem.W.Frag} {σ : L2.St} {H : Hp} {Q : VK}
theorem st_xk {n : Str} {te : TE} (h : te σ H (XkP K n Q)) : tXk K n te σ H Q := h
theorem st_xkP {a C dd : Addr} {n : Str} {fs : List (Str × V)} {v : V} (h0 : H a = some (XkO a (.ref C) (some dd))) (T : XI K C) (hno : PySem.W.findIn K (.ref C) n = some none) (h1 : H dd = some (.xd fs)) (h2 : fs.lookup n = some v) (h : Q v H) : XkP K n Q (.ref a) H := ⟨a, C, dd, fs, v, rfl, h0, T, hno, h1, h2, h⟩
theorem st_isK {a C C' dd : Addr} {fs : List (Str × V)} {b : Bool} (h0 : H a = some (XkO a (.ref C) (some dd))) (T : XI K C) (h1 : H dd = some (.xd fs)) (e : PySem.W.kitOne K (.ref C) (.ref C') = some b) (h : Q (.bl b) H) : rIsK K [.ref a, .ref C'] H Q :=
  ⟨a, .ref C', .ref C', b, C, dd, fs, rfl, h0, fun u r => by cases r; rfl, T, h1, e, h⟩
theorem st_isKT {a C dd : Addr} {fs : List (Str × V)} {n : String} {b : Bool} (h0 : H a = some (XkO a (.ref C) (some dd))) (T : XI K C) (h1 : H dd = some (.xd fs)) (e : PySem.W.kitOne K (.ref C) (.type n) = some b) (h : Q (.bl b) H) : rIsK K [.ref a, .ty n] H Q :=
  ⟨a, .ty n, .type n, b, C, dd, fs, rfl, h0, fun u r => by cases r; rfl, T, h1, e, h⟩
/-- of no class among these -/
inductive KitN (K : PySem.W.Frag) (C : Addr) : List V → Prop
  | nil : KitN K C []
  | cons {D : Addr} {l : List V} : PySem.W.kitOne K (.ref C) (.ref D) = some false → KitN K C l → KitN K C (.ref D :: l)
theorem KitN.any {C : Addr} : ∀ {l : List V}, KitN K C l → ∃ cvs : List Value, (∀ us, Vals l us → us = cvs) ∧ PySem.W.kitAny K (.ref C) cvs = some false
  | _, .nil => ⟨[], fun us r => by cases r; rfl, rfl⟩
  | _, .cons (D := D) h t => by
    obtain ⟨cvs, h1, h2⟩ := t.any
    refine ⟨.ref D :: cvs, fun us r => ?_, ?_⟩
    · cases r with
      | cons r1 rr =>
        cases r1
        rw [h1 _ rr]
    · unfold PySem.W.kitAny
      rw [h]
      exact h2
theorem st_isKs {a C dd tp : Addr} {cs : List V} {fs : List (Str × V)} (h0 : H a = some (XkO a (.ref C) (some dd))) (T : XI K C) (h1 : H dd = some (.xd fs)) (ht : H tp = some (.tup cs)) (k : KitN K C cs) (h : Q (.bl false) H) : rIsKs K [.ref a, .ref tp] H Q := by
  obtain ⟨cvs, k1, k2⟩ := k.any
  exact ⟨a, tp, cs, cvs, false, C, dd, fs, rfl, h0, ht, k1, T, h1, k2, h⟩
end
end Zb
namespace Zb
open PySem PySem.Spec PyProof.Rows L2
open Evl (tCut pss_cut)
def rRv : V → Hp → VK → Prop := fun x H Q => ∃ a xs, x = .ref a ∧ ((lstAt H a = some xs ∧ ∀ q, H q = none → Q (.ref q) (upd H q (.lst xs.reverse))) ∨ (tupAt H a = some xs ∧ ∀ q, H q = none → Q (.ref q) (upd H q (.tup xs.reverse))))
def tRv (te ts : TE) : TE := fun σ H Q => te σ H fun x H1 => ts σ H1 fun s H4 => s = .int (-1) ∧ rRv x H4 Q
section
variable {K : PySem.W.Frag} {σ : L2.St} {H : Hp} {Q : VK}
def RvP (Q : VK) (x s : V) (H4 : Hp) : Prop := s = .int (-1) ∧ rRv x H4 Q
theorem st_rv {te ts : TE} (h : te σ H fun x H1 => ts σ H1 fun s H4 => RvP Q x s H4) : tRv te ts σ H Q := h
theorem st_rvQ {a : Addr} {xs : List V} (h1 : seqAt H a = some xs) (h : ∀ q H', H q = none → Ex H H' → seqAt H' q = some xs.reverse → Q (.ref q) H') : RvP Q (.ref a) (.int (-1)) H :=
  ⟨rfl, a, xs, rfl, (seqAt_cases h1).elim (fun z => .inl ⟨z, fun q hq => h q _ hq (Fr.new hq) (seq_l upd_same)⟩) fun z => .inr ⟨z, fun q hq => h q _ hq (Fr.new hq) (seq_t upd_same)⟩⟩
end
end Zb
namespace SrtO
open PySem PyProof.Rows Srt
end SrtO
namespace Zb
open PySem PySem.Spec PyProof.Rows L2
end Zb
namespace Zb
open PySem PySem.Spec PyProof.Rows L2
/-- x += a text -/
def rIpS : R2 := fun x y H Q => ∃ a b : Str, x = .str a ∧ y = .str b ∧ a.length + b.length ≤ 16777216 ∧ Q (.str (a ++ b)) H
theorem ip_addS {X : Cx} : PIp X .Add rIpS := by
  intro pins s σ H x y v u Q I r1 r2 h
  obtain ⟨a, b, rfl, rfl, hz, q⟩ := h
  exact iop_add_str pins s σ H _ _ v u Q I r1 r2 ⟨a, b, rfl, rfl, by rw [sl16]; exact hz, q⟩
section
variable {σ : L2.St} {H : Hp} {Q : VK} {D : Ends}
theorem st_augS {i : Nat} {te : TE} {z : Str} (hx : σ[i]? = some (some (.str z))) (h : te σ H (fun y H1 => rIpS (.str z) y H1 fun z H2 => D.nx (σ.set i (some z)) H2)) : tAug i te rIpS D σ H := ⟨_, hx, h⟩
theorem st_ipS {x y : Str} (hz : x.length + y.length ≤ 16777216) (h : Q (.str (x ++ y)) H) : rIpS (.str x) (.str y) H Q := ⟨x, y, rfl, rfl, hz, h⟩
end
end Zb
namespace Zb
open PySem PySem.Spec PyProof.Rows L2
section
variable {J : It} {S : Hp → Prop} {g : TG} {σ : L2.St} {H1 : Hp}
/-- a comprehension whose turns each make new things: P, what is told of the one at an address -/
theorem lc_made {α : Type} {ys : List α} {val : α → V} {te : TE} {vs : List Nat} {Q : VK} (hR : RunsV J ys val S) (hS : ∀ H', Ex H1 H' → S H') (hz : ys.length < 1000000) (P : α → Addr → Hp → Prop) (hP : ∀ y a H H', P y a H → Ex H H' → P y a H')
    (hs : ∀ y H', y ∈ ys → Ex H1 H' → ∀ (B : V → Hp → Prop), (∀ a H'', Ex H' H'' → (∀ G : Hp, (∀ b o, H' b = none → H'' b = some o → G b = some o) → P y a G) → B (.ref a) H'') → g (val y) (wipe σ vs) H' fun σ2 H2 => wipe σ2 vs = wipe σ vs ∧ te σ2 H2 B)
    (hd : ∀ D H' (ts : List Addr), H1 D = none → Ex H1 H' → H' D = some (.lst (ts.map V.ref)) → ts.length = ys.length → (∀ (k : Nat) (a : Addr) (y : α), ts[k]? = some a → ys[k]? = some y → P y a H') → Q (.ref D) H')
    (hg : ∀ v σ H (P P' : L2.St → Hp → Prop), (∀ σ H, P σ H → P' σ H) → g v σ H P → g v σ H P' := by intro _ _ _ _ _ k h; exact k _ _ h) : LcGoal J g tYes te vs σ Q H1 := by
  intro D hD
  obtain ⟨W, hW⟩ : ∃ W : Nat → Hp → Prop, W = fun i H => ∃ ts : List Addr, H D = some (.lst (ts.map V.ref)) ∧ Ex H1 H ∧ ts.length = i ∧ ∀ (k : Nat) (a : Addr) (y : α), ts[k]? = some a → ys[k]? = some y → P y a (hid D H) := ⟨_, rfl⟩
  have hWi : ∀ i H, W i H ↔ ∃ ts : List Addr, H D = some (.lst (ts.map V.ref)) ∧ Ex H1 H ∧ ts.length = i ∧ ∀ (k : Nat) (a : Addr) (y : α), ts[k]? = some a → ys[k]? = some y → P y a (hid D H) := fun i H => by rw [hW]
  refine ⟨fun i m H => m = ys.length - i ∧ i ≤ ys.length ∧ W i H, ⟨ys.length, by simp, Nat.zero_le _, (hWi _ _).mpr ⟨[], upd_same, Fr.new hD, rfl, fun k a y h _ => by simp at h⟩⟩, ?_⟩
  rintro i m H ⟨rfl, hi, hw⟩
  obtain ⟨ts, h1, h2, h3, h4⟩ := (hWi _ _).mp hw
  by_cases hlt : i < ys.length
  · refine .inr ⟨hR.go i H hlt (hS H h2), W (i + 1), fun H' p' => ⟨ys.length - (i + 1), by omega, rfl, hlt, p'⟩, fun x H' y => ?_⟩
    obtain ⟨rfl, y0, hy, rfl⟩ := hR.yld i H x H' hlt (hS H h2) y
    refine hg _ _ _ _ _ (fun σ2 H2 h => ⟨h.1, h.2⟩) (hs y0 H' (List.mem_of_getElem? hy) h2 (fun v H4 => ∃ acc, H4 D = some (.lst acc) ∧ acc.length < sizeLine ∧ W (i + 1) (upd H4 D (.lst (acc ++ [v])))) ?_)
    intro a H4 e hn
    have hup : ∀ o, hid D (upd H4 D o) = hid D H4 := fun o => by
      funext b
      unfold hid
      by_cases n : b = D
      · rw [if_pos n, if_pos n]
      · rw [if_neg n, if_neg n, upd_ne n]
    have hst : Ex (hid D H') (hid D H4) := fun b o _ q => by
      unfold hid at q ⊢
      by_cases n : b = D
      · rw [if_pos n] at q; cases q
      · rw [if_neg n] at q ⊢
        exact e.get q
    refine ⟨ts.map V.ref, e.get h1, by rw [List.length_map, sl16]; omega, (hWi _ _).mpr ⟨ts ++ [a], by rw [upd_same, List.map_append]; rfl, (h2.trans e).mut hD, by rw [List.length_append, h3]; rfl, fun k b y hk hky => ?_⟩⟩
    rw [hup]
    by_cases hkl : k < ts.length
    · rw [List.getElem?_append_left hkl] at hk
      exact hP y b _ _ (h4 k b y hk hky) hst
    · rw [List.getElem?_append_right (by omega)] at hk
      have hk0 : k = ts.length := by
        have := (List.getElem?_eq_some_iff.mp hk).1
        rw [List.length_singleton] at this
        omega
      subst hk0
      rw [Nat.sub_self] at hk
      cases hk
      rw [h3, hy] at hky
      cases hky
      exact hn _ fun b o hb ho => hid_get ho fun z => by rw [z, h1] at hb; cases hb
  · have e : i = ys.length := by omega
    subst e
    exact .inl ⟨hR.stop H (hS H h2), hd D H ts hD h2 h1 h3 fun k a y hk hky => hP y a _ _ (h4 k a y hk hky) (hid_ex D H)⟩
end
end Zb
namespace Zb
open PySem PySem.Spec PyProof.Rows L2
section
variable {X : Cx} {CX : CXT} {k : Nat} {f C : Addr} {fd : FuncData} {ps : List Str} {sp : Sp} {E : L2.St → XK} {x m : Str} {p pos apos : Pos} {e o : Expr} {es : List Expr} {ta : TE} {t : TA}
def tMethS (C : Addr) (m : Str) (sp : Sp) (E : L2.St → XK) (ta : TE) (t : TA) : TE := fun σ H Q => ta σ H (MethP C m sp [] (E σ) t σ Q)
def tMakeS (C : Addr) (sp : Sp) (E : L2.St → XK) (t : TA) : TE := fun σ H Q => t σ H (MakeP C sp [] (E σ) Q)
end
section
variable {σ : L2.St} {H : Hp} {Q : VK} {C : Addr} {sp : Sp} {W : WX}
theorem st_methS {m : Str} {ta : TE} {t : TA} (h : ta σ H (MethP C m sp [] (WE W σ) t σ Q)) : tMethS C m sp (WE W) ta t σ H Q := h
theorem st_makeS {t : TA} (h : t σ H (MakeP C sp [] (WE W σ) Q)) : tMakeS C sp (WE W) t σ H Q := h
end
end Zb
namespace Zb
open PySem PySem.Spec PyProof.Rows L2 SrtO
def IsTri (h : Heap) (v : Value) (k : Int × Int × Int) : Prop := ∃ a o t u r n, v = .ref a ∧ h.get? a = some o ∧ o.cls = .type "tuple" ∧ o.data = .seq #[.int k.1 t, .int k.2.1 u, .int k.2.2 r] n
theorem IsTri.keeps {h h' : Heap} {v : Value} {k : Int × Int × Int} (p : IsTri h v k) (kk : ∀ b o, h.get? b = some o → o.cls = .type "tuple" → h'.get? b = some o) : IsTri h' v k := by
  obtain ⟨a, o, t, u, r, n, e, ho, hc, hd⟩ := p
  exact ⟨a, o, t, u, r, n, e, kk _ _ ho hc, hc, hd⟩
def tri3 (q : Int × Int × Int) : HO := .tup [.int q.1, .int q.2.1, .int q.2.2]
abbrev ZT := Addr × (Int × Int × Int)
def T3 (H : Hp) (zs : List ZT) : Prop := ∀ z ∈ zs, H z.1 = some (tri3 z.2)
section
variable {H H' : Hp} {zs ys : List ZT}
theorem T3.ex (h : T3 H zs) (e : Ex H H') : T3 H' zs := fun z hz => e.get (h z hz)
theorem T3.up {D : Addr} {xs : List V} {u : HO} (h : T3 H zs) (hD : H D = some (.lst xs)) : T3 (upd H D u) zs := fun z hz => by
  rw [upd_ne fun e => by have := h z hz; rw [e, hD] at this; cases this]
  exact h z hz
theorem T3.app (h : T3 H zs) (k : T3 H ys) : T3 H (zs ++ ys) := fun z hz => (List.mem_append.mp hz).elim (h z) (k z)
theorem T3.cons {z : ZT} (h : H z.1 = some (tri3 z.2)) (k : T3 H ys) : T3 H (z :: ys) := fun y hy => by
  rcases List.mem_cons.mp hy with rfl | hy
  · exact h
  · exact k y hy
theorem T3.perm (h : T3 H zs) (e : ys.Perm zs) : T3 H ys := fun z hz => h z (e.mem_iff.mp hz)
end
def rMin3 : List V → Hp → VK → Prop := fun vs H Q => match vs with
  | [.int i, .int j, .int k] => Q (.int (min (min i j) k)) H
  | _ => False
theorem st_min3 {i j k : Int} {H : Hp} {Q : VK} (h : Q (.int (min (min i j) k)) H) : Zb.rMin3 [.int i, .int j, .int k] H Q := h
end Zb
namespace Zb
open PySem PySem.Spec PyProof.Rows L2
section
variable {X : Cx} {CX : CXT} {k : Nat} {f : Addr} {fd : FuncData} {ps : List Str} {sp : Sp} {E : XK} {e o : Expr} {es : List Expr} {ta : TE} {t : TA} {p1 p2 pos apos : Pos} {nm m : Str}
def MethD (CS : Addr → Prop) (m : Str) (sp : Addr → Sp) (E : XK) (t : TA) (σ : L2.St) (Q : VK) (x : V) (H1 : Hp) : Prop := ∃ a C dx fs, x = .ref a ∧ H1 a = some (.ins C dx fs) ∧ CS C ∧ fs.lookup m = none ∧ t σ H1 fun vs H2 => sp C (x :: vs) H2 Q E
def tMethD (CS : Addr → Prop) (m : Str) (sp : Addr → Sp) (E : XK) (ta : TE) (t : TA) : TE := fun σ H Q => ta σ H (MethD CS m sp E t σ Q)
variable {CS : Addr → Prop} {spD : Addr → Sp}
end
section
variable {σ : L2.St} {H : Hp} {Q : VK} {CS : Addr → Prop} {m : Str} {sp : Addr → Sp} {E : XK}
theorem st_methD {ta : TE} {t : TA} (h : ta σ H (MethD CS m sp E t σ Q)) : tMethD CS m sp E ta t σ H Q := h
end
end Zb
namespace Zb
open PySem PySem.Spec PyProof.Rows L2
section
variable {K : PySem.W.Frag} {H : Hp} {Q : VK}
theorem st_dget {td ty : TE} {σ : L2.St} (h : td σ H fun x H1 => ty σ H1 fun y H2 => ∃ a v, x = .ref a ∧ DGet H2 a y (some v) ∧ Q v H2) : tDGet td ty σ H Q := h
end
end Zb
namespace Zb
open PySem PySem.Spec PyProof.Rows L2
def gvEq : V → Value → Bool
  | .int i, .int j _ => i == j
  | .str x, .str y _ => x == y
  | _, _ => false
theorem gvEq_rel {v : V} {u : Value} (h : gvEq v u = true) : RelV v u := by
  cases v <;> cases u <;> simp only [gvEq, Bool.false_eq_true, beq_iff_eq] at h
  · subst h; exact ⟨_, rfl⟩
  · subst h; exact ⟨_, rfl⟩
def gdAll : List DictEntry → List (Str × V) → Bool
  | [], [] => true
  | e :: es, p :: ps => (match e.key with | .str x _ => x == p.1 | _ => false) && (gvEq p.2 e.val && gdAll es ps)
  | _, _ => false
def valS (kvs : List (Str × V)) (x : Str) : Option V := (kvs.find? fun p => p.1 == x).map (·.2)
theorem gd_find {x : Str} : ∀ {es : List DictEntry} {kvs : List (Str × V)}, gdAll es kvs = true → RelO (valS kvs x) ((es.find? fun e => Value.isStrOf x e.key).map (·.val))
  | [], [], _ => trivial
  | [], _ :: _, h => by cases h
  | _ :: _, [], h => by cases h
  | e :: es, p :: ps, h => by
    unfold gdAll at h
    rw [Bool.and_eq_true, Bool.and_eq_true] at h
    obtain ⟨h1, h2, h3⟩ := h
    obtain ⟨k, t, hk⟩ : ∃ k t, e.key = .str k t := by
      cases q : e.key <;> rw [q] at h1 <;> first | exact ⟨_, _, rfl⟩ | cases h1
    rw [hk] at h1
    have h1 : (k == p.1) = true := h1
    unfold valS
    rw [List.find?_cons, List.find?_cons, hk]
    have e1 : Value.isStrOf x (.str k t) = (p.1 == x) := by
      rw [beq_iff_eq.mp h1]
      unfold Value.isStrOf
      by_cases c : p.1 = x
      · simp [c]
      · have c' : x ≠ p.1 := fun z => c z.symm
        simp [c, c']
    rw [e1]
    cases (p.1 == x) with
    | true => exact gvEq_rel h2
    | false => exact gd_find h3
/-- the dict at a, as the top has written it -/
structure GDat (w : World) (K : PySem.W.Frag) (a : Addr) (kvs : List (Str × V)) : Prop where
  lo : (a == sysModules) = false
  ex : ∃ es n, K.lookup a = some ⟨.type "dict", none, .dict es n, #[]⟩ ∧ PySem.W.KeysLit w.params es.toList ∧ gdAll es.toList kvs = true
section
variable {X : Cx} {pins : List (Addr × Obj)} {σ : L2.St} {H : Hp} {s : Shared} {a : Addr} {kvs : List (Str × V)}
theorem GDat.map (g : GDat X.w X.K a kvs) (I : Inv X pins σ H s) : ∃ f, s.heap.MapOf (PySem.strKind X.prog X.w) a f ∧ ∀ x, RelO (valS kvs x) (f x) := by
  obtain ⟨es, n, h1, h2, h3⟩ := g.ex
  refine ⟨_, PySem.W.mapOf_K I.kIn h1 h2, fun x => ?_⟩
  obtain ⟨l⟩ := es
  have := gd_find (x := x) h3
  unfold PySem.findBy
  rw [List.find?_toArray]
  exact this
end
def tGGet1 (w : World) (K : PySem.W.Frag) (td ty : TE) : TE := fun σ H Q => td σ H fun x H1 => ∃ a kvs, x = .ref a ∧ GDat w K a kvs ∧ ty σ H1 fun y H2 => ∃ k, y = .str k ∧ Q ((valS kvs k).getD .non) H2
def tGGet2 (w : World) (K : PySem.W.Frag) (td ty tx : TE) : TE := fun σ H Q => td σ H fun x H1 => ∃ a kvs, x = .ref a ∧ GDat w K a kvs ∧ ty σ H1 fun y H2 => tx σ H2 fun z H3 => ∃ k, y = .str k ∧ Q ((valS kvs k).getD z) H3
def tGItem (w : World) (K : PySem.W.Frag) (td ty : TE) : TE := fun σ H Q => td σ H fun x H1 => ∃ a kvs, x = .ref a ∧ GDat w K a kvs ∧ ty σ H1 fun y H2 => ∃ k v, y = .str k ∧ valS kvs k = some v ∧ Q v H2
section
variable {w : World} {K : PySem.W.Frag} {σ : L2.St} {H : Hp} {Q : VK} {td ty tx : TE}
theorem st_gget1 (h : td σ H fun x H1 => ∃ a kvs, x = .ref a ∧ GDat w K a kvs ∧ ty σ H1 fun y H2 => ∃ k, y = .str k ∧ Q ((valS kvs k).getD .non) H2) : tGGet1 w K td ty σ H Q := h
theorem st_gget2 (h : td σ H fun x H1 => ∃ a kvs, x = .ref a ∧ GDat w K a kvs ∧ ty σ H1 fun y H2 => tx σ H2 fun z H3 => ∃ k, y = .str k ∧ Q ((valS kvs k).getD z) H3) : tGGet2 w K td ty tx σ H Q := h
theorem st_gitem (h : td σ H fun x H1 => ∃ a kvs, x = .ref a ∧ GDat w K a kvs ∧ ty σ H1 fun y H2 => ∃ k v, y = .str k ∧ valS kvs k = some v ∧ Q v H2) : tGItem w K td ty σ H Q := h
theorem st_gdat {a : Addr} {kvs : List (Str × V)} {P : List (Str × V) → Prop} (g : GDat w K a kvs) (h : P kvs) : ∃ a' kvs', V.ref a = .ref a' ∧ GDat w K a' kvs' ∧ P kvs' := ⟨a, kvs, rfl, g, h⟩
theorem st_gkey {k : Str} {P : Str → Prop} (h : P k) : ∃ k', V.str k = .str k' ∧ P k' := ⟨k, rfl, h⟩
end
theorem st_isXsN {K : PySem.W.Frag} {H : Hp} {Q : VK} {a C dd tp : Addr} {cs : List V} {fs : List (Str × V)} (T : XI K C) (h1 : H dd = some (.xd fs)) (ht : H tp = some (.tup cs)) (k : KitN K C cs) (h : Q (.bl false) H) : rIsXs K a (.ref C) (some dd) [.ref a, .ref tp] H Q := by
  obtain ⟨cvs, k1, k2⟩ := k.any
  exact ⟨tp, cs, cvs, false, C, dd, fs, rfl, ht, k1, rfl, T, rfl, h1, k2, h⟩
def rUpper : V → List V → Hp → VK → Prop := fun x xs H Q => ∃ z, x = .str z ∧ xs = [] ∧ z.length ≤ 5592405 ∧ Q (.str (Txt.upper z)) H
theorem st_upper {z : Str} {H : Hp} {Q : VK} (hz : z.length ≤ 5592405) (h : Q (.str (Txt.upper z)) H) : rUpper (.str z) [] H Q := ⟨z, rfl, rfl, hz, h⟩
end Zb
namespace Zb
open PySem PySem.Spec PyProof.Rows L2
theorem sIx_some (n : Nat) (b : Nat) : HT.sIx n 0 (some (b : Int)) = min b n := by
  show (if (b : Int) < 0 then ((b : Int) + (n : Int)).toNat else min (b : Int).toNat n) = min b n
  rw [if_neg (by omega), Int.toNat_natCast]
theorem cutS_list (z : Str) (lo hi : Option Int) : (cutS z lo hi).cps.toList = (z.cps.toList.drop (HT.sIx z.length 0 lo)).take (HT.sIx z.length z.length hi - HT.sIx z.length 0 lo) := by simp [cutS]
theorem lenStr (z : Str) : z.cps.toList.length = z.length := Array.length_toList
theorem cutS_from (z : Str) (b : Nat) (h : b ≤ z.length) : (cutS z (some (b : Int)) none).cps.toList = z.cps.toList.drop b := by
  rw [cutS_list, sIx_some, show HT.sIx z.length z.length none = z.length from rfl, Nat.min_eq_left h, List.take_of_length_le]
  rw [List.length_drop, lenStr]
  exact Nat.le_refl _
theorem take_minL {α : Type} (l : List α) (b : Nat) : l.take (min b l.length) = l.take b := by
  by_cases h : b ≤ l.length
  · rw [Nat.min_eq_left h]
  · rw [Nat.min_eq_right (by omega), List.take_of_length_le (Nat.le_refl _), List.take_of_length_le (by omega)]
theorem cutS_toN (z : Str) (b : Nat) : (cutS z none (some (b : Int))).cps.toList = z.cps.toList.take b := by
  rw [cutS_list, show HT.sIx z.length z.length (some (b : Int)) = min b z.length from HT.sIx_nat _ _ b, show HT.sIx z.length 0 none = 0 from rfl, List.drop_zero, Nat.sub_zero, ← lenStr, take_minL]
theorem cutS_toN_len (z : Str) (b : Nat) : (cutS z none (some (b : Int))).length = min b z.length := by
  rw [← lenStr, cutS_toN, List.length_take, lenStr]
theorem cutS_from_len (z : Str) (b : Nat) (h : b ≤ z.length) : (cutS z (some (b : Int)) none).length = z.length - b := by
  rw [← lenStr, cutS_from z b h, List.length_drop, lenStr]
theorem sqL_exV {K : PySem.W.Frag} {H H' : Hp} {a : Addr} {xs : List V} (h : SqL K H a xs) (e : Ex H H') : SqL K H' a xs := by
  rcases h with (h | ⟨v, h⟩) | h
  · exact .inl (.inl (e.get h))
  · exact .inl (.inr ⟨v, e.get h⟩)
  · exact .inr h
end Zb
namespace Zb
open PySem PySem.Spec PyProof.Rows L2 PySem.W
def tLk : List (R2 × TE) → V → L2.St → Hp → VK → Prop
  | [], _, _, _, _ => False
  | [(r, tb)], x, σ, H, Q => tb σ H fun y H1 => r x y H1 Q
  | (r, tb) :: p :: rest, x, σ, H, Q => tb σ H fun y H1 => r x y H1 fun z H2 => ∃ k, z = .bl k ∧ if k = true then tLk (p :: rest) y σ H2 Q else Q (.bl false) H2
def tChN (ta : TE) (l : List (R2 × TE)) : TE := fun σ H Q => ta σ H fun x H1 => tLk l x σ H1 Q
section
variable {σ : L2.St} {H : Hp} {Q : VK} {x : V} {r : R2} {tb ta : TE} {p : R2 × TE} {l : List (R2 × TE)}
theorem st_chN (h : ta σ H fun x H1 => tLk l x σ H1 Q) : tChN ta l σ H Q := h
theorem st_lk (h : tb σ H fun y H1 => r x y H1 fun z H2 => ∃ k, z = .bl k ∧ if k = true then tLk (p :: l) y σ H2 Q else Q (.bl false) H2) : tLk ((r, tb) :: p :: l) x σ H Q := h
theorem st_lk1 (h : tb σ H fun y H1 => r x y H1 Q) : tLk [(r, tb)] x σ H Q := h
end
def DynF (P : Program) (w : World) (K : PySem.W.Frag) (mg : Str → Option Value) (base : Heap) (CX : CXT) (k : Nat) (FS : Addr → Prop) (sp : Addr → Sp) : Prop := ∀ f, FS f → ∃ fd ps, FnOk P w K mg base CX k f fd ps (sp f) ∧ Binds K fd ps [] ∧ PySem.W.keepIn K (.ref f) = true
def tCallV (i : Nat) (FS : Addr → Prop) (sp : Addr → Sp) (E : L2.St → XK) (t : TA) : TE := fun σ H Q => ∃ f, σ[i]? = some (some (.ref f)) ∧ FS f ∧ t σ H fun vs H1 => sp f vs H1 Q (E σ)
theorem pe_callV {X : Cx} {CX : CXT} {k i : Nat} {FS : Addr → Prop} {sp : Addr → Sp} {E : L2.St → XK} {x : Str} {e : Expr} {es : List Expr} {t : TA} {p pos : Pos} (hN : X.N[i]? = some x) (hv : Vis X.env.scope x) (D : DynF X.prog X.w X.K X.mg X.base CX k FS sp) (hr : Room k X.A) (hx : ∀ σ, PassesAt CX X σ (E σ)) (ha : PA X (e :: es) t)
    (hd : (x == ("__debug__" : Str)) = false := by decide) (hcd : (x == ("__classdict__" : Str)) = false := by decide) (he : starEach (e :: es) X.env = (false, eval e X.env) :: starEach es X.env := by rfl) (hpl : (backTo pos (starEach es X.env)).any (·.1) = false := by rfl) :
    PE X (.Call (.Name x p) (e :: es) [] pos) (tCallV i FS sp E t) := by
  refine ⟨fun pins s σ H Q I h => ?_⟩
  obtain ⟨f, hs, hf, ht⟩ := h
  obtain ⟨fd, ps, F, hb, kp⟩ := D f hf
  refine wpAny_Call_Name_kw (thn ((pe_var (pos := p) hN hv hd hcd).run pins s σ H (fun v H1 => v = .ref f ∧ H1 = H) I ⟨.ref f, hs, rfl, rfl⟩) fun u s1 ⟨v, H1, I1, r1, ev, eH⟩ => ?_)
  subst ev
  subst eH
  obtain rfl : u = Value.ref f := r1
  refine PySem.W.callWith_K (h₀ := X.base) I.ok.mod.kin kp (thn (ha.run pos pins s1 σ _ _ I1 ht) fun us s2 ⟨vs, H2, I2, r, q⟩ => ⟨I2.kIn, ?_⟩) he hpl
  exact run_fnS F hr hb (hx σ) I2 r q
theorem st_callV {σ : L2.St} {H : Hp} {Q : VK} {i : Nat} {FS : Addr → Prop} {sp : Addr → Sp} {E : L2.St → XK} {t : TA} {f : Addr} (h1 : σ[i]? = some (some (.ref f))) (h2 : FS f) (h : t σ H fun vs H1 => sp f vs H1 Q (E σ)) : tCallV i FS sp E t σ H Q := ⟨f, h1, h2, h⟩
section
variable {K : PySem.W.Frag} {σ : L2.St} {H : Hp} {D : Ends} {ta tv : TE} {rd : V → V → Hp → VK → Prop} {f : Str}
def AugP (K : PySem.W.Frag) (tv : TE) (rd : V → V → Hp → VK → Prop) (f : Str) (D : Ends) (σ : L2.St) (x : V) (H1 : Hp) : Prop := ∃ a C dx fs v, x = .ref a ∧ H1 a = some (.ins C dx fs) ∧ Cls K C ∧ NoAttr K C f ∧ fs.lookup f = some v ∧ tv σ H1 fun y H2 => rd v y H2 fun z H3 => ∃ dx' fs', H3 a = some (.ins C dx' fs') ∧ fs'.length < 1000 ∧ D.nx σ (upd H3 a (.ins C dx' (putF f z fs')))
theorem st_aug (h : ta σ H (AugP K tv rd f D σ)) : sFldAug K ta tv rd f D σ H := h
theorem st_augP {a C dx : Addr} {fs : List (Str × V)} {v : V} (h1 : H a = some (.ins C dx fs)) (c : Cls K C) (n : NoAttr K C f) (l : fs.lookup f = some v) (h : tv σ H fun y H2 => rd v y H2 fun z H3 => ∃ dx' fs', H3 a = some (.ins C dx' fs') ∧ fs'.length < 1000 ∧ D.nx σ (upd H3 a (.ins C dx' (putF f z fs')))) : AugP K tv rd f D σ (.ref a) H := ⟨a, C, dx, fs, v, rfl, h1, c, n, l, h⟩
theorem st_inAdd {i j : Int} {Q : VK} (h : Q (.int (i + j)) H) : L2.rAdd (.int i) (.int j) H Q := ⟨i, j, rfl, rfl, h⟩
theorem st_augE {a C dx : Addr} {fs : List (Str × V)} {g : List (Str × V) → List (Str × V)} {P : Hp → Prop} (h1 : H a = some (.ins C dx fs)) (hl : fs.length < 1000) (h : P (upd H a (.ins C dx (g fs)))) : ∃ dx' fs', H a = some (.ins C dx' fs') ∧ fs'.length < 1000 ∧ P (upd H a (.ins C dx' (g fs'))) := ⟨dx, fs, h1, hl, h⟩
end
end Zb
namespace Zb
open PySem PySem.Spec PyProof.Rows L2 PySem.W
def DSetT (a : Addr) (y z : V) (Q : VK) (H : Hp) : Prop := ∃ (kvs : List (List Key × V)) (k : List Key) (b : Addr), H a = some (.dT kvs) ∧ y = .ref b ∧ H b = some (.tup (k.map kV)) ∧ kvs.length < sizeLine ∧ (∀ v, valV kvs k = some v → Q v H) ∧ (valV kvs k = none → Q z (upd H a (.dT (putK kvs k z))))
def tDSetT (td ty tx : TE) : TE := fun σ H Q => td σ H fun x H1 => ∃ a, x = .ref a ∧ IsD H1 a ∧ ty σ H1 fun y H2 => tx σ H2 fun z H3 => DSetT a y z Q H3
section
variable {K : PySem.W.Frag} {H : Hp} {Q : VK} {σ : L2.St}
theorem st_dsetTU {td ty tx : TE} (h : td σ H fun x H1 => ∃ a, x = .ref a ∧ IsD H1 a ∧ ty σ H1 fun y H2 => tx σ H2 fun z H3 => DSetT a y z Q H3) : tDSetT td ty tx σ H Q := h
theorem st_isDT {a : Addr} {kvs : List (List Key × V)} {P : Addr → Prop} (h1 : H a = some (.dT kvs)) (h : P a) : ∃ b, V.ref a = .ref b ∧ IsD H b ∧ P b := ⟨a, rfl, .inr ⟨kvs, .inl h1⟩, h⟩
end
end Zb
namespace Zb
open PySem PySem.Spec PyProof.Rows L2 PySem.W
end Zb
namespace Zb
open PySem PySem.Spec PyProof.Rows L2
open Evl (tCut pss_cut)
/-- C(e, ..), an exception's class with an own __init__, as a value -/
def tExcV (C : Addr) (sp : Sp) (dvs : List V) (ta : TA) : TE := fun σ H Q => ta σ H fun vs H1 => vs.length ≤ 1000 ∧ ∀ a, H1 a = none → sp (.ref a :: (vs ++ dvs)) (upd H1 a (exo a C none))
  (fun v H2 => v = .non ∧ ∃ (d : Addr) (fs : List (Str × V)), H2 a = some (exo a C (some d)) ∧ H2 d = some (exd d fs) ∧ Q (.ref a) (upd (upd H2 a (XkO a (.ref C) (some d))) d (.xd fs))) (fun _ _ _ => False)
section
variable {K : PySem.W.Frag} {C : Addr} {Q : VK} {H : Hp} {f g : Str} {σ : L2.St}
def ExcVP (C : Addr) (sp : Sp) (vs : List V) (Q : VK) (H1 : Hp) : Prop := vs.length ≤ 1000 ∧ ∀ a, H1 a = none → sp (.ref a :: (vs ++ [])) (upd H1 a (exo a C none))
  (fun v H2 => v = .non ∧ ∃ (d : Addr) (fs : List (Str × V)), H2 a = some (exo a C (some d)) ∧ H2 d = some (exd d fs) ∧ Q (.ref a) (upd (upd H2 a (XkO a (.ref C) (some d))) d (.xd fs))) (fun _ _ _ => False)
theorem st_excV {sp : Sp} {ta : TA} (h : ta σ H (ExcVP C sp · Q ·)) : tExcV C sp [] ta σ H Q := h
/-- a made exception at a: of the class, with these fields -/
structure XcV (H : Hp) (a C d : Addr) (fs : List (Str × V)) : Prop where
  at_ : H a = some (XkO a (.ref C) (some d))
  fd : H d = some (.xd fs)
theorem XcV.ex {H H' : Hp} {a C d : Addr} {fs : List (Str × V)} (h : XcV H a C d fs) (e : Ex H H') : XcV H' a C d fs := ⟨e.get h.at_, e.get h.fd⟩
theorem st_exv1 {v : V} (T : OexC K C) (hf : PySem.W.findIn K (.ref C) f = some none) (h : ∀ a d H', H a = none → H d = none → Ex H H' → XcV H' a C d [(f, v)] → Q (.ref a) H') : ExcVP C (spI1 K f) [v] Q H := by
  refine ⟨(by decide : 1 ≤ 1000), fun a ha => ⟨a, C, v, rfl, T, hf, upd_same, fun dx hdx ne => ⟨rfl, dx, [(f, v)], upd_same, ?_, ?_⟩⟩⟩
  · rw [upd_ne ne]; exact upd_same
  · rw [upd_ne ne] at hdx
    refine h a dx _ ha hdx (fun b o _ hb => ?_) ⟨?_, upd_same⟩
    · have n1 : b ≠ a := fun z => by rw [z, ha] at hb; cases hb
      have n2 : b ≠ dx := fun z => by rw [z, hdx] at hb; cases hb
      rw [upd_ne n2, upd_ne n1, upd_ne n1, upd_ne n2, upd_ne n1]
      exact hb
    · rw [upd_ne (Ne.symm ne)]
      exact upd_same
theorem st_exv2 {v z : V} (T : OexC K C) (hf : PySem.W.findIn K (.ref C) f = some none) (hg : PySem.W.findIn K (.ref C) g = some none) (h : ∀ a d H', H a = none → H d = none → Ex H H' → XcV H' a C d [(g, z), (f, v)] → Q (.ref a) H') : ExcVP C (spI2 K f g) [v, z] Q H := by
  refine ⟨(by decide : 2 ≤ 1000), fun a ha => ⟨a, C, v, z, rfl, T, hf, hg, upd_same, fun dx hdx ne => ⟨rfl, dx, [(g, z), (f, v)], ?_, upd_same, ?_⟩⟩⟩
  · rw [upd_ne (Ne.symm ne)]; exact upd_same
  · rw [upd_ne ne] at hdx
    refine h a dx _ ha hdx (fun b o _ hb => ?_) ⟨?_, upd_same⟩
    · have n1 : b ≠ a := fun z => by rw [z, ha] at hb; cases hb
      have n2 : b ≠ dx := fun z => by rw [z, hdx] at hb; cases hb
      rw [upd_ne n2, upd_ne n1, upd_ne n2, upd_ne n1, upd_ne n2, upd_ne n1]
      exact hb
    · rw [upd_ne (Ne.symm ne)]
      exact upd_same
end
/-- at a: an exception of that class, made here or kept behind its clause -/
def HasX (H : Hp) (a C : Addr) : Prop := (∃ (d : Addr) (fs : List (Str × V)), H a = some (XkO a (.ref C) (some d)) ∧ H d = some (.xd fs)) ∨ H a = some (ExO (.ref C) a)
theorem XcV.has {H : Hp} {a C d : Addr} {fs : List (Str × V)} (h : XcV H a C d fs) : HasX H a C := .inl ⟨d, fs, h.at_, h.fd⟩
theorem HasX.ex {H H' : Hp} {a C : Addr} (h : HasX H a C) (e : Ex H H') : HasX H' a C := by
  rcases h with ⟨d, fs, h1, h2⟩ | h
  · exact .inl ⟨d, fs, e.get h1, e.get h2⟩
  · exact .inr (e.get h)
def rIsV (K : PySem.W.Frag) : List V → Hp → VK → Prop := fun xs H Q => ∃ (a : Addr) (c : V) (cv : Value) (b : Bool) (C : Addr), xs = [.ref a, c] ∧ HasX H a C ∧ (∀ u, RelV c u → u = cv) ∧ XI K C ∧ PySem.W.kitOne K (.ref C) cv = some b ∧ Q (.bl b) H
section
variable {K : PySem.W.Frag} {H : Hp} {Q : VK}
theorem st_isV {a C D : Addr} {b : Bool} (h0 : HasX H a C) (T : XI K C) (e : PySem.W.kitOne K (.ref C) (.ref D) = some b) (h : Q (.bl b) H) : rIsV K [.ref a, .ref D] H Q :=
  ⟨a, .ref D, .ref D, b, C, rfl, h0, fun u r => by cases r; rfl, T, e, h⟩
theorem st_isVT {a C : Addr} {n : String} {b : Bool} (h0 : HasX H a C) (T : XI K C) (e : PySem.W.kitOne K (.ref C) (.type n) = some b) (h : Q (.bl b) H) : rIsV K [.ref a, .ty n] H Q :=
  ⟨a, .ty n, .type n, b, C, rfl, h0, fun u r => by cases r; rfl, T, e, h⟩
end
def rDivX : R2 := fun x y H Q => match x, y with
  | .int i, .int j => 0 < j ∧ j < 1606938044258990275541962092341162602522202993782792835301376 ∧ Q (.int (i / j)) H
  | _, _ => False
theorem st_divX {H : Hp} {Q : VK} {i j : Int} (hc : 0 < j ∧ j < 1606938044258990275541962092341162602522202993782792835301376) (h : Q (.int (i / j)) H) : rDivX (.int i) (.int j) H Q := ⟨hc.1, hc.2, h⟩
end Zb
namespace Zb
open PySem PySem.Spec PyProof.Rows L2 LamX NdefX
open Evl (tCut pss_cut)
/-- a lambda: its words, what it captured, its code object -/
structure LF where
  qual : Str
  params : Arguments
  body : Expr
  scope : Scope
  cl : List (Str × Addr)
  c : Addr
abbrev LF.nf (F : LF) : NF := ⟨"<lambda>", F.qual, F.params, [], F.scope, F.cl, F.c⟩
abbrev LF.fd (F : LF) (pm ctv : Value) : FuncData := PySem.W.kla_fn "<lambda>" F.qual F.params F.body F.scope F.cl pm (.ref F.c) ctv
def LamO (f : Addr) (F : LF) : HO := .ext fun h => ∃ (od : Option Addr) (sl : Array (Option Value)) (pm ctv : Value), h.get? f = some (⟨.type "function", od, .func (F.fd pm ctv), sl⟩ : Obj)
theorem lamO_at {P : Program} {w : World} {H : Hp} {h : Heap} {f : Addr} {F : LF} (hok : HOk P w H h) (e : H f = some (LamO f F)) : ∃ (od : Option Addr) (sl : Array (Option Value)) (pm ctv : Value), h.get? f = some (⟨.type "function", od, .func (F.fd pm ctv), sl⟩ : Obj) := (hok f _ e).1
/-- all but the tables stay -/
abbrev ExT (H H' : Hp) : Prop := LamX.ExtN H H'
/-- a heap without its tables -/
def noT (H : Hp) : Hp := fun b => match H b with
  | some (.tbl _) => none
  | x => x
theorem noT_get {H : Hp} {a : Addr} {o : HO} (h : H a = some o) (n : ∀ ps, o ≠ .tbl ps) : noT H a = some o := by
  unfold noT
  rw [h]
  cases o <;> first | rfl | exact absurd rfl (n _)
theorem noT_of {H : Hp} {a : Addr} {o : HO} (h : noT H a = some o) : H a = some o ∧ ∀ ps, o ≠ .tbl ps := by
  unfold noT at h
  split at h
  · cases h
  · rename_i x hx
    exact ⟨h, fun ps z => hx ps (h.trans (by rw [z]))⟩
theorem noT_ex (H : Hp) : Ex (noT H) H := fun b o _ h => (noT_of h).1
theorem ExT.ex {H H' : Hp} (e : ExT H H') : Ex (noT H) H' := fun b o _ h => e b o (noT_of h).1 (noT_of h).2
theorem ExT.of {H H' : Hp} (e : Ex H H') : ExT H H' := fun b o h _ => e b o (fun z => z) h
theorem ExT.tr {H H1 H2 : Hp} (a : ExT H H1) (b : ExT H1 H2) : ExT H H2 := fun c o h n => b c o (a c o h n) n
theorem ExT.nn {H H' : Hp} (e : ExT H H') : Ex (noT H) (noT H') := fun b o _ h => noT_get (e b o (noT_of h).1 (noT_of h).2) (noT_of h).2
theorem noT_mono {H H' : Hp} (e : Ex H H') : Ex (noT H) (noT H') := (ExT.of e).nn
theorem ExT.get {H H' : Hp} {a : Addr} {o : HO} (e : ExT H H') (h : H a = some o) (n : ∀ ps, o ≠ .tbl ps := by intro _ z; cases z) : H' a = some o := e a o h n
section
variable {X : Cx} {pins : List (Addr × Obj)} {σ : L2.St} {H : Hp} {s : Shared}
theorem inv_lam {F : LF} {o : Obj} {t' : Nat} {pm ctv : Value} (I : Inv X pins σ H s) (ho : o = { cls := .type "function", data := .func (F.fd pm ctv) }) :
    Inv X pins σ (upd H s.heap.objs.size (LamO s.heap.objs.size F)) { s with heap := s.heap.push o, toks := t' } := by
  subst ho
  have e : (s.heap.push ({ cls := .type "function", data := .func (F.fd pm ctv) } : Obj)).get? s.heap.objs.size = some { cls := .type "function", data := .func (F.fd pm ctv) } := Heap.get?_push_size _ rfl
  exact I.laid (a := s.heap.objs.size) (fun b u q => Heap.get?_push_of_some _ q) (Nat.le_refl _) ⟨⟨_, _, pm, ctv, e⟩, ⟨_, e⟩, fun h1 h2 ⟨od, sl, p, t, z⟩ st => ⟨od, sl, p, t, st _ z⟩⟩
/-- the tables, when one of them has grown by a code object -/
theorem tabs_more {T : List (Addr × Str)} {P c' : Addr} {q : Str} {pos : Pos} {ps : Array Value} (hT : Tabs T H) (hu : ∀ p ∈ T, p.1 = P → p.2 = q) (hP : H P = some (.tbl ps)) (ht : TriplesOk ps.toList) (ha : ∀ (pos : Pos) (cv : Value), codeAmong pos ps.toList = some cv → ∃ c, cv = .ref c ∧ H c = some (CodeO c q)) (nC : H c' = none) :
    Tabs T (upd (upd H P (.tbl (ps ++ #[rawInt pos.line, rawInt pos.col, .ref c']))) c' (CodeO c' q)) ∧ ExT H (upd (upd H P (.tbl (ps ++ #[rawInt pos.line, rawInt pos.col, .ref c']))) c' (CodeO c' q)) := by
  have hE : ExT H (upd (upd H P (.tbl (ps ++ #[rawInt pos.line, rawInt pos.col, .ref c']))) c' (CodeO c' q)) := fun b o e n => by
    have n1 : b ≠ c' := ne_of_none e nC
    have n2 : b ≠ P := fun z => by
      subst z
      rw [hP] at e
      exact n ps (Option.some.inj e).symm
    rw [upd_ne n1, upd_ne n2]
    exact e
  have eL : (ps ++ #[rawInt pos.line, rawInt pos.col, .ref c']).toList = ps.toList ++ [rawInt pos.line, rawInt pos.col, .ref c'] := by simp
  refine ⟨fun p hp => ?_, hE⟩
  by_cases hb : p.1 = P
  · have hq := hu p hp hb
    rw [hb, hq]
    refine ⟨_, (upd_ne (ne_of_none hP nC)).trans upd_same, ?_, fun p' cv h => ?_⟩
    · rw [eL]
      exact PySem.TriplesOk_snoc _ _ _ _ ht
    · rw [eL] at h
      rcases among_app _ ht h with z | z
      · obtain ⟨c0, e1, e2⟩ := ha p' cv z
        exact ⟨c0, e1, hE _ _ e2 codeO_ne⟩
      · exact ⟨c', z, upd_same⟩
  · obtain ⟨ps', a1, a2, a3⟩ := hT p hp
    refine ⟨ps', (upd_ne (ne_of_none a1 nC)).trans ((upd_ne hb).trans a1), a2, fun p' cv h => ?_⟩
    obtain ⟨c0, e1, e2⟩ := a3 p' cv h
    exact ⟨c0, e1, hE _ _ e2 codeO_ne⟩
theorem lam_new {T : List (Addr × Str)} {c P : Addr} {params : Arguments} {body : Expr} {scope : Scope} {pos : Pos} {E : Value → Shared → Prop} {Q : Value → Shared → Prop} (I : Inv X pins σ H s) (TB : TabB X.base X.mg c P) (hcode : X.env.code = .ref c)
    (hm : (P, X.env.qual ++ "<lambda>") ∈ T) (hu : ∀ p ∈ T, p.1 = P → p.2 = X.env.qual ++ "<lambda>") (hT : Tabs T H) (hdef : defaultsOf params X.env = ([], [])) (hfree : ∀ y ∈ scope.names, y.2 = .free → ∃ c, X.env.cells.lookup y.1 = some c)
    (h : ∀ (f c' : Addr) (H1 : Hp) (s' : Shared), Inv X pins σ H1 s' → ExT H H1 → (∀ b, H1 b = none → H b = none) → Tabs T H1 → H f = none → H1 f = some (LamO f ⟨X.env.qual ++ "<lambda>", params, body, scope, cloFrom X.env.cells scope.names [], c'⟩) → H1 c' = some (CodeO c' (X.env.qual ++ "<lambda>")) → Q (.ref f) s') :
    wpAny (model X.prog X.w) X.A (eval (.Lambda params body scope pos) X.env) Q E s := by
  obtain ⟨ps, hP, ht, ha⟩ := hT _ hm
  have bP := TB.bm.keeps I.bk
  have hP' := I.hok P _ hP
  have un : ∀ {b a : Addr} {G : Hp} {o : HO}, upd G a o b = none → G b = none := fun e => upd_free e
  refine PySem.W.kla_eval hdef ?_
  cases hc : codeAmong pos ps.toList with
  | none =>
    refine PySem.W.kla_makeFunction (closure_ok hfree) I.ok.glob (I.mod.glob.keeps I.bk) hcode (TB.code.keeps I.bk) hP' ht hc TB.gP bP ?_
    intro c' ctv h' tk hx hge hlt hrec htb
    obtain ⟨c2, oc, vs, t, e2, hoc, hd, hv⟩ := hrec
    cases e2
    have nC := I.hok.fresh hge
    obtain ⟨T1, hE⟩ := tabs_more (pos := pos) hT hu hP ht ha nC
    have I1 := inv_table (t' := tk) (more := #[rawInt pos.line, rawInt pos.col, .ref c']) (h' := h') I hP (fun b o n e => hx b o n e) htb hge ⟨oc, vs, t, hoc, hd, hv⟩
    have I2 := inv_lam (F := ⟨X.env.qual ++ "<lambda>", params, body, scope, cloFrom X.env.cells scope.names [], c'⟩) (t' := tk) (pm := (X.mg "__name__").getD .none) (ctv := ctv) I1 rfl
    have nF := I1.hok.fresh (Nat.le_refl h'.objs.size)
    have keepF : ∀ b o, upd (upd H P (.tbl (ps ++ #[rawInt pos.line, rawInt pos.col, .ref c']))) c' (CodeO c' (X.env.qual ++ "<lambda>")) b = some o → b ≠ h'.objs.size := fun b o e => ne_of_none e nF
    refine h h'.objs.size c' _ _ I2 (fun b o e n => ?_) (fun b e => un (un (un e))) (T1.ext fun b o e => ?_) (un (un nF)) upd_same ?_
    · have e1 := hE b o e n
      rw [upd_ne (keepF b o e1)]
      exact e1
    · rw [upd_ne (keepF b o e)]
      exact e
    · rw [upd_ne (keepF c' _ upd_same)]
      exact upd_same
  | some cv =>
    obtain ⟨c', e, hco⟩ := ha pos cv hc
    subst e
    refine PySem.W.kla_makeFunctionHit (closure_ok hfree) I.ok.glob (I.mod.glob.keeps I.bk) hcode (TB.code.keeps I.bk) hP' ht hc bP ?_
    intro ctv h' tk hx hsz
    have I1 : Inv X pins σ H { s with heap := h', toks := tk } := I.kept hx
    have nF := I1.hok.fresh (Nat.le_refl h'.objs.size)
    have I2 := inv_lam (F := ⟨X.env.qual ++ "<lambda>", params, body, scope, cloFrom X.env.cells scope.names [], c'⟩) (t' := tk) (pm := (X.mg "__name__").getD .none) (ctv := ctv) I1 rfl
    have keepF : ∀ b o, H b = some o → b ≠ h'.objs.size := fun b o e => ne_of_none e nF
    refine h h'.objs.size c' _ _ I2 (fun b o e _ => ?_) (fun b e => un e) (hT.ext fun b o e => ?_) nF upd_same ?_
    · rw [upd_ne (keepF b o e)]
      exact e
    · rw [upd_ne (keepF b o e)]
      exact e
    · rw [upd_ne (keepF c' _ hco)]
      exact hco
end
/-- the reading of a lambda as a value -/
def tLamb (T : List (Addr × Str)) (mk : Addr → LF) : TE := fun σ H Q => Tabs T H ∧ ∀ (f c' : Addr) (H1 : Hp), ExT H H1 → (∀ b, H1 b = none → H b = none) → Tabs T H1 → H f = none → H1 f = some (LamO f (mk c')) → H1 c' = some (CodeO c' (mk c').qual) → Q (.ref f) H1
section
variable {X : Cx}
theorem pe_lamb {T : List (Addr × Str)} {c P : Addr} {params : Arguments} {body : Expr} {scope : Scope} {pos : Pos} (TB : TabB X.base X.mg c P) (hcode : X.env.code = .ref c) (hm : (P, X.env.qual ++ "<lambda>") ∈ T) (hu : ∀ p ∈ T, p.1 = P → p.2 = X.env.qual ++ "<lambda>")
    (hdef : defaultsOf params X.env = ([], [])) (hfree : ∀ y ∈ scope.names, y.2 = .free → X.env.scope.names.lookup y.1 = some .cell ∨ X.env.scope.names.lookup y.1 = some .free) :
    PE X (.Lambda params body scope pos) (tLamb T fun c' => ⟨X.env.qual ++ "<lambda>", params, body, scope, cloFrom X.env.cells scope.names [], c'⟩) := by
  refine ⟨fun pins s σ H Q I h => ?_⟩
  obtain ⟨hT, h⟩ := h
  refine lam_new I TB hcode hm hu hT hdef (fun y hy e => (hfree y hy e).elim (fun z => I.ok.has _ (.inl z)) fun z => I.ok.has _ (.inr z)) ?_
  intro f c' H1 s' I1 eN nn T1 f0 f1 c1
  exact ⟨.ref f, H1, I1, rfl, h f c' H1 eN nn T1 f0 f1 c1⟩
end
structure LOk (P : Program) (w : World) (K : PySem.W.Frag) (mg : Str → Option Value) (base : Heap) (k : Nat) (f : Addr) (F : LF) (ps fr : List Str) (sp : List (Option V) → List V → Hp → VK → Prop) : Prop where
  len : ∀ ws vs H Q, sp ws vs H Q → vs.length = ps.length
  run : ∀ (A : Around) (outer : List Env) (s : Shared) (H : Hp) (us : List Value) (vs : List V) (ws : List (Option V)) (Q : VK), Room k A → Env0 P w K mg base A outer s H → H f = some (LamO f F) → H F.c = some (CodeO F.c F.qual) →
    CellsAt F.cl fr ws s.heap H → Vals vs us → sp ws vs H Q → codeAny (model P w) A (.call (.ref f) ⟨us, []⟩) (CR CX0 outer P w H s Q E0) s
section
variable {P : Program} {w : World} {K : PySem.W.Frag} {mg : Str → Option Value} {base : Heap} {N ps fr : List Str} {F : LF} {f : Addr} {k : Nat} {sp : List (Option V) → List V → Hp → VK → Prop}
/-- .. by its body -/
theorem lok_of (S : NScope N ps fr F.scope) (hb : ∀ (pm ctv : Value) (us : List Value), us.length = ps.length → bindArgs (F.fd pm ctv) ⟨us, []⟩ = pure (ps.zip us)) (len : ∀ ws vs H Q, sp ws vs H Q → vs.length = ps.length)
    (hbody : ∀ (A : Around) (outer : List Env) (s : Shared) (H : Hp) (vs : List V) (ws : List (Option V)) (Q : VK), Room k (A.deeper (envF F.nf f s.heap.objs.size)) → sp ws vs H Q →
      ∃ t, PE (ncx CX0 P w K mg base N F.nf f A outer s H E0) F.body t ∧ t (startF N vs ws) H Q) : LOk P w K mg base (k + 1) f F ps fr sp := by
  refine ⟨len, fun A outer s H us vs ws Q hr e0 hf hc C r hsp => ?_⟩
  have hl := len _ _ _ _ hsp
  have lim : s.heap.NoLimit := e0.mod.nolimit.keeps fun b o e => (e0.bs b o e).1
  obtain ⟨od, sl, pm, ctv, ho⟩ := lamO_at e0.hok hf
  refine PySem.W.kla_callFunE hr.depth ho rfl S.co S.gen rfl (codeO_at e0.hok hc) ?_
  rw [hb pm ctv us (by rw [← r.length]; exact hl)]
  refine wpAny_pure (wpAny_newFunctionEnv S.nocell (fun ⟨n, _⟩ hy => S.par n (List.of_mem_zip hy).1) ?_ S.kind)
  intro h₁ hns hsb
  refine ⟨lim.fresh _ hsb, ?_⟩
  show codeAny _ _ (.expr F.body (envF F.nf f s.heap.objs.size)) _ _
  obtain ⟨t, ht, hq⟩ := hbody A outer s H vs ws Q (hr.deeper _) hsp
  have kp : ∀ b o, s.heap.get? b = some o → h₁.get? b = some o := fun b o e => hsb.extBut b o (Nat.ne_of_lt (Heap.lt_size e)) (Heap.get?_push_of_some _ e)
  have I : Inv (ncx CX0 P w K mg base N F.nf f A outer s H E0) [] (startF N vs ws) H { s with heap := h₁, toks := s.toks + (ps.zip us).length } := inv_startN (F := F.nf) S hr.hd e0 hl r C hns kp
  refine PySem.W.kla_codeExpr (wpAny_mono (ht.run [] _ (startF N vs ws) H Q I hq) (fun v s' hs => ?_) fun e s' hs => hs)
  obtain ⟨x, H', J, rv, q⟩ := hs
  exact ⟨x, H', J.os, J.bare, J.base, J.hok, rv, q⟩
end
section
variable {X : Cx} {pins : List (Addr × Obj)} {σ : L2.St} {H : Hp} {s : Shared} {cl : List (Str × Addr)} {fr : List Str} {ws : List (Option V)}
/-- captured cells that stood at the entry stand -/
theorem cells_later (C : CellsAt cl fr ws X.s_0.heap X.H_0) (hex : X.ex = []) (I : Inv X pins σ H s) : CellsAt cl fr ws s.heap H := by
  have nx : ∀ b, b ∉ X.ex := fun b z => by rw [hex] at z; cases z
  have kp : ∀ y c, cl.lookup y = some c → ∀ v, X.s_0.heap.IsCell c v → s.heap.IsCell c v := fun y c e v ⟨o, ho, hd⟩ => by
    obtain ⟨sl, q⟩ := I.base.any ho (C.all y c e).1 (nx c)
    exact ⟨_, q, hd⟩
  refine ⟨C.len, fun y c e => ?_, C.inj, fun i y e => ?_⟩
  · obtain ⟨n, v, z⟩ := C.all y c e
    have z' := kp y c e v z
    obtain ⟨o, ho, _⟩ := z
    exact ⟨I.base.free c o ho n (nx c), v, z'⟩
  · obtain ⟨c, hc, hv⟩ := C.has i y e
    refine ⟨c, hc, fun v ev => ?_⟩
    obtain ⟨u, r, z⟩ := hv v ev
    exact ⟨u, r, kp y c hc _ z⟩
theorem lam_fn {f : Addr} {F : LF} (I : Inv X pins σ H s) (e : H f = some (LamO f F)) : PySem.W.FnAt f s.heap := by
  obtain ⟨od, sl, pm, ctv, ho⟩ := lamO_at I.hok e
  exact ⟨_, od, _, sl, ho⟩
end
/-- x(..), x a name that holds a lambda: tl, what it does -/
def tCb (f : Addr) (F : LF) (i : Nat) (tl : List V → Hp → VK → Prop) (t : TA) : TE := fun σ H Q => σ[i]? = some (some (.ref f)) ∧ H f = some (LamO f F) ∧ t σ H fun vs H1 => H1 f = some (LamO f F) ∧ H1 F.c = some (CodeO F.c F.qual) ∧ tl vs H1 Q
/-- in X calls of the lambda may be read so -/
def CbAt (X : Cx) (f : Addr) (F : LF) (tl : List V → Hp → VK → Prop) : Prop := ∀ {i : Nat} {x : Str} {e : Expr} {es : List Expr} {t : TA} {p pos : Pos}, X.N[i]? = some x → Vis X.env.scope x → PA X (e :: es) t → (x == ("__debug__" : Str)) = false → (x == ("__classdict__" : Str)) = false →
  starEach (e :: es) X.env = (false, eval e X.env) :: starEach es X.env → (backTo pos (starEach es X.env)).any (·.1) = false → PE X (.Call (.Name x p) (e :: es) [] pos) (tCb f F i tl t)
theorem cbAt_of {X : Cx} {k j : Nat} {f : Addr} {F : LF} {ps fr : List Str} {ws : List (Option V)} {sp : List (Option V) → List V → Hp → VK → Prop} (L : LOk X.prog X.w X.K X.mg X.base k f F ps fr sp) (C : CellsAt F.cl fr ws X.s_0.heap X.H_0) (hex : X.ex = []) (hr : Room j X.A) (hk : k ≤ j) : CbAt X f F (sp ws) := by
  intro i x e es t p pos hN hv ha hd hcd he hpl
  refine ⟨fun pins s σ H Q I h => ?_⟩
  obtain ⟨hs, hf, ht⟩ := h
  refine wpAny_Call_Name_kw (thn ((pe_var (pos := p) hN hv hd hcd).run pins s σ H (fun v H1 => v = .ref f ∧ H1 = H) I ⟨.ref f, hs, rfl, rfl⟩) fun u s1 ⟨v, H1, I1, r1, ev, eH⟩ => ?_)
  subst ev
  subst eH
  obtain rfl : u = Value.ref f := r1
  refine PySem.W.callWith_F (first := []) (lam_fn I1 hf) (thn (ha.run pos pins s1 σ _ _ I1 ht) fun us s2 ⟨vs, H2, I2, r, h1, h2, q⟩ => ⟨lam_fn I2 h1, ?_⟩) he hpl
  show wpAny _ _ (call (.ref f) us) _ _ _
  refine wpAny_call (codeAny_mono (L.run X.A X.stack s2 H2 us vs ws _ (hr.mono hk) I2.env0 h1 h2 (cells_later C hex I2) r q) fun r' s' hq => ?_)
  cases r' with
  | error e => exact (show False from hq).elim
  | ok fl =>
    cases fl with
    | ret u => exact I2.after hq
    | next => exact False.elim hq
    | brk => exact False.elim hq
    | cont => exact False.elim hq
structure FnCb (P : Program) (w : World) (K : PySem.W.Frag) (mg : Str → Option Value) (base : Heap) (k j : Nat) (f : Addr) (fd : FuncData) (ps : List Str) (spc : Addr → LF → (List V → Hp → VK → Prop) → Sp) : Prop where
  len : ∀ fl F tl vs H Q E, spc fl F tl vs H Q E → vs.length = ps.length
  run : ∀ (A : Around) (outer : List Env) (s : Shared) (H : Hp) (us : List Value) (vs : List V) (Q : VK) (E : XK) (fl : Addr) (F : LF) (pl fr : List Str) (spl : List (Option V) → List V → Hp → VK → Prop) (ws : List (Option V)), Room k A → Env0 P w K mg base A outer s H → BindsTo s fd ⟨us, []⟩ (ps.zip us) → Vals vs us →
    LOk P w K mg base j fl F pl fr spl → CellsAt F.cl fr ws s.heap H → spc fl F (spl ws) vs H Q E → codeAny (model P w) A (.call (.ref f) ⟨us, []⟩) (CR CX0 outer P w H s Q E) s
section
variable {P : Program} {w : World} {K : PySem.W.Frag} {mg : Str → Option Value} {base : Heap}
theorem okCb {x qual : Str} {st : Stmt} {f : Addr} {fd : FuncData} {N ps : List Str} {k j : Nat} {spc : Addr → LF → (List V → Hp → VK → Prop) → Sp} (F : Fun K x qual st f fd) (S : FnScope N ps (defScope st)) (hj : j ≤ k) (len : ∀ fl F tl vs H Q E, spc fl F tl vs H Q E → vs.length = ps.length)
    (hbody : ∀ (cdv : Value) (A : Around) (outer : List Env) (s : Shared) (H : Hp) (vs : List V) (Q : VK) (E : XK) (fl : Addr) (G : LF) (tl : List V → Hp → VK → Prop), Room k (A.deeper (envOfC qual (defScope st) s.heap.objs.size f cdv)) → CbAt (cxOf CX0 P w K mg base N qual (defScope st) f cdv A outer s H E).nox fl G tl → spc fl G tl vs H Q E →
      ∃ t, PSs (cxOf CX0 P w K mg base N qual (defScope st) f cdv A outer s H E).nox (defBody st) t ∧ t { nx := fun _ H' => Q .non H', rt := Q } (L2.start N vs) H) : FnCb P w K mg base (k + 1) j f fd ps spc := by
  obtain ⟨oc, od, kV, doc, pm, an, cdv, ct, osl, rfl, lk, hcd⟩ := F.ex
  refine ⟨len, fun A outer s H us vs Q E fl G pl fr spl ws hr e0 hb r L C hsp => ?_⟩
  have hl := len _ _ _ _ _ _ _ hsp
  refine LamX.run_ofS (N := N) (ps := ps) lk hcd S hr e0 hb r hl fun hr' => ?_
  obtain ⟨t, h, q⟩ := hbody cdv A outer s H vs Q E fl G (spl ws) hr' (cbAt_of L C rfl hr' hj) hsp
  exact ⟨t, h.nox, q⟩
end
/-- a call that hands on a lambda which the caller has made: mk, its words; js: the slots of what it captured -/
def tCallCb (mk : Addr → LF) (js : List Nat) (spl : Addr → Addr → List (Option V) → List V → Hp → VK → Prop) (spc : Addr → LF → (List V → Hp → VK → Prop) → Sp) (t : TA) : TE := fun σ H Q => t σ H fun vs H1 => ∃ fl c', spc fl (mk c') (spl fl c' (js.map (slotAt σ))) vs H1 Q E0
section
variable {X : Cx} {k j i : Nat} {f : Addr} {fd : FuncData} {ps pl fr : List Str} {mk : Addr → LF} {cl : List (Str × Addr)} {js : List Nat} {spl : Addr → Addr → List (Option V) → List V → Hp → VK → Prop} {spc : Addr → LF → (List V → Hp → VK → Prop) → Sp} {x : Str} {t : TA} {e : Expr} {es : List Expr} {p pos : Pos}
theorem pe_callCb (F : FnCb X.prog X.w X.K X.mg X.base k j f fd ps spc) (Lk : ∀ fl c', LOk X.prog X.w X.K X.mg X.base j fl (mk c') pl fr (spl fl c')) (hcl : ∀ c', (mk c').cl = cl) (cp : X.Ok → Caps X cl fr js) (hr : Room k X.A) (gl : Gl X x) (hm : X.mg x = some (.ref f)) (hk : PySem.W.keepIn X.K (.ref f) = true) (hb : Binds X.K fd ps [])
    (ha : PA X (e :: es) t) (hdb : (x == ("__debug__" : Str)) = false := by decide) (he : starEach (e :: es) X.env = (false, eval e X.env) :: starEach es X.env := by rfl) (hpl : (backTo pos (starEach es X.env)).any (·.1) = false := by rfl) : PE X (.Call (.Name x p) (e :: es) [] pos) (tCallCb mk js spl spc t) := by
  refine ⟨fun pins s σ H Q I h => ?_⟩
  refine wpAny_Call_Name_kw (ld_glob I gl hm ?_ hdb)
  refine PySem.W.callWith_K (h₀ := X.base) I.ok.mod.kin hk (thn (ha.run pos pins s σ H _ I h) fun us s2 ⟨vs, H2, I2, r, fl, c', q⟩ => ⟨I2.kIn, ?_⟩) he hpl
  have hl := F.len _ _ _ _ _ _ _ q
  have C := cells_of I2 (cp I2.ok)
  rw [← hcl c'] at C
  have hbt : BindsTo s2 fd ⟨us, []⟩ (ps.zip us) := by
    have := hb s2 us I2.kIn (by rw [List.append_nil, ← r.length]; exact hl)
    rwa [List.append_nil] at this
  show wpAny _ _ (call (.ref f) us) _ _ _
  refine wpAny_call (codeAny_mono (F.run X.A X.stack s2 H2 us vs Q E0 fl (mk c') pl fr _ _ hr I2.env0 hbt r (Lk fl c') C q) fun r' s' hq => ?_)
  cases r' with
  | error e => exact (show False from hq).elim
  | ok fl =>
    cases fl with
    | ret u => exact I2.after hq
    | next => exact False.elim hq
    | brk => exact False.elim hq
    | cont => exact False.elim hq
end
structure FunC (K : PySem.W.Frag) (x qual : Str) (st : Stmt) (f : Addr) (fd : FuncData) (c : Addr) : Prop where
  ex : ∃ (oc : Value) (od : Option Addr) (kV doc pm : Value) (an : Option Addr) (ct : Value) (osl : Array (Option Value)),
    fd = PySem.W.fnOf x qual (defArgs st) (defBody st) (defScope st) .none kV doc pm an (.ref c) ct ∧ K.lookup f = some ⟨oc, od, .func fd, osl⟩ ∧ PySem.W.codeIn K (.ref c) qual = true
section
variable {P : Program} {w : World} {K : PySem.W.Frag} {mg : Str → Option Value} {base : Heap}
theorem FunC.ok {x qual : Str} {st : Stmt} {f c : Addr} {fd : FuncData} {N ps : List Str} {k : Nat} {sp : Sp} (F : FunC K x qual st f fd c) (S : FnScope N ps (defScope st)) (len : ∀ vs H Q E, sp vs H Q E → vs.length = ps.length)
    (hbody : ∀ (A : Around) (outer : List Env) (s : Shared) (H : Hp) (vs : List V) (Q : VK) (E : XK), Room k (A.deeper (envOfC qual (defScope st) s.heap.objs.size f (.ref c))) → sp vs H Q E →
      ∃ t, PSs (cxOf CX0 P w K mg base N qual (defScope st) f (.ref c) A outer s H E).nox (defBody st) t ∧ t { nx := fun _ H' => Q .non H', rt := Q } (L2.start N vs) H) : FnOk P w K mg base CX0 (k + 1) f fd ps sp := by
  obtain ⟨oc, od, kV, doc, pm, an, ct, osl, rfl, lk, hcd⟩ := F.ex
  refine fn_of lk hcd S len fun A outer s H vs Q E hr hsp => ?_
  obtain ⟨t, h, q⟩ := hbody A outer s H vs Q E hr hsp
  exact ⟨t, h.nox, q⟩
theorem FunC.okX {x qual : Str} {st : Stmt} {f c : Addr} {fd : FuncData} {N ps : List Str} {k : Nat} {sp : Sp} (F : FunC K x qual st f fd c) (S : FnScope N ps (defScope st)) (len : ∀ vs H Q E, sp vs H Q E → vs.length = ps.length)
    (hbody : ∀ (A : Around) (outer : List Env) (s : Shared) (H : Hp) (vs : List V) (Q : VK) (E : XK), Room k (A.deeper (envOfC qual (defScope st) s.heap.objs.size f (.ref c))) → sp vs H Q E →
      ∃ t, PSs (cxOf (L2.CX P w) P w K mg base N qual (defScope st) f (.ref c) A outer s H E) (defBody st) t ∧ t { nx := fun _ H' => Q .non H', rt := Q } (L2.start N vs) H) : FnOk P w K mg base (L2.CX P w) (k + 1) f fd ps sp := by
  obtain ⟨oc, od, kV, doc, pm, an, ct, osl, rfl, lk, hcd⟩ := F.ex
  exact fn_of lk hcd S len fun A outer s H vs Q E hr hsp => hbody A outer s H vs Q E hr hsp
end
section
variable {σ : L2.St} {H : Hp} {Q : VK}
theorem st_lamb {T : List (Addr × Str)} {mk : Addr → LF} (hT : Tabs T H) (h : ∀ (f c' : Addr) (H1 : Hp), ExT H H1 → (∀ b, H1 b = none → H b = none) → Tabs T H1 → H f = none → H1 f = some (LamO f (mk c')) → H1 c' = some (CodeO c' (mk c').qual) → Q (.ref f) H1) : tLamb T mk σ H Q := ⟨hT, h⟩
def CbP (f : Addr) (F : LF) (tl : List V → Hp → VK → Prop) (Q : VK) (vs : List V) (H1 : Hp) : Prop := H1 f = some (LamO f F) ∧ H1 F.c = some (CodeO F.c F.qual) ∧ tl vs H1 Q
theorem st_cbk {f : Addr} {F : LF} {i : Nat} {tl : List V → Hp → VK → Prop} {t : TA} (h1 : σ[i]? = some (some (.ref f))) (h2 : H f = some (LamO f F)) (h : t σ H (CbP f F tl Q)) : tCb f F i tl t σ H Q := ⟨h1, h2, h⟩
theorem st_cbP {f : Addr} {F : LF} {tl : List V → Hp → VK → Prop} {vs : List V} (h1 : H f = some (LamO f F)) (h2 : H F.c = some (CodeO F.c F.qual)) (h : tl vs H Q) : CbP f F tl Q vs H := ⟨h1, h2, h⟩
end
end Zb
namespace Zb
open PySem PySem.Spec PyProof.Rows L2 LamX NdefX
section
variable {P : Program} {w : World} {K : PySem.W.Frag} {mg : Str → Option Value} {base : Heap} {N ps fr : List Str} {F : LF} {f : Addr} {k : Nat} {t : TE}
/-- a lambda's promise is its body's reading -/
theorem lok_t (S : NScope N ps fr F.scope) (hb : ∀ (pm ctv : Value) (us : List Value), us.length = ps.length → bindArgs (F.fd pm ctv) ⟨us, []⟩ = pure (ps.zip us))
    (hbody : ∀ (A : Around) (outer : List Env) (s : Shared) (H : Hp), Room k (A.deeper (envF F.nf f s.heap.objs.size)) → PE (ncx CX0 P w K mg base N F.nf f A outer s H E0) F.body t) : LOk P w K mg base (k + 1) f F ps fr (fun ws vs H Q => vs.length = ps.length ∧ t (startF N vs ws) H Q) :=
  lok_of S hb (fun _ _ _ _ h => h.1) fun A outer s H vs ws Q hr h => ⟨t, hbody A outer s H hr, h.2⟩
end
def asgE : Stmt → Expr
  | .Assign _ e _ => e
  | .Return (some e) _ => e
  | _ => .Constant .none 0 ⟨0, 0, 0, 0⟩
def bodyS (st : Stmt) (i : Nat) : Stmt := (defBody st).getD i (.Pass ⟨0, 0, 0, 0⟩)
def lamA : Expr → Arguments
  | .Lambda a _ _ _ => a
  | _ => { posonlyargs := [], args := [], vararg := none, kwonlyargs := [], kw_defaults := [], kwarg := none, defaults := [] }
def lamB : Expr → Expr
  | .Lambda _ b _ _ => b
  | e => e
def lamSc : Expr → Scope
  | .Lambda _ _ s _ => s
  | _ => { kind := .function, names := [], isGenerator := false, isCoroutine := false }
section
variable {σ : L2.St} {H : Hp} {Q : VK}
def CbC (mk : Addr → LF) (js : List Nat) (spl : Addr → Addr → List (Option V) → List V → Hp → VK → Prop) (spc : Addr → LF → (List V → Hp → VK → Prop) → Sp) (σ : L2.St) (Q : VK) (vs : List V) (H1 : Hp) : Prop := ∃ fl c', spc fl (mk c') (spl fl c' (js.map (slotAt σ))) vs H1 Q E0
theorem st_callCb {mk : Addr → LF} {js : List Nat} {spl : Addr → Addr → List (Option V) → List V → Hp → VK → Prop} {spc : Addr → LF → (List V → Hp → VK → Prop) → Sp} {t : TA} (h : t σ H (CbC mk js spl spc σ Q)) : tCallCb mk js spl spc t σ H Q := h
end
end Zb
namespace Zb
open PySem PySem.Spec PyProof.Rows L2
end Zb
set_option Elab.async false
set_option linter.all false
set_option maxRecDepth 100000
set_option maxHeartbeats 4000000
namespace My
open PySem PySem.Spec PyProof.Rows L2 Zb LamX NdefX
open Evl (tCut pss_cut)
def top (i : Nat) : Stmt := PySem.Challenge.pw_panethread_k80_said_twice.main.body.getD i (.Pass ⟨0, 0, 0, 0⟩)
abbrev s_is_whole : Stmt := top 13
abbrev N_is_whole : List Str := ["thing"]
theorem sc_is_whole : FnScope N_is_whole ["thing"] (defScope s_is_whole) := ⟨rfl, rfl, rfl, by decide +kernel, rfl, by decide +kernel, by decide +kernel⟩
abbrev s_is_within : Stmt := top 14
abbrev N_is_within : List Str := ["thing", "low", "high"]
theorem sc_is_within : FnScope N_is_within ["thing", "low", "high"] (defScope s_is_within) := ⟨rfl, rfl, rfl, by decide +kernel, rfl, by decide +kernel, by decide +kernel⟩
abbrev s_is_row : Stmt := top 15
abbrev N_is_row : List Str := ["thing", "sign"]
theorem sc_is_row : FnScope N_is_row ["thing"] (defScope s_is_row) := ⟨rfl, rfl, rfl, by decide +kernel, rfl, by decide +kernel, by decide +kernel⟩
abbrev s_is_plain : Stmt := top 16
abbrev N_is_plain : List Str := ["thing"]
theorem sc_is_plain : FnScope N_is_plain ["thing"] (defScope s_is_plain) := ⟨rfl, rfl, rfl, by decide +kernel, rfl, by decide +kernel, by decide +kernel⟩
abbrev s_need_row : Stmt := top 17
abbrev N_need_row : List Str := ["row"]
theorem sc_need_row : FnScope N_need_row ["row"] (defScope s_need_row) := ⟨rfl, rfl, rfl, by decide +kernel, rfl, by decide +kernel, by decide +kernel⟩
abbrev s_need_rows : Stmt := top 18
abbrev N_need_rows : List Str := ["side", "top"]
theorem sc_need_rows : FnScope N_need_rows ["side", "top"] (defScope s_need_rows) := ⟨rfl, rfl, rfl, by decide +kernel, rfl, by decide +kernel, by decide +kernel⟩
abbrev s_need_plain : Stmt := top 19
abbrev N_need_plain : List Str := ["row"]
theorem sc_need_plain : FnScope N_need_plain ["row"] (defScope s_need_plain) := ⟨rfl, rfl, rfl, by decide +kernel, rfl, by decide +kernel, by decide +kernel⟩
abbrev s_need_span : Stmt := top 20
abbrev N_need_span : List Str := ["begin", "end", "many"]
theorem sc_need_span : FnScope N_need_span ["begin", "end", "many"] (defScope s_need_span) := ⟨rfl, rfl, rfl, by decide +kernel, rfl, by decide +kernel, by decide +kernel⟩
abbrev s_places_of : Stmt := top 21
abbrev N_places_of : List Str := ["row", "found", "at", "sign"]
theorem sc_places_of : FnScope N_places_of ["row"] (defScope s_places_of) := ⟨rfl, rfl, rfl, by decide +kernel, rfl, by decide +kernel, by decide +kernel⟩
abbrev s_led : Stmt := top 23
abbrev N_led : List Str := ["many", "far", "crosses", "downs", "rights", "meetings", "signs", "row", "across", "met", "told", "column", "above", "goals", "goal", "line"]
theorem sc_led : FnScope N_led ["many", "far", "crosses"] (defScope s_led) := ⟨rfl, rfl, rfl, by decide +kernel, rfl, by decide +kernel, by decide +kernel⟩
abbrev s_is_turning : Stmt := top 27
abbrev N_is_turning : List Str := ["thing", "seen", "goal"]
theorem sc_is_turning : FnScope N_is_turning ["thing"] (defScope s_is_turning) := ⟨rfl, rfl, rfl, by decide +kernel, rfl, by decide +kernel, by decide +kernel⟩
abbrev s_need_turning : Stmt := top 28
abbrev N_need_turning : List Str := ["turning"]
theorem sc_need_turning : FnScope N_need_turning ["turning"] (defScope s_need_turning) := ⟨rfl, rfl, rfl, by decide +kernel, rfl, by decide +kernel, by decide +kernel⟩
abbrev s_need_place : Stmt := top 29
abbrev N_need_place : List Str := ["place", "most"]
theorem sc_need_place : FnScope N_need_place ["place", "most"] (defScope s_need_place) := ⟨rfl, rfl, rfl, by decide +kernel, rfl, by decide +kernel, by decide +kernel⟩
abbrev s_opposite : Stmt := top 30
abbrev N_opposite : List Str := ["turning", "found", "start", "goal"]
theorem sc_opposite : FnScope N_opposite ["turning"] (defScope s_opposite) := ⟨rfl, rfl, rfl, by decide +kernel, rfl, by decide +kernel, by decide +kernel⟩
abbrev s_mixed : Stmt := top 32
abbrev N_mixed : List Str := ["one", "other", "found", "at", "number"]
theorem sc_mixed : FnScope N_mixed ["one", "other"] (defScope s_mixed) := ⟨rfl, rfl, rfl, by decide +kernel, rfl, by decide +kernel, by decide +kernel⟩
abbrev s_floors_of : Stmt := top 33
abbrev N_floors_of : List Str := ["ends", "floors", "blocks", "above", "end", "left", "right"]
theorem sc_floors_of : FnScope N_floors_of ["ends"] (defScope s_floors_of) := ⟨rfl, rfl, rfl, by decide +kernel, rfl, by decide +kernel, by decide +kernel⟩
abbrev s_lesser : Stmt := top 34
abbrev N_lesser : List Str := ["block", "end", "low", "high", "amid"]
theorem sc_lesser : FnScope N_lesser ["block", "end"] (defScope s_lesser) := ⟨rfl, rfl, rfl, by decide +kernel, rfl, by decide +kernel, by decide +kernel⟩
abbrev s_need_window : Stmt := top 37
abbrev N_need_window : List Str := ["tall", "wide", "spans", "first", "last", "begin", "end", "starts", "stops"]
theorem sc_need_window : FnScope N_need_window ["tall", "wide", "spans"] (defScope s_need_window) := ⟨rfl, rfl, rfl, by decide +kernel, rfl, by decide +kernel, by decide +kernel⟩
abbrev s_Tally_init : Stmt := inClass (top 35) 0
abbrev N_Tally_init : List Str := ["self", "turning"]
theorem sc_Tally_init : FnScope N_Tally_init ["self", "turning"] (defScope s_Tally_init) := ⟨rfl, rfl, rfl, by decide +kernel, rfl, by decide +kernel, by decide +kernel⟩
abbrev s_Asks_init : Stmt := inClass (top 38) 0
abbrev N_Asks_init : List Str := ["self", "lines", "many"]
theorem sc_Asks_init : FnScope N_Asks_init ["self", "lines", "many"] (defScope s_Asks_init) := ⟨rfl, rfl, rfl, by decide +kernel, rfl, by decide +kernel, by decide +kernel⟩
abbrev s_Board_init : Stmt := inClass (top 24) 0
abbrev N_Board_init : List Str := ["self", "side", "top", "rule", "meetings", "signs", "goals"]
theorem sc_Board_init : FnScope N_Board_init ["self", "side", "top"] (defScope s_Board_init) := ⟨rfl, rfl, rfl, by decide +kernel, rfl, by decide +kernel, by decide +kernel⟩
abbrev s_Board_lines : Stmt := inClass (top 24) 3
abbrev N_Board_lines : List Str := ["self"]
theorem sc_Board_lines : FnScope N_Board_lines ["self"] (defScope s_Board_lines) := ⟨rfl, rfl, rfl, by decide +kernel, rfl, by decide +kernel, by decide +kernel⟩
abbrev s_asks_of : Stmt := top 39
abbrev N_asks_of : List Str := ["side", "top"]
theorem sc_asks_of : FnScope N_asks_of ["side", "top"] (defScope s_asks_of) := ⟨rfl, rfl, rfl, by decide +kernel, rfl, by decide +kernel, by decide +kernel⟩
abbrev s_lengths : Stmt := top 41
abbrev N_lengths : List Str := ["side", "top", "table", "sign", "above", "row", "at", "other", "most"]
theorem sc_lengths : FnScope N_lengths ["side", "top"] (defScope s_lengths) := ⟨rfl, rfl, rfl, by decide +kernel, rfl, by decide +kernel, by decide +kernel⟩
abbrev s_thread_of : Stmt := top 42
abbrev N_thread_of : List Str := ["side", "top", "table", "i", "j", "found"]
theorem sc_thread_of : FnScope N_thread_of ["side", "top"] (defScope s_thread_of) := ⟨rfl, rfl, rfl, by decide +kernel, rfl, by decide +kernel, by decide +kernel⟩
abbrev s_pairs_of : Stmt := top 44
abbrev N_pairs_of : List Str := ["side", "top", "there", "found", "i", "sign", "j"]
theorem sc_pairs_of : FnScope N_pairs_of ["side", "top"] (defScope s_pairs_of) := ⟨rfl, rfl, rfl, by decide +kernel, rfl, by decide +kernel, by decide +kernel⟩
abbrev s_heaps_of : Stmt := top 45
abbrev N_heaps_of : List Str := ["side", "top", "table", "found", "i", "j", "k"]
theorem sc_heaps_of : FnScope N_heaps_of ["side", "top"] (defScope s_heaps_of) := ⟨rfl, rfl, rfl, by decide +kernel, rfl, by decide +kernel, by decide +kernel⟩
abbrev s_moved : Stmt := top 47
abbrev N_moved : List Str := ["pairs", "down", "along", "i", "j"]
theorem sc_moved : FnScope N_moved ["pairs", "down", "along"] (defScope s_moved) := ⟨rfl, rfl, rfl, by decide +kernel, rfl, by decide +kernel, by decide +kernel⟩
abbrev s_Tally_from_on : Stmt := inClass (top 35) 1
abbrev N_Tally_from_on : List Str := ["self", "begin", "end", "total", "at", "floor"]
theorem sc_Tally_from_on : FnScope N_Tally_from_on ["self", "begin", "end"] (defScope s_Tally_from_on) := ⟨rfl, rfl, rfl, by decide +kernel, rfl, by decide +kernel, by decide +kernel⟩
abbrev s_Tally_below : Stmt := inClass (top 35) 2
abbrev N_Tally_below : List Str := ["self", "begin", "end"]
theorem sc_Tally_below : FnScope N_Tally_below ["self", "begin", "end"] (defScope s_Tally_below) := ⟨rfl, rfl, rfl, by decide +kernel, rfl, by decide +kernel, by decide +kernel⟩
abbrev s_Asks_window : Stmt := inClass (top 38) 1
abbrev N_Asks_window : List Str := ["self", "first", "last", "begin", "end"]
theorem sc_Asks_window : FnScope N_Asks_window ["self", "first", "last", "begin", "end"] (defScope s_Asks_window) := ⟨rfl, rfl, rfl, by decide +kernel, rfl, by decide +kernel, by decide +kernel⟩
abbrev s_twice_lengths : Stmt := top 49
abbrev N_twice_lengths : List Str := ["row", "asks", "cut"]
theorem sc_twice_lengths : FnScope N_twice_lengths ["row"] (defScope s_twice_lengths) := ⟨rfl, rfl, rfl, by decide +kernel, rfl, by decide +kernel, by decide +kernel⟩
abbrev s_twice : Stmt := top 50
abbrev N_twice : List Str := ["row", "many", "cut", "thread", "heaps", "at", "heap", "pair"]
theorem sc_twice : FnScope N_twice ["row"] (defScope s_twice) := ⟨rfl, rfl, rfl, by decide +kernel, rfl, by decide +kernel, by decide +kernel⟩
abbrev s__law_cell_at : Stmt := top 52
abbrev N__law_cell_at : List Str := ["_law_script", "_law_k"]
theorem sc__law_cell_at : FnScope N__law_cell_at ["_law_script", "_law_k"] (defScope s__law_cell_at) := ⟨rfl, rfl, rfl, by decide +kernel, rfl, by decide +kernel, by decide +kernel⟩
abbrev s__law_great : Stmt := top 53
abbrev N__law_great : List Str := ["_law_cell", "_law_found", "_law_number", "_law_k"]
theorem sc__law_great : FnScope N__law_great ["_law_cell"] (defScope s__law_great) := ⟨rfl, rfl, rfl, by decide +kernel, rfl, by decide +kernel, by decide +kernel⟩
abbrev s__law_letter : Stmt := top 54
abbrev N__law_letter : List Str := ["_law_number"]
theorem sc__law_letter : FnScope N__law_letter ["_law_number"] (defScope s__law_letter) := ⟨rfl, rfl, rfl, by decide +kernel, rfl, by decide +kernel, by decide +kernel⟩
abbrev s__law_row : Stmt := top 55
abbrev N__law_row : List Str := ["_law_cell", "_law_most", "_law_number", "_law_many", "_law_wide", "_law_first", "_law_row_here", "_law_k"]
theorem sc__law_row : FnScope N__law_row ["_law_cell", "_law_most"] (defScope s__law_row) := ⟨rfl, rfl, rfl, by decide +kernel, rfl, by decide +kernel, by decide +kernel⟩
abbrev s__law_list : Stmt := top 56
abbrev N__law_list : List Str := ["_law_row_here", "_law_cells", "_law_most", "_law_changes", "_law_at", "_law_many", "_law_cell", "_law_old", "_law_other", "_law_letter_here"]
theorem sc__law_list : FnScope N__law_list ["_law_row_here", "_law_cells", "_law_most"] (defScope s__law_list) := ⟨rfl, rfl, rfl, by decide +kernel, rfl, by decide +kernel, by decide +kernel⟩
abbrev s__law_heaps : Stmt := top 57
abbrev N__law_heaps : List Str := ["_law_side", "_law_top", "_law_found", "_law_row_here", "_law_i", "_law_below", "_law_j"]
theorem sc__law_heaps : FnScope N__law_heaps ["_law_side", "_law_top"] (defScope s__law_heaps) := ⟨rfl, rfl, rfl, by decide +kernel, rfl, by decide +kernel, by decide +kernel⟩
abbrev s__law_new : Stmt := top 58
abbrev N__law_new : List Str := ["_law_changes", "_law_change"]
theorem sc__law_new : FnScope N__law_new ["_law_changes"] (defScope s__law_new) := ⟨rfl, rfl, rfl, by decide +kernel, rfl, by decide +kernel, by decide +kernel⟩
abbrev s__law_heaps_at : Stmt := top 59
abbrev N__law_heaps_at : List Str := ["_law_row_here", "_law_cut", "_law_found", "_law_heap", "_law_i", "_law_j"]
theorem sc__law_heaps_at : FnScope N__law_heaps_at ["_law_row_here", "_law_cut"] (defScope s__law_heaps_at) := ⟨rfl, rfl, rfl, by decide +kernel, rfl, by decide +kernel, by decide +kernel⟩
abbrev s__law_rising : Stmt := top 60
abbrev N__law_rising : List Str := ["_law_found", "_law_low", "_law_high", "_law_place"]
theorem sc__law_rising : FnScope N__law_rising ["_law_found", "_law_low", "_law_high"] (defScope s__law_rising) := ⟨rfl, rfl, rfl, by decide +kernel, rfl, by decide +kernel, by decide +kernel⟩
abbrev s__law_same : Stmt := top 61
abbrev N__law_same : List Str := ["_law_found", "_law_due", "_law_heaps_here", "_law_heap"]
theorem sc__law_same : FnScope N__law_same ["_law_found", "_law_due"] (defScope s__law_same) := ⟨rfl, rfl, rfl, by decide +kernel, rfl, by decide +kernel, by decide +kernel⟩
abbrev s__law_told : Stmt := top 62
abbrev N__law_told : List Str := ["_law_row_here", "_law_due", "_law_many", "_law_cut", "_law_found", "_law_k", "_law_heaps_here"]
theorem sc__law_told : FnScope N__law_told ["_law_row_here", "_law_due"] (defScope s__law_told) := ⟨rfl, rfl, rfl, by decide +kernel, rfl, by decide +kernel, by decide +kernel⟩
abbrev s__law_lengths : Stmt := top 63
abbrev N__law_lengths : List Str := ["_law_row_here", "_law_due", "_law_found", "_law_heaps_here", "_law_many"]
theorem sc__law_lengths : FnScope N__law_lengths ["_law_row_here", "_law_due"] (defScope s__law_lengths) := ⟨rfl, rfl, rfl, by decide +kernel, rfl, by decide +kernel, by decide +kernel⟩
abbrev s__law_refused : Stmt := top 64
abbrev N__law_refused : List Str := ["_law_deed", "_law_wrong", "e"]
theorem sc__law_refused : FnScope N__law_refused ["_law_deed", "_law_wrong"] (defScope s__law_refused) := ⟨rfl, rfl, rfl, by decide +kernel, rfl, by decide +kernel, by decide +kernel⟩
abbrev s_law : Stmt := top 65
abbrev N_law : List Str := ["_law_script", "_law_cell", "_law_row_here", "_law_due", "_law_wrong", "_law_other", "_law_there", "_law_cut"]
theorem sc_law : FnScope N_law ["_law_script"] (defScope s_law) := ⟨rfl, rfl, rfl, by decide +kernel, rfl, by decide +kernel, by decide +kernel⟩
local macro_rules | `(tactic| walk_at "hp") => `(tactic| first
  | assumption
  | exact upd_same
  | (refine upd_old (by assumption) ?_; walk_at "hp")
  | (refine Ex.get (by assumption) ?_; walk_at "hp")
  | (refine Fr.get (by assumption) (by assumption) ?_; walk_at "hp"))
local macro_rules | `(tactic| walk_at "kn") => `(tactic| first
  | exact KitN.nil
  | (refine KitN.cons ?_ ?_; (walk_at "ki"); (walk_at "kn")))
local macro_rules | `(tactic| walk_at "pu") => `(tactic| first
  | assumption
  | (refine Purse.ex ?_ (by assumption); walk_at "pu"))
local macro_rules | `(tactic| walk_at "fr") => `(tactic| first
  | exact Fr.refl _
  | assumption
  | exact Fr.ex (by assumption)
  | (refine Fr.trans ?_ (by assumption); walk_at "fr")
  | (refine Fr.trans ?_ (Fr.ex (by assumption)); walk_at "fr"))
local macro_rules | `(tactic| walk_at "sd") => `(tactic| first
  | omega
  | (simp only [tx_length, List.length_append, List.length_cons, List.length_nil, List.length_map, List.length_take, List.length_drop]; omega)
  | assumption
  | exact rfl
  | decide)
local macro_rules | `(tactic| walk_at "nw") => `(tactic| (intro q H' hq he hv; (try (have hne := Purse.ne (by assumption) hq; have hpu := Purse.ex (by assumption) he))))
local macro_rules | `(tactic| walk_at "nx") => `(tactic| (intro a d H' ha hd he hv; (try (have hpu := Purse.ex (by assumption) he))))
local macro_rules | `(tactic| walk_at "hx") => `(tactic| first
  | assumption
  | exact XcV.has (by assumption)
  | (refine' HasX.ex ?a7 (by assumption); (case a7 => walk_at "hx")))
local macro_rules | `(tactic| walk_at "sm") => `(tactic| first
  | exact Sm.nil
  | assumption
  | (refine Sm.app ?_ ?_ <;> walk_at "sm")
  | (refine Sm.cons ?_ ?_ <;> walk_at "sm")
  | exact Sm.up Sm.non (Nat.le_of_ble_eq_true rfl) (Nat.le_of_ble_eq_true rfl)
  | exact Sm.up (Sm.bl _) (Nat.le_of_ble_eq_true rfl) (Nat.le_of_ble_eq_true rfl)
  | exact Sm.up (Sm.int (by omega)) (Nat.le_of_ble_eq_true rfl) (Nat.le_of_ble_eq_true rfl)
  | exact Sm.up (Sm.str (by decide +kernel)) (Nat.le_of_ble_eq_true rfl) (Nat.le_of_ble_eq_true rfl)
  | (refine Sm.up (Sm.tup (n := 1) (k := 1) (by walk_at "hp") ?_ (Nat.le_refl _)) (Nat.le_of_ble_eq_true rfl) (Nat.le_of_ble_eq_true rfl); walk_at "sm")
  | (refine Sm.up (Sm.lst (n := 1) (k := 1) (by walk_at "hp") ?_ (Nat.le_refl _)) (Nat.le_of_ble_eq_true rfl) (Nat.le_of_ble_eq_true rfl); walk_at "sm"))
local macro_rules | `(tactic| walk_at "ln") => `(tactic| first | omega | (simp only [List.length_append, List.length_cons, List.length_nil, List.length_map, List.length_singleton]; omega))
local macro_rules | `(tactic| walk_at "sn") => `(tactic| first
  | exact Sm.nil
  | assumption
  | exact Sm.upA (by assumption) (Nat.le_of_ble_eq_true rfl) (Nat.le_of_ble_eq_true rfl)
  | exact Sm.up (by assumption) (Nat.le_of_ble_eq_true rfl) (Nat.le_of_ble_eq_true rfl)
  | (refine Sm.app ?_ ?_ <;> walk_at "sn")
  | (refine Sm.cons ?_ ?_ <;> walk_at "sn")
  | (refine Sm.cut ?_ ; walk_at "sn")
  | walk_at "sm"
  | (refine Sm.up (Sm.lst (n := 100) (k := 3) (by walk_at "hp") ?_ (Nat.le_refl _)) (Nat.le_of_ble_eq_true rfl) (Nat.le_of_ble_eq_true rfl); walk_at "sn")
  | (refine Sm.up (Sm.lst (n := 4) (k := 2) (m := 4612) (by walk_at "hp") ?_ (by walk_at "ln")) (Nat.le_of_ble_eq_true rfl) (Nat.le_of_ble_eq_true rfl); walk_at "sn")
  | (refine Sm.up (Sm.tup (n := 4) (k := 2) (m := 4612) (by walk_at "hp") ?_ (by walk_at "ln")) (Nat.le_of_ble_eq_true rfl) (Nat.le_of_ble_eq_true rfl); walk_at "sn"))
local macro_rules | `(tactic| walk_at "sg") => `(tactic| first
  | exact allE_nil
  | (refine allE_cons ?_ ?_ <;> walk_at "sg")
  | exact ⟨_, Sd.dk (by walk_at "hp")⟩
  | (refine SdE.of (n := 1) (k := 1) ?_ (by decide) (by decide); walk_at "sm")
  | (refine SdE.of (Sm.lst (n := 18500) (k := 5) (m := 50) (by walk_at "hp") ?_ (by walk_at "ln")) (by decide) (by decide); walk_at "sn")
  | (refine SdE.of (Sm.tup (n := 18500) (k := 5) (m := 50) (by walk_at "hp") ?_ (by walk_at "ln")) (by decide) (by decide); walk_at "sn"))
local macro_rules | `(tactic| walk_at "s") => `(tactic| first
  | ((with_reducible refine' st_var ?a0 ?_); (case a0 => exact rfl))
  | ((with_reducible refine' st_isR1 ?a0 ?_); (case a0 => constructor <;> walk_at "sd"))
  | ((with_reducible refine' st_isR2 ?a0 ?_); (case a0 => refine ⟨?_, ?_, ?_, ?_⟩ <;> walk_at "sd"))
  | ((with_reducible refine' st_c ?_))
  | ((with_reducible refine' st_op ?_))
  | ((with_reducible refine' st_seq ?_))
  | ((with_reducible refine' st_asg ?_))
  | ((with_reducible refine' st_name ?_))
  | ((with_reducible refine' st_cons ?_))
  | ((with_reducible refine' st_nil ?_))
  | ((with_reducible refine' st_call ?_))
  | ((with_reducible refine' st_cb ?_))
  | ((with_reducible refine' st_ret ?_))
  | ((with_reducible refine' st_drop ?_))
  | ((with_reducible refine' st_ifS ?_))
  | ((with_reducible refine' st_test ?_))
  | ((with_reducible refine' st_B ?_))
  | ((with_reducible refine' st_isb ?_))
  | ((with_reducible refine' st_and ?_))
  | ((with_reducible refine' st_or ?_))
  | ((with_reducible refine' st_not ?_))
  | ((with_reducible refine' st_andV ?_))
  | ((with_reducible refine' st_orV ?_))
  | ((with_reducible refine' st_notV ?_))
  | ((with_reducible refine' st_if ?_))
  | ((with_reducible refine' st_lst ?_))
  | ((with_reducible refine' st_tup ?_))
  | ((with_reducible refine' st_sl ?_))
  | ((with_reducible refine' st_part ?_))
  | ((with_reducible refine' st_nopart ?_))
  | ((with_reducible refine' st_isi ?_))
  | ((with_reducible refine' st_sub ?_))
  | ((with_reducible refine' st_next ?_))
  | ((with_reducible refine' st_un ?_))
  | ((with_reducible refine' st_rU ?_))
  | ((with_reducible refine' st_augI ?a0 ?_); (case a0 => exact rfl))
  | ((with_reducible refine' st_ipI ?_))
  | ((with_reducible refine' st_par ?_))
  | ((with_reducible refine' st_par2 ?_))
  | ((with_reducible refine' st_addI ?_))
  | ((with_reducible refine' st_subI ?_))
  | ((with_reducible refine' st_cmpI ?_))
  | ((with_reducible refine' st_eqI ?_))
  | ((with_reducible refine' st_neI ?_))
  | ((with_reducible refine' st_eqS ?_))
  | ((with_reducible refine' st_neS ?_))
  | ((with_reducible refine' st_eqB ?_))
  | ((with_reducible refine' st_neB ?_))
  | ((with_reducible refine' st_max2 ?_))
  | ((with_reducible refine' st_min2 ?_))
  | ((with_reducible refine' st_min3 ?_))
  | ((with_reducible refine' st_brk ?_))
  | ((with_reducible refine' st_cont ?_))
  | ((with_reducible refine' st_retN ?_))
  | ((with_reducible refine' st_new ?a0 ?_); (case a0 => exact Nat.le_of_ble_eq_true rfl); walk_at "nw")
  | ((with_reducible refine' st_modI ?a0 ?_); (case a0 => walk_at "sd"))
  | ((with_reducible refine' st_divI ?a0 ?_); (case a0 => constructor <;> walk_at "sd"))
  | ((with_reducible refine' st_mulI ?a0 ?_); (case a0 => walk_at "sd"))
  | ((with_reducible refine' st_powI ?a0 ?_); (case a0 => refine ⟨?_, ?_, ?_⟩ <;> decide))
  | ((with_reducible refine' st_addS ?a0 ?_); (case a0 => walk_at "sd"))
  | ((with_reducible refine' st_ixL ?a0 ?a1 ?_); (case a0 => walk_at "hp"); (case a1 => exact rfl))
  | ((with_reducible refine' st_ixT ?a0 ?a1 ?_); (case a0 => walk_at "hp"); (case a1 => exact rfl))
  | ((with_reducible refine' st_lenL ?a0 ?_); (case a0 => walk_at "hp"))
  | ((with_reducible refine' st_lenT ?a0 ?_); (case a0 => walk_at "hp"))
  | ((with_reducible refine' st_lenS ?a0 ?_); (case a0 => walk_at "sd"))
  | ((with_reducible refine' st_slS ?a0 ?_); (case a0 => walk_at "sd"))
  | ((with_reducible refine' st_slL (lst_of ?a0) ?_); (case a0 => walk_at "hp"); walk_at "nw")
  | ((with_reducible refine' st_addL ?a0 ?a1 ?a2 ?_); (case a0 => walk_at "hp"); (case a1 => walk_at "hp"); (case a2 => walk_at "sd"); walk_at "nw")
  | ((with_reducible refine' st_setL ?a0 ?a1 ?_); (case a0 => walk_at "hp"); (case a1 => exact rfl))
  | ((with_reducible refine' st_yes ?_))
  | ((with_reducible refine' st_isI ?a0 ?_); (case a0 => first | exact kit_ii | exact kit_ib | exact kit_il | exact kit_is | exact kit_it | decide +kernel))
  | ((with_reducible refine' st_isL ?a0 ?a1 ?_); (case a0 => walk_at "hp"); (case a1 => first | exact kit_ll | exact kit_lt | decide +kernel))
  | ((with_reducible refine' st_isT ?a0 ?a1 ?_); (case a0 => walk_at "hp"); (case a1 => first | exact kit_tt | exact kit_tl | decide +kernel))
  | ((with_reducible refine' st_isS' ?a0 ?_); (case a0 => first | exact kit_ss | decide +kernel))
  | ((with_reducible refine' st_isB ?a0 ?_); (case a0 => first | exact kit_bb | exact kit_bi | decide +kernel))
  | ((with_reducible refine' st_clear ?a0 ?_); (case a0 => walk_at "hp"))
  | ((with_reducible refine' st_gtup ?a0 ?a1 ?_); (case a0 => walk_at "hp"); (case a1 => exact rfl))
  | ((with_reducible refine' st_glst ?a0 ?a1 ?_); (case a0 => walk_at "hp"); (case a1 => exact rfl))
  | ((with_reducible refine' st_gcons ?_))
  | ((with_reducible refine' st_gnil ?_))
  | ((with_reducible refine' st_iEnS ?_))
  | ((with_reducible refine' st_isEnS ?_))
  | ((with_reducible refine' st_mulL ?a0 ?a1 ?a2 ?a3 ?_); (case a0 => walk_at "hp"); (case a1 => walk_at "sd"); (case a2 => walk_at "sd"); (case a3 => walk_at "sd"); walk_at "nw")
  | ((with_reducible refine' st_isBool ?_))
  | ((with_reducible refine' st_pair ?_))
  | ((with_reducible refine' st_pairs0 ?_))
  | ((with_reducible refine' st_disp ?_); walk_at "nw")
  | ((with_reducible refine' st_listS ?a0 ?_); (case a0 => walk_at "sd"); walk_at "nw")
  | ((with_reducible refine' st_tupS ?a0 ?_); (case a0 => walk_at "sd"); walk_at "nw")
  | ((with_reducible refine' st_listQ (seq_l ?a0) ?_); (case a0 => walk_at "hp"); walk_at "nw")
  | ((with_reducible refine' st_tupL (lst_of ?a0) ?_); (case a0 => walk_at "hp"); walk_at "nw")
  | ((with_reducible refine' st_for ?_))
  | ((with_reducible refine' st_lc ?_))
  | ((with_reducible refine' st_iStr ?_))
  | ((with_reducible refine' st_isStr ?_))
  | ((with_reducible refine' st_iList ?_))
  | ((with_reducible refine' st_isList (lst_of ?a0) ?_); (case a0 => walk_at "hp"))
  | ((with_reducible refine' st_iTup ?_))
  | ((with_reducible refine' st_isTup (tup_of ?a0) ?_); (case a0 => walk_at "hp"))
  | ((with_reducible refine' st_iR1 ?_))
  | ((with_reducible refine' st_iR2 ?_))
  | ((with_reducible refine' st_iEn ?_))
  | ((with_reducible refine' st_isEn (lst_of ?a0) ?_); (case a0 => walk_at "hp"))
  | ((with_reducible refine' st_iZp ?_))
  | ((with_reducible refine' st_isZp (lst_of ?a0) (lst_of ?a1) ?_); (case a0 => walk_at "hp"); (case a1 => walk_at "hp"))
  | ((with_reducible refine' st_inC ?_))
  | ((with_reducible refine' st_ninC ?_))
  | ((with_reducible refine' st_m1 ?_))
  | ((with_reducible refine' st_isS ?_))
  | ((with_reducible refine' st_bm ?_))
  | ((with_reducible refine' st_bm0 ?_))
  | ((with_reducible refine' st_tyL ?a0 ?_); (case a0 => walk_at "hp"))
  | ((with_reducible refine' st_isN ?_))
  | ((with_reducible refine' st_notN ?_))
  | ((with_reducible refine' st_intB ?_))
  | ((with_reducible refine' st_intI ?_))
  | ((with_reducible refine' st_iR3 ?_))
  | ((with_reducible refine' st_dget2 ?_))
  | ((with_reducible refine' st_dsetTU ?_))
  | ((with_reducible refine' st_isDT ?a0 ?_); (case a0 => walk_at "hp"))
  | ((with_reducible refine' st_dsetd ?_))
  | ((with_reducible refine' st_dnew ?_))
  | ((with_reducible refine' st_dnewP ?_); walk_at "nw")
  | ((with_reducible refine' st_isD ?a0 ?_); (case a0 => walk_at "hp"))
  | ((with_reducible refine' st_isB2 ?_))
  | ((with_reducible refine' st_notB2 ?_))
  | ((with_reducible refine' st_chain ?_))
  | ((with_reducible refine' st_tru ?_))
  | ((with_reducible refine' st_chN ?_))
  | ((with_reducible refine' st_aug ?_))
  | ((with_reducible refine' st_augP ?a0 ?a1 ?a2 ?a3 ?_); (case a0 => walk_at "hp"); (case a1 => walk_at "cl"); (case a2 => walk_at "na"); (case a3 => exact rfl))
  | ((with_reducible refine' st_inAdd ?_))
  | ((with_reducible refine' st_augE ?a0 ?a1 ?_); (case a0 => walk_at "hp"); (case a1 => exact Nat.le_of_ble_eq_true rfl))
  | ((with_reducible refine' st_lk ?_))
  | ((with_reducible refine' st_lk1 ?_))
  | ((with_reducible refine' st_truB ?_))
  | ((with_reducible refine' st_truI ?_))
  | ((with_reducible refine' st_while ?_))
  | ((with_reducible refine' st_st3 ?_))
  | ((with_reducible refine' st_revS ?a0 ?_); (case a0 => walk_at "sd"))
  | ((with_reducible refine' st_evS ?a0 ?_); (case a0 => walk_at "sd"))
  | ((with_reducible refine' st_odS ?a0 ?_); (case a0 => walk_at "sd"))
  | ((with_reducible refine' st_raise ?_))
  | ((with_reducible refine' st_mk1 ?a0 ?a1 ?_); (case a0 => walk_at "xo"); (case a1 => walk_at "nf"); walk_at "nw")
  | ((with_reducible refine' st_mk2 ?a0 ?a1 ?a2 ?_); (case a0 => walk_at "xo"); (case a1 => walk_at "nf"); (case a2 => walk_at "nf"); walk_at "nw")
  | ((with_reducible refine' st_try ?_))
  | ((with_reducible refine' st_callS ?_))
  | ((with_reducible refine' st_hYn ?a0 ?_); (case a0 => walk_at "ex"); intro ax hax)
  | ((with_reducible refine' st_hY0 ?a0 ?_); (case a0 => walk_at "ex"); intro ax hax)
  | ((with_reducible refine' st_hN ?a0 ?_); (case a0 => walk_at "ex"))
  | ((with_reducible refine' st_xe ?_))
  | ((with_reducible refine' st_xeP ?a0 ?a1 ?a2 ?a3 ?_); (case a0 => walk_at "xi"); (case a1 => walk_at "nf"); (case a2 => walk_at "hp"); (case a3 => exact rfl))
  | ((with_reducible refine' st_isX ?a0 ?a1 ?a2 ?_); (case a0 => walk_at "xi"); (case a1 => walk_at "hp"); (case a2 => walk_at "ki"))
  | ((with_reducible refine' st_isXT ?a0 ?a1 ?a2 ?_); (case a0 => walk_at "xi"); (case a1 => walk_at "hp"); (case a2 => walk_at "ki"))
  | ((with_reducible refine' st_isXs2 ?a0 ?a1 ?a2 ?a3 ?a4 ?_); (case a0 => walk_at "xi"); (case a1 => walk_at "hp"); (case a2 => walk_at "hp"); (case a3 => walk_at "ki"); (case a4 => walk_at "ki"))
  | ((with_reducible refine' st_isXsN ?a0 ?a1 ?a2 ?a3 ?_); (case a0 => walk_at "xi"); (case a1 => walk_at "hp"); (case a2 => walk_at "hp"); (case a3 => walk_at "kn"))
  | ((with_reducible refine' st_listRg ?_))
  | ((with_reducible refine' st_rgC ?_))
  | ((with_reducible refine' st_rg1 ?_))
  | ((with_reducible refine' st_rg2 ?_))
  | ((with_reducible refine' st_rg3 ?_))
  | ((with_reducible refine' st_rgUp ?a0 ?_); (case a0 => refine ⟨?_, ?_, ?_, ?_⟩ <;> walk_at "sd"); walk_at "nw")
  | ((with_reducible refine' st_rgDown ?a0 ?_); (case a0 => refine ⟨?_, ?_, ?_, ?_⟩ <;> walk_at "sd"); walk_at "nw")
  | ((with_reducible refine' st_divW ?a0 ?_); (case a0 => constructor <;> walk_at "sd"))
  | ((with_reducible refine' st_iSeq ?_))
  | ((with_reducible refine' st_iEnQ ?_))
  | ((with_reducible refine' st_gsl ?_))
  | ((with_reducible refine' st_augS ?a0 ?_); (case a0 => exact rfl))
  | ((with_reducible refine' st_ipS ?a0 ?_); (case a0 => walk_at "sd"))
  | ((with_reducible refine' st_rv ?_))
  | ((with_reducible refine' st_rvQ ?a0 ?_); (case a0 => first | walk_at "hp" | exact seq_l (by walk_at "hp") | exact seq_t (by walk_at "hp")); walk_at "nw")
  | ((with_reducible refine' st_xk ?_))
  | ((with_reducible refine' st_xkP ?a0 ?a1 ?a2 ?a3 ?a4 ?_); (case a0 => walk_at "hp"); (case a1 => walk_at "xi"); (case a2 => walk_at "nf"); (case a3 => walk_at "hp"); (case a4 => exact rfl))
  | ((with_reducible refine' st_isV ?a0 ?a1 ?a2 ?_); (case a0 => first | assumption | walk_at "hx"); (case a1 => first | assumption | walk_at "xi"); (case a2 => first | assumption | walk_at "ki"))
  | ((with_reducible refine' st_isVT ?a0 ?a1 ?a2 ?_); (case a0 => first | assumption | walk_at "hx"); (case a1 => first | assumption | walk_at "xi"); (case a2 => first | assumption | walk_at "ki"))
  | ((with_reducible refine' st_excV ?_))
  | ((with_reducible refine' st_exv1 ?a0 ?a1 ?_); (case a0 => walk_at "xo"); (case a1 => walk_at "nf"); walk_at "nx")
  | ((with_reducible refine' st_exv2 ?a0 ?a1 ?a2 ?_); (case a0 => walk_at "xo"); (case a1 => walk_at "nf"); (case a2 => walk_at "nf"); walk_at "nx")
  | ((with_reducible refine' st_divX ?a0 ?_); (case a0 => constructor <;> walk_at "sd"))
  | ((with_reducible refine' st_isK ?a0 ?a1 ?a2 ?a3 ?_); (case a0 => walk_at "hp"); (case a1 => walk_at "xi"); (case a2 => walk_at "hp"); (case a3 => walk_at "ki"))
  | ((with_reducible refine' st_isKT ?a0 ?a1 ?a2 ?a3 ?_); (case a0 => walk_at "hp"); (case a1 => walk_at "xi"); (case a2 => walk_at "hp"); (case a3 => walk_at "ki"))
  | ((with_reducible refine' st_isKs ?a0 ?a1 ?a2 ?a3 ?a4 ?_); (case a0 => walk_at "hp"); (case a1 => walk_at "xi"); (case a2 => walk_at "hp"); (case a3 => walk_at "hp"); (case a4 => walk_at "kn"))
  | ((with_reducible refine' st_fld ?_))
  | ((with_reducible refine' st_fldP ?a0 ?a1 ?a2 ?a3 ?_); (case a0 => walk_at "hp"); (case a1 => walk_at "cl"); (case a2 => walk_at "na"); (case a3 => exact rfl))
  | ((with_reducible refine' st_fldS ?_))
  | ((with_reducible refine' st_fldSP ?a0 ?a1 ?a2 ?a3 ?_); (case a0 => walk_at "hp"); (case a1 => walk_at "cl"); (case a2 => walk_at "na"); (case a3 => exact Nat.le_of_ble_eq_true rfl))
  | ((with_reducible refine' st_meth ?_))
  | ((with_reducible refine' st_methP ?a0 ?a1 ?_); (case a0 => walk_at "hp"); (case a1 => exact rfl))
  | ((with_reducible refine' st_make ?_))
  | ((with_reducible refine' st_methS ?_))
  | ((with_reducible refine' st_methD ?_))
  | ((with_reducible refine' st_makeS ?_))
  | ((with_reducible refine' st_dnewT ?_); walk_at "nw")
  | ((with_reducible refine' st_dputU ?_))
  | ((with_reducible refine' st_dget ?_))
  | ((with_reducible refine' st_gget1 ?_))
  | ((with_reducible refine' st_gget2 ?_))
  | ((with_reducible refine' st_gitem ?_))
  | ((with_reducible refine' st_gdat ?a0 ?_); (case a0 => walk_at "gd"))
  | ((with_reducible refine' st_gkey ?_))
  | ((with_reducible refine' st_upper ?a0 ?_); (case a0 => walk_at "sd"))
  | ((with_reducible refine' st_dinU ?_))
  | ((with_reducible refine' st_dninU ?_))
  | ((with_reducible refine' st_T ?a0 ?_); (case a0 => exact rfl))
  | ((with_reducible refine' st_F ?a0 ?_); (case a0 => exact rfl)))
local macro_rules | `(tactic| walk_at "go") => `(tactic| repeat walk_at "s")
local macro_rules | `(tactic| walk_at "s") => `(tactic| first
  | ((with_reducible refine' st_callCb ?_))
  | ((with_reducible refine' st_cbk ?a0 ?a1 ?_); (case a0 => exact rfl); (case a1 => walk_at "hp"))
  | ((with_reducible refine' st_cbP ?a0 ?a1 ?_); (case a0 => walk_at "hp"); (case a1 => walk_at "hp")))
def tabsL (tc : Nat → Addr × Addr) : List (Addr × Str) := [((tc 0).2, ("Board.__init__" : Str) ++ ".<locals>." ++ "<lambda>")]
abbrev L_Board_init : Expr := asgE (bodyS s_Board_init 3)
abbrev q_Board_init : Str := ("Board.__init__" : Str) ++ ".<locals>." ++ "<lambda>"
theorem ndf_Board_init : ndefB (defScope s_Board_init) (lamSc L_Board_init) ["side", "top"] = true := by decide +kernel
theorem nsc_Board_init : nscB ["row", "column", "across", "above", "side", "top"] ["row", "column", "across", "above"] ["side", "top"] (lamSc L_Board_init) = true := by decide +kernel
abbrev si_NoPlace : Stmt := inClass (top 5) 0
theorem sci_NoPlace : FnScope ["self", "found"] ["self", "found"] (defScope si_NoPlace) := ⟨rfl, rfl, rfl, by decide +kernel, rfl, by decide +kernel, by decide +kernel⟩
abbrev si_NoTurning : Stmt := inClass (top 7) 0
theorem sci_NoTurning : FnScope ["self", "found"] ["self", "found"] (defScope si_NoTurning) := ⟨rfl, rfl, rfl, by decide +kernel, rfl, by decide +kernel, by decide +kernel⟩
abbrev si_NoSpan : Stmt := inClass (top 6) 0
theorem sci_NoSpan : FnScope ["self", "begin", "end"] ["self", "begin", "end"] (defScope si_NoSpan) := ⟨rfl, rfl, rfl, by decide +kernel, rfl, by decide +kernel, by decide +kernel⟩
abbrev si_NoPlain : Stmt := inClass (top 4) 0
theorem sci_NoPlain : FnScope ["self", "found"] ["self", "found"] (defScope si_NoPlain) := ⟨rfl, rfl, rfl, by decide +kernel, rfl, by decide +kernel, by decide +kernel⟩
abbrev si_NoRow : Stmt := inClass (top 3) 0
theorem sci_NoRow : FnScope ["self", "found"] ["self", "found"] (defScope si_NoRow) := ⟨rfl, rfl, rfl, by decide +kernel, rfl, by decide +kernel, by decide +kernel⟩
/-- what the top has written -/
structure Tx (K : PySem.W.Frag) (mg : Str → Option Value) (ad : Nat → Addr) (fd : Nat → FuncData) (tk : Nat → Tok) (base : Heap) (tc : Nat → Addr × Addr) : Prop where
  d_is_whole : Df K mg "is_whole" s_is_whole ["thing"] (ad 0) (fd 0)
  d_is_within : Df K mg "is_within" s_is_within ["thing", "low", "high"] (ad 1) (fd 1)
  d_is_row : Df K mg "is_row" s_is_row ["thing"] (ad 2) (fd 2)
  d_is_plain : Df K mg "is_plain" s_is_plain ["thing"] (ad 3) (fd 3)
  d_need_row : Df K mg "need_row" s_need_row ["row"] (ad 4) (fd 4)
  d_need_rows : Df K mg "need_rows" s_need_rows ["side", "top"] (ad 5) (fd 5)
  d_need_plain : Df K mg "need_plain" s_need_plain ["row"] (ad 6) (fd 6)
  d_need_span : Df K mg "need_span" s_need_span ["begin", "end", "many"] (ad 7) (fd 7)
  d_places_of : Df K mg "places_of" s_places_of ["row"] (ad 8) (fd 8)
  d_led : Df K mg "led" s_led ["many", "far", "crosses"] (ad 9) (fd 9)
  d_is_turning : Df K mg "is_turning" s_is_turning ["thing"] (ad 10) (fd 10)
  d_need_turning : Df K mg "need_turning" s_need_turning ["turning"] (ad 11) (fd 11)
  d_need_place : Df K mg "need_place" s_need_place ["place", "most"] (ad 12) (fd 12)
  d_opposite : Df K mg "opposite" s_opposite ["turning"] (ad 13) (fd 13)
  d_mixed : Df K mg "mixed" s_mixed ["one", "other"] (ad 14) (fd 14)
  d_floors_of : Df K mg "floors_of" s_floors_of ["ends"] (ad 15) (fd 15)
  d_lesser : Df K mg "lesser" s_lesser ["block", "end"] (ad 16) (fd 16)
  d_need_window : Df K mg "need_window" s_need_window ["tall", "wide", "spans"] (ad 17) (fd 17)
  d_Tally_init : Dm K "Tally" "__init__" "Tally.__init__" s_Tally_init ["self", "turning"] (ad 18) (fd 18)
  d_Asks_init : Dm K "Asks" "__init__" "Asks.__init__" s_Asks_init ["self", "lines", "many"] (ad 19) (fd 19)
  d_Board_init : Dm K "Board" "__init__" "Board.__init__" s_Board_init ["self", "side", "top"] (ad 20) (fd 20)
  fc_Board_init : FunC K "__init__" "Board.__init__" s_Board_init (ad 20) (fd 20) (tc 0).1
  tb_Board_init : TabB base mg (tc 0).1 (tc 0).2
  d_Board_lines : Dm K "Board" "lines" "Board.lines" s_Board_lines ["self"] (ad 21) (fd 21)
  d_asks_of : Df K mg "asks_of" s_asks_of ["side", "top"] (ad 22) (fd 22)
  d_lengths : Df K mg "lengths" s_lengths ["side", "top"] (ad 23) (fd 23)
  d_thread_of : Df K mg "thread_of" s_thread_of ["side", "top"] (ad 24) (fd 24)
  d_pairs_of : Df K mg "pairs_of" s_pairs_of ["side", "top"] (ad 25) (fd 25)
  d_heaps_of : Df K mg "heaps_of" s_heaps_of ["side", "top"] (ad 26) (fd 26)
  d_moved : Df K mg "moved" s_moved ["pairs", "down", "along"] (ad 27) (fd 27)
  d_Tally_from_on : Dm K "Tally" "from_on" "Tally.from_on" s_Tally_from_on ["self", "begin", "end"] (ad 28) (fd 28)
  d_Tally_below : Dm K "Tally" "below" "Tally.below" s_Tally_below ["self", "begin", "end"] (ad 29) (fd 29)
  d_Asks_window : Dm K "Asks" "window" "Asks.window" s_Asks_window ["self", "first", "last", "begin", "end"] (ad 30) (fd 30)
  d_twice_lengths : Df K mg "twice_lengths" s_twice_lengths ["row"] (ad 31) (fd 31)
  d_twice : Df K mg "twice" s_twice ["row"] (ad 32) (fd 32)
  d__law_cell_at : Df K mg "_law_cell_at" s__law_cell_at ["_law_script", "_law_k"] (ad 33) (fd 33)
  d__law_great : Df K mg "_law_great" s__law_great ["_law_cell"] (ad 34) (fd 34)
  d__law_letter : Df K mg "_law_letter" s__law_letter ["_law_number"] (ad 35) (fd 35)
  d__law_row : Df K mg "_law_row" s__law_row ["_law_cell", "_law_most"] (ad 36) (fd 36)
  d__law_list : Df K mg "_law_list" s__law_list ["_law_row_here", "_law_cells", "_law_most"] (ad 37) (fd 37)
  d__law_heaps : Df K mg "_law_heaps" s__law_heaps ["_law_side", "_law_top"] (ad 38) (fd 38)
  d__law_new : Df K mg "_law_new" s__law_new ["_law_changes"] (ad 39) (fd 39)
  d__law_heaps_at : Df K mg "_law_heaps_at" s__law_heaps_at ["_law_row_here", "_law_cut"] (ad 40) (fd 40)
  d__law_rising : Df K mg "_law_rising" s__law_rising ["_law_found", "_law_low", "_law_high"] (ad 41) (fd 41)
  d__law_same : Df K mg "_law_same" s__law_same ["_law_found", "_law_due"] (ad 42) (fd 42)
  d__law_told : Df K mg "_law_told" s__law_told ["_law_row_here", "_law_due"] (ad 43) (fd 43)
  d__law_lengths : Df K mg "_law_lengths" s__law_lengths ["_law_row_here", "_law_due"] (ad 44) (fd 44)
  d__law_refused : Df K mg "_law_refused" s__law_refused ["_law_deed", "_law_wrong"] (ad 45) (fd 45)
  d_law : Df K mg "law" s_law ["_law_script"] (ad 46) (fd 46)
  c_MOST_SIGNS : mg "MOST_SIGNS" = some (.int 48 (tk 0))
  c_LETTERS : mg "LETTERS" = some (.str "abcdefghijklmnopqrstuvwxyz" (tk 1))
  c_MOST_LETTERS : mg "MOST_LETTERS" = some (.int 24 (tk 2))
  c_MOST_LINES : mg "MOST_LINES" = some (.int 96 (tk 3))
  b_isinstance : mg "isinstance" = none
  b_int : mg "int" = none
  b_bool : mg "bool" = none
  b_all : mg "all" = none
  b_str : mg "str" = none
  b_len : mg "len" = none
  b_enumerate : mg "enumerate" = none
  b_list : mg "list" = none
  b_range : mg "range" = none
  b_tuple : mg "tuple" = none
  b_zip : mg "zip" = none
  b_max : mg "max" = none
  b_ord : mg "ord" = none
  b_any : mg "any" = none
  b_ValueError : mg "ValueError" = none
  e_NoPlain : EC K mg "NoPlain"
  e_PaneError : EC K mg "PaneError"
  e_NoRow : EC K mg "NoRow"
  g_NoRow : mg "NoRow" = some (.ref (clsA K "NoRow"))
  o_NoRow : OexC K (clsA K "NoRow")
  n_NoRow_found : PySem.W.findIn K (.ref (clsA K "NoRow")) "found" = some none
  i_NoRow : IniF K "NoRow" "NoRow.__init__" si_NoRow ["self", "found"]
  x_NoRow : XI K (clsA K "NoRow")
  s_NoRow_NoPlain : PySem.W.subIn K (.ref (clsA K "NoRow")) (.ref (clsA K "NoPlain")) = some false
  s_NoRow_PaneError : PySem.W.subIn K (.ref (clsA K "NoRow")) (.ref (clsA K "PaneError")) = some true
  s_NoRow_NoRow : PySem.W.subIn K (.ref (clsA K "NoRow")) (.ref (clsA K "NoRow")) = some true
  v_NoRow : PySem.W.subIn K (.ref (clsA K "NoRow")) (.type "ValueError") = some true
  g_NoPlain : mg "NoPlain" = some (.ref (clsA K "NoPlain"))
  o_NoPlain : OexC K (clsA K "NoPlain")
  n_NoPlain_found : PySem.W.findIn K (.ref (clsA K "NoPlain")) "found" = some none
  i_NoPlain : IniF K "NoPlain" "NoPlain.__init__" si_NoPlain ["self", "found"]
  x_NoPlain : XI K (clsA K "NoPlain")
  s_NoPlain_NoPlain : PySem.W.subIn K (.ref (clsA K "NoPlain")) (.ref (clsA K "NoPlain")) = some true
  s_NoPlain_PaneError : PySem.W.subIn K (.ref (clsA K "NoPlain")) (.ref (clsA K "PaneError")) = some true
  s_NoPlain_NoRow : PySem.W.subIn K (.ref (clsA K "NoPlain")) (.ref (clsA K "NoRow")) = some false
  v_NoPlain : PySem.W.subIn K (.ref (clsA K "NoPlain")) (.type "ValueError") = some true
  g_NoSpan : mg "NoSpan" = some (.ref (clsA K "NoSpan"))
  o_NoSpan : OexC K (clsA K "NoSpan")
  n_NoSpan_begin : PySem.W.findIn K (.ref (clsA K "NoSpan")) "begin" = some none
  n_NoSpan_end : PySem.W.findIn K (.ref (clsA K "NoSpan")) "end" = some none
  i_NoSpan : IniF K "NoSpan" "NoSpan.__init__" si_NoSpan ["self", "begin", "end"]
  x_NoSpan : XI K (clsA K "NoSpan")
  s_NoSpan_NoPlain : PySem.W.subIn K (.ref (clsA K "NoSpan")) (.ref (clsA K "NoPlain")) = some false
  s_NoSpan_PaneError : PySem.W.subIn K (.ref (clsA K "NoSpan")) (.ref (clsA K "PaneError")) = some true
  s_NoSpan_NoRow : PySem.W.subIn K (.ref (clsA K "NoSpan")) (.ref (clsA K "NoRow")) = some false
  v_NoSpan : PySem.W.subIn K (.ref (clsA K "NoSpan")) (.type "ValueError") = some true
  g_NoTurning : mg "NoTurning" = some (.ref (clsA K "NoTurning"))
  o_NoTurning : OexC K (clsA K "NoTurning")
  n_NoTurning_found : PySem.W.findIn K (.ref (clsA K "NoTurning")) "found" = some none
  i_NoTurning : IniF K "NoTurning" "NoTurning.__init__" si_NoTurning ["self", "found"]
  x_NoTurning : XI K (clsA K "NoTurning")
  s_NoTurning_NoPlain : PySem.W.subIn K (.ref (clsA K "NoTurning")) (.ref (clsA K "NoPlain")) = some false
  s_NoTurning_PaneError : PySem.W.subIn K (.ref (clsA K "NoTurning")) (.ref (clsA K "PaneError")) = some true
  s_NoTurning_NoRow : PySem.W.subIn K (.ref (clsA K "NoTurning")) (.ref (clsA K "NoRow")) = some false
  v_NoTurning : PySem.W.subIn K (.ref (clsA K "NoTurning")) (.type "ValueError") = some true
  g_NoPlace : mg "NoPlace" = some (.ref (clsA K "NoPlace"))
  o_NoPlace : OexC K (clsA K "NoPlace")
  n_NoPlace_found : PySem.W.findIn K (.ref (clsA K "NoPlace")) "found" = some none
  i_NoPlace : IniF K "NoPlace" "NoPlace.__init__" si_NoPlace ["self", "found"]
  x_NoPlace : XI K (clsA K "NoPlace")
  s_NoPlace_NoPlain : PySem.W.subIn K (.ref (clsA K "NoPlace")) (.ref (clsA K "NoPlain")) = some false
  s_NoPlace_PaneError : PySem.W.subIn K (.ref (clsA K "NoPlace")) (.ref (clsA K "PaneError")) = some true
  s_NoPlace_NoRow : PySem.W.subIn K (.ref (clsA K "NoPlace")) (.ref (clsA K "NoRow")) = some false
  v_NoPlace : PySem.W.subIn K (.ref (clsA K "NoPlace")) (.type "ValueError") = some true
  bi_PaneError : BI K mg "PaneError"
  mg_Tally : mg "Tally" = some (.ref (clsA K "Tally"))
  cl_Tally : Cls K (clsA K "Tally")
  na_Tally_many : NoAttr K (clsA K "Tally") "many"
  na_Tally_floors : NoAttr K (clsA K "Tally") "floors"
  m_Tally : Mk K (clsA K "Tally") (ad 18)
  mg_Asks : mg "Asks" = some (.ref (clsA K "Asks"))
  cl_Asks : Cls K (clsA K "Asks")
  na_Asks_tall : NoAttr K (clsA K "Asks") "tall"
  na_Asks_wide : NoAttr K (clsA K "Asks") "wide"
  na_Asks_tally : NoAttr K (clsA K "Asks") "tally"
  na_Asks_goals : NoAttr K (clsA K "Asks") "goals"
  na_Asks_starts : NoAttr K (clsA K "Asks") "starts"
  m_Asks : Mk K (clsA K "Asks") (ad 19)
  mg_Board : mg "Board" = some (.ref (clsA K "Board"))
  cl_Board : Cls K (clsA K "Board")
  na_Board_left_row : NoAttr K (clsA K "Board") "left_row"
  na_Board_upper_row : NoAttr K (clsA K "Board") "upper_row"
  na_Board_meetings : NoAttr K (clsA K "Board") "meetings"
  na_Board_signs : NoAttr K (clsA K "Board") "signs"
  na_Board_goals : NoAttr K (clsA K "Board") "goals"
  m_Board : Mk K (clsA K "Board") (ad 20)
  fg_twice : mg "twice" = some (.ref (clsA K "twice"))
  fa_twice : ad 32 = clsA K "twice"
  fg_twice_lengths : mg "twice_lengths" = some (.ref (clsA K "twice_lengths"))
  fa_twice_lengths : ad 31 = clsA K "twice_lengths"
local macro_rules | `(tactic| walk_at "ex") => `(tactic| first
  | exact EC.xm (Tx.e_NoPlain (by assumption)) (Tx.s_NoRow_NoPlain (by assumption))
  | exact EC.xm (Tx.e_PaneError (by assumption)) (Tx.s_NoRow_PaneError (by assumption))
  | exact EC.xm (Tx.e_NoPlain (by assumption)) (Tx.s_NoPlain_NoPlain (by assumption))
  | exact EC.xm (Tx.e_PaneError (by assumption)) (Tx.s_NoPlain_PaneError (by assumption))
  | exact EC.xm (Tx.e_NoPlain (by assumption)) (Tx.s_NoSpan_NoPlain (by assumption))
  | exact EC.xm (Tx.e_PaneError (by assumption)) (Tx.s_NoSpan_PaneError (by assumption))
  | exact EC.xm (Tx.e_NoPlain (by assumption)) (Tx.s_NoTurning_NoPlain (by assumption))
  | exact EC.xm (Tx.e_PaneError (by assumption)) (Tx.s_NoTurning_PaneError (by assumption))
  | exact EC.xm (Tx.e_NoPlain (by assumption)) (Tx.s_NoPlace_NoPlain (by assumption))
  | exact EC.xm (Tx.e_PaneError (by assumption)) (Tx.s_NoPlace_PaneError (by assumption)))
local macro_rules | `(tactic| walk_at "ki") => `(tactic| first
  | exact EC.kit (Tx.e_NoRow (by assumption)) (Tx.s_NoRow_NoRow (by assumption)) (Tx.s_NoRow_NoRow (by assumption))
  | exact EC.kit (Tx.e_NoRow (by assumption)) (Tx.s_NoPlain_NoRow (by assumption)) (Tx.s_NoRow_NoRow (by assumption))
  | exact EC.kit (Tx.e_NoRow (by assumption)) (Tx.s_NoSpan_NoRow (by assumption)) (Tx.s_NoRow_NoRow (by assumption))
  | exact EC.kit (Tx.e_NoRow (by assumption)) (Tx.s_NoTurning_NoRow (by assumption)) (Tx.s_NoRow_NoRow (by assumption))
  | exact EC.kit (Tx.e_NoRow (by assumption)) (Tx.s_NoPlace_NoRow (by assumption)) (Tx.s_NoRow_NoRow (by assumption))
  | exact kit_ve (Tx.v_NoRow (by assumption))
  | exact kit_ve (Tx.v_NoPlain (by assumption))
  | exact kit_ve (Tx.v_NoSpan (by assumption))
  | exact kit_ve (Tx.v_NoTurning (by assumption))
  | exact kit_ve (Tx.v_NoPlace (by assumption)))
local macro_rules | `(tactic| walk_at "xi") => `(tactic| first
  | exact Tx.x_NoRow (by assumption)
  | exact Tx.x_NoPlain (by assumption)
  | exact Tx.x_NoSpan (by assumption)
  | exact Tx.x_NoTurning (by assumption)
  | exact Tx.x_NoPlace (by assumption))
local macro_rules | `(tactic| walk_at "xo") => `(tactic| first
  | exact Tx.o_NoRow (by assumption)
  | exact Tx.o_NoPlain (by assumption)
  | exact Tx.o_NoSpan (by assumption)
  | exact Tx.o_NoTurning (by assumption)
  | exact Tx.o_NoPlace (by assumption))
local macro_rules | `(tactic| walk_at "nf") => `(tactic| first
  | exact Tx.n_NoRow_found (by assumption)
  | exact Tx.n_NoPlain_found (by assumption)
  | exact Tx.n_NoSpan_begin (by assumption)
  | exact Tx.n_NoSpan_end (by assumption)
  | exact Tx.n_NoTurning_found (by assumption)
  | exact Tx.n_NoPlace_found (by assumption))
local macro_rules | `(tactic| walk_at "cl") => `(tactic| first
  | exact Tx.cl_Tally (by assumption)
  | exact Tx.cl_Asks (by assumption)
  | exact Tx.cl_Board (by assumption))
local macro_rules | `(tactic| walk_at "na") => `(tactic| first
  | exact Tx.na_Tally_many (by assumption)
  | exact Tx.na_Tally_floors (by assumption)
  | exact Tx.na_Asks_tall (by assumption)
  | exact Tx.na_Asks_wide (by assumption)
  | exact Tx.na_Asks_tally (by assumption)
  | exact Tx.na_Asks_goals (by assumption)
  | exact Tx.na_Asks_starts (by assumption)
  | exact Tx.na_Board_left_row (by assumption)
  | exact Tx.na_Board_upper_row (by assumption)
  | exact Tx.na_Board_meetings (by assumption)
  | exact Tx.na_Board_signs (by assumption)
  | exact Tx.na_Board_goals (by assumption))
section
variable {P : Program} {w : World} {K : PySem.W.Frag} {mg : Str → Option Value} {base : Heap} {ad : Nat → Addr} {fd : Nat → FuncData} {tk : Nat → Tok} {tc : Nat → Addr × Addr}
theorem tabs_m_Board_init : ((tc 0).2, q_Board_init) ∈ tabsL tc := by
  unfold tabsL
  simp
theorem tabs_u_Board_init (T : Tx K mg ad fd tk base tc) : ∀ p ∈ tabsL tc, p.1 = (tc 0).2 → p.2 = q_Board_init := by
  intro p hp e
  simp only [tabsL, List.mem_cons, List.not_mem_nil, or_false] at hp
  rcases hp with rfl
  all_goals first
  | rfl
theorem ex_NoRow (T : Tx K mg ad fd tk base tc) : EX P w K mg base "NoRow" ["self", "found"] (spI1 K "found") := by
  obtain ⟨f, fd, i1, i2, F, b⟩ := T.i_NoRow.ex
  refine ⟨T.g_NoRow, T.o_NoRow, f, fd, i1, i2, F.ok sci_NoRow (fun vs H Q E h => ?_) (fun cdv A outer s H vs Q E hr h => ?_), b⟩
  · obtain ⟨a, C, y0, rfl, _⟩ := h
    rfl
  · obtain ⟨a, C, y0, rfl, hO, hn0, ha, k⟩ := h
    refine ⟨_, (pss_cons (ps_expr (pe_oinit T.bi_PaneError rfl (pa_cons (pv 0) (pa_cons pe_str pa_nil))))
      (pss_one (ps_ost (pv 0) (pv 1)))), ?_⟩
    exact ini1_go hO hn0 ha k
theorem ex_NoPlain (T : Tx K mg ad fd tk base tc) : EX P w K mg base "NoPlain" ["self", "found"] (spI1 K "found") := by
  obtain ⟨f, fd, i1, i2, F, b⟩ := T.i_NoPlain.ex
  refine ⟨T.g_NoPlain, T.o_NoPlain, f, fd, i1, i2, F.ok sci_NoPlain (fun vs H Q E h => ?_) (fun cdv A outer s H vs Q E hr h => ?_), b⟩
  · obtain ⟨a, C, y0, rfl, _⟩ := h
    rfl
  · obtain ⟨a, C, y0, rfl, hO, hn0, ha, k⟩ := h
    refine ⟨_, (pss_cons (ps_expr (pe_oinit T.bi_PaneError rfl (pa_cons (pv 0) (pa_cons pe_str pa_nil))))
      (pss_one (ps_ost (pv 0) (pv 1)))), ?_⟩
    exact ini1_go hO hn0 ha k
theorem ex_NoSpan (T : Tx K mg ad fd tk base tc) : EX P w K mg base "NoSpan" ["self", "begin", "end"] (spI2 K "begin" "end") := by
  obtain ⟨f, fd, i1, i2, F, b⟩ := T.i_NoSpan.ex
  refine ⟨T.g_NoSpan, T.o_NoSpan, f, fd, i1, i2, F.ok sci_NoSpan (fun vs H Q E h => ?_) (fun cdv A outer s H vs Q E hr h => ?_), b⟩
  · obtain ⟨a, C, y0, y1, rfl, _⟩ := h
    rfl
  · obtain ⟨a, C, y0, y1, rfl, hO, hn0, hn1, ha, k⟩ := h
    refine ⟨_, (pss_cons (ps_expr (pe_oinit T.bi_PaneError rfl (pa_cons (pv 0) (pa_cons pe_str pa_nil))))
      (pss_cons (ps_ost (pv 0) (pv 1)) (pss_one (ps_ost (pv 0) (pv 2))))), ?_⟩
    exact ini2_go hO hn0 hn1 ha k
theorem ex_NoTurning (T : Tx K mg ad fd tk base tc) : EX P w K mg base "NoTurning" ["self", "found"] (spI1 K "found") := by
  obtain ⟨f, fd, i1, i2, F, b⟩ := T.i_NoTurning.ex
  refine ⟨T.g_NoTurning, T.o_NoTurning, f, fd, i1, i2, F.ok sci_NoTurning (fun vs H Q E h => ?_) (fun cdv A outer s H vs Q E hr h => ?_), b⟩
  · obtain ⟨a, C, y0, rfl, _⟩ := h
    rfl
  · obtain ⟨a, C, y0, rfl, hO, hn0, ha, k⟩ := h
    refine ⟨_, (pss_cons (ps_expr (pe_oinit T.bi_PaneError rfl (pa_cons (pv 0) (pa_cons pe_str pa_nil))))
      (pss_one (ps_ost (pv 0) (pv 1)))), ?_⟩
    exact ini1_go hO hn0 ha k
theorem ex_NoPlace (T : Tx K mg ad fd tk base tc) : EX P w K mg base "NoPlace" ["self", "found"] (spI1 K "found") := by
  obtain ⟨f, fd, i1, i2, F, b⟩ := T.i_NoPlace.ex
  refine ⟨T.g_NoPlace, T.o_NoPlace, f, fd, i1, i2, F.ok sci_NoPlace (fun vs H Q E h => ?_) (fun cdv A outer s H vs Q E hr h => ?_), b⟩
  · obtain ⟨a, C, y0, rfl, _⟩ := h
    rfl
  · obtain ⟨a, C, y0, rfl, hO, hn0, ha, k⟩ := h
    refine ⟨_, (pss_cons (ps_expr (pe_oinit T.bi_PaneError rfl (pa_cons (pv 0) (pa_cons pe_str pa_nil))))
      (pss_one (ps_ost (pv 0) (pv 1)))), ?_⟩
    exact ini1_go hO hn0 ha k
def isWholeV : V → Bool
  | .int _ => true
  | _ => false
def sp_is_whole : Sp := fun vs H Q _ => ∃ x, vs = [x] ∧ Ty H x ∧ Q (.bl (isWholeV x)) H
theorem ok_is_whole (T : Tx K mg ad fd tk base tc) : FnOk P w K mg base CX0 1 (ad 0) (fd 0) ["thing"] sp_is_whole := by
  refine T.d_is_whole.F.ok sc_is_whole (fun vs H Q E h => ?_) (fun cdv A outer s H vs Q E hr h => ?_)
  · obtain ⟨x, rfl, _⟩ := h
    rfl
  · obtain ⟨x, rfl, ht, k⟩ := h
    refine ⟨_, (pss_one (ps_ret (pe_and (pe_callB c_is (by rfl) T.b_isinstance (by decide +kernel) (pa_cons (pv 0) (pa_cons (pe_bltn (v := .ty "int") rfl T.b_int (by decide +kernel) rfl) pa_nil))) (pe_one (pe_not (pe_callB c_is (by rfl) T.b_isinstance (by decide +kernel) (pa_cons (pv 0) (pa_cons (pe_bltn (v := .ty "bool") rfl T.b_bool (by decide +kernel) rfl) pa_nil)))))))), ?_⟩
    walk_at "go"
    refine st_isIntT ht ?_
    walk_at "go"
    cases x with
    | int i =>
      refine st_T rfl ?_
      walk_at "go"
      exact k
    | bl b =>
      refine st_T rfl ?_
      walk_at "go"
      exact k
    | _ =>
      refine st_F rfl ?_
      walk_at "go"
      exact k
def withinV (x : V) (lo hi : Int) : Bool := match x with
  | .int i => decide (lo ≤ i ∧ i ≤ hi)
  | _ => false
def sp_is_within : Sp := fun vs H Q _ => ∃ (x : V) (lo hi : Int), vs = [x, .int lo, .int hi] ∧ Ty H x ∧ Q (.bl (withinV x lo hi)) H
theorem ok_is_within (T : Tx K mg ad fd tk base tc) : FnOk P w K mg base CX0 2 (ad 1) (fd 1) ["thing", "low", "high"] sp_is_within := by
  refine T.d_is_within.F.ok sc_is_within (fun vs H Q E h => ?_) (fun cdv A outer s H vs Q E hr h => ?_)
  · obtain ⟨x, lo, hi, rfl, _⟩ := h
    rfl
  · obtain ⟨x, lo, hi, rfl, ht, k⟩ := h
    refine ⟨_, (pss_one (ps_ret (pe_and (pe_call (ok_is_whole T) (hr.mono (by decide)) rfl T.d_is_whole.g T.d_is_whole.F.kp T.d_is_whole.b .nil pass0 (pa_cons (pv 0) pa_nil)) (pe_one (pe_chain o_le o_le (pv 1) (pv 0) (pv 2)))))), ?_⟩
    walk_at "go"
    refine ⟨x, rfl, ht, ?_⟩
    cases x with
    | int i =>
      walk_at "go"
      refine st_br2 (fun c => ?_) (fun c => ?_)
      · walk_at "go"
        have e : withinV (.int i) lo hi = decide (i ≤ hi) := by
          unfold withinV
          simp [c]
        rw [e] at k
        exact k
      · have e : withinV (.int i) lo hi = false := by
          unfold withinV
          simp [c]
        rw [e] at k
        exact k
    | _ =>
      walk_at "go"
      exact k
def rowSign (c : Nat) : Bool := decide (97 ≤ c ∧ c ≤ 122) || decide (c = 46)
def isRow : V → Bool
  | .str z => decide (z.length ≤ 48) && z.cps.toList.all rowSign
  | _ => false
theorem letters_eq : ("abcdefghijklmnopqrstuvwxyz" : Str).cps.toList = List.range' 97 26 := by decide +kernel
theorem letters_mem (c : Nat) : (c ∈ ("abcdefghijklmnopqrstuvwxyz" : Str).cps.toList) ↔ (97 ≤ c ∧ c ≤ 122) := by
  rw [letters_eq, List.mem_range'_1]
  omega
theorem point_eq : ("." : Str) = tx [46] := by decide +kernel
def sp_is_row : Sp := fun vs H Q _ => ∃ v, vs = [v] ∧ Ty H v ∧ (∀ z, v = .str z → z.length ≤ 16777216) ∧ ∀ H', Ex H H' → Q (.bl (isRow v)) H'
theorem ok_is_row (T : Tx K mg ad fd tk base tc) : FnOk P w K mg base CX0 1 (ad 2) (fd 2) ["thing"] sp_is_row := by
  refine T.d_is_row.F.ok sc_is_row (fun vs H Q E h => ?_) (fun cdv A outer s H vs Q E hr h => ?_)
  · obtain ⟨v, rfl, _⟩ := h
    rfl
  · obtain ⟨v, rfl, ht, hz, k⟩ := h
    refine ⟨_, (pss_cons (ps_if (PW.pt (pw_or (pt_not (pt_val (pe_callB c_is (by rfl) T.b_isinstance (by decide +kernel) (pa_cons (pv 0) (pa_cons (pe_bltn (v := .ty "str") rfl T.b_str (by decide +kernel) rfl) pa_nil))))) (pw_or1 (pt_cmpR o_gt (pe_callB (c_len (K := K)) (by rfl) T.b_len (by decide +kernel) (pa_cons (pv 0) pa_nil)) (pe_glob (v := .int 48) rfl T.c_MOST_SIGNS ⟨_, rfl⟩) (nomark _))))) (pss_one (ps_ret pe_bl)) pss_nil)
      (pss_one (ps_ret (pe_callB (c_all rfl) (by rfl) T.b_all (by decide +kernel) (pa_cons (pe_lc (own := [("sign", 1)]) (g := gName 1) rfl sc_is_row.nd (pi_str (pv 0)) (blkOk_by (own := [("sign", 1)]) (N := N_is_row) (sc := defScope s_is_row) (by decide +kernel)) (fun _ _ _ _ _ => pg_name (i := 1) sc_is_row.nd rfl (Or.inl rfl)) (fun _ _ _ _ _ => pts_nil) (fun _ _ _ _ _ => (pe_or (pe_cmpR (o_in hr.units) (pv 1) (pe_glob (v := .str "abcdefghijklmnopqrstuvwxyz") rfl T.c_LETTERS ⟨_, rfl⟩) rfl) (pe_one (pe_cmpR (o_eq hr.units) (pv 1) pe_str (nomark _)))))) pa_nil))))), ?_⟩
    walk_at "go"
    refine st_isStrT ht ?_
    walk_at "go"
    cases v with
    | str z =>
      have hz' := hz z rfl
      refine st_F rfl ?_
      walk_at "go"
      refine st_br2 (fun c => ?_) (fun c => ?_)
      · walk_at "go"
        have e : isRow (.str z) = false := by
          show (decide (z.length ≤ 48) && _) = false
          rw [decide_eq_false (by omega)]
          rfl
        have k' := k _ (Fr.refl H)
        rw [e] at k'
        exact k'
      · walk_at "go"
        refine lc_pure (rv_str z) (fun _ _ => trivial) (by show z.cps.toList.length < _; simp only [Array.length_toList]; have : z.cps.size = z.length := rfl; omega) (fun _ => true) (fun c => .bl (rowSign c)) ?_ ?_
        · intro c' H' hc e B A h1 h2
          refine ⟨rfl, ?_⟩
          have h1' := h1 rfl _ (Fr.refl _)
          walk_at "go"
          refine st_br2 (fun m => ?_) (fun m => ?_)
          · rw [letters_mem] at m
            have e1 : rowSign c' = true := by
              unfold rowSign
              rw [decide_eq_true m]
              rfl
            rw [e1] at h1'
            exact h1'
          · rw [letters_mem] at m
            walk_at "go"
            have e1 : rowSign c' = decide (tx [c'] = ".") := by
              unfold rowSign
              rw [decide_eq_false m, point_eq, Bool.false_or]
              simp [tx_inj]
            rw [e1] at h1'
            exact h1'
        · intro D H' hD e hd
          walk_at "go"
          refine st_all (bs := z.cps.toList.map rowSign) hd (by rw [List.filter_eq_self.mpr (fun _ _ => rfl), List.map_map]; rfl) ?_
          have e1 : isRow (.str z) = (z.cps.toList.map rowSign).all id := by
            show (decide (z.length ≤ 48) && _) = _
            rw [decide_eq_true (by omega), Bool.true_and, List.all_map]
            rfl
          have k' := k _ e
          rw [e1] at k'
          exact k'
    | _ =>
      refine st_T rfl ?_
      walk_at "go"
      exact k _ (Fr.refl H)
def isPlain : V → Bool
  | .str z => isRow (.str z) && (decide (z.length ≤ 24) && !decide (46 ∈ z.cps.toList))
  | _ => false
def sp_is_plain : Sp := fun vs H Q _ => ∃ v, vs = [v] ∧ Ty H v ∧ (∀ z, v = .str z → z.length ≤ 16777216) ∧ ∀ H', Ex H H' → Q (.bl (isPlain v)) H'
theorem ok_is_plain (T : Tx K mg ad fd tk base tc) : FnOk P w K mg base CX0 2 (ad 3) (fd 3) ["thing"] sp_is_plain := by
  refine T.d_is_plain.F.ok sc_is_plain (fun vs H Q E h => ?_) (fun cdv A outer s H vs Q E hr h => ?_)
  · obtain ⟨v, rfl, _⟩ := h
    rfl
  · obtain ⟨v, rfl, ht, hz, k⟩ := h
    refine ⟨_, (pss_one (ps_ret (pe_and (pe_call (ok_is_row T) (hr.mono (by decide)) rfl T.d_is_row.g T.d_is_row.F.kp T.d_is_row.b .nil pass0 (pa_cons (pv 0) pa_nil)) (pe_and (pe_cmpR o_le (pe_callB (c_len (K := K)) (by rfl) T.b_len (by decide +kernel) (pa_cons (pv 0) pa_nil)) (pe_glob (v := .int 24) rfl T.c_MOST_LETTERS ⟨_, rfl⟩) (nomark _)) (pe_one (pe_cmpR (o_nin hr.units) pe_str (pv 0) rfl)))))), ?_⟩
    walk_at "go"
    refine ⟨v, rfl, ht, hz, fun H' e => ?_⟩
    walk_at "go"
    cases v with
    | str z =>
      have hz' := hz z rfl
      refine st_br (fun c => ?_) (fun c => ?_)
      · walk_at "go"
        refine st_br (fun c2 => ?_) (fun c2 => ?_)
        · walk_at "go"
          rw [point_eq]
          walk_at "go"
          have k' := k _ e
          have e1 : isPlain (.str z) = !decide (46 ∈ z.cps.toList) := by
            show (isRow (.str z) && (decide (z.length ≤ 24) && _)) = _
            rw [c, decide_eq_true (by have := of_decide_eq_true c2; omega)]
            rfl
          rw [e1] at k'
          exact k'
        · have k' := k _ e
          have e1 : isPlain (.str z) = false := by
            show (isRow (.str z) && (decide (z.length ≤ 24) && _)) = _
            rw [c, decide_eq_false (by have := of_decide_eq_false c2; omega)]
            rfl
          rw [e1] at k'
          exact k'
      · have k' := k _ e
        have e1 : isPlain (.str z) = false := by
          show (isRow (.str z) && (decide (z.length ≤ 24) && _)) = _
          rw [c]
          rfl
        rw [e1] at k'
        exact k'
    | _ => exact k _ e
/-- a text that is a row -/
def RowS (z : Str) : Prop := isRow (.str z) = true
theorem RowS.len {z : Str} (h : RowS z) : z.length ≤ 48 := by
  have h : (decide (z.length ≤ 48) && z.cps.toList.all rowSign) = true := h
  rw [Bool.and_eq_true] at h
  exact of_decide_eq_true h.1
theorem RowS.len2 {z : Str} (h : RowS z) : z.cps.toList.length ≤ 48 := by
  have e : z.cps.toList.length = z.length := Array.length_toList
  rw [e]
  exact h.len
theorem rowS_of_true {x : V} (h : isRow x = true) : ∃ s, x = .str s ∧ RowS s := by
  cases x with
  | str s => exact ⟨s, rfl, h⟩
  | _ => cases h
/-- a row, or refused -/
def Row1 (K : PySem.W.Frag) (E : XK) (H : Hp) (x : V) (k : Str → Prop) : Prop := (∃ s, x = .str s ∧ RowS s ∧ k s) ∨ (Thg H x ∧ isRow x = false ∧ RaR K E H "NoRow" "found" x)
theorem Row1.imp {K : PySem.W.Frag} {E : XK} {H : Hp} {x : V} {k k' : Str → Prop} (h : Row1 K E H x k) (f : ∀ s, x = .str s → RowS s → k s → k' s) : Row1 K E H x k' := by
  rcases h with ⟨s, e, hs, h⟩ | h
  · exact .inl ⟨s, e, hs, f s e hs h⟩
  · exact .inr h
def sp_need_row (K : PySem.W.Frag) : Sp := fun vs H Q E => ∃ x, vs = [x] ∧ Row1 K E H x fun _ => ∀ H', Ex H H' → Q .non H'
theorem ok_need_row (T : Tx K mg ad fd tk base tc) : FnOk P w K mg base (L2.CX P w) 3 (ad 4) (fd 4) ["row"] (sp_need_row K) := by
  refine T.d_need_row.F.okX sc_need_row (fun vs H Q E h => ?_) (fun cdv A outer s H vs Q E hr h => ?_)
  · obtain ⟨x, rfl, _⟩ := h
    rfl
  · obtain ⟨x, rfl, k⟩ := h
    refine ⟨_, (pss_one (ps_if (pt_not (pt_val (pe_call (ok_is_row T) (hr.mono (by decide)) rfl T.d_is_row.g T.d_is_row.F.kp T.d_is_row.b .nil pass0 (pa_cons (pv 0) pa_nil)))) (pss_one (ps_raiseG rfl (ex_NoRow T) (hr.mono (by decide)) (takes_of rfl rfl rfl rfl) rfl (pa_cons (pv 0) pa_nil))) pss_nil)), ?_⟩
    walk_at "go"
    rcases k with ⟨s, rfl, hs, k⟩ | ⟨ht, hb, k⟩
    · have hs' := hs.len
      refine ⟨.str s, rfl, ty_str _, fun z' e => by cases e; omega, fun H1 e1 => ?_⟩
      rw [show isRow (.str s) = true from hs]
      walk_at "go"
      exact k _ e1
    · refine ⟨x, rfl, ht.1, ht.2, fun H1 e1 => ?_⟩
      rw [hb]
      walk_at "go"
      rename_i d H2 hd e2 hv
      exact k d H2 (Ex.free e1 hd) (e1.trans e2) hv
/-- two rows, or the first that is none is refused -/
def Rows2 (K : PySem.W.Frag) (E : XK) (H : Hp) (x y : V) (k : Str → Str → Prop) : Prop := (∃ s t, x = .str s ∧ y = .str t ∧ RowS s ∧ RowS t ∧ k s t) ∨
  (Thg H x ∧ Thg H y ∧ ((isRow x = false ∧ RaR K E H "NoRow" "found" x) ∨ (isRow x = true ∧ isRow y = false ∧ RaR K E H "NoRow" "found" y)))
theorem Rows2.imp {K : PySem.W.Frag} {E : XK} {H : Hp} {x y : V} {k k' : Str → Str → Prop} (h : Rows2 K E H x y k) (f : ∀ s t, x = .str s → y = .str t → RowS s → RowS t → k s t → k' s t) : Rows2 K E H x y k' := by
  rcases h with ⟨s, t, e1, e2, hs, ht, h⟩ | h
  · exact .inl ⟨s, t, e1, e2, hs, ht, f s t e1 e2 hs ht h⟩
  · exact .inr h
def sp_need_rows (K : PySem.W.Frag) : Sp := fun vs H Q E => ∃ x y, vs = [x, y] ∧ Rows2 K E H x y fun _ _ => ∀ H', Ex H H' → Q .non H'
theorem ok_need_rows (T : Tx K mg ad fd tk base tc) : FnOk P w K mg base (L2.CX P w) 4 (ad 5) (fd 5) ["side", "top"] (sp_need_rows K) := by
  refine T.d_need_rows.F.okX sc_need_rows (fun vs H Q E h => ?_) (fun cdv A outer s H vs Q E hr h => ?_)
  · obtain ⟨x, y, rfl, _⟩ := h
    rfl
  · obtain ⟨x, y, rfl, k⟩ := h
    refine ⟨_, (pss_cons (ps_expr (pe_call (ok_need_row T) (hr.mono (by decide)) rfl T.d_need_row.g T.d_need_row.F.kp T.d_need_row.b .nil (passes_call (takes_of rfl rfl rfl rfl) (fun _ _ _ _ h => h)) (pa_cons (pv 0) pa_nil)))
      (pss_one (ps_expr (pe_call (ok_need_row T) (hr.mono (by decide)) rfl T.d_need_row.g T.d_need_row.F.kp T.d_need_row.b .nil (passes_call (takes_of rfl rfl rfl rfl) (fun _ _ _ _ h => h)) (pa_cons (pv 1) pa_nil))))), ?_⟩
    walk_at "go"
    rcases k with ⟨s, t, rfl, rfl, hs, ht, k⟩ | ⟨h1, h2, ⟨hb, k⟩ | ⟨ha, hb, k⟩⟩
    · refine ⟨.str s, rfl, .inl ⟨s, rfl, hs, fun H1 e1 => ?_⟩⟩
      walk_at "go"
      refine ⟨.str t, rfl, .inl ⟨t, rfl, ht, fun H2 e2 => ?_⟩⟩
      walk_at "go"
      exact k _ (e1.trans e2)
    · exact ⟨x, rfl, .inr ⟨h1, hb, k⟩⟩
    · obtain ⟨s, rfl, hs⟩ := rowS_of_true ha
      refine ⟨.str s, rfl, .inl ⟨s, rfl, hs, fun H1 e1 => ?_⟩⟩
      walk_at "go"
      exact ⟨y, rfl, .inr ⟨h2.ex e1, hb, k.ex e1⟩⟩
/-- a plain row -/
def PlainS (z : Str) : Prop := isPlain (.str z) = true
theorem PlainS.len {z : Str} (h : PlainS z) : z.length ≤ 24 := by
  have h : (isRow (.str z) && (decide (z.length ≤ 24) && !decide (46 ∈ z.cps.toList))) = true := h
  rw [Bool.and_eq_true, Bool.and_eq_true] at h
  exact of_decide_eq_true h.2.1
theorem PlainS.len2 {z : Str} (h : PlainS z) : z.cps.toList.length ≤ 24 := by
  have e : z.cps.toList.length = z.length := Array.length_toList
  rw [e]
  exact h.len
/-- a plain row, or refused -/
def Plain1 (K : PySem.W.Frag) (E : XK) (H : Hp) (x : V) (k : Str → Prop) : Prop := (∃ s, x = .str s ∧ PlainS s ∧ k s) ∨ (Thg H x ∧ isPlain x = false ∧ RaR K E H "NoPlain" "found" x)
theorem Plain1.imp {K : PySem.W.Frag} {E : XK} {H : Hp} {x : V} {k k' : Str → Prop} (h : Plain1 K E H x k) (f : ∀ s, x = .str s → PlainS s → k s → k' s) : Plain1 K E H x k' := by
  rcases h with ⟨s, e, hs, h⟩ | h
  · exact .inl ⟨s, e, hs, f s e hs h⟩
  · exact .inr h
def sp_need_plain (K : PySem.W.Frag) : Sp := fun vs H Q E => ∃ x, vs = [x] ∧ Plain1 K E H x fun _ => ∀ H', Ex H H' → Q .non H'
theorem ok_need_plain (T : Tx K mg ad fd tk base tc) : FnOk P w K mg base (L2.CX P w) 3 (ad 6) (fd 6) ["row"] (sp_need_plain K) := by
  refine T.d_need_plain.F.okX sc_need_plain (fun vs H Q E h => ?_) (fun cdv A outer s H vs Q E hr h => ?_)
  · obtain ⟨x, rfl, _⟩ := h
    rfl
  · obtain ⟨x, rfl, k⟩ := h
    refine ⟨_, (pss_one (ps_if (pt_not (pt_val (pe_call (ok_is_plain T) (hr.mono (by decide)) rfl T.d_is_plain.g T.d_is_plain.F.kp T.d_is_plain.b .nil pass0 (pa_cons (pv 0) pa_nil)))) (pss_one (ps_raiseG rfl (ex_NoPlain T) (hr.mono (by decide)) (takes_of rfl rfl rfl rfl) rfl (pa_cons (pv 0) pa_nil))) pss_nil)), ?_⟩
    walk_at "go"
    rcases k with ⟨s, rfl, hs, k⟩ | ⟨ht, hb, k⟩
    · have hs' := hs.len
      refine ⟨.str s, rfl, ty_str _, fun z' e => by cases e; omega, fun H1 e1 => ?_⟩
      rw [show isPlain (.str s) = true from hs]
      walk_at "go"
      exact k _ e1
    · refine ⟨x, rfl, ht.1, ht.2, fun H1 e1 => ?_⟩
      rw [hb]
      walk_at "go"
      rename_i d H2 hd e2 hv
      exact k d H2 (Ex.free e1 hd) (e1.trans e2) hv
/-- a stretch of m places -/
def spanV (b e : V) (m : Int) : Bool := match b with
  | .int i => decide (0 ≤ i ∧ i ≤ m) && withinV e i m
  | _ => false
def sp_need_span (K : PySem.W.Frag) : Sp := fun vs H Q E => ∃ (b e : V) (m : Int), vs = [b, e, .int m] ∧ Ty H b ∧ Ty H e ∧ (spanV b e m = false → RaF K E H "NoSpan" [("end", e), ("begin", b)]) ∧ (spanV b e m = true → Q .non H)
theorem nat_span {i j m : Nat} (h1 : i ≤ j) (h2 : j ≤ m) : spanV (.int (i : Nat)) (.int (j : Nat)) m = true := by
  show (decide (0 ≤ ((i : Nat) : Int) ∧ ((i : Nat) : Int) ≤ (m : Int)) && decide (((i : Nat) : Int) ≤ ((j : Nat) : Int) ∧ ((j : Nat) : Int) ≤ (m : Int))) = true
  rw [Bool.and_eq_true, decide_eq_true_eq, decide_eq_true_eq]
  omega
theorem ok_need_span (T : Tx K mg ad fd tk base tc) : FnOk P w K mg base (L2.CX P w) 3 (ad 7) (fd 7) ["begin", "end", "many"] (sp_need_span K) := by
  refine T.d_need_span.F.okX sc_need_span (fun vs H Q E h => ?_) (fun cdv A outer s H vs Q E hr h => ?_)
  · obtain ⟨b, e, m, rfl, _⟩ := h
    rfl
  · obtain ⟨b, e, m, rfl, hb, he, k0, k1⟩ := h
    refine ⟨_, (pss_one (ps_if (PW.pt (pw_or (pt_not (pt_val (pe_call (ok_is_within T) (hr.mono (by decide)) rfl T.d_is_within.g T.d_is_within.F.kp T.d_is_within.b .nil pass0 (pa_cons (pv 0) (pa_cons pe_int (pa_cons (pv 2) pa_nil)))))) (pw_or1 (pt_not (pt_val (pe_call (ok_is_within T) (hr.mono (by decide)) rfl T.d_is_within.g T.d_is_within.F.kp T.d_is_within.b .nil pass0 (pa_cons (pv 1) (pa_cons (pv 0) (pa_cons (pv 2) pa_nil))))))))) (pss_one (ps_raiseG rfl (ex_NoSpan T) (hr.mono (by decide)) (takes_of rfl rfl rfl rfl) rfl (pa_cons (pv 0) (pa_cons (pv 1) pa_nil)))) pss_nil)), ?_⟩
    walk_at "go"
    refine ⟨b, 0, m, rfl, hb, ?_⟩
    cases b with
    | int i =>
      have h1 : withinV (.int i) 0 m = decide (0 ≤ i ∧ i ≤ m) := rfl
      have h2 : spanV (.int i) e m = (decide (0 ≤ i ∧ i ≤ m) && withinV e i m) := rfl
      rw [h2] at k0 k1
      rw [h1]
      by_cases q : 0 ≤ i ∧ i ≤ m
      · rw [decide_eq_true q] at k0 k1 ⊢
        rw [Bool.true_and] at k0 k1
        walk_at "go"
        refine ⟨e, i, m, rfl, he, ?_⟩
        cases hb : withinV e i m with
        | true =>
          walk_at "go"
          exact k1 hb
        | false =>
          have k2 := k0 hb
          walk_at "go"
          rename_i d2 H2 hd2 e2 hv2
          exact k2 d2 H2 hd2 e2 hv2
      · rw [decide_eq_false q] at k0 ⊢
        have k2 := k0 rfl
        walk_at "go"
        rename_i d2 H2 hd2 e2 hv2
        exact k2 d2 H2 hd2 e2 hv2
    | _ =>
      have k2 := k0 rfl
      refine ⟨false, rfl, ?_⟩
      walk_at "go"
      rename_i d2 H2 hd2 e2 hv2
      exact k2 d2 H2 hd2 e2 hv2
/-- where c stands in l -/
def posOf (c : Nat) (l : List Nat) : List Nat := (List.range l.length).filter fun j => decide (l[j]? = some c)
/-- the signs, each once, in the order in which they come -/
def firsts : List Nat → List Nat := fun l => l.foldl (fun acc c => if c ∈ acc then acc else acc ++ [c]) []
theorem firsts_snoc (l : List Nat) (c : Nat) : firsts (l ++ [c]) = if c ∈ firsts l then firsts l else firsts l ++ [c] := by
  unfold firsts
  rw [List.foldl_append]
  rfl
theorem firsts_mem (l : List Nat) (c : Nat) : c ∈ firsts l ↔ c ∈ l := by
  refine snoc_ind (P := fun l => ∀ c, c ∈ firsts l ↔ c ∈ l) (by simp [firsts]) (fun l a ih c => ?_) l c
  rw [firsts_snoc]
  split
  · rename_i h
    rw [ih] at h
    rw [ih, List.mem_append, List.mem_singleton]
    constructor
    · exact .inl
    · rintro (z | z)
      · exact z
      · rw [z]; exact h
  · rw [List.mem_append, List.mem_append, ih]
theorem firsts_nodup (l : List Nat) : (firsts l).Nodup := by
  refine snoc_ind (P := fun l => (firsts l).Nodup) (by simp [firsts]) (fun l a ih => ?_) l
  · skip
    rw [firsts_snoc]
    split
    · exact ih
    · rename_i h
      rw [List.nodup_append]
      exact ⟨ih, by simp, fun b hb c hc => by rw [List.mem_singleton.mp hc]; exact fun z => h (z ▸ hb)⟩
theorem firsts_len (l : List Nat) : (firsts l).length ≤ l.length := by
  refine snoc_ind (P := fun l => (firsts l).length ≤ l.length) (by simp [firsts]) (fun l a ih => ?_) l
  · skip
    rw [firsts_snoc]
    split
    · rw [List.length_append]; omega
    · rw [List.length_append, List.length_append]; simp; exact ih
theorem posOf_snoc (c a : Nat) (l : List Nat) : posOf c (l ++ [a]) = posOf c l ++ (if a = c then [l.length] else []) := by
  unfold posOf
  rw [List.length_append, List.length_singleton, List.range_succ, List.filter_append]
  congr 1
  · apply List.filter_congr
    intro j hj
    rw [List.mem_range] at hj
    rw [List.getElem?_append_left hj]
  · by_cases h : a = c
    · rw [if_pos h, List.filter_cons_of_pos (by rw [List.getElem?_append_right (Nat.le_refl _)]; simp [h]), List.filter_nil]
    · rw [if_neg h, List.filter_cons_of_neg (by rw [List.getElem?_append_right (Nat.le_refl _)]; simp [h]), List.filter_nil]
/-- the dict at d of the places in l: its lists at rs, for each of the signs -/
structure PlacesAt (H0 H : Hp) (d : Addr) (rs : List Addr) (l : List Nat) : Prop where
  new : H0 d = none
  at_ : H d = some (.dK (((firsts l).zip rs).map fun q => (Sum.inr (tx [q.1]), V.ref q.2)))
  len : rs.length = (firsts l).length
  rows : ObjsAt H rs ((firsts l).map fun c => .lst ((posOf c l).map fun (j : Nat) => V.int j))
  nd : rs.Nodup
  non : d ∉ rs
  news : ∀ r ∈ rs, H0 r = none
theorem places_get {fs : List Nat} {rs : List Addr} (hl : rs.length = fs.length) (nd : fs.Nodup) {k : Nat} {c : Nat} {r : Addr} (h1 : fs[k]? = some c) (h2 : rs[k]? = some r) :
    valV ((fs.zip rs).map fun q => ((Sum.inr (tx [q.1]) : Key), V.ref q.2)) (Sum.inr (tx [c])) = some (.ref r) := by
  refine valV_at (i := k) ?_ ?_
  · rw [List.map_map]
    have : ((fun x => x.1) ∘ fun (q : Nat × Addr) => ((Sum.inr (tx [q.1]) : Key), V.ref q.2)) = (fun c => (Sum.inr (tx [c]) : Key)) ∘ Prod.fst := rfl
    rw [this, ← List.map_map, List.map_fst_zip (by omega)]
    refine nodup_map nd (fun a b h => ?_)
    have h : tx [a] = tx [b] := Sum.inr.inj h
    rw [tx_inj] at h
    simpa using h
  · rw [List.getElem?_map, (List.getElem?_zip_eq_some (z := (c, r))).mpr ⟨h1, h2⟩]
    rfl
theorem places_none {fs : List Nat} {rs : List Addr} {c : Nat} (h : c ∉ fs) : valV ((fs.zip rs).map fun q => ((Sum.inr (tx [q.1]) : Key), V.ref q.2)) (Sum.inr (tx [c])) = none := by
  rw [valV_none]
  intro q hq
  obtain ⟨⟨a, r⟩, hz, rfl⟩ := List.mem_map.mp hq
  intro e
  have e : tx [a] = tx [c] := Sum.inr.inj e
  rw [tx_inj] at e
  have e : a = c := by simpa using e
  exact h (e ▸ (List.of_mem_zip hz).1)
def sp_places_of (K : PySem.W.Frag) : Sp := fun vs H Q E => ∃ x, vs = [x] ∧ Row1 K E H x fun s => ∀ d rs H', Ex H H' → PlacesAt H H' d rs s.cps.toList → Q (.ref d) H'
theorem ok_places_of (T : Tx K mg ad fd tk base tc) : FnOk P w K mg base (L2.CX P w) 4 (ad 8) (fd 8) ["row"] (sp_places_of K) := by
  refine T.d_places_of.F.okX sc_places_of (fun vs H Q E h => ?_) (fun cdv A outer s H vs Q E hr h => ?_)
  · obtain ⟨x, rfl, _⟩ := h
    rfl
  · obtain ⟨x, rfl, hR⟩ := h
    refine ⟨_, (pss_cons (ps_expr (pe_call (ok_need_row T) (hr.mono (by decide)) rfl T.d_need_row.g T.d_need_row.F.kp T.d_need_row.b .nil (passes_call (takes_of rfl rfl rfl rfl) (fun _ _ _ _ h => h)) (pa_cons (pv 0) pa_nil)))
      (pss_cons (ps_set (i := 1) sc_places_of.nd rfl (Or.inl rfl) pe_dnewK)
      (pss_cons (ps_for (passes_of rfl) rfl (pi_enumS rfl T.b_enumerate (pa_cons (pv 0) pa_nil)) (pg_tup rfl (pgs_cons (pg_name (i := 2) sc_places_of.nd rfl (Or.inl rfl)) (pgs_cons (pg_name (i := 3) sc_places_of.nd rfl (Or.inl rfl)) pgs_nil))) (pss_one (ps_expr (pe_bm PySem.F.plainAttrs_list PySem.F.slot_list_append PySem.F.type_list_append mt_append (pe_dsetd (pv 1) (pv 3) (pe_lst pa_nil) ⟨rfl, rfl, rfl, rfl⟩) (pa_cons (pv 2) pa_nil)))))
      (pss_one (ps_ret (pv 1)))))), ?_⟩
    walk_at "go"
    refine ⟨x, rfl, hR.imp fun s ex hs k H1 e1 => ?_⟩
    subst ex
    have hs1 := hs.len
    have hsl : s.cps.toList.length = s.length := Array.length_toList
    walk_at "go"
    rename_i d G1 n1 ex1 v1
    have e2 := e1.trans ex1
    have hd0 : H d = none := Ex.free e1 n1
    refine for_runs (runs_enumS s) (fun i σ H' => Ex H H' ∧ (∃ rs, PlacesAt H H' d rs (s.cps.toList.take i)) ∧ ∃ a b, σ = [some (.str s), some (.ref d), a, b]) ⟨e2, ⟨[], hd0, v1, rfl, .nil, List.nodup_nil, by simp, by simp⟩, _, _, rfl⟩ (fun _ _ _ _ _ => trivial) ?_ ?_
    · rintro i x σ H' H'' hi ⟨e, ⟨rs, P⟩, a, b, rfl⟩ ⟨T, c, rfl, hT, eT, vT, hc⟩
      have ht : s.cps.toList.take (i + 1) = s.cps.toList.take i ++ [c] := by rw [List.take_add_one, hc]; rfl
      have hl : (s.cps.toList.take i).length = i := by rw [List.length_take]; omega
      have hfl := firsts_len (s.cps.toList.take i)
      have hdT : H'' d = _ := eT.get P.at_
      have hz : (((firsts (s.cps.toList.take i)).zip rs).map fun q => ((Sum.inr (tx [q.1]) : Key), V.ref q.2)).length < 1000 := by
        rw [List.length_map, List.length_zip]; omega
      walk_at "go"
      rename_i q G2 n2 ex3 v2
      have hd2 : G2 d = _ := ex3.get hdT
      have rows2 := (P.rows.ex eT).ex ex3
      refine st_dsetP (Sum.inr (tx [c])) hd2 (by omega) (fun v hv => ?_) (fun hv => ?_)
      · have hcm : c ∈ firsts (s.cps.toList.take i) := by
          by_cases z : c ∈ firsts (s.cps.toList.take i)
          · exact z
          · rw [places_none z] at hv; cases hv
        obtain ⟨kx, hkx⟩ := List.getElem?_of_mem hcm
        have hkl : kx < rs.length := by rw [P.len]; exact (List.getElem?_eq_some_iff.mp hkx).1
        have hkr : rs[kx]? = some rs[kx] := List.getElem?_eq_getElem hkl
        rw [places_get P.len (firsts_nodup _) hkx hkr] at hv
        cases hv
        have hrow := rows2.at kx _ _ hkr (by rw [List.getElem?_map, hkx]; rfl)
        walk_at "go"
        refine st_app hrow (by rw [List.length_map]; have := List.length_filter_le (fun j => decide ((s.cps.toList.take i)[j]? = some c)) (List.range (s.cps.toList.take i).length); rw [List.length_range] at this; unfold posOf; omega) ?_
        have hdn : d ≠ rs[kx] := fun z => P.non (z ▸ List.getElem_mem hkl)
        refine ⟨((e.trans eT).trans ex3).mut (P.news _ (List.getElem_mem hkl)), ⟨rs, hd0, ?_, ?_, ?_, P.nd, P.non, P.news⟩, _, _, rfl⟩
        · rw [upd_ne hdn, hd2, ht, firsts_snoc, if_pos hcm]
        · rw [ht, firsts_snoc, if_pos hcm]; exact P.len
        · have hset := rows2.set (u := .lst (((posOf c (s.cps.toList.take i)).map fun (j : Nat) => V.int j) ++ [V.int i])) P.nd hkr
          rw [ht, firsts_snoc, if_pos hcm]
          have hos : ((firsts (s.cps.toList.take i)).map fun c' => HO.lst ((posOf c' (s.cps.toList.take i ++ [c])).map fun (j : Nat) => V.int j)) = (((firsts (s.cps.toList.take i)).map fun c => HO.lst ((posOf c (s.cps.toList.take i)).map fun (j : Nat) => V.int j)).set kx (.lst (((posOf c (s.cps.toList.take i)).map fun (j : Nat) => V.int j) ++ [V.int i]))) := by
            apply List.ext_getElem?
            intro m
            rw [List.getElem?_map]
            by_cases hm : m = kx
            · subst hm
              rw [hkx, List.getElem?_set_self (by rw [List.length_map]; exact (List.getElem?_eq_some_iff.mp hkx).1)]
              show some (HO.lst _) = _
              rw [posOf_snoc, if_pos rfl, List.map_append, hl]
              rfl
            · rw [List.getElem?_set_ne (Ne.symm hm), List.getElem?_map]
              cases hf : (firsts (s.cps.toList.take i))[m]? with
              | none => rfl
              | some c' =>
                have hne : c ≠ c' := fun z => hm (nd_ix (firsts_nodup _) hf (z ▸ hkx))
                show some (HO.lst _) = some (HO.lst _)
                rw [posOf_snoc, if_neg hne, List.append_nil]
          rw [hos]
          exact hset
      · have hcm : c ∉ firsts (s.cps.toList.take i) := fun z => by
          obtain ⟨kx, hkx⟩ := List.getElem?_of_mem z
          have hkl : kx < rs.length := by rw [P.len]; exact (List.getElem?_eq_some_iff.mp hkx).1
          rw [places_get P.len (firsts_nodup _) hkx (List.getElem?_eq_getElem hkl)] at hv
          cases hv
        have hqd : q ≠ d := fun z => by rw [z, hdT] at n2; cases n2
        have hqr : q ∉ rs := fun z => by
          obtain ⟨kx, hkx⟩ := List.getElem?_of_mem z
          have hk2 : kx < ((firsts (s.cps.toList.take i)).map fun c => HO.lst ((posOf c (s.cps.toList.take i)).map fun (j : Nat) => V.int j)).length := by
            rw [← P.rows.len]; exact (List.getElem?_eq_some_iff.mp hkx).1
          have := (P.rows.ex eT).at kx _ _ hkx (List.getElem?_eq_getElem hk2)
          rw [this] at n2
          cases n2
        have hq2 : upd G2 d (.dK (putK (((firsts (s.cps.toList.take i)).zip rs).map fun q => (Sum.inr (tx [q.1]), V.ref q.2)) (Sum.inr (tx [c])) (V.ref q))) q = some (.lst []) := by
          rw [upd_ne hqd]; exact v2
        walk_at "go"
        refine st_app hq2 (by simp) ?_
        have hc0 : posOf c (s.cps.toList.take i) = [] := by
          unfold posOf
          rw [List.filter_eq_nil_iff]
          intro j hj w
          exact hcm ((firsts_mem _ _).mpr (List.mem_of_getElem? (of_decide_eq_true w)))
        have hq0 : H q = none := Ex.free (e.trans eT) n2
        refine ⟨(((e.trans eT).trans ex3).mut hd0).mut hq0, ⟨rs ++ [q], hd0, ?_, ?_, ?_, ?_, ?_, ?_⟩, _, _, rfl⟩
        · rw [upd_ne (Ne.symm hqd), upd_same, putK_new hv, ht, firsts_snoc, if_neg hcm, List.zip_append P.len.symm, List.map_append]
          rfl
        · rw [ht, firsts_snoc, if_neg hcm, List.length_append, List.length_append, P.len]; rfl
        · rw [ht, firsts_snoc, if_neg hcm, List.map_append]
          refine ObjsAt.app (.up hqr (.up P.non ?_)) (.one ?_)
          · have hos : ((firsts (s.cps.toList.take i)).map fun c' => HO.lst ((posOf c' (s.cps.toList.take i ++ [c])).map fun (j : Nat) => V.int j)) = ((firsts (s.cps.toList.take i)).map fun c => HO.lst ((posOf c (s.cps.toList.take i)).map fun (j : Nat) => V.int j)) := by
              apply List.map_congr_left
              intro c' hc'
              have hne : c ≠ c' := fun z => hcm (z ▸ hc')
              rw [posOf_snoc, if_neg hne, List.append_nil]
            rw [hos]
            exact rows2
          · rw [upd_same]
            show some (HO.lst ([] ++ [V.int i])) = some (HO.lst ((posOf c (s.cps.toList.take i ++ [c])).map fun (j : Nat) => V.int j))
            rw [posOf_snoc, if_pos rfl, hc0, hl]
            rfl
        · rw [List.nodup_append]
          exact ⟨P.nd, by simp, fun b hb c hc => by rw [List.mem_singleton.mp hc]; exact fun z => hqr (z ▸ hb)⟩
        · rw [List.mem_append, List.mem_singleton]
          rintro (z | z)
          · exact P.non z
          · exact hqd z.symm
        · intro r hr
          rcases List.mem_append.mp hr with h | h
          · exact P.news r h
          · rw [List.mem_singleton.mp h]; exact hq0
    · rintro σ H' ⟨e, ⟨rs, P⟩, a, b, rfl⟩
      walk_at "go"
      rw [List.take_of_length_le (by omega)] at P
      exact k d rs H' e P
/-- an item, nought behind the end -/
def gT (e : List Nat) (i : Nat) : Nat := e.getD i 0
theorem gT_at {e : List Nat} {i : Nat} (h : i < e.length) : gT e i = e[i] := by
  unfold gT
  rw [List.getD_eq_getElem?_getD, List.getElem?_eq_getElem h]
  rfl
theorem gT_some {e : List Nat} {i : Nat} (h : i < e.length) : e[i]? = some (gT e i) := by rw [gT_at h]; exact List.getElem?_eq_getElem h
theorem gT_of {e : List Nat} {i v : Nat} (h : e[i]? = some v) : gT e i = v := by unfold gT; rw [List.getD_eq_getElem?_getD, h]; rfl
theorem gT_ext {a b : List Nat} (hl : a.length = b.length) (h : ∀ i, i < a.length → gT a i = gT b i) : a = b := by
  refine List.ext_getElem hl fun i h1 h2 => ?_
  have := h i h1
  rwa [gT_at h1, gT_at h2] at this
theorem gT_map {f : Nat → Nat} {n i : Nat} (h : i < n) : gT ((List.range n).map f) i = f i := by
  refine gT_of ?_
  rw [List.getElem?_map, List.getElem?_range h]
  rfl
/-- a turning -/
structure IsT (l : List Nat) : Prop where
  nd : l.Nodup
  lt : ∀ x ∈ l, x < l.length
theorem IsT.g_lt {l : List Nat} (h : IsT l) {i : Nat} (hi : i < l.length) : gT l i < l.length := h.lt _ (by rw [gT_at hi]; exact List.getElem_mem hi)
theorem IsT.mem {l : List Nat} (h : IsT l) {v : Nat} (hv : v < l.length) : v ∈ l := by
  refine Decidable.byContradiction fun hn => ?_
  have h1 : l ⊆ (List.range l.length).erase v := fun x hx => by
    refine (List.mem_erase_of_ne (fun e => hn (by rw [← e]; exact hx))).mpr ?_
    exact List.mem_range.mpr (h.lt x hx)
  have h2 := h.nd.length_le_of_subset h1
  rw [List.length_erase_of_mem (List.mem_range.mpr hv), List.length_range] at h2
  omega
theorem IsT.perm {l : List Nat} (h : IsT l) : l.Perm (List.range l.length) := by
  rw [List.perm_iff_count]
  intro a
  have one : ∀ {m : List Nat}, m.Nodup → a ∈ m → m.count a = 1 := fun {m} h1 h2 => by
    have h3 := List.nodup_iff_count.mp h1 a
    have h4 := List.count_pos_iff.mpr h2
    omega
  by_cases ha : a < l.length
  · rw [one h.nd (h.mem ha), one List.nodup_range (List.mem_range.mpr ha)]
  · rw [List.count_eq_zero_of_not_mem fun q => ha (h.lt a q), List.count_eq_zero_of_not_mem fun q => ha (List.mem_range.mp q)]
theorem isT_range (n : Nat) : IsT (List.range n) := ⟨List.nodup_range, fun x hx => by rw [List.length_range]; exact List.mem_range.mp hx⟩
theorem IsT.of_perm {l m : List Nat} (h : IsT m) (p : l.Perm m) : IsT l := ⟨p.nodup_iff.mpr h.nd, fun x hx => by rw [p.length_eq]; exact h.lt x (p.mem_iff.mp hx)⟩
theorem IsT.of_perm_range {l : List Nat} {n : Nat} (p : l.Perm (List.range n)) : IsT l := (isT_range n).of_perm p
theorem IsT.idx_lt {l : List Nat} (h : IsT l) {v : Nat} (hv : v < l.length) : l.idxOf v < l.length := List.idxOf_lt_length_iff.mpr (h.mem hv)
theorem IsT.g_idx {l : List Nat} (h : IsT l) {v : Nat} (hv : v < l.length) : gT l (l.idxOf v) = v := by
  rw [gT_at (h.idx_lt hv)]
  exact List.getElem_idxOf _
theorem IsT.idx_g {l : List Nat} (h : IsT l) {i : Nat} (hi : i < l.length) : l.idxOf (gT l i) = i := by
  rw [gT_at hi]
  exact h.nd.idxOf_getElem i hi
theorem IsT.inj {l : List Nat} (h : IsT l) {i j : Nat} (hi : i < l.length) (hj : j < l.length) (e : gT l i = gT l j) : i = j := by
  rw [← h.idx_g hi, ← h.idx_g hj, e]
/-- the opposite turning -/
def invT (l : List Nat) : List Nat := (List.range l.length).map fun v => l.idxOf v
theorem invT_len (l : List Nat) : (invT l).length = l.length := by rw [invT, List.length_map, List.length_range]
theorem invT_g {l : List Nat} {v : Nat} (h : v < l.length) : gT (invT l) v = l.idxOf v := gT_map h
theorem isT_of_g {l : List Nat} (h1 : ∀ i, i < l.length → gT l i < l.length) (h2 : ∀ i j, i < l.length → j < l.length → gT l i = gT l j → i = j) : IsT l := by
  refine ⟨?_, fun x hx => ?_⟩
  · rw [List.nodup_iff_pairwise_ne, List.pairwise_iff_getElem]
    intro i j hi hj hij e
    have := h2 i j hi hj (by rw [gT_at hi, gT_at hj]; exact e)
    omega
  · obtain ⟨i, hi, e⟩ := List.getElem_of_mem hx
    have := h1 i hi
    rwa [gT_at hi, e] at this
theorem IsT.inv {l : List Nat} (h : IsT l) : IsT (invT l) := by
  refine isT_of_g (fun i hi => ?_) fun i j hi hj e => ?_
  · rw [invT_len] at hi ⊢
    rw [invT_g hi]
    exact h.idx_lt hi
  · rw [invT_len] at hi hj
    rw [invT_g hi, invT_g hj] at e
    rw [← h.g_idx hi, ← h.g_idx hj, e]
theorem IsT.g_inv {l : List Nat} (h : IsT l) {v : Nat} (hv : v < l.length) : gT l (gT (invT l) v) = v := by rw [invT_g hv, h.g_idx hv]
theorem IsT.inv_g {l : List Nat} (h : IsT l) {i : Nat} (hi : i < l.length) : gT (invT l) (gT l i) = i := by rw [invT_g (h.g_lt hi), h.idx_g hi]
theorem IsT.inv_inv {l : List Nat} (h : IsT l) : invT (invT l) = l := by
  refine gT_ext (by rw [invT_len, invT_len]) fun i hi => ?_
  rw [invT_len, invT_len] at hi
  have hi' : i < (invT l).length := by rw [invT_len]; exact hi
  have h1 := h.inv.g_inv hi'
  have h2 := h.inv.inv.g_lt (i := i) (by rw [invT_len, invT_len]; exact hi)
  rw [invT_len, invT_len] at h2
  have h3 := h.g_inv (v := i) hi
  refine h.inv.inj ?_ ?_ ?_
  · rw [invT_len]; exact h2
  · rw [invT_len]; exact h.g_lt hi
  · rw [h1, h.inv_g hi]
/-- two neighbours exchanged -/
def swapAt (e : List Nat) (s : Nat) : List Nat := e.take s ++ [gT e (s + 1), gT e s] ++ e.drop (s + 2)
theorem swapAt_len {e : List Nat} {s : Nat} (h : s + 1 < e.length) : (swapAt e s).length = e.length := by
  unfold swapAt
  rw [List.length_append, List.length_append, List.length_take, List.length_drop]
  simp only [List.length_cons, List.length_nil]
  omega
/-- words of swaps -/
def OkW (n : Nat) (w : List Nat) : Prop := ∀ s ∈ w, s + 1 < n
theorem OkW.cons {n s : Nat} {w : List Nat} (h : OkW n (s :: w)) : s + 1 < n ∧ OkW n w := ⟨h s List.mem_cons_self, fun t ht => h t (List.mem_cons_of_mem _ ht)⟩
def swapsT (e : List Nat) (w : List Nat) : List Nat := w.foldl swapAt e
def Down : List Nat → List Nat → Prop
  | _, [] => True
  | e, s :: w => s + 1 < e.length ∧ gT e (s + 1) < gT e s ∧ Down (swapAt e s) w
def Up : List Nat → List Nat → Prop
  | _, [] => True
  | e, s :: w => s + 1 < e.length ∧ gT e s < gT e (s + 1) ∧ Up (swapAt e s) w
theorem Down.ok : ∀ {w e : List Nat}, Down e w → OkW e.length w
  | [], _, _, s, hs => by cases hs
  | t :: w, e, ⟨h1, _, h3⟩, s, hs => by
    rcases List.mem_cons.mp hs with q | q
    · rw [q]; exact h1
    · have := h3.ok s q
      rwa [swapAt_len h1] at this
theorem Up.ok : ∀ {w e : List Nat}, Up e w → OkW e.length w
  | [], _, _, s, hs => by cases hs
  | t :: w, e, ⟨h1, _, h3⟩, s, hs => by
    rcases List.mem_cons.mp hs with q | q
    · rw [q]; exact h1
    · have := h3.ok s q
      rwa [swapAt_len h1] at this
theorem Down.app : ∀ {v w e : List Nat}, Down e v → Down (swapsT e v) w → Down e (v ++ w)
  | [], _, _, _, h => h
  | s :: v, w, e, ⟨h1, h2, h3⟩, h => ⟨h1, h2, h3.app h⟩
theorem Up.app : ∀ {v w e : List Nat}, Up e v → Up (swapsT e v) w → Up e (v ++ w)
  | [], _, _, _, h => h
  | s :: v, w, e, ⟨h1, h2, h3⟩, h => ⟨h1, h2, h3.app h⟩
/-- how these stand -/
def nV (x : Nat) : V := .int (x : Nat)
def encN (x : Nat) : PyData := .int (x : Nat)
def TurnD (d : PyData) : Prop := ∃ l : List Nat, (d = .list (l.map encN) ∨ d = .tuple (l.map encN)) ∧ IsT l ∧ l.length ≤ 96
theorem encN_inj {a b : List Nat} (h : a.map encN = b.map encN) : a = b := by
  induction a generalizing b with
  | nil => cases b with
    | nil => rfl
    | cons y b => cases h
  | cons x a ih => cases b with
    | nil => cases h
    | cons y b =>
      rw [List.map_cons, List.map_cons] at h
      injection h with h1 h2
      injection h1 with h1
      rw [ih h2, Int.ofNat_inj.mp h1]
/-- lists that stand for functions on the first n places -/
theorem fn_at {f : Nat → V} {n p : Nat} (h : p < n) : atI ((List.range n).map f) (p : Nat) = some (f p) := at_mapN (List.getElem?_range h)
theorem fn_set {f : Nat → V} {n p : Nat} {v : V} : ((List.range n).map f).set p v = (List.range n).map fun e => if e = p then v else f e := by
  refine List.ext_getElem? fun i => ?_
  rw [List.getElem?_set, List.getElem?_map, List.getElem?_map, List.length_map, List.length_range]
  by_cases h : i < n
  · rw [List.getElem?_range h]
    by_cases e : p = i
    · subst e
      rw [if_pos rfl, if_pos h]
      simp
    · rw [if_neg e]
      simp [Ne.symm e]
  · rw [List.getElem?_eq_none (by rw [List.length_range]; omega)]
    by_cases e : p = i
    · subst e
      rw [if_pos rfl, if_neg h]
      rfl
    · rw [if_neg e]
      rfl
theorem fn_ix {f : Nat → V} {n p : Nat} (h : p < n) : ixN ((List.range n).map f).length (p : Nat) = some p := Evl.ixN_nat (by rw [List.length_map, List.length_range]; exact h)
theorem fn_congr {f g : Nat → V} {n : Nat} (h : ∀ e, e < n → f e = g e) : (List.range n).map f = (List.range n).map g := List.map_congr_left fun e he => h e (List.mem_range.mp he)
theorem wiN {H : Hp} {x : V} {d : PyData} (h : Rn H x d) (hi : Int) : withinV x 0 hi = true ↔ ∃ v : Nat, d = encN v ∧ (v : Int) ≤ hi := by
  cases h with
  | int i =>
    simp only [withinV, decide_eq_true_eq]
    constructor
    · intro ⟨h1, h2⟩
      exact ⟨i.toNat, by unfold encN; rw [show ((i.toNat : Nat) : Int) = i by omega], by omega⟩
    · rintro ⟨v, e, h⟩
      unfold encN at e
      injection e with e
      omega
  | _ => exact ⟨fun h => (by cases h), fun ⟨v, e, _⟩ => (by cases e)⟩
theorem TurnD.seq {H : Hp} {x : V} {d : PyData} {l : List Nat} (hx : Rn H x d) (hd : d = .list (l.map encN) ∨ d = .tuple (l.map encN)) : ∃ a, x = .ref a ∧ seqAt H a = some (l.map nV) := by
  have : ∀ (xs : List V) (l : List Nat), RnA H xs (l.map encN) → xs = l.map nV := by
    intro xs l
    induction l generalizing xs with
    | nil => intro h; cases h; rfl
    | cons v l ih =>
      intro h
      cases h with
      | cons h1 h2 =>
        rw [List.map_cons, ← ih _ h2]
        congr 1
        unfold encN at h1
        cases h1
        rfl
  rcases hd with rfl | rfl
  · obtain ⟨a, xs, rfl, h1, h2⟩ := hx.listAt
    exact ⟨a, rfl, by rw [seq_l h1, this _ _ h2]⟩
  · obtain ⟨a, xs, rfl, h1, h2⟩ := hx.tupAt
    exact ⟨a, rfl, by rw [seq_t h1, this _ _ h2]⟩
theorem nV_at {l : List Nat} {i : Nat} {v : V} (h : (l.map nV)[i]? = some v) : i < l.length ∧ v = nV (gT l i) := by
  rw [List.getElem?_map] at h
  cases q : l[i]? with
  | none => rw [q] at h; cases h
  | some x =>
    rw [q] at h
    refine ⟨(List.getElem?_eq_some_iff.mp q).1, ?_⟩
    rw [gT_of q]
    exact (Option.some.inj h).symm
theorem at_nV {l : List Nat} {i : Nat} (h : i < l.length) : atI (l.map nV) (i : Int) = some (nV (gT l i)) := at_mapN (gT_some h)
theorem gT_set {l : List Nat} {j v i : Nat} (hj : j < l.length) : gT (l.set j v) i = if i = j then v else gT l i := by
  unfold gT
  rw [List.getD_eq_getElem?_getD, List.getElem?_set, List.getD_eq_getElem?_getD]
  by_cases h : j = i
  · subst h
    rw [if_pos rfl, if_pos rfl, if_pos hj]
    rfl
  · rw [if_neg h, if_neg (fun e => h e.symm)]
/-- how many lines begin at b or behind it and end ahead of e -/
def cntT (l : List Nat) (b e : Nat) : Nat := (l.drop b).countP (· < e)
/-- the same by the lines that end at each place -/
def cE (E : List Nat) (b : Nat) : Nat → Nat
  | 0 => 0
  | e + 1 => cE E b e + (if b ≤ gT E e then 1 else 0)
theorem cE_succ (E : List Nat) (b e : Nat) : cE E b (e + 1) = cE E b e + (if b ≤ gT E e then 1 else 0) := rfl
theorem countP_lt_succ (e : Nat) : ∀ l : List Nat, l.countP (· < e + 1) = l.countP (· < e) + l.count e
  | [] => rfl
  | x :: l => by
    have ih := countP_lt_succ e l
    rw [List.countP_cons, List.countP_cons, List.count_cons, ih]
    simp only [decide_eq_true_eq, beq_iff_eq]
    by_cases h1 : x < e
    · rw [if_pos h1, if_pos (by omega), if_neg (by omega)]; omega
    · by_cases h2 : x = e
      · rw [if_neg h1, if_pos (by omega), if_pos h2]; omega
      · rw [if_neg h1, if_neg (by omega), if_neg h2]; omega
theorem count_drop {l : List Nat} (hl : IsT l) {b e : Nat} (he : e < l.length) : (l.drop b).count e = if b ≤ l.idxOf e then 1 else 0 := by
  have hi := hl.idx_lt he
  have hg := hl.g_idx he
  by_cases h : b ≤ l.idxOf e
  · rw [if_pos h]
    have hm : e ∈ l.drop b := by
      refine List.mem_drop_iff_getElem.mpr ⟨l.idxOf e - b, by omega, ?_⟩
      have : b + (l.idxOf e - b) = l.idxOf e := by omega
      simp only [this]
      rw [← gT_at hi]
      exact hg
    have h1 := List.count_pos_iff.mpr hm
    have h2 := List.nodup_iff_count.mp (hl.nd.sublist (List.drop_sublist b l)) e
    omega
  · rw [if_neg h, List.count_eq_zero]
    intro hm
    obtain ⟨j, hj, hje⟩ := List.mem_drop_iff_getElem.mp hm
    have h3 := hl.idx_g (i := b + j) (by omega)
    rw [gT_at (by omega), hje] at h3
    omega
theorem cE_cnt {l : List Nat} (hl : IsT l) (b : Nat) : ∀ {e : Nat}, e ≤ l.length → cE (invT l) b e = cntT l b e
  | 0, _ => by
    unfold cntT
    rw [List.countP_eq_zero.mpr fun x _ => by simp]
    rfl
  | e + 1, h => by
    rw [cE_succ, cE_cnt hl b (by omega), invT_g (by omega)]
    unfold cntT
    rw [countP_lt_succ, count_drop hl (by omega)]
/-- the least of so many -/
def IsMin (n : Nat) (f : Nat → Nat) (v : Nat) : Prop := (∃ k, k ≤ n ∧ f k = v) ∧ ∀ k, k ≤ n → v ≤ f k
theorem IsMin.two {n : Nat} {f g : Nat → Nat} {v w : Nat} (h : IsMin n f v) (k : IsMin n g w) : IsMin n (fun i => min (f i) (g i)) (min v w) := by
  obtain ⟨⟨a, ha, h1⟩, h2⟩ := h
  obtain ⟨⟨b, hb, k1⟩, k2⟩ := k
  refine ⟨?_, fun i hi => by have := h2 i hi; have := k2 i hi; show min v w ≤ min (f i) (g i); omega⟩
  by_cases q : v ≤ w
  · exact ⟨a, ha, by have := k2 a ha; show min (f a) (g a) = min v w; omega⟩
  · exact ⟨b, hb, by have := h2 b hb; show min (f b) (g b) = min v w; omega⟩
theorem rnL {H : Hp} {p : Addr} {xs : List Nat} (h : H p = some (.lst (xs.map nV))) : Rn H (.ref p) (.list (xs.map encN)) := .lst h (rnA_map fun _ _ => .int _)
/-- lines that are led over a board by a rule: the number that goes right, ahead of a column -/
def ledX (r : Nat → Nat → Nat → Nat → Bool) (D : Nat → Nat) (i x0 : Nat) : Nat → Nat
  | 0 => x0
  | j + 1 => if r i j (ledX r D i x0 j) (D j) = true then ledX r D i x0 j else D j
/-- the numbers that go down, ahead of a row -/
def ledD (r : Nat → Nat → Nat → Nat → Bool) (m : Nat) : Nat → Nat → Nat
  | 0, j => m + j
  | i + 1, j => if r i j (ledX r (ledD r m i) i (m - 1 - i) j) (ledD r m i j) = true then ledD r m i j else ledX r (ledD r m i) i (m - 1 - i) j
def ledA (r : Nat → Nat → Nat → Nat → Bool) (m i j : Nat) : Nat := ledX r (ledD r m i) i (m - 1 - i) j
def ledS (r : Nat → Nat → Nat → Nat → Bool) (m i j : Nat) : Bool := r i j (ledA r m i j) (ledD r m i j)
theorem ledA_0 (r : Nat → Nat → Nat → Nat → Bool) (m i : Nat) : ledA r m i 0 = m - 1 - i := rfl
theorem ledA_s (r : Nat → Nat → Nat → Nat → Bool) (m i j : Nat) : ledA r m i (j + 1) = if ledS r m i j = true then ledA r m i j else ledD r m i j := rfl
theorem ledD_0 (r : Nat → Nat → Nat → Nat → Bool) (m j : Nat) : ledD r m 0 j = m + j := rfl
theorem ledD_s (r : Nat → Nat → Nat → Nat → Bool) (m i j : Nat) : ledD r m (i + 1) j = if ledS r m i j = true then ledD r m i j else ledA r m i j := rfl
/-- which line comes to each end -/
def ledE (r : Nat → Nat → Nat → Nat → Bool) (m n : Nat) : List Nat := (List.range n).map (ledD r m m) ++ ((List.range m).map fun i => ledA r m i n).reverse
theorem ledE_len (r : Nat → Nat → Nat → Nat → Bool) (m n : Nat) : (ledE r m n).length = m + n := by simp [ledE]; omega
theorem led_row (r : Nat → Nat → Nat → Nat → Bool) (m i : Nat) : ∀ j : Nat, ((List.range j).map (ledD r m (i + 1)) ++ [ledA r m i j]).Perm ((m - 1 - i) :: (List.range j).map (ledD r m i))
  | 0 => .refl _
  | j + 1 => by
    have ih := led_row r m i j
    rw [List.range_succ, List.map_append, List.map_append, List.append_assoc, ledA_s]
    show ((List.range j).map (ledD r m (i + 1)) ++ ([ledD r m (i + 1) j] ++ [if ledS r m i j = true then ledA r m i j else ledD r m i j])).Perm ((m - 1 - i) :: ((List.range j).map (ledD r m i) ++ [ledD r m i j]))
    have sw : ([ledD r m (i + 1) j] ++ [if ledS r m i j = true then ledA r m i j else ledD r m i j]).Perm ([ledA r m i j] ++ [ledD r m i j]) := by
      rw [ledD_s]
      by_cases h : ledS r m i j = true
      · rw [if_pos h, if_pos h]
        exact List.perm_append_comm
      · rw [if_neg h, if_neg h]
    refine (sw.append_left _).trans ?_
    rw [← List.append_assoc, ← List.cons_append]
    exact ih.append_right _
theorem led_perm (r : Nat → Nat → Nat → Nat → Bool) (m n : Nat) : ∀ i : Nat, i ≤ m → ((List.range n).map (ledD r m i) ++ ((List.range i).map fun i => ledA r m i n) ++ List.range (m - i)).Perm (List.range (m + n))
  | 0, _ => by
    rw [List.range_zero, List.map_nil, List.append_nil, Nat.sub_zero, List.range_add]
    exact List.perm_append_comm
  | i + 1, hi => by
    refine List.Perm.trans ?_ (led_perm r m n i (by omega))
    have h1 := led_row r m i n
    rw [List.range_succ, List.map_append]
    have h2 : List.range (m - i) = List.range (m - (i + 1)) ++ [m - 1 - i] := by
      rw [show m - i = (m - (i + 1)) + 1 by omega, List.range_succ, show m - (i + 1) = m - 1 - i by omega]
    rw [h2]
    have e1 : ((List.range n).map (ledD r m (i + 1)) ++ ((List.range i).map (fun i => ledA r m i n) ++ [ledA r m i n]) ++ List.range (m - (i + 1))).Perm (((List.range n).map (ledD r m (i + 1)) ++ [ledA r m i n]) ++ ((List.range i).map (fun i => ledA r m i n) ++ List.range (m - (i + 1)))) := by
      rw [List.append_assoc, List.append_assoc, List.append_assoc]
      refine List.Perm.append_left _ ?_
      rw [← List.append_assoc, ← List.append_assoc]
      exact List.Perm.append_right _ List.perm_append_comm
    have e2 : ((List.range n).map (ledD r m i) ++ (List.range i).map (fun i => ledA r m i n) ++ (List.range (m - (i + 1)) ++ [m - 1 - i])).Perm (((m - 1 - i) :: (List.range n).map (ledD r m i)) ++ ((List.range i).map (fun i => ledA r m i n) ++ List.range (m - (i + 1)))) := by
      rw [← List.append_assoc, List.cons_append, List.append_assoc ((List.range n).map _)]
      exact List.perm_append_singleton _ _
    exact e1.trans ((h1.append_right _).trans e2.symm)
theorem ledE_T (r : Nat → Nat → Nat → Nat → Bool) (m n : Nat) : IsT (ledE r m n) := by
  have h := led_perm r m n m (Nat.le_refl _)
  rw [Nat.sub_self, List.range_zero, List.append_nil] at h
  refine IsT.of_perm_range (n := m + n) (List.Perm.trans ?_ h)
  unfold ledE
  exact List.Perm.append_left _ (List.reverse_perm _)
theorem ledE_lt {r : Nat → Nat → Nat → Nat → Bool} {m n i j : Nat} (hi : i ≤ m) (hj : j < n) : ledD r m i j < m + n := by
  have h := led_perm r m n i hi
  exact List.mem_range.mp (h.mem_iff.mp (List.mem_append_left _ (List.mem_append_left _ (List.mem_map.mpr ⟨j, List.mem_range.mpr hj, rfl⟩))))
/-- the signs of a row of cells -/
def sgT (r : Nat → Nat → Nat → Nat → Bool) (m n i : Nat) : Str := tx ((List.range n).map fun j => if ledS r m i j = true then 120 else 111)
structure LedAt (H : Hp) (me sg go : Addr) (r : Nat → Nat → Nat → Nat → Bool) (m n : Nat) : Prop where
  go : H go = some (.lst ((invT (ledE r m n)).map nV))
  sg : H sg = some (.lst ((List.range m).map fun i => V.str (sgT r m n i)))
  me : ∃ rs : List Addr, H me = some (.lst (rs.map V.ref)) ∧ rs.length = m ∧ ∀ i row, rs[i]? = some row → ∃ zs : List ZP, H row = some (.lst (zs.map zV)) ∧ TP H zs ∧ zs.map (·.2) = (List.range n).map fun j => (ledA r m i j, ledD r m i j)
theorem LedAt.ex {H H' : Hp} {me sg go : Addr} {r : Nat → Nat → Nat → Nat → Bool} {m n : Nat} (h : LedAt H me sg go r m n) (e : Ex H H') : LedAt H' me sg go r m n := by
  obtain ⟨rs, h1, h2, h3⟩ := h.me
  refine ⟨e.get h.go, e.get h.sg, rs, e.get h1, h2, fun i row hr => ?_⟩
  obtain ⟨zs, a, b, c⟩ := h3 i row hr
  exact ⟨zs, e.get a, b.ex e, c⟩
/-- what is told of the lambda that decides -/
def RuleOk (tl : List V → Hp → VK → Prop) (H : Hp) (r : Nat → Nat → Nat → Nat → Bool) (m n : Nat) : Prop := ∀ (i j a b : Nat) (H' : Hp) (Q : VK), i < m → j < n → a < m + n → b < m + n → Ex H H' → Q (.bl (r i j a b)) H' → tl [.int (i : Nat), .int (j : Nat), .int (a : Nat), .int (b : Nat)] H' Q
theorem ledA_lt {r : Nat → Nat → Nat → Nat → Bool} {m n i j : Nat} (hi : i < m) (hj : j ≤ n) : ledA r m i j < m + n := by
  have h := led_row r m i j
  have h1 : ledA r m i j ∈ (m - 1 - i) :: (List.range j).map (ledD r m i) := h.mem_iff.mp (List.mem_append_right _ (List.mem_singleton.mpr rfl))
  rcases List.mem_cons.mp h1 with e | e
  · omega
  · obtain ⟨c, hc, e⟩ := List.mem_map.mp e
    have := List.mem_range.mp hc
    have := ledE_lt (r := r) (m := m) (n := n) (i := i) (j := c) (by omega) (by omega)
    omega
/-- the rows of meetings, as far as they are led -/
def MeOk (H : Hp) (r : Nat → Nat → Nat → Nat → Bool) (m n i : Nat) (rs : List Addr) : Prop := rs.length = i ∧ ∀ k row, rs[k]? = some row → ∃ zs : List ZP, H row = some (.lst (zs.map zV)) ∧ TP H zs ∧ zs.map (·.2) = (List.range n).map fun j => (ledA r m k j, ledD r m k j)
theorem MeOk.fr {M : Addr → Prop} {H H' : Hp} {r : Nat → Nat → Nat → Nat → Bool} {m n i : Nat} {rs : List Addr} (h : MeOk H r m n i rs) (e : Fr M H H') (h1 : ∀ row ∈ rs, ¬ M row) (h2 : ∀ b q, H b = some (tupO q) → ¬ M b) : MeOk H' r m n i rs := ⟨h.1, fun k row hk => by
  obtain ⟨zs, a, b, c⟩ := h.2 k row hk
  exact ⟨zs, e.get (h1 _ (List.mem_of_getElem? hk)) a, fun z hz => e.get (h2 _ _ (b z hz)) (b z hz), c⟩⟩
theorem MeOk.snoc {H : Hp} {r : Nat → Nat → Nat → Nat → Bool} {m n i : Nat} {rs : List Addr} {row : Addr} {zs : List ZP} (h : MeOk H r m n i rs) (a : H row = some (.lst (zs.map zV))) (b : TP H zs) (c : zs.map (·.2) = (List.range n).map fun j => (ledA r m i j, ledD r m i j)) : MeOk H r m n (i + 1) (rs ++ [row]) := ⟨by rw [List.length_append, h.1]; rfl, fun k q hk => by
  by_cases hk1 : k < rs.length
  · rw [List.getElem?_append_left hk1] at hk
    exact h.2 k q hk
  · rw [List.getElem?_append_right (by omega)] at hk
    have : k = rs.length := by
      have := (List.getElem?_eq_some_iff.mp hk).1
      simp at this
      omega
    subst this
    rw [Nat.sub_self] at hk
    cases hk
    rw [h.1]
    exact ⟨zs, a, b, c⟩⟩
theorem tup_nlst {H : Hp} {a b : Addr} {q : Nat × Nat} {xs : List V} (h : H a = some (tupO q)) (k : H b = some (.lst xs)) : a ≠ b := fun e => by
  rw [e, k] at h
  cases h
theorem rgL_nVm (m n : Nat) : (rgL (m : Int) 1 n).map V.int = (List.range n).map fun j => nV (m + j) := by
  unfold rgL
  rw [List.map_map]
  refine List.map_congr_left fun j _ => ?_
  show V.int ((m : Int) + (j : Int) * 1) = V.int ((m + j : Nat) : Int)
  congr 1
  omega
theorem rep0 (n : Nat) : (List.replicate n [V.int 0]).flatten = (List.replicate n 0).map nV := by
  induction n with
  | zero => rfl
  | succ n ih => rw [List.replicate_succ, List.flatten_cons, ih, List.replicate_succ]; rfl
def sp_led (fl : Addr) (G : LF) (tl : List V → Hp → VK → Prop) : Sp := fun vs H Q _ => ∃ (m n : Nat), vs = [.int (m : Nat), .int (n : Nat), .ref fl] ∧ H fl = some (LamO fl G) ∧ H G.c = some (CodeO G.c G.qual) ∧ m ≤ 48 ∧ n ≤ 48 ∧ ∃ r, RuleOk tl H r m n ∧ ∀ t me sg go H', Ex H H' → H t = none → H' t = some (.tup [.ref me, .ref sg, .ref go]) → LedAt H' me sg go r m n → H go = none → Q (.ref t) H'
theorem ok_led (T : Tx K mg ad fd tk base tc) : FnCb P w K mg base  2 1 (ad 9) (fd 9) ["many", "far", "crosses"] sp_led := by
  refine okCb T.d_led.F sc_led (by decide) (fun fl G tl vs H Q E h => ?_) (fun cdv A outer s H vs Q E fl G tl hr hcb h => ?_)
  · obtain ⟨m, n, rfl, _⟩ := h
    rfl
  · obtain ⟨m, n, rfl, hl, hc, hm, hn, r, hr2, k⟩ := h
    refine ⟨_, (pss_cons (ps_set (i := 3) sc_led.nd rfl (Or.inl rfl) (pe_listRgC rfl (by rfl) T.b_list (prgC (by rfl) T.b_range (pa_cons (pv 0) (pa_cons (pe_op o_add (pv 0) (pv 1)) pa_nil)))))
      (pss_cons (ps_set (i := 4) sc_led.nd rfl (Or.inl rfl) (pe_lst pa_nil))
      (pss_cons (ps_set (i := 5) sc_led.nd rfl (Or.inl rfl) (pe_lst pa_nil))
      (pss_cons (ps_set (i := 6) sc_led.nd rfl (Or.inl rfl) (pe_lst pa_nil))
      (pss_cons (ps_for PassesOwn.never rfl (pi_range1 rfl T.b_range (pa_cons (pv 0) pa_nil)) (pg_name (i := 7) sc_led.nd rfl (Or.inl rfl)) (pss_cons (ps_set (i := 8) sc_led.nd rfl (Or.inl rfl) (pe_op o_sub (pe_op o_sub (pv 0) pe_int) (pv 7)))
      (pss_cons (ps_set (i := 9) sc_led.nd rfl (Or.inl rfl) (pe_lst pa_nil))
      (pss_cons (ps_set (i := 10) sc_led.nd rfl (Or.inl rfl) pe_str)
      (pss_cons (ps_for PassesOwn.never rfl (pi_range1 rfl T.b_range (pa_cons (pv 1) pa_nil)) (pg_name (i := 11) sc_led.nd rfl (Or.inl rfl)) (pss_cons (ps_set (i := 12) sc_led.nd rfl (Or.inl rfl) (pe_ix (i_ix (K := K)) (pv 3) (pv 11) (fun _ _ => rfl)))
      (pss_cons (ps_expr (pe_bm PySem.F.plainAttrs_list PySem.F.slot_list_append PySem.F.type_list_append mt_append (pv 9) (pa_cons (pe_tup (pa_cons (pv 8) (pa_cons (pv 12) pa_nil))) pa_nil)))
      (pss_one (ps_if (pt_val (@hcb 2 _ _ _ _ _ _ rfl (Or.inl rfl) (pa_cons (pv 7) (pa_cons (pv 11) (pa_cons (pv 8) (pa_cons (pv 12) pa_nil)))) (by decide) (by decide) rfl rfl)) (pss_one (ps_aug (i := 10) sc_led.nd rfl (Or.inl rfl) pe_str ip_addS)) (pss_cons (ps_aug (i := 10) sc_led.nd rfl (Or.inl rfl) pe_str ip_addS)
      (pss_cons (ps_asg (pv 8) (pg_sub (pv 3) (pv 11) set_list))
      (pss_one (ps_set (i := 8) sc_led.nd rfl (Or.inl rfl) (pv 12))))))))))
      (pss_cons (ps_expr (pe_bm PySem.F.plainAttrs_list PySem.F.slot_list_append PySem.F.type_list_append mt_append (pv 5) (pa_cons (pv 9) pa_nil)))
      (pss_cons (ps_expr (pe_bm PySem.F.plainAttrs_list PySem.F.slot_list_append PySem.F.type_list_append mt_append (pv 6) (pa_cons (pv 10) pa_nil)))
      (pss_one (ps_expr (pe_bm PySem.F.plainAttrs_list PySem.F.slot_list_append PySem.F.type_list_append mt_append (pv 4) (pa_cons (pv 8) pa_nil)))))))))))
      (pss_cons (ps_set (i := 13) sc_led.nd rfl (Or.inl rfl) (pe_op o_mul (pe_lst (pa_cons pe_int pa_nil)) (pe_op o_add (pv 0) (pv 1))))
      (pss_cons (ps_for PassesOwn.never rfl (pi_enum rfl T.b_enumerate (pa_cons (pe_op o_add (pv 3) (pe_slice3 (pv 4) po_none po_none (pe_un un_neg pe_int) (K := K))) pa_nil)) (pg_tup rfl (pgs_cons (pg_name (i := 14) sc_led.nd rfl (Or.inl rfl)) (pgs_cons (pg_name (i := 15) sc_led.nd rfl (Or.inl rfl)) pgs_nil))) (pss_one (ps_asg (pv 14) (pg_sub (pv 13) (pv 15) set_list))))
      (pss_one (ps_ret (pe_tup (pa_cons (pv 5) (pa_cons (pv 6) (pa_cons (pv 13) pa_nil))))))))))))), ?_⟩
    walk_at "go"
    rename_i d G1 n1 e1 v1 ri G2 n2 e2 v2 me G3 n3 e3 v3 sg G4 n4 e4 v4
    rw [show ((m : Int) + (n : Int) - (m : Int)).toNat = n by omega, rgL_nVm] at v1
    have n02 := Ex.free e1 n2
    have n03 := Ex.free (e1.trans e2) n3
    have n04 := Ex.free ((e1.trans e2).trans e3) n4
    have d1 := (e2.trans (e3.trans e4)).get v1
    have d2 := (e3.trans e4).get v2
    have d3 := e4.get v3
    have e04 := (e1.trans e2).trans (e3.trans e4)
    have q12 : d ≠ ri := ne_of_none v1 n2
    have q13 : d ≠ me := ne_of_none (e2.get v1) n3
    have q14 : d ≠ sg := ne_of_none ((e2.trans e3).get v1) n4
    have q23 : ri ≠ me := ne_of_none v2 n3
    have q24 : ri ≠ sg := ne_of_none (e3.get v2) n4
    have q34 : me ≠ sg := ne_of_none v3 n4
    have q21 := q12.symm
    have q31 := q13.symm
    have q41 := q14.symm
    have q32 := q23.symm
    have q42 := q24.symm
    have q43 := q34.symm
    clear e1 e2 e3 e4 v1 v2 v3
    rw [Int.toNat_natCast]
    refine for_runs (runs_range 0 m) (fun i σ H' => Ex H H' ∧ H' d = some (.lst ((List.range n).map fun j => nV (ledD r m i j))) ∧ H' ri = some (.lst ((List.range i).map fun i => nV (ledA r m i n))) ∧ H' sg = some (.lst ((List.range i).map fun i => V.str (sgT r m n i))) ∧ (∃ rs : List Addr, H' me = some (.lst (rs.map V.ref)) ∧ MeOk H' r m n i rs ∧ ∀ row ∈ rs, row ≠ d ∧ row ≠ ri ∧ row ≠ me ∧ row ≠ sg) ∧ ∃ a7 a8 a9 a10 a11 a12 a13 a14 a15, σ = [some (.int (m : Nat)), some (.int (n : Nat)), some (.ref fl), some (.ref d), some (.ref ri), some (.ref me), some (.ref sg), a7, a8, a9, a10, a11, a12, a13, a14, a15]) ⟨e04, d1, d2, v4, ⟨[], d3, ⟨rfl, fun k row h => by cases h⟩, fun _ h => by cases h⟩, _, _, _, _, _, _, _, _, _, rfl⟩ (fun _ _ _ _ _ => trivial) ?_ ?_
    · rintro i x σ H5 H5' hi ⟨e5, b1, b2, b3, ⟨rs, b4, b5, b6⟩, a7, a8, a9, a10, a11, a12, a13, a14, a15, rfl⟩ ⟨rfl, rfl⟩
      walk_at "go"
      rename_i mt H6 n6 e6 v6
      have c1 := e6.get b1
      have c2 := e6.get b2
      have c3 := e6.get b3
      have c4 := e6.get b4
      have c5 : MeOk H6 r m n i rs := b5.fr (Fr.ex (M := fun _ => False) e6) (fun _ _ z => z) (fun _ _ _ z => z)
      have e06 := e5.trans e6
      have nm := Ex.free e5 n6
      have m1 : mt ≠ d := (ne_of_none b1 n6).symm
      have m2 : mt ≠ ri := (ne_of_none b2 n6).symm
      have m3 : mt ≠ me := (ne_of_none b4 n6).symm
      have m4 : mt ≠ sg := (ne_of_none b3 n6).symm
      have w1 := m1.symm
      have w2 := m2.symm
      have w3 := m3.symm
      have w4 := m4.symm
      have rm : ∀ row ∈ rs, row ≠ mt := fun row hr z => by
        obtain ⟨k, hk⟩ := List.getElem?_of_mem hr
        obtain ⟨zs, q, _⟩ := b5.2 k row hk
        exact ne_of_none q n6 z
      clear b1 b2 b3 b4 b5 e5 e6
      have ea : (m : Int) - 1 - (0 + (i : Int)) = ((ledA r m i 0 : Nat) : Int) := by rw [ledA_0]; omega
      rw [Int.toNat_natCast, ea, Int.zero_add, show (Str.ofString "") = tx [] from tx_nil]
      have c1' : H6 d = some (.lst ((List.range n).map fun c => nV (if c < 0 then ledD r m (i + 1) c else ledD r m i c))) := c1
      refine for_runs (runs_range 0 n) (fun j σ H' => Ex H H' ∧ H' d = some (.lst ((List.range n).map fun c => nV (if c < j then ledD r m (i + 1) c else ledD r m i c))) ∧ H' ri = some (.lst ((List.range i).map fun i => nV (ledA r m i n))) ∧ H' sg = some (.lst ((List.range i).map fun i => V.str (sgT r m n i))) ∧ H' me = some (.lst (rs.map V.ref)) ∧ MeOk H' r m n i rs ∧ (∃ zs : List ZP, H' mt = some (.lst (zs.map zV)) ∧ TP H' zs ∧ zs.map (·.2) = (List.range j).map fun j => (ledA r m i j, ledD r m i j)) ∧ ∃ a11 a12 a13 a14 a15, σ = [some (.int (m : Nat)), some (.int (n : Nat)), some (.ref fl), some (.ref d), some (.ref ri), some (.ref me), some (.ref sg), some (.int (i : Nat)), some (.int (ledA r m i j : Nat)), some (.ref mt), some (.str (tx ((List.range j).map fun j => if ledS r m i j = true then 120 else 111))), a11, a12, a13, a14, a15]) ⟨e06, c1', c2, c3, c4, c5, ⟨[], v6, (fun _ h => (by cases h)), rfl⟩, _, _, _, _, _, rfl⟩ (fun _ _ _ _ _ => trivial) ?_ ?_
      · rintro j x σ G G' hj ⟨e7, c1, c2, c3, c4, c5, ⟨zs, y1, y2, y3⟩, a11, a12, a13, a14, a15, rfl⟩ ⟨rfl, rfl⟩
        have g1 : atI ((List.range n).map fun c => nV (if c < j then ledD r m (i + 1) c else ledD r m i c)) (0 + (j : Int)) = some (nV (ledD r m i j)) := by
          rw [Int.zero_add, fn_at (f := fun c => nV (if c < j then ledD r m (i + 1) c else ledD r m i c)) hj, if_neg (Nat.lt_irrefl _)]
        walk_at "go"
        refine st_ixL c1 g1 ?_
        walk_at "go"
        rename_i T H7 n7 e8 v7
        have lz : zs.length = j := by have := congrArg List.length y3; simpa using this
        have k1 : (upd H7 mt (.lst (zs.map zV ++ [V.ref T]))) d = _ := (upd_ne w1).trans (e8.get c1)
        have k2 : (upd H7 mt (.lst (zs.map zV ++ [V.ref T]))) ri = _ := (upd_ne w2).trans (e8.get c2)
        have k3 : (upd H7 mt (.lst (zs.map zV ++ [V.ref T]))) sg = _ := (upd_ne w4).trans (e8.get c3)
        have k4 : (upd H7 mt (.lst (zs.map zV ++ [V.ref T]))) me = _ := (upd_ne w3).trans (e8.get c4)
        have y1' := e8.get y1
        have c5' : MeOk H7 r m n i rs := c5.fr (Fr.ex (M := fun _ => False) e8) (fun _ _ z => z) (fun _ _ _ z => z)
        have tp : TP H7 (zs ++ [(T, (ledA r m i j, ledD r m i j))]) := (y2.ex e8).app (TP.cons (z := (T, (ledA r m i j, ledD r m i j))) v7 fun _ h => (by cases h))
        refine st_app y1' (by rw [List.length_map, lz]; omega) ?_
        have k5 : MeOk (upd H7 mt (.lst (zs.map zV ++ [V.ref T]))) r m n i rs := c5'.fr (M := fun b => b = mt) FrP.at rm fun b q h => tup_nlst h y1'
        have tp2 : TP (upd H7 mt (.lst (zs.map zV ++ [V.ref T]))) _ := tp.up y1'
        have k6 : upd H7 mt (.lst (zs.map zV ++ [V.ref T])) mt = some (.lst ((zs ++ [(T, (ledA r m i j, ledD r m i j))]).map zV)) := by rw [upd_same, List.map_append]; rfl
        have k7 : Ex H (upd H7 mt (.lst (zs.map zV ++ [V.ref T]))) := (e7.trans e8).mut nm
        have k8 : (zs ++ [(T, (ledA r m i j, ledD r m i j))]).map (·.2) = (List.range (j + 1)).map fun j => (ledA r m i j, ledD r m i j) := by rw [List.map_append, y3, List.range_succ, List.map_append]; rfl
        generalize upd H7 mt (.lst (zs.map zV ++ [V.ref T])) = H8 at k1 k2 k3 k4 k5 k6 k7 tp2 ⊢
        clear c1 c2 c3 c4 c5 c5' y1 y1' y2 e7 e8 v7 tp e06 g1
        rw [Int.zero_add]
        walk_at "go"
        refine hr2 i j _ _ H8 _ hi hj (ledA_lt hi (by omega)) (ledE_lt (by omega) hj) k7 ?_
        rw [show r i j (ledA r m i j) (ledD r m i j) = ledS r m i j from rfl]
        have ew : (List.range n).map (fun c => nV (if c < j + 1 then ledD r m (i + 1) c else ledD r m i c)) = ((List.range n).map fun c => nV (if c < j then ledD r m (i + 1) c else ledD r m i c)).set j (nV (ledD r m (i + 1) j)) := by
          rw [fn_set]
          refine fn_congr fun c hc => ?_
          by_cases z : c = j
          · subst z
            rw [if_pos rfl, if_pos (by omega)]
          · rw [if_neg z]
            by_cases u : c < j
            · rw [if_pos u, if_pos (by omega)]
            · rw [if_neg u, if_neg (by omega)]
        have et : ∀ z : Nat, z = (if ledS r m i j = true then 120 else 111) → tx ((List.range j).map fun j => if ledS r m i j = true then 120 else 111) ++ tx [z] = tx ((List.range (j + 1)).map fun j => if ledS r m i j = true then 120 else 111) := fun z hz => by
          rw [tx_append, List.range_succ, List.map_append, hz]
          rfl
        cases hh : ledS r m i j with
        | true =>
          refine ⟨true, rfl, ?_⟩
          rw [if_pos rfl]
          walk_at "go"
          refine st_ipS (by rw [tx_length, List.length_map, List.length_range]; show j + 1 ≤ 16777216; omega) ?_
          have ea2 : ledA r m i (j + 1) = ledA r m i j := by rw [ledA_s, if_pos hh]
          rw [show Str.ofString "x" = tx [120] from by decide +kernel, et 120 (by rw [if_pos hh]), ea2]
          refine ⟨k7, ?_, k2, k3, k4, k5, ⟨_, k6, tp2, k8⟩, _, _, _, _, _, rfl⟩
          · rw [ew, k1, ledD_s, if_pos hh]
            congr 1
            rw [fn_set]
            exact congrArg HO.lst (fn_congr fun c hc => (by
              by_cases z : c = j
              · rw [if_pos z, if_neg (by omega), z]
              · rw [if_neg z]))
        | false =>
          have hx : ixN ((List.range n).map fun c => nV (if c < j then ledD r m (i + 1) c else ledD r m i c)).length (j : Nat) = some j := fn_ix hj
          refine ⟨false, rfl, ?_⟩
          rw [if_neg (by decide)]
          walk_at "go"
          refine st_ipS (by rw [tx_length, List.length_map, List.length_range]; show j + 1 ≤ 16777216; omega) ?_
          walk_at "go"
          refine st_setL k1 hx ?_
          walk_at "go"
          have ea2 : ledA r m i (j + 1) = ledD r m i j := by rw [ledA_s, if_neg (by rw [hh]; decide)]
          rw [show Str.ofString "o" = tx [111] from by decide +kernel, et 111 (by rw [if_neg (by rw [hh]; decide)]), ea2]
          have tf : ∀ b q, H8 b = some (tupO q) → ¬ b = d := fun b q h => tup_nlst h k1
          have fp : ∀ o, FrP d H8 (upd H8 d o) := fun _ => FrP.at
          refine ⟨k7.mut n1, ?_, (upd_ne q21).trans k2, (upd_ne q41).trans k3, (upd_ne q31).trans k4, k5.fr (fp _) (fun row hr => (b6 row hr).1) tf, ⟨_, (upd_ne m1).trans k6, fun z hz => (fp _).get (tf _ _ (tp2 z hz)) (tp2 z hz), k8⟩, _, _, _, _, _, rfl⟩
          · rw [upd_same, ew, ledD_s, if_neg (by rw [hh]; decide)]
            rfl
      · rintro σ G ⟨e7, c1, c2, c3, c4, c5, ⟨zs, y1, y2, y3⟩, a11, a12, a13, a14, a15, rfl⟩
        have c1'' : G d = some (.lst ((List.range n).map fun c => nV (ledD r m (i + 1) c))) := by
          rw [c1]
          congr 2
          exact fn_congr fun c hc => by rw [if_pos hc]
        clear c1 c1'
        walk_at "go"
        refine st_app c4 (by rw [List.length_map, c5.1]; omega) ?_
        have x3 : (upd G me (.lst (rs.map V.ref ++ [V.ref mt]))) sg = _ := (upd_ne q43).trans c3
        walk_at "go"
        refine st_app x3 (by rw [List.length_map, List.length_range]; omega) ?_
        have x2 : (upd (upd G me (.lst (rs.map V.ref ++ [V.ref mt]))) sg (.lst (((List.range i).map fun i => V.str (sgT r m n i)) ++ [V.str (tx ((List.range n).map fun j => if ledS r m i j = true then 120 else 111))]))) ri = _ := (upd_ne q24).trans ((upd_ne q23).trans c2)
        walk_at "go"
        refine st_app x2 (by rw [List.length_map, List.length_range]; omega) ?_
        have fr : Fr (fun b => b = me ∨ b = sg ∨ b = ri) G (upd (upd (upd G me (.lst (rs.map V.ref ++ [V.ref mt]))) sg (.lst (((List.range i).map fun i => V.str (sgT r m n i)) ++ [V.str (tx ((List.range n).map fun j => if ledS r m i j = true then 120 else 111))]))) ri (.lst (((List.range i).map fun i => nV (ledA r m i n)) ++ [V.int (ledA r m i n : Nat)]))) := ((Fr.at (.inl rfl)).trans (Fr.at (.inr (.inl rfl)))).trans (Fr.at (.inr (.inr rfl)))
        have nl : ∀ b q, G b = some (tupO q) → ¬ (b = me ∨ b = sg ∨ b = ri) := fun b q h z => by
          rcases z with z | z | z
          · exact tup_nlst h c4 z
          · exact tup_nlst h c3 z
          · exact tup_nlst h c2 z
        have nr : ∀ row ∈ rs, ¬ (row = me ∨ row = sg ∨ row = ri) := fun row hr z => by
          obtain ⟨h1, h2, h3, h4⟩ := b6 row hr
          rcases z with z | z | z
          · exact h3 z
          · exact h4 z
          · exact h2 z
        have nm' : ¬ (mt = me ∨ mt = sg ∨ mt = ri) := fun z => by
          rcases z with z | z | z
          · exact m3 z
          · exact m4 z
          · exact m2 z
        refine ⟨((e7.mut n03).mut n04).mut n02, (upd_ne q12).trans ((upd_ne q14).trans ((upd_ne q13).trans c1'')), ?_, ?_, ⟨rs ++ [mt], ?_, (c5.fr fr nr nl).snoc (fr.get nm' y1) (fun z hz => fr.get (nl _ _ (y2 z hz)) (y2 z hz)) y3, ?_⟩, _, _, _, _, _, _, _, _, _, rfl⟩
        · rw [upd_same, List.range_succ, List.map_append]; rfl
        · rw [upd_ne q42, upd_same, List.range_succ, List.map_append]; rfl
        · rw [upd_ne q32, upd_ne q34, upd_same, List.map_append]; rfl
        · intro row hr
          rcases List.mem_append.mp hr with z | z
          · exact b6 row z
          · rw [List.mem_singleton.mp z]
            exact ⟨m1, m2, m3, m4⟩
    · rintro σ G ⟨e7, b1, b2, b3, ⟨rs, b4, b5, b6⟩, a7, a8, a9, a10, a11, a12, a13, a14, a15, rfl⟩
      walk_at "go"
      rename_i p1 G5 n5 e5 v5 go G6 n6 e6 v6
      rw [show ((m : Int) + (n : Int)).toNat = m + n by omega, rep0] at v6
      have e56 := e5.trans e6
      refine st_revL (lstAt_sq (lst_of (e56.get b2))) fun q7 G7 n7 e7' v7 => ?_
      refine st_addL ((e56.trans e7').get b1) v7 (by rw [List.length_reverse, List.length_map, List.length_range, List.length_map, List.length_range]; omega) fun q8 G8 n8 e8 v8 => ?_
      have v8' : G8 q8 = some (.lst ((ledE r m n).map nV)) := by
        rw [v8]
        unfold ledE
        rw [List.map_append, List.map_map, List.map_reverse, List.map_map]
        rfl
      walk_at "go"
      have e0 : Ex H G8 := ((e7.trans e56).trans e7').trans e8
      have v6' := (e7'.trans e8).get v6
      have n0 : H go = none := Ex.free (e7.trans e5) n6
      have hq : q8 ≠ go := (ne_of_none (e7'.get v6) n8).symm
      have le := ledE_len r m n
      have hT := ledE_T r m n
      have B1 : G8 sg = _ := ((e56.trans e7').trans e8).get b3
      have B2 : G8 me = _ := ((e56.trans e7').trans e8).get b4
      have B3 : MeOk G8 r m n m rs := b5.fr (Fr.ex (M := fun _ => False) ((e56.trans e7').trans e8)) (fun _ _ z => z) (fun _ _ _ z => z)
      have B4 : go ≠ sg := (ne_of_none (e5.get b3) n6).symm
      have B5 : go ≠ me := (ne_of_none (e5.get b4) n6).symm
      have B6 : ∀ row ∈ rs, row ≠ go := fun row hr => (by
        obtain ⟨k, hk⟩ := List.getElem?_of_mem hr
        obtain ⟨zs, q, _⟩ := b5.2 k row hk
        exact ne_of_none (e5.get q) n6)
      clear e56 e7 e7' e8 e5 e6 b1 b2 b3 b4 b5 v5 v6 v7 v8
      refine for_runs (runs_enum _ q8 _) (fun i σ H' => FrP go G8 H' ∧ (∃ rs : List Nat, rs.length = m + n ∧ (∀ j, j < i → gT rs (gT (ledE r m n) j) = j) ∧ H' go = some (.lst (rs.map nV))) ∧ ∃ y z, σ = [some (.int (m : Nat)), some (.int (n : Nat)), some (.ref fl), some (.ref d), some (.ref ri), some (.ref me), some (.ref sg), a7, a8, a9, a10, a11, a12, some (.ref go), y, z]) ⟨Fr.refl _, ⟨_, List.length_replicate, fun j h => absurd h (Nat.not_lt_zero _), v6'⟩, _, _, rfl⟩ (fun i σ H' _ h => lst_of (h.1.get hq v8')) ?_ ?_
      · rintro i x σ H4 H5 hi ⟨f4, ⟨ws, h1, h2, h3⟩, y, z, rfl⟩ ⟨T, v, rfl, nT, eT, vT, hv⟩
        obtain ⟨hil, rfl⟩ := nV_at hv
        have h3' := eT.get h3
        walk_at "go"
        have hlt := hT.g_lt hil
        have hxl : ixN (List.map nV ws).length (((gT (ledE r m n) i : Nat) : Nat) : Int) = some (gT (ledE r m n) i) := by
          rw [List.length_map]
          exact Evl.ixN_nat (by omega)
        refine st_setL h3' hxl ?_
        refine ⟨(f4.trans (Fr.ex eT)).trans FrP.at, ⟨ws.set (gT (ledE r m n) i) i, by rw [List.length_set]; exact h1, fun j hj => ?_, ?_⟩, _, _, rfl⟩
        · rw [gT_set (by omega)]
          by_cases q : gT (ledE r m n) j = gT (ledE r m n) i
          · have : j = i := hT.inj (by omega) hil q
            subst this
            rw [if_pos rfl]
          · rw [if_neg q]
            refine h2 j ?_
            have : j ≠ i := fun e => q (by rw [e])
            omega
        · rw [upd_same, List.map_set]
          rfl
      · rintro σ H4 ⟨f4, ⟨ws, h1, h2, h3⟩, y, z, rfl⟩
        have this : ws = invT (ledE r m n) := gT_ext (by rw [invT_len, h1, le]) fun v hv => by
          rw [h1] at hv
          rw [invT_g (by omega)]
          have := h2 ((ledE r m n).idxOf v) (by rw [List.length_map]; exact hT.idx_lt (by omega))
          rwa [hT.g_idx (by omega)] at this
        subst this
        have eF := Ex.comp (M := fun b => b = go) e0 f4 fun b hb => by rw [hb]; exact n0
        walk_at "go"
        rename_i t G9 n9 e9 v9
        refine k t me sg go G9 (eF.trans e9) (Ex.free eF n9) v9 ?_ n0
        refine LedAt.ex ⟨h3, f4.get (fun z => B4 z.symm) B1, rs, f4.get (fun z => B5 z.symm) B2, B3.1, fun i row hr => ?_⟩ e9
        obtain ⟨zs, z1, z2, z3⟩ := B3.2 i row hr
        refine ⟨zs, f4.get (B6 _ (List.mem_of_getElem? hr)) z1, fun z hz => ?_, z3⟩
        exact f4.get (tup_nlst (z2 z hz) v6') (z2 z hz)
def sp_is_turning : Sp := fun vs H Q _ => ∃ (x : V) (d : PyData), vs = [x] ∧ Rn H x d ∧ ∀ b H', Ex H H' → (b = true ↔ TurnD d) → Q (.bl b) H'
theorem ok_is_turning (T : Tx K mg ad fd tk base tc) : FnOk P w K mg base CX0 3 (ad 10) (fd 10) ["thing"] sp_is_turning := by
  refine T.d_is_turning.F.ok sc_is_turning (fun vs H Q E h => ?_) (fun cdv A outer s H vs Q E hr h => ?_)
  · obtain ⟨x, d, rfl, _⟩ := h
    rfl
  · obtain ⟨x, d, rfl, hx, k⟩ := h
    refine ⟨_, (pss_cons (ps_if (PW.pt (pw_or (pt_not (pt_val (pe_callB c_isT2 (by rfl) T.b_isinstance (by decide +kernel) (pa_cons (pv 0) (pa_cons (pe_tup (pa_cons (pe_bltn (v := .ty "list") rfl T.b_list (by decide +kernel) rfl) (pa_cons (pe_bltn (v := .ty "tuple") rfl T.b_tuple (by decide +kernel) rfl) pa_nil))) pa_nil))))) (pw_or1 (pt_cmpR o_gt (pe_callB (c_len (K := K)) (by rfl) T.b_len (by decide +kernel) (pa_cons (pv 0) pa_nil)) (pe_glob (v := .int 96) rfl T.c_MOST_LINES ⟨_, rfl⟩) (nomark _))))) (pss_one (ps_ret pe_bl)) pss_nil)
      (pss_cons (ps_set (i := 1) sc_is_turning.nd rfl (Or.inl rfl) (pe_op o_mul (pe_lst (pa_cons pe_bl pa_nil)) (pe_callB (c_len (K := K)) (by rfl) T.b_len (by decide +kernel) (pa_cons (pv 0) pa_nil))))
      (pss_cons (ps_for PassesOwn.never rfl (pi_seq (pv 0)) (pg_name (i := 2) sc_is_turning.nd rfl (Or.inl rfl)) (pss_cons (ps_if (PW.pt (pw_or (pt_not (pt_val (pe_call (ok_is_within T) (hr.mono (by decide)) rfl T.d_is_within.g T.d_is_within.F.kp T.d_is_within.b .nil pass0 (pa_cons (pv 2) (pa_cons pe_int (pa_cons (pe_op o_sub (pe_callB (c_len (K := K)) (by rfl) T.b_len (by decide +kernel) (pa_cons (pv 0) pa_nil)) pe_int) pa_nil)))))) (pw_or1 (pt_tru (pe_ix (i_ix (K := K)) (pv 1) (pv 2) (fun _ _ => rfl)) (by intro _; rfl) (K := K))))) (pss_one (ps_ret pe_bl)) pss_nil)
      (pss_one (ps_asg pe_bl (pg_sub (pv 1) (pv 2) set_list)))))
      (pss_one (ps_ret pe_bl))))), ?_⟩
    have no : ∀ H', Ex H H' → (¬ TurnD d) → Q (.bl false) H' := fun H' e n => k false H' e ⟨(fun z => nomatch z), (fun z => (n z).elim)⟩
    walk_at "go"
    rename_i t1 H1 n1 e1 v1
    refine st_isLT (hx.ex e1).rq (by walk_at "hp") ?_
    refine ⟨_, rfl, ?_⟩
    cases hd : (isListD d || isTupD d) with
    | false =>
      refine st_T rfl ?_
      walk_at "go"
      refine no _ e1 (fun h => ?_)
      obtain ⟨l, h, _⟩ := h
      rcases h with h | h
      · rw [h] at hd; cases hd
      · rw [h] at hd; cases hd
    | true =>
    obtain ⟨a, xs, ds, hv, hs, hr, hd2⟩ := (hx.ex e1).seq hd
    subst hv
    have hl := hr.len
    have td : TurnD d ↔ ∃ l : List Nat, ds = l.map encN ∧ IsT l ∧ l.length ≤ 96 := by
      constructor
      · rintro ⟨l, h, h1, h2⟩
        refine ⟨l, ?_, h1, h2⟩
        rcases hd2 with e | e <;> rcases h with q | q <;> rw [e] at q <;> first | (injection q) | cases q
      · rintro ⟨l, h, h1, h2⟩
        refine ⟨l, ?_, h1, h2⟩
        rw [← h]
        exact hd2
    refine st_F rfl ?_
    walk_at "go"
    refine st_lenQ hs ?_
    walk_at "go"
    refine st_br2 (fun c => ?_) (fun c => ?_)
    · walk_at "go"
      refine no _ e1 (fun h => ?_)
      obtain ⟨l, h, _, h2⟩ := td.mp h
      rw [hl, h, List.length_map] at c
      omega
    walk_at "go"
    rename_i t2 H2 n2 e2 v2
    refine st_lenQ (seqAt_ex e2 hs) ?_
    walk_at "go"
    rename_i q H3 n3 e3 v3
    have ea3 := seqAt_ex (e2.trans e3) hs
    obtain ⟨n, hn⟩ : ∃ n, n = xs.length := ⟨_, rfl⟩
    rw [← hn] at c
    have hqa : q ≠ a := fun e => by
      have := seqAt_ex e2 hs
      unfold seqAt at this
      rw [← e, n3] at this
      cases this
    refine st_isSeq ea3 fun J S hJ hS => ?_
    obtain ⟨zs, rfl, rfl, hz⟩ := hr.zipped
    rw [List.length_map] at hn
    have hv3 : H3 q = some (.lst (((List.range n).map fun v => decide (v ∈ ([] : List Nat))).map V.bl)) := by
      rw [v3]
      congr 2
      rw [List.map_map, List.length_map, ← hn, Int.toNat_natCast]
      refine List.ext_getElem? fun i => ?_
      rw [List.getElem?_map]
      by_cases hi : i < n
      · rw [List.getElem?_range hi, List.getElem?_eq_getElem (by simp; exact hi)]
        simp
      · rw [List.getElem?_eq_none (by simp; omega), List.getElem?_eq_none (by simp; omega)]
        rfl
    have hJ2 := hJ
    rw [List.length_map, ← hn] at hJ2
    refine for_runs hJ2 (fun i σ H' => FrP q H3 H' ∧ (∃ l : List Nat, (zs.map (·.2)).take i = l.map encN ∧ l.Nodup ∧ (∀ v ∈ l, v < n) ∧ H' q = some (.lst (((List.range n).map fun v => decide (v ∈ l)).map V.bl))) ∧ ∃ y, σ = [some (.ref a), some (.ref q), y]) ⟨Fr.refl _, ⟨[], rfl, List.nodup_nil, by simp, hv3⟩, _, rfl⟩ (fun i σ H' _ h => hS H' (seqAt_same' h.1 (fun z => hqa z.symm) ea3)) ?_ ?_
    · rintro i x σ H0 H4 hi ⟨f4, ⟨l, h1, h2, h3, h4⟩, y, rfl⟩ ⟨rfl, hxi⟩
      obtain ⟨z, hzi⟩ : ∃ z, zs[i]? = some z := ⟨zs[i]'(by omega), List.getElem?_eq_getElem _⟩
      rw [List.getElem?_map, hzi] at hxi
      have hxz : x = z.1 := (Option.some.inj hxi).symm
      subst hxz
      have ex4 : Ex H H4 := e1.trans (e2.trans (Ex.comp (M := fun b => b = q) e3 f4 fun b hb => by rw [hb]; exact n3))
      have rz := ((hz z (List.mem_of_getElem? hzi)).ex e2).ex (Ex.comp (M := fun b => b = q) e3 f4 fun b hb => by rw [hb]; exact n3)
      have sa4 := seqAt_eq ea3 (seqAt_same' f4 (fun z => hqa z.symm) ea3)
      have dz : (zs.map (·.2))[i]? = some z.2 := by rw [List.getElem?_map, hzi]; rfl
      walk_at "go"
      refine st_lenQ sa4 ?_
      walk_at "go"
      rw [List.length_map, ← hn]
      refine ⟨z.1, 0, _, rfl, rz.rq.ty, ?_⟩
      cases hb : withinV z.1 0 ((n : Nat) - 1) with
      | false =>
        walk_at "go"
        refine no _ ex4 fun h => ?_
        obtain ⟨m, e, hm, _⟩ := td.mp h
        have hml : m.length = n := by
          have := congrArg List.length e
          rw [List.length_map, List.length_map] at this
          omega
        rw [e, List.getElem?_map] at dz
        cases q : m[i]? with
        | none => rw [q] at dz; cases dz
        | some v =>
          rw [q] at dz
          have hv := hm.lt v (List.mem_of_getElem? q)
          have := (wiN rz ((n : Nat) - 1)).mpr ⟨v, (Option.some.inj dz).symm, by omega⟩
          rw [hb] at this
          cases this
      | true =>
      obtain ⟨v, hv, hvn⟩ := (wiN rz _).mp hb
      have zv : z.1 = .int (v : Nat) := by
        rw [hv] at rz
        unfold encN at rz
        cases hz1 : z.1 <;> rw [hz1] at rz <;> cases rz
        rfl
      walk_at "go"
      rw [zv]
      refine st_ixL h4 (at_mapN (by rw [List.getElem?_map, List.getElem?_range (by omega)]; rfl)) ?_
      walk_at "go"
      by_cases hm : v ∈ l
      · refine st_T (decide_eq_true hm) ?_
        walk_at "go"
        refine no _ ex4 fun h => ?_
        obtain ⟨m, e, hmT, _⟩ := td.mp h
        rw [e, List.getElem?_map] at dz
        have h5 : m.take i = l := encN_inj (by rw [List.map_take, ← e, h1])
        cases q : m[i]? with
        | none => rw [q] at dz; cases dz
        | some u =>
          rw [q, hv] at dz
          have huv : u = v := by
            have := Option.some.inj dz
            unfold encN at this
            injection this with this
            omega
          subst huv
          have hmi := (List.getElem?_eq_some_iff.mp q)
          obtain ⟨hlt, hget⟩ := hmi
          rw [← h5] at hm
          obtain ⟨j, hj, hj2⟩ := List.getElem_of_mem hm
          rw [List.length_take] at hj
          rw [List.getElem_take] at hj2
          have h6 := hmT.nd
          rw [List.nodup_iff_pairwise_ne, List.pairwise_iff_getElem] at h6
          exact h6 j i (by omega) hlt (by omega) (by rw [hj2, hget])
      · refine st_F (decide_eq_false hm) ?_
        walk_at "go"
        refine st_setL h4 (by rw [List.length_map, List.length_map, List.length_range]; exact Evl.ixN_nat (by omega)) ?_
        refine ⟨f4.trans FrP.at, ⟨l ++ [v], ?_, ?_, ?_, ?_⟩, _, rfl⟩
        · rw [List.take_add_one, h1, dz, hv, List.map_append]
          rfl
        · rw [List.nodup_append]
          exact ⟨h2, by simp, fun b hb c hc => by rw [List.mem_singleton.mp hc]; exact fun z => hm (z ▸ hb)⟩
        · intro u hu
          rcases List.mem_append.mp hu with h | h
          · exact h3 u h
          · rw [List.mem_singleton.mp h]; omega
        · rw [upd_same]
          congr 2
          refine List.ext_getElem? fun j => ?_
          rw [List.getElem?_set, List.getElem?_map, List.getElem?_map, List.getElem?_map, List.getElem?_map]
          by_cases hj : j < n
          · rw [List.getElem?_range hj]
            by_cases q : v = j
            · subst q
              rw [if_pos rfl, if_pos (by simp; omega)]
              simp
            · rw [if_neg q]
              simp
              exact fun e => absurd e.symm q
          · rw [List.getElem?_eq_none (by simp; omega), if_neg (by omega)]
            rfl
    · rintro σ H4 ⟨f4, ⟨l, h1, h2, h3, h4⟩, y, rfl⟩
      have ex4 : Ex H H4 := e1.trans (e2.trans (Ex.comp (M := fun b => b = q) e3 f4 fun b hb => by rw [hb]; exact n3))
      walk_at "go"
      refine k true _ ex4 ⟨fun _ => td.mpr ⟨l, ?_, ⟨h2, ?_⟩, ?_⟩, fun _ => rfl⟩
      · rw [← h1, List.take_of_length_le (by rw [List.length_map]; omega)]
      all_goals
        have hll : l.length = n := by
          have := congrArg List.length h1
          rw [List.take_of_length_le (by rw [List.length_map]; omega), List.length_map, List.length_map] at this
          omega
      · rw [hll]; exact h3
      · rw [hll]; omega
def sp_need_turning (K : PySem.W.Frag) : Sp := fun vs H Q E => ∃ (x : V) (d : PyData), vs = [x] ∧ Rn H x d ∧ (¬ TurnD d → RaF K E H "NoTurning" [("found", x)]) ∧ (TurnD d → ∀ H', Ex H H' → Q .non H')
theorem ok_need_turning (T : Tx K mg ad fd tk base tc) : FnOk P w K mg base (L2.CX P w) 4 (ad 11) (fd 11) ["turning"] (sp_need_turning K) := by
  refine T.d_need_turning.F.okX sc_need_turning (fun vs H Q E h => ?_) (fun cdv A outer s H vs Q E hr h => ?_)
  · obtain ⟨x, d, rfl, _⟩ := h
    rfl
  · obtain ⟨x, d, rfl, hx, k0, k1⟩ := h
    refine ⟨_, (pss_one (ps_if (pt_not (pt_val (pe_call (ok_is_turning T) (hr.mono (by decide)) rfl T.d_is_turning.g T.d_is_turning.F.kp T.d_is_turning.b .nil pass0 (pa_cons (pv 0) pa_nil)))) (pss_one (ps_raiseG rfl (ex_NoTurning T) (hr.mono (by decide)) (takes_of rfl rfl rfl rfl) rfl (pa_cons (pv 0) pa_nil))) pss_nil)), ?_⟩
    walk_at "go"
    refine ⟨x, d, rfl, hx, fun b H1 e1 hb => ?_⟩
    cases b with
    | true =>
      walk_at "go"
      exact k1 (hb.mp rfl) _ e1
    | false =>
      have k2 := k0 (fun h => Bool.false_ne_true (hb.mpr h))
      walk_at "go"
      rename_i d2 H2 hd2 e2 hv2
      exact k2 d2 H2 (Ex.free e1 hd2) (e1.trans e2) hv2
theorem within_nat {x : V} {m : Nat} (h : withinV x 0 m = true) : ∃ i : Nat, x = .int (i : Nat) ∧ i ≤ m := by
  cases x with
  | int z =>
    have : 0 ≤ z ∧ z ≤ (m : Int) := by simpa [withinV] using h
    exact ⟨z.toNat, by rw [show ((z.toNat : Nat) : Int) = z by omega], by omega⟩
  | _ => cases h
theorem nat_within {i m : Nat} (h : i ≤ m) : withinV (.int (i : Nat)) 0 m = true := by
  unfold withinV
  exact decide_eq_true (by omega)
theorem nat_no {i m : Nat} (h : i ≤ m) {C : Prop} (k : withinV (.int (i : Nat)) 0 m = false) : C := by rw [nat_within h] at k; cases k
def sp_need_place (K : PySem.W.Frag) : Sp := fun vs H Q E => ∃ (x : V) (m : Int), vs = [x, .int m] ∧ Ty H x ∧ (withinV x 0 m = false → RaF K E H "NoPlace" [("found", x)]) ∧ (withinV x 0 m = true → Q .non H)
theorem ok_need_place (T : Tx K mg ad fd tk base tc) : FnOk P w K mg base (L2.CX P w) 3 (ad 12) (fd 12) ["place", "most"] (sp_need_place K) := by
  refine T.d_need_place.F.okX sc_need_place (fun vs H Q E h => ?_) (fun cdv A outer s H vs Q E hr h => ?_)
  · obtain ⟨x, m, rfl, _⟩ := h
    rfl
  · obtain ⟨x, m, rfl, hx, k0, k1⟩ := h
    refine ⟨_, (pss_one (ps_if (pt_not (pt_val (pe_call (ok_is_within T) (hr.mono (by decide)) rfl T.d_is_within.g T.d_is_within.F.kp T.d_is_within.b .nil pass0 (pa_cons (pv 0) (pa_cons pe_int (pa_cons (pv 1) pa_nil)))))) (pss_one (ps_raiseG rfl (ex_NoPlace T) (hr.mono (by decide)) (takes_of rfl rfl rfl rfl) rfl (pa_cons (pv 0) pa_nil))) pss_nil)), ?_⟩
    walk_at "go"
    refine ⟨x, 0, m, rfl, hx, ?_⟩
    cases hb : withinV x 0 m with
    | true =>
      walk_at "go"
      exact k1 hb
    | false =>
      have k2 := k0 hb
      walk_at "go"
      rename_i d2 H2 hd2 e2 hv2
      exact k2 d2 H2 hd2 e2 hv2
def sp_opposite (K : PySem.W.Frag) : Sp := fun vs H Q E => ∃ (x : V) (d : PyData), vs = [x] ∧ Rn H x d ∧ (¬ TurnD d → RaF K E H "NoTurning" [("found", x)]) ∧ (∀ l : List Nat, (d = .list (l.map encN) ∨ d = .tuple (l.map encN)) → IsT l → l.length ≤ 96 → ∀ q H', Ex H H' → H q = none → H' q = some (.lst ((invT l).map nV)) → Q (.ref q) H')
theorem ok_opposite (T : Tx K mg ad fd tk base tc) : FnOk P w K mg base (L2.CX P w) 5 (ad 13) (fd 13) ["turning"] (sp_opposite K) := by
  refine T.d_opposite.F.okX sc_opposite (fun vs H Q E h => ?_) (fun cdv A outer s H vs Q E hr h => ?_)
  · obtain ⟨x, d, rfl, _⟩ := h
    rfl
  · obtain ⟨x, d, rfl, hx, k0, k1⟩ := h
    refine ⟨_, (pss_cons (ps_expr (pe_call (ok_need_turning T) (hr.mono (by decide)) rfl T.d_need_turning.g T.d_need_turning.F.kp T.d_need_turning.b .nil (passes_call (takes_of rfl rfl rfl rfl) (fun _ _ _ _ h => h)) (pa_cons (pv 0) pa_nil)))
      (pss_cons (ps_set (i := 1) sc_opposite.nd rfl (Or.inl rfl) (pe_op o_mul (pe_lst (pa_cons pe_int pa_nil)) (pe_callB (c_len (K := K)) (by rfl) T.b_len (by decide +kernel) (pa_cons (pv 0) pa_nil))))
      (pss_cons (ps_for (passes_of rfl) rfl (pi_enumQ rfl T.b_enumerate (pa_cons (pv 0) pa_nil)) (pg_tup rfl (pgs_cons (pg_name (i := 2) sc_opposite.nd rfl (Or.inl rfl)) (pgs_cons (pg_name (i := 3) sc_opposite.nd rfl (Or.inl rfl)) pgs_nil))) (pss_one (ps_asg (pv 2) (pg_sub (pv 1) (pv 3) set_list))))
      (pss_one (ps_ret (pv 1)))))), ?_⟩
    walk_at "go"
    refine ⟨x, d, rfl, hx, k0, fun hT H1 e1 => ?_⟩
    obtain ⟨l, hd, hl, hl2⟩ := hT
    have k2 := k1 l hd hl hl2
    obtain ⟨a, rfl, hs⟩ := TurnD.seq hx hd
    have hs1 := seqAt_ex e1 hs
    clear k0 k1
    walk_at "go"
    rename_i t2 H2 n2 e2 v2
    refine st_lenQ (seqAt_ex e2 hs1) ?_
    rw [List.length_map]
    walk_at "go"
    rename_i q H3 n3 e3 v3
    have hs3 := seqAt_ex (e2.trans e3) hs1
    have hqa : q ≠ a := fun e => by
      have := seqAt_ex e2 hs1
      unfold seqAt at this
      rw [← e, n3] at this
      cases this
    refine st_isEnQ hs3 fun J S hJ hS => ?_
    rw [List.length_map] at hJ
    have v3' : H3 q = some (.lst ((List.replicate l.length 0).map nV)) := by
      rw [v3, Int.toNat_natCast]
      congr 2
      rw [List.map_replicate]
      clear k2 hd hl hl2 hx hs hs1 v3 hs3 hJ
      induction l.length with
      | zero => rfl
      | succ n ih => rw [List.replicate_succ, List.flatten_cons, ih, List.replicate_succ]; rfl
    have e13 := e1.trans (e2.trans e3)
    have n03 : H q = none := Ex.free (e1.trans e2) n3
    refine for_runs hJ (fun i σ H' => FrP q H3 H' ∧ (∃ rs : List Nat, rs.length = l.length ∧ (∀ j, j < i → gT rs (gT l j) = j) ∧ H' q = some (.lst (rs.map nV))) ∧ ∃ y z, σ = [some (.ref a), some (.ref q), y, z]) ⟨Fr.refl _, ⟨_, List.length_replicate, fun j h => absurd h (Nat.not_lt_zero _), v3'⟩, _, _, rfl⟩ (fun i σ H' _ h => hS H' (seqAt_same' h.1 (fun z => hqa z.symm) hs3)) ?_ ?_
    · rintro i x σ H4 H5 hi ⟨f4, ⟨rs, h1, h2, h3⟩, y, z, rfl⟩ ⟨T, v, rfl, nT, eT, vT, hv⟩
      obtain ⟨hil, rfl⟩ := nV_at hv
      have h3' := eT.get h3
      walk_at "go"
      have hlt := hl.g_lt hil
      have hxl : ixN (List.map nV rs).length (((gT l i : Nat) : Nat) : Int) = some (gT l i) := by
        rw [List.length_map]
        exact Evl.ixN_nat (by omega)
      refine st_setL h3' hxl ?_
      refine ⟨(f4.trans (Fr.ex eT)).trans FrP.at, ⟨rs.set (gT l i) i, by rw [List.length_set]; exact h1, fun j hj => ?_, ?_⟩, _, _, rfl⟩
      · rw [gT_set (by omega)]
        by_cases q : gT l j = gT l i
        · have : j = i := hl.inj (by omega) hil q
          subst this
          rw [if_pos rfl]
        · rw [if_neg q]
          refine h2 j ?_
          have : j ≠ i := fun e => q (by rw [e])
          omega
      · rw [upd_same, List.map_set]
        rfl
    · rintro σ H4 ⟨f4, ⟨rs, h1, h2, h3⟩, y, z, rfl⟩
      walk_at "go"
      have : rs = invT l := gT_ext (by rw [invT_len, h1]) fun v hv => by
        rw [h1] at hv
        rw [invT_g hv]
        have := h2 (l.idxOf v) (hl.idx_lt hv)
        rwa [hl.g_idx hv] at this
      subst this
      exact k2 q _ (Ex.comp (M := fun b => b = q) e13 f4 fun b hb => by rw [hb]; exact n03) n03 h3
/-- rising, not strictly -/
def Up0 (l : List Nat) : Prop := l.Pairwise (· ≤ ·)
theorem up_drop {l : List Nat} (h : Up0 l) {i : Nat} (hi : i < l.length) : ∀ y ∈ l.drop i, gT l i ≤ y := by
  intro y hy
  rw [List.drop_eq_getElem_cons hi] at hy
  rw [gT_at hi]
  rcases List.mem_cons.mp hy with q | q
  · rw [q]; exact Nat.le_refl _
  · have h2 : (l.drop i).Pairwise (· ≤ ·) := List.Pairwise.sublist (List.drop_sublist i l) h
    rw [List.drop_eq_getElem_cons hi] at h2
    exact (List.pairwise_cons.mp h2).1 y q
theorem drop_mem {l : List Nat} {i y : Nat} (h : y ∈ l.drop (i + 1)) : y ∈ l.drop i := by
  by_cases hi : i < l.length
  · rw [List.drop_eq_getElem_cons hi]; exact List.mem_cons_of_mem _ h
  · rw [List.drop_eq_nil_of_le (by omega)] at h; cases h
theorem up_app1 {c : List Nat} {x : Nat} (h : Up0 c) (k : ∀ y ∈ c, y ≤ x) : Up0 (c ++ [x]) := by
  unfold Up0
  rw [List.pairwise_append]
  exact ⟨h, List.pairwise_singleton _ _, fun a ha b hb => by rw [List.mem_singleton.mp hb]; exact k a ha⟩
/-- what is found so far -/
def MixG (a b : List Nat) (i t : Nat) (c : List Nat) : Prop := t ≤ b.length ∧ c.Perm (a.take i ++ b.take t) ∧ (Up0 a → Up0 b → Up0 c ∧ ∀ x ∈ c, (∀ y ∈ a.drop i, x ≤ y) ∧ ∀ y ∈ b.drop t, x ≤ y)
theorem MixG.right {a b c : List Nat} {i t : Nat} (h : MixG a b i t c) (hi : i < a.length) (ht : t < b.length) (hlt : gT b t < gT a i) : MixG a b i (t + 1) (c ++ [gT b t]) := by
  obtain ⟨h1, h2, h3⟩ := h
  refine ⟨ht, ?_, fun ua ub => ?_⟩
  · rw [List.take_add_one, gT_some ht, ← List.append_assoc]
    exact h2.append_right _
  · obtain ⟨h4, h5⟩ := h3 ua ub
    refine ⟨up_app1 h4 fun y hy => (h5 y hy).2 _ (by rw [List.drop_eq_getElem_cons ht, gT_at ht]; exact List.mem_cons_self), fun x hx => ?_⟩
    rcases List.mem_append.mp hx with q | q
    · exact ⟨(h5 x q).1, fun y hy => (h5 x q).2 y (drop_mem hy)⟩
    · rw [List.mem_singleton.mp q]
      refine ⟨fun y hy => ?_, fun y hy => up_drop ub ht y (drop_mem hy)⟩
      have := up_drop ua hi y hy
      omega
theorem MixG.left {a b c : List Nat} {i t : Nat} (h : MixG a b i t c) (hi : i < a.length) (ht : t < b.length → gT a i ≤ gT b t) : MixG a b (i + 1) t (c ++ [gT a i]) := by
  obtain ⟨h1, h2, h3⟩ := h
  refine ⟨h1, ?_, fun ua ub => ?_⟩
  · rw [List.take_add_one, gT_some hi]
    show (c ++ [gT a i]).Perm (a.take i ++ [gT a i] ++ b.take t)
    refine (h2.append_right _).trans ?_
    rw [List.append_assoc, List.append_assoc]
    exact (List.perm_append_comm).append_left _
  · obtain ⟨h4, h5⟩ := h3 ua ub
    refine ⟨up_app1 h4 fun y hy => (h5 y hy).1 _ (by rw [List.drop_eq_getElem_cons hi, gT_at hi]; exact List.mem_cons_self), fun x hx => ?_⟩
    rcases List.mem_append.mp hx with q | q
    · exact ⟨fun y hy => (h5 x q).1 y (drop_mem hy), (h5 x q).2⟩
    · rw [List.mem_singleton.mp q]
      refine ⟨fun y hy => up_drop ua hi y (drop_mem hy), fun y hy => ?_⟩
      by_cases q2 : t < b.length
      · have := up_drop ub q2 y hy
        have := ht q2
        omega
      · rw [List.drop_eq_nil_of_le (by omega)] at hy
        cases hy
theorem MixG.done {a b c : List Nat} {t : Nat} (h : MixG a b a.length t c) : (c ++ b.drop t).Perm (a ++ b) ∧ (Up0 a → Up0 b → Up0 (c ++ b.drop t)) := by
  obtain ⟨h1, h2, h3⟩ := h
  rw [List.take_length] at h2
  refine ⟨?_, fun ua ub => ?_⟩
  · have := h2.append_right (b.drop t)
    rwa [List.append_assoc, List.take_append_drop] at this
  · obtain ⟨h4, h5⟩ := h3 ua ub
    unfold Up0
    rw [List.pairwise_append]
    exact ⟨h4, List.Pairwise.sublist (List.drop_sublist t b) ub, fun x hx y hy => (h5 x hx).2 y hy⟩
theorem MixG.len {a b c : List Nat} {i t : Nat} (h : MixG a b i t c) : c.length ≤ a.length + b.length := by
  have := h.2.1.length_eq
  rw [List.length_append, List.length_take, List.length_take] at this
  omega
def sp_mixed : Sp := fun vs H Q _ => ∃ (p q : Addr) (a b : List Nat), vs = [.ref p, .ref q] ∧ H p = some (.lst (a.map nV)) ∧ H q = some (.lst (b.map nV)) ∧ a.length ≤ 1000 ∧ b.length ≤ 1000 ∧ ∀ (c : List Nat) r H', Ex H H' → H r = none → H' r = some (.lst (c.map nV)) → c.Perm (a ++ b) → (Up0 a → Up0 b → Up0 c) → Q (.ref r) H'
theorem ok_mixed (T : Tx K mg ad fd tk base tc) : FnOk P w K mg base CX0 1 (ad 14) (fd 14) ["one", "other"] sp_mixed := by
  refine T.d_mixed.F.ok sc_mixed (fun vs H Q E h => ?_) (fun cdv A outer s H vs Q E hr h => ?_)
  · obtain ⟨p, q, a, b, rfl, _⟩ := h
    rfl
  · obtain ⟨p, q, a, b, rfl, hp, hq, hla, hlb, k⟩ := h
    refine ⟨_, (pss_cons (ps_set (i := 2) sc_mixed.nd rfl (Or.inl rfl) (pe_lst pa_nil))
      (pss_cons (ps_set (i := 3) sc_mixed.nd rfl (Or.inl rfl) pe_int)
      (pss_cons (ps_for PassesOwn.never rfl (pi_list (pv 0)) (pg_name (i := 4) sc_mixed.nd rfl (Or.inl rfl)) (pss_cons (ps_while PassesOwn.never (PW.pt (pw_and (pt_cmpR o_lt (pv 3) (pe_callB (c_len (K := K)) (by rfl) T.b_len (by decide +kernel) (pa_cons (pv 1) pa_nil)) (nomark _)) (pw_and1 (pt_cmpR o_lt (pe_ix (i_ix (K := K)) (pv 1) (pv 3) (fun _ _ => rfl)) (pv 4) (nomark _))))) (pss_cons (ps_expr (pe_bm PySem.F.plainAttrs_list PySem.F.slot_list_append PySem.F.type_list_append mt_append (pv 2) (pa_cons (pe_ix (i_ix (K := K)) (pv 1) (pv 3) (fun _ _ => rfl)) pa_nil)))
      (pss_one (ps_aug (i := 3) sc_mixed.nd rfl (Or.inl rfl) pe_int ip_add))))
      (pss_one (ps_expr (pe_bm PySem.F.plainAttrs_list PySem.F.slot_list_append PySem.F.type_list_append mt_append (pv 2) (pa_cons (pv 4) pa_nil))))))
      (pss_one (ps_ret (pe_op o_add (pv 2) (pe_slice (s_sl (K := K)) (pv 1) (po_some (pv 3)) po_none))))))), ?_⟩
    walk_at "go"
    rename_i F H1 n1 e1 v1
    have hp1 := e1.get hp
    have hq1 := e1.get hq
    have hFp : p ≠ F := fun z => by rw [← z, hp] at n1; cases n1
    have hFq : q ≠ F := fun z => by rw [← z, hq] at n1; cases n1
    have ex : ∀ {H'}, FrP F H1 H' → Ex H H' := fun f => Ex.comp (M := fun x => x = F) e1 f fun x hx => by rw [hx]; exact n1
    refine for_runs (runs_list K p _) (fun i σ H' => (∃ (c : List Nat) (t : Nat), FrP F H1 H' ∧ H' F = some (.lst (c.map nV)) ∧ MixG a b i t c ∧ ∃ y, σ = [some (.ref p), some (.ref q), some (.ref F), some (.int (t : Nat)), y])) ⟨[], 0, Fr.refl _, v1, ⟨Nat.zero_le _, by simp, fun _ _ => ⟨List.Pairwise.nil, fun x hx => (List.not_mem_nil hx).elim⟩⟩, _, rfl⟩ (fun i σ H' _ h => by obtain ⟨_, _, f, _⟩ := h; exact lst_of (f.get hFp hp1)) ?_ ?_
    · rintro i x σ H0 H3 hi ⟨c, t, f3, v3, g3, y, rfl⟩ ⟨rfl, hx⟩
      obtain ⟨hia, rfl⟩ := nV_at hx
      unfold nV
      walk_at "go"
      refine while_inv (fun m σ H' => ∃ (c : List Nat) (t : Nat), m = b.length - t ∧ FrP F H1 H' ∧ H' F = some (.lst (c.map nV)) ∧ MixG a b i t c ∧ σ = [some (.ref p), some (.ref q), some (.ref F), some (.int (t : Nat)), some (.int (gT a i : Nat))]) ⟨_, c, t, rfl, f3, v3, g3, rfl⟩ ?_
      rintro m σ H4 ⟨c, t, rfl, f4, v4, g4, rfl⟩
      have hq4 := f4.get hFq hq1
      have hcl := g4.len
      walk_at "go"
      rw [List.length_map]
      have fin : (t < b.length → gT a i ≤ gT b t) → FrP F H1 (upd H4 F (.lst (c.map nV ++ [V.int (gT a i : Nat)]))) ∧ upd H4 F (.lst (c.map nV ++ [V.int (gT a i : Nat)])) F = some (.lst ((c ++ [gT a i]).map nV)) ∧ MixG a b (i + 1) t (c ++ [gT a i]) := fun h => ⟨f4.trans FrP.at, by rw [upd_same, List.map_append]; rfl, g4.left hia h⟩
      refine st_br2 (fun c1 => ?_) (fun c1 => ?_)
      rotate_left
      · obtain ⟨z1, z2, z3⟩ := fin fun h => by omega
        refine wh_F rfl ?_
        walk_at "go"
        refine st_app v4 (by rw [List.length_map]; omega) ?_
        exact ⟨_, t, z1, z2, z3, _, rfl⟩
      have htb : t < b.length := by omega
      walk_at "go"
      refine st_ixL hq4 (at_nV htb) ?_
      unfold nV
      walk_at "go"
      by_cases q1 : gT b t < gT a i
      rotate_left
      · obtain ⟨z1, z2, z3⟩ := fin fun h => by omega
        rw [decide_eq_false (by omega)]
        refine wh_F rfl ?_
        walk_at "go"
        refine st_app v4 (by rw [List.length_map]; omega) ?_
        exact ⟨_, t, z1, z2, z3, _, rfl⟩
      rw [decide_eq_true (by omega)]
      refine wh_T rfl ?_
      have v4' : H4 F = some (.lst (c.map nV)) := v4
      have hq4' : H4 q = some (.lst (b.map nV)) := hq4
      walk_at "go"
      refine st_ixL hq4' (at_nV htb) ?_
      walk_at "go"
      refine st_app v4' (by rw [List.length_map]; omega) ?_
      walk_at "go"
      refine ⟨b.length - (t + 1), by omega, c ++ [gT b t], t + 1, rfl, f4.trans FrP.at, ?_, g4.right hia htb q1, ?_⟩
      · rw [upd_same, List.map_append]; rfl
      · rw [show ((t + 1 : Nat) : Int) = ((t : Nat) : Int) + 1 by omega]
        rfl
    · rintro σ H3 ⟨c, t, f3, v3, g3, y, rfl⟩
      rw [List.length_map] at g3
      have hq3 := f3.get hFq hq1
      have hcl := g3.len
      obtain ⟨g4, g5⟩ := g3.done
      have e03 := ex f3
      walk_at "go"
      rename_i D4 H4 n4 e4 v4
      rw [cutV_from, ← List.map_drop] at v4
      have v34 := e4.get v3
      refine st_addL v34 v4 (by rw [List.length_map, List.length_map, List.length_drop]; omega) ?_
      intro r H5 n5 e5 v5
      refine k (c ++ b.drop t) r H5 (e03.trans (e4.trans e5)) (Ex.free (e03.trans e4) n5) ?_ g4 g5
      rw [v5, List.map_append]
def rowO (r : List Nat) : HO := .lst (r.map nV)
/-- a table of numbers -/
structure Tbl (H : Hp) (p : Addr) (rs : List Addr) (tb : List (List Nat)) : Prop where
  at_ : H p = some (.lst (rs.map V.ref))
  rows : ObjsAt H rs (tb.map rowO)
theorem Tbl.ex {H H' : Hp} {p : Addr} {rs : List Addr} {tb : List (List Nat)} (T : Tbl H p rs tb) (e : Ex H H') : Tbl H' p rs tb := ⟨e.get T.at_, T.rows.ex e⟩
theorem Tbl.len {H : Hp} {p : Addr} {rs : List Addr} {tb : List (List Nat)} (T : Tbl H p rs tb) : rs.length = tb.length := by rw [T.rows.len, List.length_map]
theorem Tbl.row {H : Hp} {p : Addr} {rs : List Addr} {tb : List (List Nat)} (T : Tbl H p rs tb) {i : Nat} (h : i < tb.length) : ∃ r, rs[i]? = some r ∧ H r = some (.lst ((tb[i]).map nV)) := by
  have hl := T.len
  refine ⟨rs[i]'(by omega), List.getElem?_eq_getElem _, T.rows.at i _ _ (List.getElem?_eq_getElem _) ?_⟩
  rw [List.getElem?_map, List.getElem?_eq_getElem h]
  rfl
def encR (r : List Nat) : PyData := .list (r.map encN)
theorem rows_rn {H : Hp} : ∀ {rs : List Addr} {tb : List (List Nat)}, ObjsAt H rs (tb.map rowO) → RnA H (rs.map V.ref) (tb.map encR)
  | [], [], _ => .nil
  | [], _ :: _, h => by cases h
  | _ :: _, [], h => by cases h
  | r :: rs, t :: tb, h => by
    cases h with
    | cons h1 h2 => exact .cons (.lst h1 (rnA_map fun _ _ => .int _)) (rows_rn h2)
theorem Tbl.rn {H : Hp} {p : Addr} {rs : List Addr} {tb : List (List Nat)} (T : Tbl H p rs tb) : Rn H (.ref p) (.list (tb.map encR)) := .lst T.at_ (rows_rn T.rows)
theorem tbl_nd (tb : List (List Nat)) : (PyData.list (tb.map encR)).hasDict = false := by
  simp only [PyData.hasDict]
  refine hasDictA_of fun d hd => ?_
  obtain ⟨r, _, rfl⟩ := List.mem_map.mp hd
  unfold encR
  simp only [PyData.hasDict]
  refine hasDictA_of fun d hd => ?_
  obtain ⟨_, _, rfl⟩ := List.mem_map.mp hd
  rfl
theorem Tbl.rp {H : Hp} {p : Addr} {rs : List Addr} {tb : List (List Nat)} (T : Tbl H p rs tb) : Rp H (.ref p) (.list (tb.map encR)) := T.rn.rp (tbl_nd tb)
theorem up_le {b : List Nat} (h : Up0 b) {i j : Nat} (hij : i ≤ j) (hj : j < b.length) : gT b i ≤ gT b j := by
  by_cases q : i = j
  · rw [q]; exact Nat.le_refl _
  · rw [gT_at (by omega), gT_at hj]
    exact List.pairwise_iff_getElem.mp h i j (by omega) hj (by omega)
theorem count_cut {b : List Nat} {e m : Nat} (hm : m ≤ b.length) (h1 : ∀ i, i < m → gT b i < e) (h2 : ∀ i, m ≤ i → i < b.length → e ≤ gT b i) : b.countP (· < e) = m := by
  have h3 : (b.take m).countP (· < e) = (b.take m).length := List.countP_eq_length.mpr fun x hx => by
    obtain ⟨i, hi, rfl⟩ := List.getElem_of_mem hx
    rw [List.length_take] at hi
    rw [List.getElem_take, ← gT_at (by omega)]
    simpa using h1 i (by omega)
  have h4 : (b.drop m).countP (· < e) = 0 := List.countP_eq_zero.mpr fun x hx => by
    obtain ⟨i, hi, rfl⟩ := List.getElem_of_mem hx
    rw [List.length_drop] at hi
    rw [List.getElem_drop, ← gT_at (by omega)]
    have := h2 (m + i) (by omega) (by omega)
    simp
    omega
  rw [← List.take_append_drop m b, List.countP_append, h3, h4, List.length_take]
  omega
/-- how many of all blocks from i on fulfil p -/
def restP (p : Nat → Bool) (bs : List (List Nat)) (i : Nat) : Nat := ((bs.drop i).map (fun b => b.countP p)).sum
theorem restP_end {p : Nat → Bool} {bs : List (List Nat)} {i : Nat} (h : bs.length ≤ i) : restP p bs i = 0 := by
  unfold restP
  rw [List.drop_eq_nil_of_le h]
  rfl
theorem restP_at {p : Nat → Bool} {bs : List (List Nat)} {i : Nat} (h : i < bs.length) : restP p bs i = (bs[i]).countP p + restP p bs (i + 1) := by
  unfold restP
  rw [List.drop_eq_getElem_cons h, List.map_cons, List.sum_cons]
structure NextF (bs cs : List (List Nat)) : Prop where
  len : cs.length = (bs.length + 1) / 2
  two : ∀ i c, cs[i]? = some c → ∀ (h : 2 * i < bs.length), (∀ (h2 : 2 * i + 1 < bs.length), c.Perm (bs[2 * i] ++ bs[2 * i + 1]) ∧ (Up0 bs[2 * i] → Up0 bs[2 * i + 1] → Up0 c)) ∧ (¬ 2 * i + 1 < bs.length → c = bs[2 * i])
theorem NextF.rest {bs cs : List (List Nat)} (h : NextF bs cs) (p : Nat → Bool) : ∀ (d i : Nat), d = cs.length - i → restP p cs i = restP p bs (2 * i)
  | 0, i, hd => by
    have := h.len
    rw [restP_end (by omega), restP_end (by omega)]
  | d + 1, i, hd => by
    have hl := h.len
    have hi : i < cs.length := by omega
    have h0 : 2 * i < bs.length := by omega
    obtain ⟨h1, h2⟩ := h.two i cs[i] (List.getElem?_eq_getElem hi) h0
    rw [restP_at hi, h.rest p d (i + 1) (by omega), restP_at h0]
    by_cases q : 2 * i + 1 < bs.length
    · obtain ⟨h3, _⟩ := h1 q
      rw [restP_at q, h3.countP_eq, List.countP_append, show 2 * (i + 1) = 2 * i + 1 + 1 by omega]
      omega
    · rw [h2 q, restP_end (i := 2 * i + 1) (by omega), restP_end (by omega)]
theorem NextF.up {bs cs : List (List Nat)} (h : NextF bs cs) (hu : ∀ b ∈ bs, Up0 b) : ∀ c ∈ cs, Up0 c := by
  intro c hc
  obtain ⟨i, hi⟩ := List.getElem?_of_mem hc
  have hl := h.len
  have hic := (List.getElem?_eq_some_iff.mp hi).1
  have h0 : 2 * i < bs.length := by omega
  obtain ⟨h1, h2⟩ := h.two i c hi h0
  by_cases q : 2 * i + 1 < bs.length
  · exact (h1 q).2 (hu _ (List.getElem_mem _)) (hu _ (List.getElem_mem _))
  · rw [h2 q]; exact hu _ (List.getElem_mem _)
theorem le_sum_mem : ∀ {l : List Nat} {x : Nat}, x ∈ l → x ≤ l.sum
  | a :: l, x, h => by
    rw [List.sum_cons]
    rcases List.mem_cons.mp h with q | q
    · omega
    · have := le_sum_mem q; omega
theorem block_le {bs : List (List Nat)} {b : List Nat} (h : b ∈ bs) : b.length ≤ restP (fun _ => true) bs 0 := by
  unfold restP
  rw [List.drop_zero]
  have h1 : b.countP (fun _ => true) = b.length := by simp
  rw [← h1]
  exact le_sum_mem (List.mem_map.mpr ⟨b, h, rfl⟩)
def ones (l : List Nat) : List (List Nat) := l.map fun x => [x]
theorem rest_ones (p : Nat → Bool) (l : List Nat) : ∀ (d i : Nat), d = l.length - i → restP p (ones l) i = (l.drop i).countP p
  | 0, i, hd => by
    rw [restP_end (by unfold ones; rw [List.length_map]; omega), List.drop_eq_nil_of_le (by omega)]
    rfl
  | d + 1, i, hd => by
    have hi : i < l.length := by omega
    have ho : i < (ones l).length := by unfold ones; rw [List.length_map]; exact hi
    rw [restP_at ho, rest_ones p l d (i + 1) (by omega), List.drop_eq_getElem_cons hi]
    have e : (ones l)[i]'ho = [l[i]] := by simp [ones]
    rw [e, List.countP_cons, List.countP_cons, List.countP_nil]
    omega
/-- floors, the last one so far on top -/
structure FlO (l : List Nat) (fs : List (List (List Nat))) : Prop where
  ne : 0 < fs.length
  fst : fs[0]? = some (ones l)
  nxt : ∀ j bs cs, fs[j]? = some bs → fs[j + 1]? = some cs → 2 ≤ bs.length ∧ NextF bs cs
theorem FlO.all {l : List Nat} {fs : List (List (List Nat))} (h : FlO l fs) : ∀ (j : Nat) bs, fs[j]? = some bs → (∀ b ∈ bs, Up0 b) ∧ restP (fun _ => true) bs 0 = l.length
  | 0, bs, hb => by
    rw [h.fst] at hb
    cases hb
    refine ⟨fun b hb => ?_, ?_⟩
    · obtain ⟨x, _, rfl⟩ := List.mem_map.mp hb
      exact List.pairwise_singleton _ _
    · rw [rest_ones _ l _ 0 rfl, List.drop_zero]
      simp
  | j + 1, cs, hc => by
    have hj : j < fs.length := by have := (List.getElem?_eq_some_iff.mp hc).1; omega
    obtain ⟨h1, h2⟩ := h.all j _ (List.getElem?_eq_getElem hj)
    obtain ⟨_, n⟩ := h.nxt j _ cs (List.getElem?_eq_getElem hj) hc
    exact ⟨n.up h1, by rw [n.rest _ _ 0 rfl]; exact h2⟩
theorem FlO.blk {l : List Nat} {fs : List (List (List Nat))} (h : FlO l fs) {j : Nat} {bs : List (List Nat)} (hb : fs[j]? = some bs) {b : List Nat} (hm : b ∈ bs) : Up0 b ∧ b.length ≤ l.length := by
  obtain ⟨h1, h2⟩ := h.all j bs hb
  have := block_le hm
  exact ⟨h1 b hm, by omega⟩
theorem FlO.len {l : List Nat} {fs : List (List (List Nat))} (h : FlO l fs) : ∀ (j : Nat) bs, fs[j]? = some bs → bs.length + j ≤ l.length
  | 0, bs, hb => by
    rw [h.fst] at hb
    cases hb
    unfold ones
    rw [List.length_map]
    omega
  | j + 1, cs, hc => by
    have hj : j < fs.length := by have := (List.getElem?_eq_some_iff.mp hc).1; omega
    have h1 := h.len j _ (List.getElem?_eq_getElem hj)
    obtain ⟨h2, n⟩ := h.nxt j _ cs (List.getElem?_eq_getElem hj) hc
    have := n.len
    omega
/-- the floors as they stand -/
structure FlG (H : Hp) (qs : List Addr) (fs : List (List (List Nat))) : Prop where
  len : qs.length = fs.length
  tb : ∀ (j : Nat) q, qs[j]? = some q → ∃ rs bs, fs[j]? = some bs ∧ Tbl H q rs bs
theorem FlG.ex {H H' : Hp} {qs : List Addr} {fs : List (List (List Nat))} (h : FlG H qs fs) (e : Ex H H') : FlG H' qs fs := ⟨h.len, fun j q hq => by obtain ⟨rs, bs, h1, h2⟩ := h.tb j q hq; exact ⟨rs, bs, h1, h2.ex e⟩⟩
theorem ObjsAt.ex' {H : Hp} {F : Addr} : ∀ {ts : List Addr} {os : List HO}, (∀ x ∈ ts, x ≠ F) → ObjsAt H ts os → ObjsAt (hid F H) ts os
  | _, _, _, .nil => .nil
  | _, _, hm, .cons h r => .cons (hid_get h (hm _ List.mem_cons_self)) (ObjsAt.ex' (fun a ha => hm a (List.mem_cons_of_mem _ ha)) r)
def sp_floors_of : Sp := fun vs H Q _ => ∃ (a : Addr) (l : List Nat), vs = [.ref a] ∧ seqAt H a = some (l.map nV) ∧ l.length ≤ 96 ∧ ∀ fa qs fs H', Ex H H' → H fa = none → H' fa = some (.lst (qs.map V.ref)) → FlG (newO H H') qs fs → FlO l fs → (∀ bs, fs[fs.length - 1]? = some bs → bs.length ≤ 1) → Q (.ref fa) H'
theorem ok_floors_of (T : Tx K mg ad fd tk base tc) : FnOk P w K mg base CX0 2 (ad 15) (fd 15) ["ends"] sp_floors_of := by
  refine T.d_floors_of.F.ok sc_floors_of (fun vs H Q E h => ?_) (fun cdv A outer s H vs Q E hr h => ?_)
  · obtain ⟨a, l, rfl, _⟩ := h
    rfl
  · obtain ⟨a, l, rfl, ha, hl, k⟩ := h
    refine ⟨_, (pss_cons (ps_set (i := 1) sc_floors_of.nd rfl (Or.inl rfl) (pe_lst (pa_cons (pe_lc (own := [("end", 4)]) (g := gName 4) rfl sc_floors_of.nd (pi_seq (pv 0)) (blkOk_by (own := [("end", 4)]) (N := N_floors_of) (sc := defScope s_floors_of) (by decide +kernel)) (fun _ _ _ _ _ => pg_name (i := 4) sc_floors_of.nd rfl (Or.inl rfl)) (fun _ _ _ _ _ => pts_nil) (fun _ _ _ _ _ => (pe_lst (pa_cons (pv 4) pa_nil)))) pa_nil)))
      (pss_cons (ps_while PassesOwn.never (pt_cmpR o_gt (pe_callB (c_len (K := K)) (by rfl) T.b_len (by decide +kernel) (pa_cons (pe_ix (i_ix (K := K)) (pv 1) (pe_un un_neg pe_int) (fun _ _ => rfl)) pa_nil)) pe_int (nomark _)) (pss_cons (ps_set (i := 2) sc_floors_of.nd rfl (Or.inl rfl) (pe_ix (i_ix (K := K)) (pv 1) (pe_un un_neg pe_int) (fun _ _ => rfl)))
      (pss_cons (ps_setLc (i := 3) (own := [("left", 5), ("right", 6)]) (g := gTup K 2 (gCons (gName 5) (gCons (gName 6) gNil))) rfl sc_floors_of.nd rfl rfl (sw_true rfl rfl rfl (by decide +kernel)) (pi_zip rfl T.b_zip (pa_cons (pe_slice3 (pv 2) po_none po_none pe_int (K := K)) (pa_cons (pe_slice3 (pv 2) (po_some pe_int) po_none pe_int (K := K)) pa_nil))) (blkOk_by (own := [("left", 5), ("right", 6)]) (N := N_floors_of) (sc := defScope s_floors_of) (by decide +kernel)) (fun _ _ _ _ _ => (pg_tup rfl (pgs_cons (pg_name (i := 5) sc_floors_of.nd rfl (Or.inl rfl)) (pgs_cons (pg_name (i := 6) sc_floors_of.nd rfl (Or.inl rfl)) pgs_nil)))) (fun _ _ _ _ _ => pts_nil) (fun _ _ _ _ _ => (pe_call (ok_mixed T) (hr.mono (by decide)) rfl T.d_mixed.g T.d_mixed.F.kp T.d_mixed.b .nil pass0 (pa_cons (pv 5) (pa_cons (pv 6) pa_nil)))))
      (pss_cut (ps_if (pt_cmpR (o_eq hr.units) (pe_op o_mod (pe_callB (c_len (K := K)) (by rfl) T.b_len (by decide +kernel) (pa_cons (pv 2) pa_nil)) pe_int) pe_int (nomark _)) (pss_one (ps_expr (pe_bm PySem.F.plainAttrs_list PySem.F.slot_list_append PySem.F.type_list_append mt_append (pv 3) (pa_cons (pe_callTy (c_list rfl (K := K)) (by rfl) T.b_list (by decide +kernel) (pa_cons (pe_ix (i_ix (K := K)) (pv 2) (pe_un un_neg pe_int) (fun _ _ => rfl)) pa_nil)) pa_nil)))) pss_nil)
      (pss_one (ps_expr (pe_bm PySem.F.plainAttrs_list PySem.F.slot_list_append PySem.F.type_list_append mt_append (pv 1) (pa_cons (pv 3) pa_nil))))))))
      (pss_one (ps_ret (pv 1))))), ?_⟩
    walk_at "go"
    refine st_isSeq ha fun J S hJ hS => ?_
    refine lc_objs0 (rv_of hJ) (fun H' e => hS H' (seqAt_same e ha)) (by omega) (fun x => rowO [x]) ?_ ?_
    · intro x H' hx e B h2
      refine ⟨rfl, ?_⟩
      walk_at "go"
      rename_i q H2 n2 e2 v2
      exact h2 q H2 n2 e2 v2
    intro D H1 ts nD e1 vD oD ndD hDn fD
    walk_at "go"
    rename_i F H2 nF e2 vF
    have e12 := e1.trans e2
    have v12 := e2.get vD
    have nF0 : H F = none := Ex.free e1 nF
    have hDF : D ≠ F := fun z => by rw [← z, vD] at nF; cases nF
    have hid0 : Ex H2 (hid F H2) → True := fun _ => trivial
    have eH1 : Ex H1 (hid F H2) := fun b o _ h => hid_get (e2.get h) (fun z => by rw [z, nF] at h; cases h)
    have oD' : ObjsAt H1 ts ((ones l).map rowO) := by
      have : (ones l).map rowO = l.map fun x => rowO [x] := by rw [ones, List.map_map]; rfl
      rw [this]
      exact oD
    have nD0 : H D = none := nD
    have eN : ∀ {G : Hp} {a : Addr} {o : HO}, G a = some o → H a = none → newO H G a = some o := fun h n => newO_get h n
    have G0 : FlG (newO H (hid F H2)) [D] [ones l] := ⟨rfl, fun j q hq => by
      cases j with
      | zero =>
        have : D = q := by simpa using hq
        subst this
        exact ⟨ts, ones l, rfl, newO_get (eH1.get vD) nD0, objs_in (fun b hb o h => newO_get h (fD b hb)) (oD'.ex eH1)⟩
      | succ j => simp at hq⟩
    have O0 : FlO l [ones l] := ⟨by simp, rfl, fun j bs cs _ h => by simp at h⟩
    refine while_inv (fun m σ H' => ∃ (qs : List Addr) (fs : List (List (List Nat))) (bs : List (List Nat)), H' F = some (.lst (qs.map V.ref)) ∧ Ex H (hid F H') ∧ FlG (newO H (hid F H')) qs fs ∧ FlO l fs ∧ fs[fs.length - 1]? = some bs ∧ m = bs.length ∧ ∃ y2 y3, σ = [some (.ref a), some (.ref F), y2, y3, none, none, none]) ⟨_, [D], [ones l], ones l, vF, e1.trans eH1, G0, O0, rfl, rfl, _, _, rfl⟩ ?_
    rintro m σ H3 ⟨qs, fs, bs, hF, eH, hG, hO, hbs, rfl, y2, y3, rfl⟩
    have hne := hO.ne
    have hql := hG.len
    obtain ⟨q, hq⟩ : ∃ q, qs[fs.length - 1]? = some q := ⟨qs[fs.length - 1]'(by omega), List.getElem?_eq_getElem _⟩
    obtain ⟨rs, bs', hb', hT0⟩ := hG.tb _ q hq
    have hT := hT0.ex (newO_ex H (hid F H3))
    have : bs' = bs := by rw [hb'] at hbs; exact Option.some.inj hbs
    subst this
    have hlst : atI (qs.map V.ref) (-1) = some (.ref q) := at_last (n := fs.length - 1) (by rw [List.length_map]; omega) (by rw [List.getElem?_map, hq]; rfl)
    have hqF : q ≠ F := fun z => by
      have := hT.at_
      rw [z] at this
      unfold hid at this
      rw [if_pos rfl] at this
      cases this
    have hq3 := (hid_ex F H3).get hT.at_
    have hrl := hT.len
    have hlen := hO.len _ _ hbs
    walk_at "go"
    refine st_ixL hF hlst ?_
    walk_at "go"
    rw [List.length_map, hrl]
    by_cases c1 : 1 < bs'.length
    rotate_left
    · rw [decide_eq_false (by omega)]
      refine wh_F rfl ?_
      walk_at "go"
      exact k F qs fs H3 (eH.trans (hid_ex F H3)) nF0 hF (hG.ex (newO_mono (hid_ex F H3))) hO fun bs2 h => by rw [hbs] at h; cases h; omega
    rw [decide_eq_true (by omega)]
    refine wh_T rfl ?_
    walk_at "go"
    refine st_ixL hF hlst ?_
    walk_at "go"
    refine st_evL (lstAt_sq (lst_of hq3)) ?_
    intro ev H4 n4 e4 v4
    walk_at "go"
    refine st_odL (lstAt_sq (lst_of (e4.get hq3))) ?_
    intro od H5 n5 e5 v5
    have v45 := e5.get v4
    walk_at "go"
    have hT5 := ((hT.ex (hid_ex F H3)).ex e4).ex e5
    have len1 : (evL (rs.map V.ref)).length = (bs'.length + 1) / 2 := by rw [evL_len, List.length_map, hrl]
    have len2 : (odL (rs.map V.ref)).length = bs'.length / 2 := by rw [odL_len, List.length_map, hrl]
    refine lc_mk (runs_zip K ev od _ _) (fun i x H H' h => by obtain ⟨_, _, _, _, _, h, _⟩ := h; exact h) (fun H' e => ⟨lst_of (e.get v45), lst_of (e.get v5)⟩) (by omega) (fun i o => ∃ c, o = rowO c ∧ ∀ (h2 : 2 * i + 1 < bs'.length), c.Perm (bs'[2 * i] ++ bs'[2 * i + 1]) ∧ (Up0 bs'[2 * i] → Up0 bs'[2 * i + 1] → Up0 c)) ?_ ?_ gTup_mono
    · rintro i x H6 H7 hi e6 ⟨T, v, u, rfl, nT, eT, vT, hv, hu⟩ B hB
      rw [len1, len2] at hi
      have hi2 : 2 * i + 1 < bs'.length := by omega
      obtain ⟨r1, hr1, hv1⟩ := (hT5.ex (e6.trans eT)).row (i := 2 * i) (by omega)
      obtain ⟨r2, hr2, hv2⟩ := (hT5.ex (e6.trans eT)).row (i := 2 * i + 1) hi2
      rw [evL_get, List.getElem?_map, hr1] at hv
      rw [odL_get, List.getElem?_map, hr2] at hu
      cases hv
      cases hu
      have q1 := (hO.blk hbs (List.getElem_mem (l := bs') (n := 2 * i) (by omega))).2
      have q2 := (hO.blk hbs (List.getElem_mem (l := bs') (n := 2 * i + 1) hi2)).2
      walk_at "go"
      refine ⟨rfl, ?_⟩
      walk_at "go"
      refine ⟨r1, r2, _, _, rfl, hv1, hv2, by omega, by omega, fun c r H8 e8 n8 v8 p8 u8 => ?_⟩
      exact hB r H8 _ n8 e8 v8 ⟨c, rfl, fun _ => ⟨p8, u8⟩⟩
    intro A H6 as os nA e6 vA oA hol hor hAn fA
    obtain ⟨cs, rfl, hcs⟩ := objs_choose hor
    rw [List.length_map, len1, len2] at hol
    have e36 : Ex H3 H6 := e4.trans (e5.trans e6)
    have nA3 : H3 A = none := Ex.free (e4.trans e5) nA
    have hFA : A ≠ F := fun z => by rw [z, hF] at nA3; cases nA3
    have e03 : Ex H H3 := eH.trans (hid_ex F H3)
    have nA0 : H A = none := Ex.free e03 nA3
    have asF : ∀ x ∈ as, x ≠ F ∧ H x = none := fun x hx => by
      have h1 := Ex.free (e4.trans e5) (fA x hx)
      refine ⟨fun z => ?_, Ex.free e03 h1⟩
      rw [z, hF] at h1
      cases h1
    have hal : as.length = cs.length := by rw [oA.len, List.length_map]
    walk_at "go"
    refine ⟨fun σ' H' => ∃ (as' : List Addr) (ds : List (List Nat)), Ex H3 H' ∧ H' A = some (.lst (as'.map V.ref)) ∧ ObjsAt H' as' (ds.map rowO) ∧ A ∉ as' ∧ (∀ x ∈ as', x ≠ F ∧ H x = none) ∧ NextF bs' ds ∧ σ' = [some (.ref a), some (.ref F), some (.ref q), some (.ref A), none, none, none], ?_, ?_⟩
    · have hq6 := e36.get hq3
      have twoI : ∀ i c, cs[i]? = some c → ∀ (h : 2 * i < bs'.length), (∀ (h2 : 2 * i + 1 < bs'.length), c.Perm (bs'[2 * i] ++ bs'[2 * i + 1]) ∧ (Up0 bs'[2 * i] → Up0 bs'[2 * i + 1] → Up0 c)) ∧ (¬ 2 * i + 1 < bs'.length → c = bs'[2 * i]) := fun i c hc h => ⟨fun h2 => hcs i c hc h2, fun h2 => by have := (List.getElem?_eq_some_iff.mp hc).1; omega⟩
      refine st_ifS ?_
      walk_at "go"
      rw [List.length_map, hrl]
      refine st_br2 (fun c2 => ?_) (fun c2 => ?_)
      · have hlast : bs'.length - 1 < bs'.length := by omega
        obtain ⟨r1, hr1, hv1⟩ := (hT5.ex e6).row hlast
        walk_at "go"
        refine st_ixL hq6 (at_last (n := bs'.length - 1) (by rw [List.length_map, hrl]; omega) (v := .ref r1) (by rw [List.getElem?_map, hr1]; rfl)) ?_
        walk_at "go"
        rename_i r2 H7 n7 e7 v7
        have vA7 := e7.get vA
        refine st_app vA7 (by rw [List.length_map]; omega) ?_
        have hrA : r2 ≠ A := fun z => by rw [z, vA] at n7; cases n7
        refine ⟨as ++ [r2], cs ++ [bs'[bs'.length - 1]], (e36.trans e7).mut nA3, by rw [upd_same, List.map_append]; rfl, ?_, ?_, ?_, ⟨?_, ?_⟩, rfl⟩
        · rw [List.map_append]
          refine ObjsAt.app ((oA.ex e7).up hAn) (.one ?_)
          rw [upd_ne hrA]
          exact v7
        · rw [List.mem_append, List.mem_singleton]
          rintro (z | z)
          · exact hAn z
          · exact hrA z.symm
        · intro x hx
          rcases List.mem_append.mp hx with z | z
          · exact asF x z
          · rw [List.mem_singleton.mp z]
            refine ⟨fun z2 => ?_, Ex.free (e03.trans e36) n7⟩
            rw [z2, e36.get hF] at n7
            cases n7
        · rw [List.length_append, List.length_singleton]; omega
        · intro i c hc h
          by_cases hi : i < cs.length
          · rw [List.getElem?_append_left hi] at hc
            exact twoI i c hc h
          · rw [List.getElem?_append_right (by omega)] at hc
            have hi0 : i - cs.length = 0 := by
              have := (List.getElem?_eq_some_iff.mp hc).1
              rw [List.length_singleton] at this
              omega
            rw [hi0] at hc
            cases hc
            have hb : bs'.length - 1 = 2 * i := by omega
            exact ⟨fun h2 => by omega, fun _ => by simp only [hb]⟩
      · walk_at "go"
        exact ⟨as, cs, e36, vA, oA, hAn, asF, ⟨by omega, twoI⟩, rfl⟩
    rintro σ' H7 ⟨as', ds, e37, vA7, oA7, hAn7, asF7, hN, rfl⟩
    have hF7 := e37.get hF
    walk_at "go"
    refine st_app hF7 (by rw [List.length_map]; omega) ?_
    have hh : hid F (upd H7 F (.lst (qs.map V.ref ++ [V.ref A]))) = hid F H7 := by
      funext b
      unfold hid
      by_cases h : b = F
      · rw [if_pos h, if_pos h]
      · rw [if_neg h, if_neg h, upd_ne h]
    have eh : Ex (hid F H3) (hid F H7) := hid_frp (Fr.ex e37)
    have hTA : Tbl (newO H (hid F H7)) A as' ds := ⟨newO_get (hid_get vA7 hFA) nA0, objs_in (fun b hb o h => newO_get h (asF7 b hb).2) (ObjsAt.ex' (fun x hx => (asF7 x hx).1) oA7)⟩
    refine ⟨ds.length, by have := hN.len; omega, qs ++ [A], fs ++ [ds], ds, by rw [upd_same, List.map_append]; rfl, by rw [hh]; exact eH.trans eh, ?_, ⟨?_, ?_, ?_⟩, ?_, rfl, _, _, rfl⟩
    · rw [hh]
      refine ⟨by rw [List.length_append, List.length_append, hql]; rfl, fun j q' hq' => ?_⟩
      by_cases hj : j < qs.length
      · rw [List.getElem?_append_left hj] at hq'
        obtain ⟨rs2, bs2, g1, g2⟩ := hG.tb j q' hq'
        exact ⟨rs2, bs2, by rw [List.getElem?_append_left (by omega)]; exact g1, g2.ex (newO_mono eh)⟩
      · rw [List.getElem?_append_right (by omega)] at hq'
        have hj0 : j - qs.length = 0 := by
          have := (List.getElem?_eq_some_iff.mp hq').1
          rw [List.length_singleton] at this
          omega
        rw [hj0] at hq'
        cases hq'
        exact ⟨as', ds, by rw [List.getElem?_append_right (by omega), show j - fs.length = 0 by omega]; rfl, hTA⟩
    · rw [List.length_append]; omega
    · rw [List.getElem?_append_left hne]; exact hO.fst
    · intro j b1 c1' h1 h2
      by_cases hj : j + 1 < fs.length
      · rw [List.getElem?_append_left (by omega)] at h1
        rw [List.getElem?_append_left hj] at h2
        exact hO.nxt j b1 c1' h1 h2
      · have hj2 : j + 1 = fs.length := by
          have := (List.getElem?_eq_some_iff.mp h2).1
          rw [List.length_append, List.length_singleton] at this
          omega
        rw [List.getElem?_append_left (by omega), show j = fs.length - 1 by omega, hbs] at h1
        rw [List.getElem?_append_right (by omega), show j + 1 - fs.length = 0 by omega] at h2
        cases h1
        cases h2
        exact ⟨by omega, hN⟩
    · rw [List.length_append, List.length_singleton, Nat.add_sub_cancel, List.getElem?_append_right (Nat.le_refl _), Nat.sub_self]
      rfl
def sp_lesser : Sp := fun vs H Q _ => ∃ (p : Addr) (b : List Nat) (e : Nat), vs = [.ref p, .int (e : Nat)] ∧ H p = some (.lst (b.map nV)) ∧ Up0 b ∧ b.length ≤ 1000 ∧ Q (.int (b.countP (· < e) : Nat)) H
theorem ok_lesser (T : Tx K mg ad fd tk base tc) : FnOk P w K mg base CX0 1 (ad 16) (fd 16) ["block", "end"] sp_lesser := by
  refine T.d_lesser.F.ok sc_lesser (fun vs H Q E h => ?_) (fun cdv A outer s H vs Q E hr h => ?_)
  · obtain ⟨p, b, e, rfl, _⟩ := h
    rfl
  · obtain ⟨p, b, e, rfl, hp, hu, hl, k⟩ := h
    refine ⟨_, (pss_cons (ps_set (i := 2) sc_lesser.nd rfl (Or.inl rfl) pe_int)
      (pss_cons (ps_set (i := 3) sc_lesser.nd rfl (Or.inl rfl) (pe_callB (c_len (K := K)) (by rfl) T.b_len (by decide +kernel) (pa_cons (pv 0) pa_nil)))
      (pss_cons (ps_while PassesOwn.never (pt_cmpR o_lt (pv 2) (pv 3) (nomark _)) (pss_cons (ps_set (i := 4) sc_lesser.nd rfl (Or.inl rfl) (pe_op o_div (pe_op o_add (pv 2) (pv 3)) pe_int))
      (pss_one (ps_if (pt_cmpR o_lt (pe_ix (i_ix (K := K)) (pv 0) (pv 4) (fun _ _ => rfl)) (pv 1) (nomark _)) (pss_one (ps_set (i := 2) sc_lesser.nd rfl (Or.inl rfl) (pe_op o_add (pv 4) pe_int))) (pss_one (ps_set (i := 3) sc_lesser.nd rfl (Or.inl rfl) (pv 4)))))))
      (pss_one (ps_ret (pv 2)))))), ?_⟩
    walk_at "go"
    rw [List.length_map]
    refine while_inv (fun m σ H' => H' = H ∧ ∃ (lo hi : Nat), m = hi - lo ∧ lo ≤ hi ∧ hi ≤ b.length ∧ (∀ i, i < lo → gT b i < e) ∧ (∀ i, hi ≤ i → i < b.length → e ≤ gT b i) ∧ ∃ y, σ = [some (.ref p), some (.int (e : Nat)), some (.int (lo : Nat)), some (.int (hi : Nat)), y]) ⟨b.length, rfl, 0, b.length, rfl, Nat.zero_le _, Nat.le_refl _, fun i h => absurd h (Nat.not_lt_zero _), fun i h1 h2 => by omega, _, rfl⟩ ?_
    rintro m σ H1 ⟨rfl, lo, hi, rfl, h1, h2, h3, h4, y, rfl⟩
    walk_at "go"
    by_cases q : lo < hi
    rotate_left
    · rw [decide_eq_false (by omega)]
      refine wh_F rfl ?_
      have : lo = hi := by omega
      subst this
      rw [count_cut h2 h3 h4] at k
      walk_at "go"
      exact k
    rw [decide_eq_true (by omega)]
    refine wh_T rfl ?_
    walk_at "go"
    obtain ⟨a, ha⟩ : ∃ a : Nat, (((lo : Nat) : Int) + (hi : Nat)) / 2 = (a : Nat) := ⟨(lo + hi) / 2, by omega⟩
    rw [ha]
    have ha2 : lo ≤ a ∧ a < hi := by omega
    refine st_ixL hp (at_nV (by omega)) ?_
    unfold nV
    walk_at "go"
    refine st_br2 (fun c => ?_) (fun c => ?_)
    · walk_at "go"
      refine ⟨hi - (a + 1), by omega, rfl, a + 1, hi, rfl, by omega, h2, fun i hi2 => ?_, h4, some (.int (a : Nat)), ?_⟩
      · have := up_le hu (i := i) (j := a) (by omega) (by omega)
        omega
      · rw [show ((a + 1 : Nat) : Int) = ((a : Nat) : Int) + 1 by omega]
        rfl
    · walk_at "go"
      refine ⟨a - lo, by omega, rfl, lo, a, rfl, ha2.1, by omega, h3, fun i h5 h6 => ?_, _, rfl⟩
      have := up_le hu (i := a) (j := i) h5 h6
      omega
def TalAt (K : PySem.W.Frag) (H : Hp) (p : Addr) (l : List Nat) : Prop := ∃ (dx fa : Addr) (qs : List Addr) (fs : List (List (List Nat))), H p = some (.ins (clsA K "Tally") dx [("many", .int (l.length : Nat)), ("floors", .ref fa)]) ∧ H fa = some (.lst (qs.map V.ref)) ∧ FlG H qs fs ∧ FlO l fs ∧ (∀ bs, fs[fs.length - 1]? = some bs → bs.length ≤ 1) ∧ IsT l ∧ l.length ≤ 96
theorem TalAt.ex {K : PySem.W.Frag} {H H' : Hp} {p : Addr} {l : List Nat} (h : TalAt K H p l) (e : Ex H H') : TalAt K H' p l := by
  obtain ⟨dx, fa, qs, fs, h1, h2, h3, h4, h5⟩ := h
  exact ⟨dx, fa, qs, fs, e.get h1, e.get h2, h3.ex e, h4, h5⟩
def AsksAt (K : PySem.W.Frag) (H : Hp) (p : Addr) (l : List Nat) (m : Nat) : Prop := ∃ (dx tp ga sa : Addr), H p = some (.ins (clsA K "Asks") dx [("tall", .int (m : Nat)), ("wide", .int ((l.length - m : Nat) : Nat)), ("tally", .ref tp), ("goals", .ref ga), ("starts", .ref sa)]) ∧ TalAt K H tp l ∧ H ga = some (.lst (l.map nV)) ∧ H sa = some (.lst ((invT l).map nV)) ∧ IsT l ∧ l.length ≤ 96 ∧ m ≤ l.length
theorem AsksAt.ex {K : PySem.W.Frag} {H H' : Hp} {p : Addr} {l : List Nat} {m : Nat} (h : AsksAt K H p l m) (e : Ex H H') : AsksAt K H' p l m := by
  obtain ⟨dx, tp, ga, sa, h1, h2, h3, h4, h5⟩ := h
  exact ⟨dx, tp, ga, sa, e.get h1, h2.ex e, e.get h3, e.get h4, h5⟩
/-- how long a window is -/
def winV (l : List Nat) (m f la b e : Nat) : Int := ((e : Nat) : Int) - (b : Nat) - (cntT l (m - f + b) (m - la + e) : Nat)
structure WinOk (m w f la b e : Nat) : Prop where
  h1 : f ≤ la
  h2 : la ≤ m
  h3 : b ≤ e
  h4 : e ≤ w
  h5 : f = 0 ∨ b = 0
  h6 : la = m ∨ e = w
def sp_need_window (K : PySem.W.Frag) : Sp := fun vs H Q E => ∃ (t : Addr) (m w f la b e : Nat), vs = [.int (m : Nat), .int (w : Nat), .ref t] ∧ H t = some (.tup [.int (f : Nat), .int (la : Nat), .int (b : Nat), .int (e : Nat)]) ∧ WinOk m w f la b e ∧ Q .non H
theorem use_span {K : PySem.W.Frag} {G : Hp} {i j m : Nat} {Q : VK} {E : XK} (h1 : i ≤ j) (h2 : j ≤ m) (kk : Q .non G) : sp_need_span K [.int (i : Nat), .int (j : Nat), .int (m : Nat)] G Q E :=
  ⟨_, _, _, rfl, ⟨_, rfl⟩, ⟨_, rfl⟩, (fun h => by rw [nat_span h1 h2] at h; cases h), fun _ => kk⟩
theorem ok_need_window (T : Tx K mg ad fd tk base tc) : FnOk P w K mg base CX0 4 (ad 17) (fd 17) ["tall", "wide", "spans"] (sp_need_window K) := by
  refine T.d_need_window.F.ok sc_need_window (fun vs H Q E h => ?_) (fun cdv A outer s H vs Q E hr h => ?_)
  · obtain ⟨t, m, w, f, la, b, e, rfl, _⟩ := h
    rfl
  · obtain ⟨t, m, w, f, la, b, e, rfl, ht, hk, k⟩ := h
    refine ⟨_, (pss_cons (ps_asg (pv 2) (pg_tup rfl (pgs_cons (pg_name (i := 3) sc_need_window.nd rfl (Or.inl rfl)) (pgs_cons (pg_name (i := 4) sc_need_window.nd rfl (Or.inl rfl)) (pgs_cons (pg_name (i := 5) sc_need_window.nd rfl (Or.inl rfl)) (pgs_cons (pg_name (i := 6) sc_need_window.nd rfl (Or.inl rfl)) pgs_nil))))))
      (pss_cons (ps_expr (pe_call (ok_need_span T) (hr.mono (by decide)) rfl T.d_need_span.g T.d_need_span.F.kp T.d_need_span.b .nil passL (pa_cons (pv 3) (pa_cons (pv 4) (pa_cons (pv 0) pa_nil)))))
      (pss_cons (ps_expr (pe_call (ok_need_span T) (hr.mono (by decide)) rfl T.d_need_span.g T.d_need_span.F.kp T.d_need_span.b .nil passL (pa_cons (pv 5) (pa_cons (pv 6) (pa_cons (pv 1) pa_nil)))))
      (pss_cons (ps_set (i := 7) sc_need_window.nd rfl (Or.inl rfl) (pe_or (pe_cmpR (o_eq hr.units) (pv 3) pe_int (nomark _)) (pe_one (pe_cmpR (o_eq hr.units) (pv 5) pe_int (nomark _)))))
      (pss_cons (ps_set (i := 8) sc_need_window.nd rfl (Or.inl rfl) (pe_or (pe_cmpR (o_eq hr.units) (pv 4) (pv 0) (nomark _)) (pe_one (pe_cmpR (o_eq hr.units) (pv 6) (pv 1) (nomark _)))))
      (pss_one (ps_if (PW.pt (pw_or (pt_not (pt_tru (pv 7) (by intro _; rfl) (K := K))) (pw_or1 (pt_not (pt_tru (pv 8) (by intro _; rfl) (K := K)))))) (pss_one ps_never) pss_nil))))))), ?_⟩
    obtain ⟨h1, h2, h3, h4, h5, h6⟩ := hk
    walk_at "go"
    refine use_span h1 h2 ?_
    walk_at "go"
    refine use_span h3 h4 ?_
    walk_at "go"
    by_cases q1 : f = 0
    · rw [decide_eq_true (by omega)]
      walk_at "go"
      by_cases q2 : la = m
      · rw [decide_eq_true (by omega)]
        walk_at "go"
        exact k
      · rw [decide_eq_false (by omega)]
        walk_at "go"
        rw [decide_eq_true (by omega)]
        walk_at "go"
        exact k
    · rw [decide_eq_false (by omega)]
      walk_at "go"
      by_cases q2 : la = m
      · rw [decide_eq_true (p := ((la : Nat) : Int) = (m : Nat)) (by omega)]
        walk_at "go"
        rw [decide_eq_true (p := ((b : Nat) : Int) = 0) (by omega)]
        walk_at "go"
        exact k
      · rw [decide_eq_false (p := ((la : Nat) : Int) = (m : Nat)) (by omega)]
        walk_at "go"
        rw [decide_eq_true (p := ((b : Nat) : Int) = 0) (by omega)]
        walk_at "go"
        rw [decide_eq_true (p := ((e : Nat) : Int) = (w : Nat)) (by omega)]
        walk_at "go"
        exact k
def sp_Tally_init (K : PySem.W.Frag) : Sp := fun vs H Q E => ∃ (p dx : Addr) (x : V) (d : PyData), vs = [.ref p, x] ∧ H p = some (.ins (clsA K "Tally") dx []) ∧ Rn H x d ∧ (¬ TurnD d → RaF K E H "NoTurning" [("found", x)]) ∧ (∀ l : List Nat, (d = .list (l.map encN) ∨ d = .tuple (l.map encN)) → IsT l → l.length ≤ 96 → ∀ H', Fr (fun b => b = p) H H' → (∀ G, (∀ b o, (H b = none ∨ b = p) → H' b = some o → G b = some o) → TalAt K G p l) → Q .non H')
theorem use_tally {K : PySem.W.Frag} {G : Hp} {p dx : Addr} {x : V} {d : PyData} {l : List Nat} {Q : VK} {E : XK} (hp : G p = some (.ins (clsA K "Tally") dx [])) (hx : Rn G x d) (hd : d = .list (l.map encN) ∨ d = .tuple (l.map encN)) (hl : IsT l) (hl2 : l.length ≤ 96)
    (kk : ∀ G', Fr (fun b => b = p) G G' → (∀ G2, (∀ b o, (G b = none ∨ b = p) → G' b = some o → G2 b = some o) → TalAt K G2 p l) → Q .non G') : sp_Tally_init K [.ref p, x] G Q E :=
  ⟨p, dx, x, d, rfl, hp, hx, fun h => absurd ⟨l, hd, hl, hl2⟩ h, fun m hm _ _ => by
    have : m = l := by
      rcases hd with e | e <;> rcases hm with q | q <;> rw [e] at q
      · injection q with q; exact (encN_inj q).symm
      · cases q
      · cases q
      · injection q with q; exact (encN_inj q).symm
    subst this
    exact kk⟩
theorem ok_Tally_init (T : Tx K mg ad fd tk base tc) : FnOk P w K mg base (L2.CX P w) 5 (ad 18) (fd 18) ["self", "turning"] (sp_Tally_init K) := by
  refine T.d_Tally_init.F.okX sc_Tally_init (fun vs H Q E h => ?_) (fun cdv A outer s H vs Q E hr h => ?_)
  · obtain ⟨p, dx, x, d, rfl, _⟩ := h
    rfl
  · obtain ⟨p, dx, x, d, rfl, hp, hx, k0, k1⟩ := h
    refine ⟨_, (pss_cons (ps_expr (pe_call (ok_need_turning T) (hr.mono (by decide)) rfl T.d_need_turning.g T.d_need_turning.F.kp T.d_need_turning.b .nil (passes_call (takes_of rfl rfl rfl rfl) (fun _ _ _ _ h => h)) (pa_cons (pv 1) pa_nil)))
      (pss_cons (ps_fldK (K := K) (pv 0) (pe_callB (c_len (K := K)) (by rfl) T.b_len (by decide +kernel) (pa_cons (pv 1) pa_nil)) rfl)
      (pss_one (ps_fldK (K := K) (pv 0) (pe_call (ok_floors_of T) (hr.mono (by decide)) rfl T.d_floors_of.g T.d_floors_of.F.kp T.d_floors_of.b .nil pass0 (pa_cons (pv 1) pa_nil)) rfl)))), ?_⟩
    walk_at "go"
    refine ⟨x, d, rfl, hx, k0, fun hT H1 e1 => ?_⟩
    obtain ⟨l, hd, hl, hl2⟩ := hT
    have k2 := k1 l hd hl hl2
    obtain ⟨a, rfl, hs⟩ := TurnD.seq hx hd
    have hs1 := seqAt_ex e1 hs
    have hp1 := e1.get hp
    clear k0 k1
    have hpa : a ≠ p := fun z => by
      unfold seqAt at hs
      rw [z, hp] at hs
      cases hs
    walk_at "go"
    refine st_lenQ hs1 ?_
    rw [List.length_map]
    walk_at "go"
    rw [putF_nil]
    have v2 : upd H1 p (.ins (clsA K "Tally") dx [("many", .int (l.length : Nat))]) p = some (.ins (clsA K "Tally") dx [("many", .int (l.length : Nat))]) := upd_same
    have f2 : Fr (fun b => b = p) H (upd H1 p (.ins (clsA K "Tally") dx [("many", .int (l.length : Nat))])) := (Fr.ex e1).trans FrP.at
    have hs2 : seqAt (upd H1 p (.ins (clsA K "Tally") dx [("many", .int (l.length : Nat))])) a = some (l.map nV) := by
      unfold seqAt
      rw [upd_ne hpa]
      exact hs1
    generalize upd H1 p (.ins (clsA K "Tally") dx [("many", .int (l.length : Nat))]) = H2 at v2 f2 hs2 ⊢
    walk_at "go"
    refine ⟨a, l, rfl, hs2, hl2, fun fa qs fs H3 e3 n3 v3 g3 o3 z3 => ?_⟩
    have v23 := e3.get v2
    walk_at "go"
    rw [putF_ne (by decide +kernel), putF_nil]
    have nq : fa ≠ p := fun z => by rw [z, v2] at n3; cases n3
    have old : ∀ {c b : Addr}, (H c ≠ none ∨ c = p) → H2 b = none → b ≠ c := fun {c b} h nb z => by
      subst z
      rcases h with h | h
      · by_cases q : b = p
        · rw [q, v2] at nb; cases nb
        · cases hc : H b with
          | none => exact h hc
          | some o => rw [f2.get q hc] at nb; cases nb
      · rw [h, v2] at nb; cases nb
    have vfa : upd H3 p (.ins (clsA K "Tally") dx [("many", .int (l.length : Nat)), ("floors", .ref fa)]) fa = some (.lst (qs.map V.ref)) := by rw [upd_ne nq]; exact v3
    have nfa : H fa = none := by
      cases hc : H fa with
      | none => rfl
      | some o => exact absurd rfl (old (c := fa) (.inl (by rw [hc]; simp)) n3)
    refine k2 _ (f2.trans ((Fr.ex e3).trans FrP.at)) fun G hG => ?_
    refine ⟨dx, fa, qs, fs, hG p _ (.inr rfl) upd_same, hG fa _ (.inl nfa) vfa, g3.ex (newO_fr fun b o nb h => ?_), o3, z3, hl, hl2⟩
    have hbp := old (c := p) (.inr rfl) nb
    refine hG b o (.inl ?_) (by rw [upd_ne hbp]; exact h)
    cases hc : H b with
    | none => rfl
    | some o => exact absurd rfl (old (c := b) (.inl (by rw [hc]; simp)) nb)
def sp_Asks_init (K : PySem.W.Frag) : Sp := fun vs H Q E => ∃ (p dx : Addr) (x : V) (d : PyData) (l : List Nat) (m : Nat), vs = [.ref p, x, .int (m : Nat)] ∧ H p = some (.ins (clsA K "Asks") dx []) ∧ Rn H x d ∧ (d = .list (l.map encN) ∨ d = .tuple (l.map encN)) ∧ (IsT l ∧ l.length ≤ 96) ∧ m ≤ l.length ∧ ∀ H', Fr (fun b => b = p) H H' → (∀ G, (∀ b o, (H b = none ∨ b = p) → H' b = some o → G b = some o) → AsksAt K G p l m) → Q .non H'
theorem ok_Asks_init (T : Tx K mg ad fd tk base tc) : FnOk P w K mg base CX0 7 (ad 19) (fd 19) ["self", "lines", "many"] (sp_Asks_init K) := by
  refine T.d_Asks_init.F.ok sc_Asks_init (fun vs H Q E h => ?_) (fun cdv A outer s H vs Q E hr h => ?_)
  · obtain ⟨p, dx, x, d, l, m, rfl, _⟩ := h
    rfl
  · obtain ⟨p, dx, x, d, l, m, rfl, hp, hx, hd, hl, hm, k⟩ := h
    refine ⟨_, (pss_cons (ps_expr (pe_call (ok_need_turning T) (hr.mono (by decide)) rfl T.d_need_turning.g T.d_need_turning.F.kp T.d_need_turning.b .nil passL (pa_cons (pv 1) pa_nil)))
      (pss_cons (ps_expr (pe_call (ok_need_place T) (hr.mono (by decide)) rfl T.d_need_place.g T.d_need_place.F.kp T.d_need_place.b .nil passL (pa_cons (pv 2) (pa_cons (pe_callB (c_len (K := K)) (by rfl) T.b_len (by decide +kernel) (pa_cons (pv 1) pa_nil)) pa_nil))))
      (pss_cons (ps_fldK (K := K) (pv 0) (pv 2) rfl)
      (pss_cons (ps_fldK (K := K) (pv 0) (pe_op o_sub (pe_callB (c_len (K := K)) (by rfl) T.b_len (by decide +kernel) (pa_cons (pv 1) pa_nil)) (pv 2)) rfl)
      (pss_cons (ps_fldK (K := K) (pv 0) (pe_make T.m_Tally (ok_Tally_init T) (hr.mono (by decide)) rfl T.mg_Tally T.d_Tally_init.b .nil passL (pa_cons (pv 1) pa_nil)) rfl)
      (pss_cons (ps_fldK (K := K) (pv 0) (pe_callTy (c_list rfl (K := K)) (by rfl) T.b_list (by decide +kernel) (pa_cons (pv 1) pa_nil)) rfl)
      (pss_one (ps_fldK (K := K) (pv 0) (pe_call (ok_opposite T) (hr.mono (by decide)) rfl T.d_opposite.g T.d_opposite.F.kp T.d_opposite.b .nil passL (pa_cons (pv 1) pa_nil)) rfl)))))))), ?_⟩
    obtain ⟨hl, hl2⟩ := hl
    have hTD : TurnD d := ⟨l, hd, hl, hl2⟩
    obtain ⟨a, rfl, hs⟩ := TurnD.seq hx hd
    have hpa : a ≠ p := fun z => by
      unfold seqAt at hs
      rw [z, hp] at hs
      cases hs
    walk_at "go"
    refine ⟨_, d, rfl, hx, fun h => absurd hTD h, fun _ H1 e1 => ?_⟩
    have hs1 := seqAt_ex e1 hs
    have hp1 := e1.get hp
    have hx1 := hx.ex e1
    walk_at "go"
    refine st_lenQ hs1 ?_
    rw [List.length_map]
    walk_at "go"
    refine ⟨_, _, rfl, ⟨_, rfl⟩, fun h => nat_no hm h, fun _ => ?_⟩
    walk_at "go"
    rw [putF_nil]
    -- from here on all but p stands; what is new is told by newO
    have hpx : ∀ {G : Hp}, Fr (fun b => b = p) H1 G → seqAt G a = some (l.map nV) := fun f => seqAt_eq hs1 (seqAt_same' f hpa hs1)
    have v2 : upd H1 p (.ins (clsA K "Asks") dx [("tall", .int (m : Nat))]) p = some (.ins (clsA K "Asks") dx [("tall", .int (m : Nat))]) := upd_same
    have f2 : Fr (fun b => b = p) H1 (upd H1 p (.ins (clsA K "Asks") dx [("tall", .int (m : Nat))])) := FrP.at
    generalize upd H1 p (.ins (clsA K "Asks") dx [("tall", .int (m : Nat))]) = H2 at v2 f2 ⊢
    walk_at "go"
    refine st_lenQ (hpx f2) ?_
    rw [List.length_map]
    walk_at "go"
    rw [putF_ne (by decide +kernel), putF_nil, show ((l.length : Nat) : Int) - (m : Nat) = ((l.length - m : Nat) : Int) by omega]
    have v3 : upd H2 p (.ins (clsA K "Asks") dx [("tall", .int (m : Nat)), ("wide", .int ((l.length - m : Nat) : Nat))]) p = some (.ins (clsA K "Asks") dx [("tall", .int (m : Nat)), ("wide", .int ((l.length - m : Nat) : Nat))]) := upd_same
    have f3 : Fr (fun b => b = p) H1 (upd H2 p (.ins (clsA K "Asks") dx [("tall", .int (m : Nat)), ("wide", .int ((l.length - m : Nat) : Nat))])) := f2.trans FrP.at
    generalize upd H2 p (.ins (clsA K "Asks") dx [("tall", .int (m : Nat)), ("wide", .int ((l.length - m : Nat) : Nat))]) = H3 at v3 f3 ⊢
    have hx3 : ∀ {G : Hp}, Fr (fun b => b = p) H1 G → Rn G (.ref a) d := fun {G} f => by
      rcases hd with rfl | rfl
      · obtain ⟨s, xs, e, h1, h2⟩ := hx1.listAt
        cases e
        rw [seq_l h1] at hs1
        rw [Option.some.inj hs1] at h1
        exact .lst (f.get hpa h1) (rnA_map (val := nV) (enc := encN) fun _ _ => .int _)
      · obtain ⟨s, xs, e, h1, h2⟩ := hx1.tupAt
        cases e
        rw [seq_t h1] at hs1
        rw [Option.some.inj hs1] at h1
        exact .tup (f.get hpa h1) (rnA_map (val := nV) (enc := encN) fun _ _ => .int _)
    walk_at "go"
    refine st_makeP fun tp dxt H4 ntp e4 v4 => ?_
    have f4 := f3.trans (Fr.ex e4)
    have v34 := e4.get v3
    have hpt : p ≠ tp := fun z => by rw [← z, v3] at ntp; cases ntp
    refine use_tally v4 (hx3 f4) hd hl hl2 fun H5 f5 tal => ?_
    refine ⟨rfl, ?_⟩
    have e35 : Ex H3 H5 := Ex.comp (M := fun b => b = tp) e4 f5 fun b hb => by rw [hb]; exact ntp
    have v5 := e35.get v3
    have f15 := f3.trans (Fr.ex e35)
    walk_at "go"
    rw [putF_ne (by decide +kernel), putF_ne (by decide +kernel), putF_nil]
    obtain ⟨o6, ho6⟩ : ∃ o6, o6 = HO.ins (clsA K "Asks") dx [("tall", .int (m : Nat)), ("wide", .int ((l.length - m : Nat) : Nat)), ("tally", .ref tp)] := ⟨_, rfl⟩
    rw [← ho6]
    have v6 : upd H5 p o6 p = some o6 := upd_same
    have f56 : Fr (fun b => b = p) H5 (upd H5 p o6) := FrP.at
    generalize upd H5 p o6 = H6 at v6 f56 ⊢
    subst ho6
    have f16 := f15.trans f56
    walk_at "go"
    refine st_listQ (hpx f16) ?_
    intro ga H7 nga e7 v7
    have v67 := e7.get v6
    have hpg : ga ≠ p := fun z => by rw [z, v6] at nga; cases nga
    walk_at "go"
    rw [putF_ne (by decide +kernel), putF_ne (by decide +kernel), putF_ne (by decide +kernel), putF_nil]
    obtain ⟨o8, ho8⟩ : ∃ o8, o8 = HO.ins (clsA K "Asks") dx [("tall", .int (m : Nat)), ("wide", .int ((l.length - m : Nat) : Nat)), ("tally", .ref tp), ("goals", .ref ga)] := ⟨_, rfl⟩
    rw [← ho8]
    have v8 : upd H7 p o8 p = some o8 := upd_same
    have f78 : Fr (fun b => b = p) H7 (upd H7 p o8) := FrP.at
    generalize upd H7 p o8 = H8 at v8 f78 ⊢
    subst ho8
    have f18 := (f16.trans (Fr.ex e7)).trans f78
    walk_at "go"
    refine ⟨_, d, rfl, hx3 f18, fun h => absurd hTD h, fun l' hl' _ _ sa H9 e9 n9 v9 => ?_⟩
    have hll : l' = l := by
      rcases hd with e | e <;> rcases hl' with q | q <;> rw [e] at q
      · injection q with q; exact (encN_inj q).symm
      · cases q
      · cases q
      · injection q with q; exact (encN_inj q).symm
    subst hll
    have v89 := e9.get v8
    have hps : sa ≠ p := fun z => by rw [z, v8] at n9; cases n9
    walk_at "go"
    rw [putF_ne (by decide +kernel), putF_ne (by decide +kernel), putF_ne (by decide +kernel), putF_ne (by decide +kernel), putF_nil]
    have fH1 : Fr (fun b => b = p) H H1 := Fr.ex e1
    refine k _ (((fH1.trans f18).trans (Fr.ex e9)).trans FrP.at) fun G hG => ?_
    -- what was free behind the start was free at the start
    have fr : ∀ {G' : Hp} {b : Addr}, Fr (fun b => b = p) H G' → G' p ≠ none → G' b = none → H b = none := fun {G' b} f hp' hb => by
      by_cases q : b = p
      · exact absurd (by rw [← q]; exact hb) hp'
      · exact f.free q hb
    have last : ∀ {b : Addr} {o : HO}, b ≠ p → H9 b = some o → H b = none → G b = some o := fun {b o} hb h n => hG b o (.inl n) (by rw [upd_ne hb]; exact h)
    have f59 : Fr (fun b => b = p) H5 H9 := ((f56.trans (Fr.ex e7)).trans f78).trans (Fr.ex e9)
    refine ⟨dx, tp, ga, sa, hG p _ (.inr rfl) upd_same, tal G fun b o hb h => ?_, last hpg ((f78.trans (Fr.ex e9)).get hpg v7) (fr (fH1.trans f16) (by rw [v6]; simp) nga), last hps v9 (fr (fH1.trans f18) (by rw [v8]; simp) n9), hl, hl2, hm⟩
    have hbp : b ≠ p := fun z => by
      rcases hb with q | q
      · rw [z, v34] at q; cases q
      · exact hpt (z.symm.trans q)
    refine last hbp (f59.get hbp h) ?_
    rcases hb with q | q
    · exact fr (fH1.trans f4) (by rw [v34]; simp) q
    · rw [q]
      exact fr (fH1.trans f3) (by rw [v3]; simp) ntp
def bR (s t : List Nat) (i j a b : Nat) : Bool := decide (s[i]? ≠ t[j]?) && decide (a < b)
/-- a board that is made -/
structure BrdAt (K : PySem.W.Frag) (H : Hp) (p : Addr) (s t : Str) : Prop where
  ex : ∃ dx me sg go, H p = some (.ins (clsA K "Board") dx [("left_row", .str s), ("upper_row", .str t), ("meetings", .ref me), ("signs", .ref sg), ("goals", .ref go)]) ∧ LedAt H me sg go (bR s.cps.toList t.cps.toList) s.length t.length
theorem tabs_fr {T : List (Addr × Str)} {H H' : Hp} {p C dx : Addr} {fs : List (Str × V)} (t : LamX.Tabs T H) (e : FrP p H H') (hp : H p = some (.ins C dx fs)) : LamX.Tabs T H' := fun q hq => by
  obtain ⟨ps, h1, h2, h3⟩ := t q hq
  refine ⟨ps, e.get (fun z => by rw [z, hp] at h1; cases h1) h1, h2, fun pos cv hc => ?_⟩
  obtain ⟨c, e1, e2⟩ := h3 pos cv hc
  exact ⟨c, e1, e.get (fun z => by rw [z, hp] at e2; unfold CodeO at e2; cases e2) e2⟩
theorem LedAt.frp {H H' : Hp} {p C dx : Addr} {fs : List (Str × V)} {me sg go : Addr} {r : Nat → Nat → Nat → Nat → Bool} {m n : Nat} (h : LedAt H me sg go r m n) (e : FrP p H H') (hp : H p = some (.ins C dx fs)) : LedAt H' me sg go r m n := by
  have nl : ∀ {b : Addr} {xs : List V}, H b = some (.lst xs) → ¬ b = p := fun h z => by rw [z, hp] at h; cases h
  have nt : ∀ {b : Addr} {xs : List V}, H b = some (.tup xs) → ¬ b = p := fun h z => by rw [z, hp] at h; cases h
  obtain ⟨rs, h1, h2, h3⟩ := h.me
  refine ⟨e.get (nl h.go) h.go, e.get (nl h.sg) h.sg, rs, e.get (nl h1) h1, h2, fun i row hr => ?_⟩
  obtain ⟨zs, a, b, c⟩ := h3 i row hr
  exact ⟨zs, e.get (nl a) a, fun z hz => e.get (nt (b z hz)) (b z hz), c⟩
def sp_Board_init (K : PySem.W.Frag) (TL : List (Addr × Str)) : Sp := fun vs H Q E => ∃ (p dx : Addr) (x y : V), vs = [.ref p, x, y] ∧ H p = some (.ins (clsA K "Board") dx []) ∧ LamX.Tabs TL H ∧ Rows2 K E H x y fun s t => ∀ H', Fr (fun b => b = p) (noT H) H' → LamX.Tabs TL H' → BrdAt K H' p s t → Q .non H'
theorem ok_Board_init (T : Tx K mg ad fd tk base tc) : FnOk P w K mg base (L2.CX P w) 5 (ad 20) (fd 20) ["self", "side", "top"] (sp_Board_init K (tabsL tc)) := by
  refine T.fc_Board_init.okX sc_Board_init (fun vs H Q E h => ?_) (fun A outer s H vs Q E hr h => ?_)
  · obtain ⟨p, dx, x, y, rfl, _⟩ := h
    rfl
  · obtain ⟨p, dx, x, y, rfl, hp, hT, hR⟩ := h
    refine ⟨_, (pss_cons (ps_expr (pe_call (ok_need_rows T) (hr.mono (by decide)) rfl T.d_need_rows.g T.d_need_rows.F.kp T.d_need_rows.b .nil (passes_call (takes_of rfl rfl rfl rfl) (fun _ _ _ _ h => h)) (pa_cons (pv 1) (pa_cons (pv 2) pa_nil))))
      (pss_cons (ps_fldK (K := K) (pv 0) (pv 1) rfl)
      (pss_cons (ps_fldK (K := K) (pv 0) (pv 2) rfl)
      (pss_cons (ps_set (i := 3) sc_Board_init.nd rfl (Or.inl rfl) (pe_lamb (T := tabsL tc) (params := lamA L_Board_init) (body := lamB L_Board_init) (scope := lamSc L_Board_init) T.tb_Board_init rfl tabs_m_Board_init (tabs_u_Board_init T) rfl (ndef_free (fr := ["side", "top"]) ndf_Board_init)))
      (pss_cons (ps_asg (pe_callCb (mk := fun c => ⟨q_Board_init, lamA L_Board_init, lamB L_Board_init, lamSc L_Board_init, cloFrom _ (lamSc L_Board_init).names [], c⟩) (js := [1, 2]) (ok_led T) (fun _ _ => lok_t (k := 0) (N := ["row", "column", "across", "above", "side", "top"]) (ps := ["row", "column", "across", "above"]) (fr := ["side", "top"]) (nscope_by nsc_Board_init) (fun _ _ us hl => match us, hl with | [_, _, _, _], _ => rfl) (fun _ _ _ _ hr => (pe_and (pe_cmpR (o_ne hr.units) (pe_ix (i_ix (K := K)) (pv 4) (pv 0) (fun _ _ => rfl)) (pe_ix (i_ix (K := K)) (pv 5) (pv 1) (fun _ _ => rfl)) (nomark _)) (pe_one (pe_cmpR o_lt (pv 2) (pv 3) (nomark _)))))) (fun _ => rfl) (fun ok => Caps.made (scope := lamSc L_Board_init) ok (ndef_free (fr := ["side", "top"]) ndf_Board_init) (ndef_fr (fr := ["side", "top"]) ndf_Board_init) rfl) (hr.mono (by decide)) rfl T.d_led.g T.d_led.F.kp T.d_led.b (pa_cons (pe_callB (c_len (K := K)) (by rfl) T.b_len (by decide +kernel) (pa_cons (pv 1) pa_nil)) (pa_cons (pe_callB (c_len (K := K)) (by rfl) T.b_len (by decide +kernel) (pa_cons (pv 2) pa_nil)) (pa_cons (pv 3) pa_nil)))) (pg_tup rfl (pgs_cons (pg_name (i := 4) sc_Board_init.nd rfl (Or.inl rfl)) (pgs_cons (pg_name (i := 5) sc_Board_init.nd rfl (Or.inl rfl)) (pgs_cons (pg_name (i := 6) sc_Board_init.nd rfl (Or.inl rfl)) pgs_nil)))))
      (pss_cons (ps_fldK (K := K) (pv 0) (pv 4) rfl)
      (pss_cons (ps_fldK (K := K) (pv 0) (pv 5) rfl)
      (pss_one (ps_fldK (K := K) (pv 0) (pv 6) rfl))))))))), ?_⟩
    walk_at "go"
    refine ⟨x, y, rfl, hR.imp fun s t ex ey hs ht k H1 e1 => ?_⟩
    subst ex ey
    have hs1 := hs.len
    have ht1 := ht.len
    have hsl : s.cps.toList.length = s.length := Array.length_toList
    have htl : t.cps.toList.length = t.length := Array.length_toList
    have hp1 := e1.get hp
    have hT1 : LamX.Tabs (tabsL tc) H1 := hT.ext fun b o h => e1.get h
    walk_at "go"
    rw [putF_nil, putF_ne (by decide +kernel), putF_nil]
    have v2 : upd (upd H1 p (.ins (clsA K "Board") dx [("left_row", .str s)])) p (.ins (clsA K "Board") dx [("left_row", .str s), ("upper_row", .str t)]) p = some (.ins (clsA K "Board") dx [("left_row", .str s), ("upper_row", .str t)]) := upd_same
    have f2 : FrP p H1 (upd (upd H1 p (.ins (clsA K "Board") dx [("left_row", .str s)])) p (.ins (clsA K "Board") dx [("left_row", .str s), ("upper_row", .str t)])) := FrP.at.trans FrP.at
    generalize upd (upd H1 p (.ins (clsA K "Board") dx [("left_row", .str s)])) p (.ins (clsA K "Board") dx [("left_row", .str s), ("upper_row", .str t)]) = H2 at v2 f2 ⊢
    have hT2 := tabs_fr hT1 f2 hp1
    refine st_lamb hT2 fun fl c' H3 e3 nn3 hT3 n3 l3 c3 => ?_
    have v3 := e3.get v2
    walk_at "go"
    have hc3 := hT3
    refine ⟨fl, c', s.length, t.length, rfl, l3, c3, by omega, by omega, bR s.cps.toList t.cps.toList, ?_, ?_⟩
    · intro i j a b H' Q' hi hj ha hb e q
      refine ⟨rfl, ?_⟩
      have g1 := List.getElem?_eq_getElem (l := s.cps.toList) (i := i) (by omega)
      have g2 := List.getElem?_eq_getElem (l := t.cps.toList) (i := j) (by omega)
      walk_at "go"
      refine st_sign (by omega) (at_nat g1) ?_
      walk_at "go"
      refine st_sign (by omega) (at_nat g2) ?_
      walk_at "go"
      by_cases hq : s.cps.toList[i]'(by omega) = t.cps.toList[j]'(by omega)
      · rw [if_neg (by rw [hq]; simp)]
        have : bR s.cps.toList t.cps.toList i j a b = false := by
          unfold bR
          rw [g1, g2, hq]
          simp
        rw [← this]
        exact q
      · rw [if_pos (by simp only [tx_inj, List.cons.injEq, and_true, hq, decide_false, Bool.not_false])]
        walk_at "go"
        have : bR s.cps.toList t.cps.toList i j a b = decide ((a : Int) < (b : Int)) := by
          unfold bR
          have z : ¬ (some (s.cps.toList[i]'(by omega)) = some (t.cps.toList[j]'(by omega))) := fun e => hq (Option.some.inj e)
          rw [g1, g2, decide_eq_true (p := _ ≠ _) z, Bool.true_and]
          simp
        rw [← this]
        exact q
    intro t4 me sg go H4 e4 n4 v4 hL _
    walk_at "go"
    rw [putF_ne (by decide +kernel), putF_ne (by decide +kernel), putF_nil, putF_ne (by decide +kernel), putF_ne (by decide +kernel), putF_ne (by decide +kernel), putF_nil, putF_ne (by decide +kernel), putF_ne (by decide +kernel), putF_ne (by decide +kernel), putF_ne (by decide +kernel), putF_nil]
    have v5 : H4 p = _ := e4.get v3
    have f3 : Fr (fun b => b = p) (noT H) H3 := fun b o n h => e3 b o (f2 b o n (e1 b o (fun z => z) (noT_of h).1)) (noT_of h).2
    refine k _ ((f3.trans (Fr.ex e4)).trans ((FrP.at.trans FrP.at).trans FrP.at)) (tabs_fr (hT3.ext fun b o h => e4.get h) ((FrP.at.trans FrP.at).trans FrP.at) v5) ⟨dx, me, sg, go, upd_same, hL.frp ((FrP.at.trans FrP.at).trans FrP.at) v5⟩
theorem invT_one {m n : Nat} {r : Nat → Nat → Nat → Nat → Bool} : IsT (invT (ledE r m n)) := (ledE_T r m n).inv
/-- where each line ends -/
def brdL (s t : Str) : List Nat := invT (ledE (bR s.cps.toList t.cps.toList) s.length t.length)
theorem brdL_len (s t : Str) : (brdL s t).length = s.length + t.length := by unfold brdL; rw [invT_len, ledE_len]
theorem brdL_T (s t : Str) : IsT (brdL s t) := invT_one
def sp_Board_lines (K : PySem.W.Frag) : Sp := fun vs H Q E => ∃ (p : Addr) (s t : Str), vs = [.ref p] ∧ BrdAt K H p s t ∧ ∀ D H', Ex H H' → H D = none → H' D = some (.lst ((brdL s t).map nV)) → Q (.ref D) H'
theorem ok_Board_lines (T : Tx K mg ad fd tk base tc) : FnOk P w K mg base CX0 1 (ad 21) (fd 21) ["self"] (sp_Board_lines K) := by
  refine T.d_Board_lines.F.ok sc_Board_lines (fun vs H Q E h => ?_) (fun cdv A outer s H vs Q E hr h => ?_)
  · obtain ⟨p, s, t, rfl, _⟩ := h
    rfl
  · obtain ⟨p, s, t, rfl, hp, k⟩ := h
    refine ⟨_, (pss_one (ps_ret (pe_callTy (c_list rfl (K := K)) (by rfl) T.b_list (by decide +kernel) (pa_cons (pe_fldK (K := K) (pv 0) rfl) pa_nil)))), ?_⟩
    obtain ⟨dx, me, sg, go, g1, g2⟩ := hp.ex
    have g3 := g2.go
    walk_at "go"
    rename_i D H1 n1 e1 v1
    exact k D H1 e1 n1 v1
/-- the length of the longest thread of the first i signs of s and the first j of t -/
def Lc (s t : List Nat) : Nat → Nat → Nat
  | 0, _ => 0
  | _ + 1, 0 => 0
  | i + 1, j + 1 => if s[i]? = t[j]? then Lc s t i j + 1 else max (Lc s t i (j + 1)) (Lc s t (i + 1) j)
termination_by i j => i + j
theorem Lc_i0 (s t : List Nat) (j : Nat) : Lc s t 0 j = 0 := by unfold Lc; rfl
theorem Lc_j0 (s t : List Nat) (i : Nat) : Lc s t i 0 = 0 := by cases i <;> (unfold Lc; rfl)
theorem Lc_ss (s t : List Nat) (i j : Nat) : Lc s t (i + 1) (j + 1) = if s[i]? = t[j]? then Lc s t i j + 1 else max (Lc s t i (j + 1)) (Lc s t (i + 1) j) := by
  rw [Lc]
theorem Lc_near (s t : List Nat) : ∀ n i j : Nat, i + j ≤ n → (Lc s t i j ≤ Lc s t (i + 1) j ∧ Lc s t (i + 1) j ≤ Lc s t i j + 1) ∧ Lc s t i j ≤ Lc s t i (j + 1) ∧ Lc s t i (j + 1) ≤ Lc s t i j + 1
  | 0, i, j, h => by
    obtain ⟨rfl, rfl⟩ : i = 0 ∧ j = 0 := by omega
    simp [Lc_i0, Lc_j0]
  | n + 1, i, j, h => by
    have hv : Lc s t i j ≤ Lc s t (i + 1) j ∧ Lc s t (i + 1) j ≤ Lc s t i j + 1 := by
      cases j with
      | zero => simp [Lc_j0]
      | succ j =>
        have ih := Lc_near s t n i j (by omega)
        rw [Lc_ss]
        split <;> omega
    have hh : Lc s t i j ≤ Lc s t i (j + 1) ∧ Lc s t i (j + 1) ≤ Lc s t i j + 1 := by
      cases i with
      | zero => simp [Lc_i0]
      | succ i =>
        have ih := Lc_near s t n i j (by omega)
        rw [Lc_ss]
        split <;> omega
    exact ⟨hv, hh⟩
theorem Lc_up (s t : List Nat) (i j : Nat) : Lc s t i j ≤ Lc s t (i + 1) j := (Lc_near s t _ i j (Nat.le_refl _)).1.1
theorem Lc_up1 (s t : List Nat) (i j : Nat) : Lc s t (i + 1) j ≤ Lc s t i j + 1 := (Lc_near s t _ i j (Nat.le_refl _)).1.2
theorem Lc_ri (s t : List Nat) (i j : Nat) : Lc s t i j ≤ Lc s t i (j + 1) := (Lc_near s t _ i j (Nat.le_refl _)).2.1
theorem Lc_ri1 (s t : List Nat) (i j : Nat) : Lc s t i (j + 1) ≤ Lc s t i j + 1 := (Lc_near s t _ i j (Nat.le_refl _)).2.2
theorem Lc_le (s t : List Nat) : ∀ i j : Nat, Lc s t i j ≤ i ∧ Lc s t i j ≤ j := fun i j => by
  constructor
  · induction i with
    | zero => rw [Lc_i0]; exact Nat.le_refl _
    | succ i ih => have := Lc_up1 s t i j; omega
  · induction j with
    | zero => rw [Lc_j0]; exact Nat.le_refl _
    | succ j ih => have := Lc_ri1 s t i j; omega
/-- the first m numbers of the row i of the lengths -/
def lcRow (s t : List Nat) (m i : Nat) : List V := (List.range m).map fun j => V.int (Lc s t i j : Nat)
theorem lcRow_len (s t : List Nat) (m i : Nat) : (lcRow s t m i).length = m := by simp [lcRow]
theorem lcRow_at {s t : List Nat} {m i j : Nat} (h : j < m) : (lcRow s t m i)[j]? = some (V.int (Lc s t i j : Nat)) := by
  unfold lcRow
  rw [List.getElem?_map, List.getElem?_range h]
  rfl
theorem lcRow_atI {s t : List Nat} {m i j : Nat} (h : j < m) : atI (lcRow s t m i) (j : Int) = some (V.int (Lc s t i j : Nat)) := by
  unfold atI
  rw [Evl.ixN_nat (by rw [lcRow_len]; exact h)]
  exact lcRow_at h
theorem lcRow_more (s t : List Nat) (m i : Nat) : lcRow s t (m + 1) i = lcRow s t m i ++ [V.int (Lc s t i m : Nat)] := by
  unfold lcRow
  rw [List.range_succ, List.map_append]
  rfl
theorem lcRow_zero (s t : List Nat) (m : Nat) : lcRow s t m 0 = (List.replicate m [V.int 0]).flatten := by
  induction m with
  | zero => rfl
  | succ m ih =>
    rw [lcRow_more, ih, Lc_i0, List.replicate_succ', List.flatten_append]
    rfl
/-- a new list of new lists, all of them apart -/
structure TabAt (H0 H : Hp) (p : Addr) (rs : List Addr) (row : Nat → List V) : Prop where
  new : H0 p = none
  at_ : H p = some (.lst (rs.map V.ref))
  non : p ∉ rs
  nd : rs.Nodup
  news : ∀ r ∈ rs, H0 r = none
  rows : ∀ k r, rs[k]? = some r → H r = some (.lst (row k))
theorem TabAt.ex {H0 H H' : Hp} {p : Addr} {rs : List Addr} {row : Nat → List V} (T : TabAt H0 H p rs row) (e : Ex H H') : TabAt H0 H' p rs row :=
  ⟨T.new, e.get T.at_, T.non, T.nd, T.news, fun k r h => e.get (T.rows k r h)⟩
theorem Lc_mono (s t : List Nat) {i i' j j' : Nat} (hi : i ≤ i') (hj : j ≤ j') : Lc s t i j ≤ Lc s t i' j' := by
  have h1 : ∀ d i, Lc s t i j ≤ Lc s t (i + d) j := by
    intro d
    induction d with
    | zero => intro i; exact Nat.le_refl _
    | succ d ih => intro i; exact Nat.le_trans (ih i) (Lc_up s t (i + d) j)
  have h2 : ∀ d j, Lc s t i' j ≤ Lc s t i' (j + d) := by
    intro d
    induction d with
    | zero => intro j; exact Nat.le_refl _
    | succ d ih => intro j; exact Nat.le_trans (ih j) (Lc_ri s t i' (j + d))
  have a := h1 (i' - i) i
  have b := h2 (j' - j) j
  rw [show i + (i' - i) = i' by omega] at a
  rw [show j + (j' - j) = j' by omega] at b
  exact Nat.le_trans a b
theorem bR_same {s t : List Nat} {i j a b : Nat} (h : s[i]? = t[j]?) : bR s t i j a b = false := by
  unfold bR
  rw [decide_eq_false (fun z => z h)]
  rfl
theorem bR_else {s t : List Nat} {i j a b : Nat} (h : ¬ s[i]? = t[j]?) : bR s t i j a b = decide (a < b) := by
  unfold bR
  rw [decide_eq_true (p := s[i]? ≠ t[j]?) h, Bool.true_and]
theorem brd_row {r : Nat → Nat → Nat → Nat → Bool} {m b i : Nat} (hi : i < m) (h1 : ∀ c, c < b → ledD r m i c < m + b) : ∀ c, c ≤ b → ledA r m i c < m + b := by
  intro c
  induction c with
  | zero => intro _; rw [ledA_0]; omega
  | succ c ih =>
    intro hc
    rw [ledA_s]
    split
    · exact ih (by omega)
    · exact h1 c (by omega)
/-- ahead of the stretch no line is that comes in behind its begin -/
theorem brd_low {r : Nat → Nat → Nat → Nat → Bool} {m b : Nat} : ∀ i : Nat, i ≤ m → (∀ c, c < b → ledD r m i c < m + b) ∧ (i < m → ∀ c, c ≤ b → ledA r m i c < m + b)
  | 0, _ => by
    have h1 : ∀ c, c < b → ledD r m 0 c < m + b := fun c hc => by rw [ledD_0]; omega
    exact ⟨h1, fun hi => brd_row hi h1⟩
  | i + 1, hi => by
    obtain ⟨h1, h2⟩ := brd_low (r := r) (m := m) (b := b) i (by omega)
    have h3 : ∀ c, c < b → ledD r m (i + 1) c < m + b := fun c hc => by
      rw [ledD_s]
      split
      · exact h1 c hc
      · exact h2 (by omega) c (by omega)
    exact ⟨h3, fun hi => brd_row hi h3⟩
theorem num_same {x y z w d a t : Nat} (h1 : w = x + 1) (h2 : y + (if t ≤ d then 1 else 0) = x + 1) (h3 : z = x + (if t ≤ a then 1 else 0)) : w + (if t ≤ a then 1 else 0) = z + 1 ∧ w = y + (if t ≤ d then 1 else 0) := by
  generalize (if t ≤ d then 1 else 0) = p at h2 ⊢
  generalize (if t ≤ a then 1 else 0) = q at h3 ⊢
  omega
theorem num_else {x y z w d a t : Nat} (h1 : w = max y z) (h2 : y + (if t ≤ d then 1 else 0) = x + 1) (h3 : z = x + (if t ≤ a then 1 else 0)) : w + (if t ≤ (if a < d then d else a) then 1 else 0) = z + 1 ∧ w = y + (if t ≤ (if a < d then a else d) then 1 else 0) := by
  by_cases k3 : a < d <;> simp only [k3, if_true, if_false] <;> by_cases k1 : t ≤ d <;> by_cases k2 : t ≤ a <;> simp only [k1, k2, if_true, if_false] at h2 h3 ⊢ <;> omega
/-- one cell -/
theorem brd_cell (s t : List Nat) {m b i c : Nat} (h2 : Lc s (t.drop b) i (c + 1) + (if m + b ≤ ledD (bR s t) m i (b + c) then 1 else 0) = Lc s (t.drop b) i c + 1) (h3 : Lc s (t.drop b) (i + 1) c = Lc s (t.drop b) i c + (if m + b ≤ ledA (bR s t) m i (b + c) then 1 else 0)) :
    Lc s (t.drop b) (i + 1) (c + 1) + (if m + b ≤ ledD (bR s t) m (i + 1) (b + c) then 1 else 0) = Lc s (t.drop b) (i + 1) c + 1 ∧ Lc s (t.drop b) (i + 1) (c + 1) = Lc s (t.drop b) i (c + 1) + (if m + b ≤ ledA (bR s t) m i (b + (c + 1)) then 1 else 0) := by
  have q4 := Lc_ss s (t.drop b) i c
  have q5 : (t.drop b)[c]? = t[b + c]? := List.getElem?_drop
  rw [show b + (c + 1) = (b + c) + 1 by omega, ledA_s, ledD_s, ledS]
  by_cases e : s[i]? = t[b + c]?
  · rw [if_pos (by rw [q5]; exact e)] at q4
    rw [bR_same e, if_neg (c := false = true) (by decide), if_neg (c := false = true) (by decide)]
    exact num_same q4 h2 h3
  · rw [if_neg (by rw [q5]; exact e)] at q4
    rw [bR_else e]
    simp only [decide_eq_true_eq]
    exact num_else q4 h2 h3
theorem brd_acr {s t : List Nat} {m b i : Nat} (hi : i < m) (h1 : ∀ c, Lc s (t.drop b) i (c + 1) + (if m + b ≤ ledD (bR s t) m i (b + c) then 1 else 0) = Lc s (t.drop b) i c + 1) : ∀ c, Lc s (t.drop b) (i + 1) c = Lc s (t.drop b) i c + (if m + b ≤ ledA (bR s t) m i (b + c) then 1 else 0) := by
  intro c
  induction c with
  | zero =>
    have := (brd_low (r := bR s t) (m := m) (b := b) i (by omega)).2 hi b (Nat.le_refl _)
    rw [Lc_j0, Lc_j0, if_neg (by rw [Nat.add_zero]; omega)]
  | succ c ih => exact (brd_cell s t (h1 c) ih).2
/-- within: by the lengths of the stretch's threads -/
theorem brd_in (s t : List Nat) {m b : Nat} : ∀ i : Nat, i ≤ m → ∀ c, Lc s (t.drop b) i (c + 1) + (if m + b ≤ ledD (bR s t) m i (b + c) then 1 else 0) = Lc s (t.drop b) i c + 1
  | 0, _ => fun c => by rw [Lc_i0, Lc_i0, ledD_0, if_pos (by omega)]
  | i + 1, hi => fun c => (brd_cell s t (brd_in s t i (by omega) c) (brd_acr (by omega) (brd_in s t i (by omega)) c)).1
theorem ledE_dn {r : Nat → Nat → Nat → Nat → Bool} {m n e : Nat} (h : e < n) : gT (ledE r m n) e = ledD r m m e := by
  unfold ledE gT
  rw [List.getD_eq_getElem?_getD, List.getElem?_append_left (by rw [List.length_map, List.length_range]; exact h), List.getElem?_map, List.getElem?_range h]
  rfl
/-- how many lines from behind a begin come out ahead of an end -/
theorem brd_lost (s t : List Nat) {m n b : Nat} (hb : b ≤ n) : ∀ k : Nat, b + k ≤ n → cE (ledE (bR s t) m n) (m + b) (b + k) + Lc s (t.drop b) m k = k
  | 0, _ => by
    have : ∀ e, e ≤ b → cE (ledE (bR s t) m n) (m + b) e = 0 := by
      intro e
      induction e with
      | zero => intro _; rfl
      | succ e ih =>
        intro he
        have h1 : gT (ledE (bR s t) m n) e = ledD (bR s t) m m e := ledE_dn (by omega)
        have := (brd_low (r := bR s t) (m := m) (b := b) m (Nat.le_refl _)).1 e (by omega)
        rw [cE_succ, ih (by omega), h1, if_neg (by omega)]
    rw [Lc_j0, Nat.add_zero, Nat.add_zero]
    exact this b (Nat.le_refl _)
  | k + 1, hk => by
    have ih := brd_lost s t (m := m) (n := n) hb k (by omega)
    have h1 : gT (ledE (bR s t) m n) (b + k) = ledD (bR s t) m m (b + k) := ledE_dn (by omega)
    have h2 := brd_in s t (m := m) (b := b) m (Nat.le_refl _) k
    rw [show b + (k + 1) = (b + k) + 1 by omega, cE_succ, h1]
    omega
theorem cutS_from (z : Str) (b : Nat) (h : b ≤ z.length) : (cutS z (some (b : Int)) none).cps.toList = z.cps.toList.drop b := by
  have e : (cutS z (some (b : Int)) none).cps.toList = ((z.cps.toList.drop (HT.sIx z.length 0 (some (b : Int)))).take (HT.sIx z.length z.length none - HT.sIx z.length 0 (some (b : Int)))) := by simp [cutS]
  have e1 : HT.sIx z.length 0 (some (b : Int)) = b := by
    show (if (b : Int) < 0 then ((b : Int) + (z.length : Int)).toNat else min (b : Int).toNat z.length) = b
    rw [if_neg (by omega), Int.toNat_natCast]
    omega
  have e2 : HT.sIx z.length z.length none = z.length := rfl
  rw [e, e1, e2, List.take_of_length_le]
  rw [List.length_drop, Array.length_toList]
  exact Nat.le_refl _
def ahP (a b : Nat × Nat) : Prop := a.1 < b.1 ∧ a.2 < b.2
instance (a b : Nat × Nat) : Decidable (ahP a b) := by unfold ahP; infer_instance
theorem RpA.zipped {H : Hp} : ∀ {xs : List V} {ds : List PyData}, RpA H xs ds → ∃ zs : List (V × PyData), xs = zs.map (·.1) ∧ ds = zs.map (·.2) ∧ ∀ z ∈ zs, Rp H z.1 z.2
  | _, _, .nil => ⟨[], rfl, rfl, fun _ h => nomatch h⟩
  | _, _, .cons (v := v) (d := d) a k => by
    obtain ⟨zs, rfl, rfl, h⟩ := RpA.zipped k
    refine ⟨(v, d) :: zs, rfl, rfl, fun z hz => ?_⟩
    rcases List.mem_cons.mp hz with e | e
    · rw [e]; exact a
    · exact h z e
/-- the thread that is told -/
def thr (s t : List Nat) : Nat → Nat → List (Nat × Nat)
  | 0, _ => []
  | _ + 1, 0 => []
  | n + 1, m + 1 => if Lc s t (n + 1) (m + 1) = Lc s t n (m + 1) then thr s t n (m + 1) else if Lc s t (n + 1) (m + 1) = Lc s t (n + 1) m then thr s t (n + 1) m else thr s t n m ++ [(n, m)]
termination_by n m => n + m
theorem thr_i0 (s t : List Nat) (m : Nat) : thr s t 0 m = [] := by unfold thr; rfl
theorem thr_j0 (s t : List Nat) (n : Nat) : thr s t n 0 = [] := by cases n <;> (unfold thr; rfl)
theorem thr_ss (s t : List Nat) (n m : Nat) : thr s t (n + 1) (m + 1) = if Lc s t (n + 1) (m + 1) = Lc s t n (m + 1) then thr s t n (m + 1) else if Lc s t (n + 1) (m + 1) = Lc s t (n + 1) m then thr s t (n + 1) m else thr s t n m ++ [(n, m)] := by rw [thr]
theorem thr_ok (s t : List Nat) : ∀ n m, n ≤ s.length → m ≤ t.length → (thr s t n m).length = Lc s t n m ∧ (thr s t n m).Pairwise ahP ∧ ∀ q ∈ thr s t n m, q.1 < n ∧ q.2 < m ∧ ∃ c, s[q.1]? = some c ∧ t[q.2]? = some c
  | 0, m, _, _ => by rw [thr_i0, Lc_i0]; exact ⟨rfl, .nil, fun _ h => nomatch h⟩
  | n + 1, 0, _, _ => by rw [thr_j0, Lc_j0]; exact ⟨rfl, .nil, fun _ h => nomatch h⟩
  | n + 1, m + 1, hn, hm => by
    rw [thr_ss]
    by_cases h1 : Lc s t (n + 1) (m + 1) = Lc s t n (m + 1)
    · rw [if_pos h1, h1]
      obtain ⟨a, b, c⟩ := thr_ok s t n (m + 1) (by omega) hm
      exact ⟨a, b, fun q hq => ⟨by have := (c q hq).1; omega, (c q hq).2⟩⟩
    · rw [if_neg h1]
      by_cases h2 : Lc s t (n + 1) (m + 1) = Lc s t (n + 1) m
      · rw [if_pos h2, h2]
        obtain ⟨a, b, c⟩ := thr_ok s t (n + 1) m hn (by omega)
        exact ⟨a, b, fun q hq => ⟨(c q hq).1, by have := (c q hq).2.1; omega, (c q hq).2.2⟩⟩
      · rw [if_neg h2]
        have e : s[n]? = t[m]? := by
          by_cases e : s[n]? = t[m]?
          · exact e
          · exfalso
            rw [Lc_ss, if_neg e] at h1 h2
            omega
        obtain ⟨a, b, c⟩ := thr_ok s t n m (by omega) (by omega)
        obtain ⟨x, hx⟩ : ∃ x, s[n]? = some x := ⟨s[n]'(by omega), List.getElem?_eq_getElem _⟩
        refine ⟨?_, ?_, fun q hq => ?_⟩
        · rw [List.length_append, a, Lc_ss, if_pos e]; rfl
        · rw [List.pairwise_append]
          refine ⟨b, by simp, fun p hp q hq => ?_⟩
          have : q = (n, m) := by simpa using hq
          rw [this]
          exact ⟨(c p hp).1, (c p hp).2.1⟩
        · rcases List.mem_append.mp hq with h | h
          · exact ⟨by have := (c q h).1; omega, by have := (c q h).2.1; omega, (c q h).2.2⟩
          · have : q = (n, m) := by simpa using h
            rw [this]
            exact ⟨Nat.lt_succ_self _, Nat.lt_succ_self _, x, hx, by rw [← e]; exact hx⟩
termination_by n m => n + m
theorem brd_hi {r : Nat → Nat → Nat → Nat → Bool} {m : Nat} : ∀ i : Nat, i ≤ m → (∀ c, m - i ≤ ledD r m i c) ∧ (i < m → ∀ c, m - 1 - i ≤ ledA r m i c)
  | 0, _ => by
    have h1 : ∀ c, m - 0 ≤ ledD r m 0 c := fun c => by rw [ledD_0]; omega
    refine ⟨h1, fun hi c => ?_⟩
    induction c with
    | zero => rw [ledA_0]; exact Nat.le_refl _
    | succ c ih =>
      rw [ledA_s]
      split
      · exact ih
      · have := h1 c; omega
  | i + 1, hi => by
    obtain ⟨h1, h2⟩ := brd_hi (r := r) (m := m) i (by omega)
    have h3 : ∀ c, m - (i + 1) ≤ ledD r m (i + 1) c := fun c => by
      rw [ledD_s]
      split
      · have := h1 c; omega
      · have := h2 (by omega) c; omega
    refine ⟨h3, fun hi c => ?_⟩
    induction c with
    | zero => rw [ledA_0]; exact Nat.le_refl _
    | succ c ih =>
      rw [ledA_s]
      split
      · exact ih
      · have := h3 c; omega
theorem brd_cellW (s t : List Nat) {m f b p c : Nat} (h2 : Lc (s.drop f) (t.drop b) p (c + 1) + (if m - f + b ≤ ledD (bR s t) m (f + p) (b + c) then 1 else 0) = Lc (s.drop f) (t.drop b) p c + 1) (h3 : Lc (s.drop f) (t.drop b) (p + 1) c = Lc (s.drop f) (t.drop b) p c + (if m - f + b ≤ ledA (bR s t) m (f + p) (b + c) then 1 else 0)) :
    Lc (s.drop f) (t.drop b) (p + 1) (c + 1) + (if m - f + b ≤ ledD (bR s t) m (f + (p + 1)) (b + c) then 1 else 0) = Lc (s.drop f) (t.drop b) (p + 1) c + 1 ∧ Lc (s.drop f) (t.drop b) (p + 1) (c + 1) = Lc (s.drop f) (t.drop b) p (c + 1) + (if m - f + b ≤ ledA (bR s t) m (f + p) (b + (c + 1)) then 1 else 0) := by
  have q4 := Lc_ss (s.drop f) (t.drop b) p c
  have q5 : (t.drop b)[c]? = t[b + c]? := List.getElem?_drop
  have q6 : (s.drop f)[p]? = s[f + p]? := List.getElem?_drop
  rw [show b + (c + 1) = (b + c) + 1 by omega, show f + (p + 1) = (f + p) + 1 by omega, ledA_s, ledD_s, ledS]
  by_cases e : s[f + p]? = t[b + c]?
  · rw [if_pos (by rw [q5, q6]; exact e)] at q4
    rw [bR_same e, if_neg (c := false = true) (by decide), if_neg (c := false = true) (by decide)]
    exact num_same q4 h2 h3
  · rw [if_neg (by rw [q5, q6]; exact e)] at q4
    rw [bR_else e]
    simp only [decide_eq_true_eq]
    exact num_else q4 h2 h3
theorem brd_acrW {s t : List Nat} {m f b p : Nat} (hb : f = 0 ∨ b = 0) (hi : f + p < m) (h1 : ∀ c, Lc (s.drop f) (t.drop b) p (c + 1) + (if m - f + b ≤ ledD (bR s t) m (f + p) (b + c) then 1 else 0) = Lc (s.drop f) (t.drop b) p c + 1) : ∀ c, Lc (s.drop f) (t.drop b) (p + 1) c = Lc (s.drop f) (t.drop b) p c + (if m - f + b ≤ ledA (bR s t) m (f + p) (b + c) then 1 else 0) := by
  intro c
  induction c with
  | zero =>
    have : ledA (bR s t) m (f + p) (b + 0) < m - f + b := by
      rcases hb with rfl | rfl
      · have := (brd_low (r := bR s t) (m := m) (b := b) (0 + p) (by omega)).2 hi b (Nat.le_refl _)
        rw [Nat.add_zero]
        omega
      · rw [show 0 + 0 = 0 from rfl, ledA_0]
        omega
    rw [Lc_j0, Lc_j0, if_neg (by omega)]
  | succ c ih => exact (brd_cellW s t (h1 c) ih).2
theorem brd_inW (s t : List Nat) {m f b : Nat} (hb : f = 0 ∨ b = 0) (hf : f ≤ m) : ∀ p : Nat, f + p ≤ m → ∀ c, Lc (s.drop f) (t.drop b) p (c + 1) + (if m - f + b ≤ ledD (bR s t) m (f + p) (b + c) then 1 else 0) = Lc (s.drop f) (t.drop b) p c + 1
  | 0, _ => fun c => by
    have : m - f + b ≤ ledD (bR s t) m (f + 0) (b + c) := by
      rcases hb with rfl | rfl
      · rw [show 0 + 0 = 0 from rfl, ledD_0]
        omega
      · have := (brd_hi (r := bR s t) (m := m) f hf).1 (0 + c)
        rw [Nat.add_zero]
        omega
    rw [Lc_i0, Lc_i0, if_pos this]
  | p + 1, hi => fun c => (brd_cellW s t (brd_inW s t hb hf p (by omega) c) (brd_acrW hb (by omega) (brd_inW s t hb hf p (by omega)) c)).1
theorem brd_lostW (s t : List Nat) {m n f b : Nat} (hb : f = 0 ∨ b = 0) (hf : f ≤ m) (hbn : b ≤ n) : ∀ k : Nat, b + k ≤ n → cE (ledE (bR s t) m n) (m - f + b) (b + k) + Lc (s.drop f) (t.drop b) (m - f) k = k
  | 0, _ => by
    have : cE (ledE (bR s t) m n) (m - f + b) b = 0 := by
      rcases hb with rfl | rfl
      · have := brd_lost s t (m := m) (n := n) hbn 0 (by omega)
        rw [Nat.sub_zero]
        rw [Nat.add_zero] at this
        omega
      · rfl
    rw [Lc_j0, Nat.add_zero, Nat.add_zero]
    exact this
  | k + 1, hk => by
    have ih := brd_lostW s t (m := m) (n := n) hb hf hbn k (by omega)
    have h1 : gT (ledE (bR s t) m n) (b + k) = ledD (bR s t) m m (b + k) := ledE_dn (by omega)
    have h2 := brd_inW s t (m := m) hb hf (m - f) (by omega) k
    rw [show f + (m - f) = m by omega] at h2
    rw [show b + (k + 1) = (b + k) + 1 by omega, cE_succ, h1]
    omega
theorem ledE_ri {r : Nat → Nat → Nat → Nat → Bool} {m n j : Nat} (h : j < m) : gT (ledE r m n) (n + j) = ledA r m (m - 1 - j) n := by
  unfold ledE gT
  rw [List.getD_eq_getElem?_getD, List.getElem?_append_right (by rw [List.length_map, List.length_range]; omega), List.length_map, List.length_range, Nat.add_sub_cancel_left, List.getElem?_reverse (by rw [List.length_map, List.length_range]; exact h), List.getElem?_map, List.length_map, List.length_range, List.getElem?_range (by omega)]
  rfl
theorem brd_rightW (s t : List Nat) {m n f b : Nat} (hb : f = 0 ∨ b = 0) (hf : f ≤ m) (hbn : b ≤ n) : ∀ k : Nat, k ≤ m - f → cE (ledE (bR s t) m n) (m - f + b) (n + k) + Lc (s.drop f) (t.drop b) (m - f - k) (n - b) = n - b
  | 0, _ => by
    have := brd_lostW s t (m := m) (n := n) hb hf hbn (n - b) (by omega)
    rw [show b + (n - b) = n by omega] at this
    exact this
  | k + 1, hk => by
    have ih := brd_rightW s t (m := m) (n := n) hb hf hbn k (by omega)
    have h1 : gT (ledE (bR s t) m n) (n + k) = ledA (bR s t) m (m - 1 - k) n := ledE_ri (by omega)
    have h2 := brd_acrW (s := s) (t := t) (m := m) (f := f) (b := b) (p := m - f - (k + 1)) hb (by omega) (brd_inW s t hb hf _ (by omega)) (n - b)
    rw [show f + (m - f - (k + 1)) = m - 1 - k by omega, show b + (n - b) = n by omega, show m - f - (k + 1) + 1 = m - f - k by omega] at h2
    rw [show n + (k + 1) = (n + k) + 1 by omega, cE_succ, h1]
    omega
/-- the counts tell the windows -/
theorem brd_win (s t : Str) {f la b e : Nat} (hfb : f = 0 ∨ b = 0) (hle : la = s.length ∨ e = t.length) (h1 : f ≤ la) (h2 : la ≤ s.length) (h3 : b ≤ e) (h4 : e ≤ t.length) :
    cntT (brdL s t) (s.length - f + b) (s.length - la + e) + Lc (s.cps.toList.drop f) (t.cps.toList.drop b) (la - f) (e - b) = e - b := by
  have hc : cE (ledE (bR s.cps.toList t.cps.toList) s.length t.length) (s.length - f + b) (s.length - la + e) = cntT (brdL s t) (s.length - f + b) (s.length - la + e) := by
    have := cE_cnt (brdL_T s t) (s.length - f + b) (e := s.length - la + e) (by rw [brdL_len]; omega)
    rw [← this]
    unfold brdL
    rw [(ledE_T _ _ _).inv_inv]
  rw [← hc]
  rcases hle with rfl | rfl
  · have := brd_lostW s.cps.toList t.cps.toList (m := s.length) (n := t.length) hfb h1 (by omega) (e - b) (by omega)
    rw [show b + (e - b) = e by omega] at this
    rw [Nat.sub_self, Nat.zero_add]
    exact this
  · have := brd_rightW s.cps.toList t.cps.toList (m := s.length) (n := t.length) hfb (by omega) h3 (s.length - la) (by omega)
    rw [show s.length - f - (s.length - la) = la - f by omega] at this
    rw [show s.length - la + t.length = t.length + (s.length - la) by omega]
    exact this
theorem winV_Lc (s t : Str) {f la b e : Nat} (hfb : f = 0 ∨ b = 0) (hle : la = s.length ∨ e = t.length) (h1 : f ≤ la) (h2 : la ≤ s.length) (h3 : b ≤ e) (h4 : e ≤ t.length) :
    ((e : Nat) : Int) - (b : Nat) - (cntT (brdL s t) (s.length - f + b) (s.length - la + e) : Nat) = (Lc (s.cps.toList.drop f) (t.cps.toList.drop b) (la - f) (e - b) : Nat) := by
  have := brd_win s t hfb hle h1 h2 h3 h4
  omega
theorem Lc_congr {s s' t t' : List Nat} : ∀ N i j : Nat, i + j ≤ N → (∀ k, k < i → s[k]? = s'[k]?) → (∀ k, k < j → t[k]? = t'[k]?) → Lc s t i j = Lc s' t' i j
  | 0, i, j, h, _, _ => by
    obtain ⟨rfl, rfl⟩ : i = 0 ∧ j = 0 := by omega
    rw [Lc_i0, Lc_i0]
  | N + 1, i, j, h, h1, h2 => by
    cases i with
    | zero => rw [Lc_i0, Lc_i0]
    | succ i =>
      cases j with
      | zero => rw [Lc_j0, Lc_j0]
      | succ j =>
        rw [Lc_ss, Lc_ss, h1 i (by omega), h2 j (by omega), Lc_congr N i j (by omega) (fun k hk => h1 k (by omega)) (fun k hk => h2 k (by omega)), Lc_congr N i (j + 1) (by omega) (fun k hk => h1 k (by omega)) h2, Lc_congr N (i + 1) j (by omega) h1 (fun k hk => h2 k (by omega))]
theorem keepL {H H' : Hp} {a : Addr} {xs : List V} (h : H a = some (.lst xs)) (e : Ex (noT H) H') : H' a = some (.lst xs) := e.get (noT_get h fun _ z => (by cases z))
/-- a board is made -/
theorem mk_brd {K : PySem.W.Frag} {TL : List (Addr × Str)} {H : Hp} {Q : VK} {E : XK} {s t : Str} (hs : RowS s) (ht : RowS t) (hT : LamX.Tabs TL H) (k : ∀ p H', Ex (noT H) H' → H p = none → LamX.Tabs TL H' → BrdAt K H' p s t → Q (.ref p) H') : MakeP (clsA K "Board") (sp_Board_init K TL) [] E Q [.str s, .str t] H := by
  refine st_makeP fun p dx H1 np e1 v1 => ?_
  refine ⟨p, dx, _, _, rfl, v1, hT.ext fun b o h => e1.get h, .inl ⟨s, t, rfl, rfl, hs, ht, fun H2 f2 hT2 hB => ?_⟩⟩
  refine ⟨rfl, k p H2 ?_ np hT2 hB⟩
  exact Ex.comp (M := fun b => b = p) (noT_mono e1) f2 fun b hb => by
    rw [hb]
    unfold Zb.noT
    rw [np]
def sp_asks_of (K : PySem.W.Frag) (TL : List (Addr × Str)) : Sp := fun vs H Q E => ∃ s t, vs = [.str s, .str t] ∧ RowS s ∧ RowS t ∧ LamX.Tabs TL H ∧ ∀ p H', Ex (noT H) H' → LamX.Tabs TL H' → AsksAt K H' p (brdL s t) s.length → Q (.ref p) H'
theorem ok_asks_of (T : Tx K mg ad fd tk base tc) : FnOk P w K mg base (L2.CX P w) 9 (ad 22) (fd 22) ["side", "top"] (sp_asks_of K (tabsL tc)) := by
  refine T.d_asks_of.F.okX sc_asks_of (fun vs H Q E h => ?_) (fun cdv A outer s H vs Q E hr h => ?_)
  · obtain ⟨s, t, rfl, _⟩ := h
    rfl
  · obtain ⟨s, t, rfl, hs, ht, hT, k⟩ := h
    refine ⟨_, (pss_one (ps_ret (pe_make T.m_Asks (ok_Asks_init T) (hr.mono (by decide)) rfl T.mg_Asks T.d_Asks_init.b .nil pass0 (pa_cons (pe_meth0 (pe_make T.m_Board (ok_Board_init T) (hr.mono (by decide)) rfl T.mg_Board T.d_Board_init.b .nil (passes_call (takes_of rfl rfl rfl rfl) (fun _ _ _ _ h => h)) (pa_cons (pv 0) (pa_cons (pv 1) pa_nil))) T.cl_Board T.d_Board_lines.g (ok_Board_lines T) (hr.mono (by decide)) T.d_Board_lines.b .nil pass0) (pa_cons (pe_callB (c_len (K := K)) (by rfl) T.b_len (by decide +kernel) (pa_cons (pv 0) pa_nil)) pa_nil))))), ?_⟩
    have hs1 := hs.len
    have ht1 := ht.len
    have hl := brdL_len s t
    walk_at "go"
    refine mk_brd hs ht hT fun p H1 e1 np hT1 hB => ?_
    obtain ⟨dx2, me, sg, go, gB, _⟩ := id hB.ex
    walk_at "go"
    refine ⟨p, s, t, rfl, hB, fun D H2 e2 nD v2 => ?_⟩
    walk_at "go"
    refine st_makeP fun p3 dx3 H3 np3 e3 v3 => ?_
    refine ⟨p3, dx3, .ref D, _, brdL s t, s.length, rfl, v3, rnL (e3.get v2), .inl rfl, ⟨brdL_T s t, by omega⟩, by omega, fun H4 f4 hA => ⟨rfl, ?_⟩⟩
    have e24 : Ex H2 H4 := Ex.comp (M := fun b => b = p3) e3 f4 fun b hb => by rw [hb]; exact np3
    have e4 := (e1.trans e2).trans e24
    refine k p3 H4 e4 (hT1.ext fun b o h => (e2.trans e24).get h) (hA H4 fun b o _ h => h)
def sp_lengths (K : PySem.W.Frag) : Sp := fun vs H Q E => ∃ x y, vs = [x, y] ∧ Rows2 K E H x y fun s t => ∀ p rs H', Ex H H' → rs.length = s.length + 1 → TabAt H H' p rs (lcRow s.cps.toList t.cps.toList (t.length + 1)) → Q (.ref p) H'
theorem ok_lengths (T : Tx K mg ad fd tk base tc) : FnOk P w K mg base (L2.CX P w) 5 (ad 23) (fd 23) ["side", "top"] (sp_lengths K) := by
  refine T.d_lengths.F.okX sc_lengths (fun vs H Q E h => ?_) (fun cdv A outer s H vs Q E hr h => ?_)
  · obtain ⟨x, y, rfl, _⟩ := h
    rfl
  · obtain ⟨x, y, rfl, hR⟩ := h
    refine ⟨_, (pss_cons (ps_expr (pe_call (ok_need_rows T) (hr.mono (by decide)) rfl T.d_need_rows.g T.d_need_rows.F.kp T.d_need_rows.b .nil (passes_call (takes_of rfl rfl rfl rfl) (fun _ _ _ _ h => h)) (pa_cons (pv 0) (pa_cons (pv 1) pa_nil))))
      (pss_cons (ps_set (i := 2) sc_lengths.nd rfl (Or.inl rfl) (pe_lst (pa_cons (pe_op o_mul (pe_lst (pa_cons pe_int pa_nil)) (pe_op o_add (pe_callB (c_len (K := K)) (by rfl) T.b_len (by decide +kernel) (pa_cons (pv 1) pa_nil)) pe_int)) pa_nil)))
      (pss_cons (ps_for (passes_of rfl) rfl (pi_str (pv 0)) (pg_name (i := 3) sc_lengths.nd rfl (Or.inl rfl)) (pss_cons (ps_set (i := 4) sc_lengths.nd rfl (Or.inl rfl) (pe_ix (i_ix (K := K)) (pv 2) (pe_un un_neg pe_int) (fun _ _ => rfl)))
      (pss_cons (ps_set (i := 5) sc_lengths.nd rfl (Or.inl rfl) (pe_lst (pa_cons pe_int pa_nil)))
      (pss_cons (ps_for (passes_of rfl) rfl (pi_enumS rfl T.b_enumerate (pa_cons (pv 1) pa_nil)) (pg_tup rfl (pgs_cons (pg_name (i := 6) sc_lengths.nd rfl (Or.inl rfl)) (pgs_cons (pg_name (i := 7) sc_lengths.nd rfl (Or.inl rfl)) pgs_nil))) (pss_cons (ps_set (i := 8) sc_lengths.nd rfl (Or.inl rfl) (pe_callB (c_max rfl) (by rfl) T.b_max (by decide +kernel) (pa_cons (pe_ix (i_ix (K := K)) (pv 4) (pe_op o_add (pv 6) pe_int) (fun _ _ => rfl)) (pa_cons (pe_ix (i_ix (K := K)) (pv 5) (pv 6) (fun _ _ => rfl)) pa_nil))))
      (pss_cut (ps_if (pt_cmpR (o_eq hr.units) (pv 3) (pv 7) (nomark _)) (pss_one (ps_set (i := 8) sc_lengths.nd rfl (Or.inl rfl) (pe_op o_add (pe_ix (i_ix (K := K)) (pv 4) (pv 6) (fun _ _ => rfl)) pe_int))) pss_nil)
      (pss_one (ps_expr (pe_bm PySem.F.plainAttrs_list PySem.F.slot_list_append PySem.F.type_list_append mt_append (pv 5) (pa_cons (pv 8) pa_nil)))))))
      (pss_one (ps_expr (pe_bm PySem.F.plainAttrs_list PySem.F.slot_list_append PySem.F.type_list_append mt_append (pv 2) (pa_cons (pv 5) pa_nil))))))))
      (pss_one (ps_ret (pv 2)))))), ?_⟩
    walk_at "go"
    refine ⟨x, y, rfl, hR.imp fun s t ex ey hs ht k H1 e1 => ?_⟩
    subst ex ey
    have hs1 := hs.len
    have ht1 := ht.len
    have hsl : s.cps.toList.length = s.length := Array.length_toList
    have htl : t.cps.toList.length = t.length := Array.length_toList
    walk_at "go"
    rename_i q1 G1 n1 ex1 v1 q2 G2 n2 ex2 v2 p G3 n3 ex3 v3
    have e3 : Ex H G3 := ((e1.trans ex1).trans ex2).trans ex3
    have hp0 : H p = none := Ex.free ((e1.trans ex1).trans ex2) n3
    have hq20 : H q2 = none := Ex.free (e1.trans ex1) n2
    have hv2 : G3 q2 = some (.lst (lcRow s.cps.toList t.cps.toList (t.length + 1) 0)) := by
      rw [lcRow_zero]
      have := ex3.get v2
      rw [this]
      have e : ((t.length : Int) + 1).toNat = t.length + 1 := by omega
      rw [e]
    refine for_runs (rv_str s) (fun i σ H' => Ex H H' ∧ (∃ rs, rs.length = i + 1 ∧ TabAt H H' p rs (lcRow s.cps.toList t.cps.toList (t.length + 1))) ∧ ∃ a b c d e f, σ = [some (.str s), some (.str t), some (.ref p), a, b, c, d, e, f]) ⟨e3, ⟨[q2], rfl, hp0, v3, ?_, by simp, ?_, ?_⟩, _, _, _, _, _, _, rfl⟩ (fun _ _ _ _ _ => trivial) ?_ ?_
    · intro h
      rw [List.mem_singleton] at h
      rw [h, v2] at n3
      cases n3
    · intro r h
      rw [List.mem_singleton.mp h]
      exact hq20
    · intro k' r h
      cases k' with
      | zero => cases h; exact hv2
      | succ k' => simp at h
    · rintro i x σ H2 H2' hi ⟨e2, ⟨rs, hrs, T2⟩, a, b, c, d, e', f, rfl⟩ ⟨rfl, y, hy, rfl⟩
      have hlast : ∃ r, rs[i]? = some r := ⟨rs[i]'(by omega), List.getElem?_eq_getElem _⟩
      obtain ⟨r, hr0⟩ := hlast
      have hat : atI (rs.map V.ref) (-1) = some (V.ref r) := by
        unfold atI ixN
        rw [if_neg (by decide), List.length_map, hrs, if_pos (by omega)]
        show (rs.map V.ref)[(-1 + ((i + 1 : Nat) : Int)).toNat]? = _
        have e : (-1 + ((i + 1 : Nat) : Int)).toNat = i := by omega
        rw [e, List.getElem?_map, hr0]
        rfl
      walk_at "go"
      refine st_ixL T2.at_ hat ?_
      walk_at "go"
      rename_i q G4 nq e4 vq
      have habove : H2' r = some (.lst (lcRow s.cps.toList t.cps.toList (t.length + 1) i)) := T2.rows i r hr0
      refine for_runs (runs_enumS t) (fun j σ H' => Ex H2' H' ∧ H' q = some (.lst (lcRow s.cps.toList t.cps.toList (j + 1) (i + 1))) ∧ ∃ d e f, σ = [some (.str s), some (.str t), some (.ref p), some (.str (tx [y])), some (.ref r), some (.ref q), d, e, f]) ⟨e4, ?_, _, _, _, rfl⟩ (fun _ _ _ _ _ => trivial) ?_ ?_
      · rw [vq]
        show _ = some (HO.lst [V.int ((Lc _ _ (i + 1) 0 : Nat) : Int)])
        rw [Lc_j0]
        rfl
      · rintro j x σ H5 H6 hj ⟨e5, hq5, d', e'', f', rfl⟩ ⟨T, c', rfl, hT, e6, vT, hc'⟩
        have hab6 : H6 r = some (.lst (lcRow s.cps.toList t.cps.toList (t.length + 1) i)) := e6.get (e5.get habove)
        have hq6 := e6.get hq5
        walk_at "go"
        refine st_ixL hab6 (lcRow_atI (j := j + 1) (by omega)) ?_
        walk_at "go"
        refine st_ixL hq6 (lcRow_atI (j := j) (by omega)) ?_
        walk_at "go"
        have fin : ∀ m : Nat, m = Lc s.cps.toList t.cps.toList (i + 1) (j + 1) → ∃ d e f : Option V, True ∧ Ex H2' (upd H6 q (.lst (lcRow s.cps.toList t.cps.toList (j + 1) (i + 1) ++ [V.int (m : Int)]))) ∧ (upd H6 q (.lst (lcRow s.cps.toList t.cps.toList (j + 1) (i + 1) ++ [V.int (m : Int)]))) q = some (.lst (lcRow s.cps.toList t.cps.toList (j + 1 + 1) (i + 1))) := fun m hm =>
          ⟨none, none, none, trivial, (e5.trans e6).mut nq, by rw [upd_same, lcRow_more s.cps.toList t.cps.toList (j + 1), hm]⟩
        have hsij : s.cps.toList[i]? = some y := hy
        refine ⟨fun σ' H' => H' = H6 ∧ ∃ m : Nat, m = Lc s.cps.toList t.cps.toList (i + 1) (j + 1) ∧ σ' = [some (.str s), some (.str t), some (.ref p), some (.str (tx [y])), some (.ref r), some (.ref q), some (.int (j : Nat)), some (.str (tx [c'])), some (.int (m : Int))], ?_, ?_⟩
        · refine st_ifS ?_
          walk_at "go"
          have m1 := Lc_ri1 s.cps.toList t.cps.toList i j
          have m2 := Lc_up1 s.cps.toList t.cps.toList i j
          refine st_br2 (fun cc => ?_) (fun cc => ?_)
          · rw [tx_inj] at cc
            have hyc : y = c' := by simpa using cc
            walk_at "go"
            refine st_ixL hab6 (lcRow_atI (j := j) (by omega)) ?_
            walk_at "go"
            refine ⟨rfl, Lc s.cps.toList t.cps.toList i j + 1, ?_, by simp⟩
            rw [Lc_ss, if_pos (by rw [hsij, hc', hyc])]
          · have hyc : y ≠ c' := fun e => cc (by rw [e])
            walk_at "go"
            refine ⟨rfl, Lc s.cps.toList t.cps.toList (i + 1) (j + 1), rfl, ?_⟩
            have e1 : ((Lc s.cps.toList t.cps.toList (i + 1) (j + 1) : Nat) : Int) = if ((Lc s.cps.toList t.cps.toList (i + 1) j : Nat) : Int) > ((Lc s.cps.toList t.cps.toList i (j + 1) : Nat) : Int) then ((Lc s.cps.toList t.cps.toList (i + 1) j : Nat) : Int) else ((Lc s.cps.toList t.cps.toList i (j + 1) : Nat) : Int) := by
              rw [Lc_ss, if_neg (by rw [hsij, hc']; simpa using hyc)]
              split <;> omega
            rw [e1]
            rfl
        · rintro σ' H' ⟨rfl, m, hm, rfl⟩
          walk_at "go"
          refine st_app hq6 (by rw [lcRow_len]; omega) ?_
          obtain ⟨_, _, _, _, f1, f2⟩ := fin m hm
          exact ⟨f1, f2, _, _, _, rfl⟩
      · rintro σ H5 ⟨e5, hq5, d', e'', f', rfl⟩
        have T5 := T2.ex e5
        have h5at := T5.at_
        walk_at "go"
        refine st_app T5.at_ (by rw [List.length_map]; omega) ?_
        have hqp : q ≠ p := fun z => by rw [z, T2.at_] at nq; cases nq
        have hqr : q ∉ rs := fun z => by
          obtain ⟨k', hk'⟩ := List.getElem?_of_mem z
          rw [T2.rows k' q hk'] at nq
          cases nq
        refine ⟨(e2.trans e5).mut T2.new, ⟨rs ++ [q], by simp [hrs], T2.new, by rw [upd_same]; simp, ?_, ?_, ?_, ?_⟩, _, _, _, _, _, _, rfl⟩
        · rw [List.mem_append, List.mem_singleton]
          rintro (h | h)
          · exact T2.non h
          · exact hqp h.symm
        · rw [List.nodup_append]
          exact ⟨T2.nd, by simp, fun a ha b hb => by rw [List.mem_singleton.mp hb]; exact fun z => hqr (z ▸ ha)⟩
        · intro r' h
          rcases List.mem_append.mp h with h | h
          · exact T2.news r' h
          · rw [List.mem_singleton.mp h]; exact Ex.free e2 nq
        · intro k' r' h
          have hne : r' ≠ p := by
            intro z
            rw [List.getElem?_append] at h
            split at h
            · exact T2.non (z ▸ List.mem_of_getElem? h)
            · have := List.mem_of_getElem? h
              rw [List.mem_singleton] at this
              exact hqp (this ▸ z)
          rw [upd_ne hne]
          by_cases hk : k' < rs.length
          · rw [List.getElem?_append_left hk] at h
            exact T5.rows k' r' h
          · rw [List.getElem?_append_right (by omega)] at h
            have hk2 : k' - rs.length = 0 := by
              by_cases z : k' - rs.length = 0
              · exact z
              · rw [List.getElem?_eq_none (by simp; omega)] at h; cases h
            rw [hk2] at h
            cases h
            have : k' = i + 1 := by omega
            rw [this]
            exact hq5
    · rintro σ H2 ⟨e2, ⟨rs, hrs, T2⟩, a, b, c, d, e', f, rfl⟩
      walk_at "go"
      exact k p rs H2 e2 (by omega) T2
def sp_thread_of (K : PySem.W.Frag) : Sp := fun vs H Q E => ∃ x y, vs = [x, y] ∧ Rows2 K E H x y fun s t => ∀ p (zs : List ZP) H', Ex H H' → H p = none → H' p = some (.lst (zs.map zV)) → TP H' zs → zs.map (·.2) = thr s.cps.toList t.cps.toList s.length t.length → Q (.ref p) H'
theorem ok_thread_of (T : Tx K mg ad fd tk base tc) : FnOk P w K mg base (L2.CX P w) 6 (ad 24) (fd 24) ["side", "top"] (sp_thread_of K) := by
  refine T.d_thread_of.F.okX sc_thread_of (fun vs H Q E h => ?_) (fun cdv A outer s H vs Q E hr h => ?_)
  · obtain ⟨x, y, rfl, _⟩ := h
    rfl
  · obtain ⟨x, y, rfl, hR⟩ := h
    refine ⟨_, (pss_cons (ps_set (i := 2) sc_thread_of.nd rfl (Or.inl rfl) (pe_call (ok_lengths T) (hr.mono (by decide)) rfl T.d_lengths.g T.d_lengths.F.kp T.d_lengths.b .nil (passes_call (takes_of rfl rfl rfl rfl) (fun _ _ _ _ h => h)) (pa_cons (pv 0) (pa_cons (pv 1) pa_nil))))
      (pss_cons (ps_set (i := 3) sc_thread_of.nd rfl (Or.inl rfl) (pe_callB (c_len (K := K)) (by rfl) T.b_len (by decide +kernel) (pa_cons (pv 0) pa_nil)))
      (pss_cons (ps_set (i := 4) sc_thread_of.nd rfl (Or.inl rfl) (pe_callB (c_len (K := K)) (by rfl) T.b_len (by decide +kernel) (pa_cons (pv 1) pa_nil)))
      (pss_cons (ps_set (i := 5) sc_thread_of.nd rfl (Or.inl rfl) (pe_lst pa_nil))
      (pss_cons (ps_while (passes_of rfl) (PW.pt (pw_and (pt_cmpR o_gt (pv 3) pe_int (nomark _)) (pw_and1 (pt_cmpR o_gt (pv 4) pe_int (nomark _))))) (pss_one (ps_if (pt_cmpR (o_eq hr.units) (pe_ix (i_ix (K := K)) (pe_ix (i_ix (K := K)) (pv 2) (pv 3) (fun _ _ => rfl)) (pv 4) (fun _ _ => rfl)) (pe_ix (i_ix (K := K)) (pe_ix (i_ix (K := K)) (pv 2) (pe_op o_sub (pv 3) pe_int) (fun _ _ => rfl)) (pv 4) (fun _ _ => rfl)) (nomark _)) (pss_one (ps_aug (i := 3) sc_thread_of.nd rfl (Or.inl rfl) pe_int ip_sub)) (pss_one (ps_if (pt_cmpR (o_eq hr.units) (pe_ix (i_ix (K := K)) (pe_ix (i_ix (K := K)) (pv 2) (pv 3) (fun _ _ => rfl)) (pv 4) (fun _ _ => rfl)) (pe_ix (i_ix (K := K)) (pe_ix (i_ix (K := K)) (pv 2) (pv 3) (fun _ _ => rfl)) (pe_op o_sub (pv 4) pe_int) (fun _ _ => rfl)) (nomark _)) (pss_one (ps_aug (i := 4) sc_thread_of.nd rfl (Or.inl rfl) pe_int ip_sub)) (pss_cons (ps_aug (i := 3) sc_thread_of.nd rfl (Or.inl rfl) pe_int ip_sub)
      (pss_cons (ps_aug (i := 4) sc_thread_of.nd rfl (Or.inl rfl) pe_int ip_sub)
      (pss_one (ps_expr (pe_bm PySem.F.plainAttrs_list PySem.F.slot_list_append PySem.F.type_list_append mt_append (pv 5) (pa_cons (pe_tup (pa_cons (pv 3) (pa_cons (pv 4) pa_nil))) pa_nil)))))))))))
      (pss_one (ps_ret (pe_slice3 (pv 5) po_none po_none (pe_un un_neg pe_int) (K := K))))))))), ?_⟩
    walk_at "go"
    refine ⟨x, y, rfl, hR.imp fun s t ex ey hs ht k p rs H1 e1 hrs T1 => ?_⟩
    subst ex ey
    have hs1 := hs.len
    have ht1 := ht.len
    have hsl : s.cps.toList.length = s.length := Array.length_toList
    have htl : t.cps.toList.length = t.length := Array.length_toList
    walk_at "go"
    rename_i f G2 n2 e2 v2
    have T2 := T1.ex e2
    generalize hS : s.cps.toList = S at *
    generalize hT : t.cps.toList = T0 at *
    refine while_inv (fun m σ H' => ∃ (n j : Nat) (zs : List ZP), m = n + j ∧ n ≤ s.length ∧ j ≤ t.length ∧ Ex H1 H' ∧ H' f = some (.lst (zs.map zV)) ∧ TP H' zs ∧ zs.length ≤ s.length - n ∧ thr S T0 s.length t.length = thr S T0 n j ++ (zs.map (·.2)).reverse ∧ σ = [some (.str s), some (.str t), some (.ref p), some (.int (n : Nat)), some (.int (j : Nat)), some (.ref f)]) ⟨s.length + t.length, s.length, t.length, [], rfl, Nat.le_refl _, Nat.le_refl _, e2, v2, (fun _ h => nomatch h), by simp, by simp, rfl⟩ ?_
    rintro m σ H3 ⟨n, j, zs, rfl, hn, hj, e3, hf, tp, hzl, hthr, rfl⟩
    have T3 := T1.ex e3
    have hHf : H1 f = none := n2
    -- the end
    have done_ : n = 0 ∨ j = 0 → ∀ H', Ex H1 H' → ∀ q, H' q = some (.lst (zs.map zV).reverse) → H q = none → TP H' zs → Q (.ref q) H' := fun h H' e q hq hn tp => by
      have h0 : thr S T0 n j = [] := by
        rcases h with h | h
        · rw [h, thr_i0]
        · rw [h, thr_j0]
      rw [h0, List.nil_append] at hthr
      refine k q zs.reverse H' (e1.trans e) hn (by rw [hq, List.map_reverse]) (tp.perm (List.reverse_perm _)) ?_
      rw [hthr, List.map_reverse]
    walk_at "go"
    refine st_br2 (fun c => ?_) (fun c => ?_)
    rotate_left
    · refine wh_F rfl ?_
      walk_at "go"
      refine st_revL (lstAt_sq (lst_of hf)) ?_
      walk_at "nw"
      rename_i q G3 n3 e4 v4
      exact done_ (.inl (by omega)) _ (e3.trans e4) _ v4 (Ex.free (e1.trans e3) n3) (tp.ex e4)
    walk_at "go"
    by_cases cj : 0 < j
    rotate_left
    · refine wh_F (decide_eq_false (by omega)) ?_
      walk_at "go"
      refine st_revL (lstAt_sq (lst_of hf)) ?_
      walk_at "nw"
      rename_i q G3 n3 e4 v4
      exact done_ (.inr (by omega)) _ (e3.trans e4) _ v4 (Ex.free (e1.trans e3) n3) (tp.ex e4)
    refine wh_T (decide_eq_true (by omega)) ?_
    obtain ⟨n', rfl⟩ : ∃ n', n = n' + 1 := ⟨n - 1, by omega⟩
    obtain ⟨j', rfl⟩ : ∃ j', j = j' + 1 := ⟨j - 1, by omega⟩
    have row : ∀ i, i ≤ s.length → ∃ r, rs[i]? = some r ∧ atI (rs.map V.ref) (i : Nat) = some (.ref r) ∧ H3 r = some (.lst (lcRow S T0 (t.length + 1) i)) := fun i hi => by
      obtain ⟨r, hr⟩ : ∃ r, rs[i]? = some r := ⟨rs[i]'(by omega), List.getElem?_eq_getElem _⟩
      exact ⟨r, hr, at_mapN hr, T3.rows _ _ hr⟩
    obtain ⟨r1, _, r1a, r1v⟩ := row (n' + 1) hn
    obtain ⟨r0, _, r0a, r0v⟩ := row n' (by omega)
    have c1 : (((n' + 1 : Nat) : Int) - 1) = (n' : Nat) := by omega
    have c2 : (((j' + 1 : Nat) : Int) - 1) = (j' : Nat) := by omega
    walk_at "go"
    refine st_ixL T3.at_ r1a ?_
    walk_at "go"
    refine st_ixL r1v (lcRow_atI (by omega)) ?_
    walk_at "go"
    refine st_ixL T3.at_ (by rw [c1]; exact r0a) ?_
    walk_at "go"
    refine st_ixL r0v (lcRow_atI (by omega)) ?_
    walk_at "go"
    refine st_br2 (fun e => ?_) (fun e => ?_)
    · have e : Lc S T0 (n' + 1) (j' + 1) = Lc S T0 n' (j' + 1) := by omega
      walk_at "go"
      refine ⟨n' + (j' + 1), by omega, n', j' + 1, zs, rfl, by omega, hj, e3, hf, tp, by omega, ?_, ?_⟩
      · rw [hthr, thr_ss, if_pos e]
      · rw [← c1]; rfl
    · have e : ¬ Lc S T0 (n' + 1) (j' + 1) = Lc S T0 n' (j' + 1) := by omega
      walk_at "go"
      refine st_ixL T3.at_ r1a ?_
      walk_at "go"
      refine st_ixL r1v (lcRow_atI (by omega)) ?_
      walk_at "go"
      refine st_ixL T3.at_ r1a ?_
      walk_at "go"
      refine st_ixL r1v (by rw [c2]; exact lcRow_atI (by omega)) ?_
      walk_at "go"
      refine st_br2 (fun e2 => ?_) (fun e2 => ?_)
      · have e2 : Lc S T0 (n' + 1) (j' + 1) = Lc S T0 (n' + 1) j' := by omega
        walk_at "go"
        refine ⟨(n' + 1) + j', by omega, n' + 1, j', zs, rfl, hn, by omega, e3, hf, tp, hzl, ?_, ?_⟩
        · rw [hthr, thr_ss, if_neg e, if_pos e2]
        · rw [← c2]; rfl
      · have e2 : ¬ Lc S T0 (n' + 1) (j' + 1) = Lc S T0 (n' + 1) j' := by omega
        walk_at "go"
        rename_i w G5 n5 e5 v5
        refine st_app (e5.get hf) (by rw [List.length_map]; omega) ?_
        refine ⟨n' + j', by omega, n', j', zs ++ [(w, (n', j'))], rfl, by omega, by omega, (e3.trans e5).mut hHf, by rw [upd_same, List.map_append]; rfl, ?_, by rw [List.length_append, List.length_singleton]; omega, ?_, ?_⟩
        · refine TP.up (TP.app (tp.ex e5) ?_) (e5.get hf)
          intro z hz
          rw [List.mem_singleton.mp hz, v5, c1, c2]
          rfl
        · rw [hthr, thr_ss, if_neg e, if_neg e2, List.map_append, List.reverse_append, List.append_assoc]
          rfl
        · rw [← c1, ← c2]; rfl
theorem objs_ntup {H : Hp} {p : Addr} {ts : List Addr} {qs : List (Nat × Nat)} {xs : List V} (h : ObjsAt H ts (qs.map tupO)) (hp : H p = some (.lst xs)) : p ∉ ts := fun z => by
  obtain ⟨k, hk⟩ := List.getElem?_of_mem z
  have hk2 : k < (qs.map tupO).length := by rw [← h.len]; exact (List.getElem?_eq_some_iff.mp hk).1
  have := h.at k _ _ hk (List.getElem?_eq_getElem hk2)
  rw [hp, List.getElem_map] at this
  cases this
/-- the pairs of sign i, of the signs ahead of n -/
def prRow (s t : List Nat) (i : Nat) : List (Nat × Nat) := match s[i]? with
  | some c => (posOf c t).map fun j => (i, j)
  | none => []
def prs (s t : List Nat) (n : Nat) : List (Nat × Nat) := (List.range n).flatMap (prRow s t)
theorem prs_zero (s t : List Nat) : prs s t 0 = [] := rfl
theorem prs_succ (s t : List Nat) (n : Nat) : prs s t (n + 1) = prs s t n ++ prRow s t n := by
  unfold prs
  rw [List.range_succ, List.flatMap_append]
  simp
theorem posOf_len (c : Nat) (l : List Nat) : (posOf c l).length ≤ l.length := by
  have := List.length_filter_le (fun j => decide (l[j]? = some c)) (List.range l.length)
  rw [List.length_range] at this
  exact this
theorem prRow_len (s t : List Nat) (i : Nat) : (prRow s t i).length ≤ t.length := by
  unfold prRow
  split
  · rw [List.length_map]; exact posOf_len _ _
  · exact Nat.zero_le _
theorem prs_len (s t : List Nat) (n : Nat) : (prs s t n).length ≤ n * t.length := by
  induction n with
  | zero => simp [prs_zero]
  | succ n ih =>
    rw [prs_succ, List.length_append, Nat.succ_mul]
    have := prRow_len s t n
    omega
theorem posOf_mem {c j : Nat} {l : List Nat} : j ∈ posOf c l ↔ l[j]? = some c := by
  unfold posOf
  rw [List.mem_filter, List.mem_range, decide_eq_true_eq]
  constructor
  · exact fun h => h.2
  · exact fun h => ⟨(List.getElem?_eq_some_iff.mp h).1, h⟩
theorem prRow_mem {s t : List Nat} {i : Nat} {q : Nat × Nat} : q ∈ prRow s t i ↔ q.1 = i ∧ ∃ c, s[i]? = some c ∧ t[q.2]? = some c := by
  obtain ⟨a, b⟩ := q
  unfold prRow
  cases h : s[i]? with
  | none => simp
  | some c =>
    simp only [List.mem_map, posOf_mem, Prod.mk.injEq, Option.some.injEq]
    constructor
    · rintro ⟨j, h1, h2, h3⟩
      exact ⟨h2.symm, c, rfl, by rw [← h3]; exact h1⟩
    · rintro ⟨h1, c', h2, h3⟩
      exact ⟨b, by rw [h2]; exact h3, h1.symm, rfl⟩
theorem prs_mem {s t : List Nat} {n : Nat} {q : Nat × Nat} : q ∈ prs s t n ↔ q.1 < n ∧ ∃ c, s[q.1]? = some c ∧ t[q.2]? = some c := by
  unfold prs
  rw [List.mem_flatMap]
  constructor
  · rintro ⟨i, hi, h⟩
    rw [List.mem_range] at hi
    obtain ⟨h1, h2⟩ := prRow_mem.mp h
    rw [h1]
    exact ⟨hi, h2⟩
  · rintro ⟨h1, h2⟩
    exact ⟨q.1, List.mem_range.mpr h1, prRow_mem.mpr ⟨rfl, h2⟩⟩
/-- the list at p of tuples at ts: these pairs -/
structure PairsAt (H0 H : Hp) (p : Addr) (ts : List Addr) (qs : List (Nat × Nat)) : Prop where
  new : H0 p = none
  at_ : H p = some (.lst (ts.map V.ref))
  tups : ObjsAt H ts (qs.map tupO)
def sp_pairs_of (K : PySem.W.Frag) : Sp := fun vs H Q E => ∃ x y, vs = [x, y] ∧ Rows2 K E H x y fun s t => ∀ p ts H', Ex H H' → PairsAt H H' p ts (prs s.cps.toList t.cps.toList s.length) → Q (.ref p) H'
theorem ok_pairs_of (T : Tx K mg ad fd tk base tc) : FnOk P w K mg base (L2.CX P w) 5 (ad 25) (fd 25) ["side", "top"] (sp_pairs_of K) := by
  refine T.d_pairs_of.F.okX sc_pairs_of (fun vs H Q E h => ?_) (fun cdv A outer s H vs Q E hr h => ?_)
  · obtain ⟨x, y, rfl, _⟩ := h
    rfl
  · obtain ⟨x, y, rfl, hR⟩ := h
    refine ⟨_, (pss_cons (ps_expr (pe_call (ok_need_rows T) (hr.mono (by decide)) rfl T.d_need_rows.g T.d_need_rows.F.kp T.d_need_rows.b .nil (passes_call (takes_of rfl rfl rfl rfl) (fun _ _ _ _ h => h)) (pa_cons (pv 0) (pa_cons (pv 1) pa_nil))))
      (pss_cons (ps_set (i := 2) sc_pairs_of.nd rfl (Or.inl rfl) (pe_call (ok_places_of T) (hr.mono (by decide)) rfl T.d_places_of.g T.d_places_of.F.kp T.d_places_of.b .nil (passes_call (takes_of rfl rfl rfl rfl) (fun _ _ _ _ h => h)) (pa_cons (pv 1) pa_nil)))
      (pss_cons (ps_set (i := 3) sc_pairs_of.nd rfl (Or.inl rfl) (pe_lst pa_nil))
      (pss_cons (ps_for (passes_of rfl) rfl (pi_enumS rfl T.b_enumerate (pa_cons (pv 0) pa_nil)) (pg_tup rfl (pgs_cons (pg_name (i := 4) sc_pairs_of.nd rfl (Or.inr rfl)) (pgs_cons (pg_name (i := 5) sc_pairs_of.nd rfl (Or.inl rfl)) pgs_nil))) (pss_one (ps_expr (pe_bm PySem.F.plainAttrs_list PySem.F.slot_list_extend PySem.F.type_list_extend mt_extend (pv 3) (pa_cons (pe_lc (own := [("j", 6)]) (g := gName 6) rfl sc_pairs_of.nd (pi_list (pe_dget2 (hu_of hr) (pv 2) (pv 5) (pe_lst pa_nil) ⟨rfl, rfl, rfl, rfl⟩)) (blkOk_by (own := [("j", 6)]) (N := N_pairs_of) (sc := defScope s_pairs_of) (by decide +kernel)) (fun _ _ _ _ _ => pg_name (i := 6) sc_pairs_of.nd rfl (Or.inl rfl)) (fun _ _ _ _ _ => pts_nil) (fun _ _ _ _ _ => (pe_tup (pa_cons (pv 4) (pa_cons (pv 6) pa_nil))))) pa_nil)))))
      (pss_one (ps_ret (pv 3))))))), ?_⟩
    walk_at "go"
    refine ⟨x, y, rfl, hR.imp fun s t ex ey hs ht k H1 e1 => ?_⟩
    subst ex ey
    have hs1 := hs.len
    have ht1 := ht.len2
    have hsl : s.cps.toList.length = s.length := Array.length_toList
    walk_at "go"
    refine ⟨.str t, rfl, .inl ⟨t, rfl, ht, fun d rs H2 e2 P => ?_⟩⟩
    walk_at "go"
    rename_i p G3 n3 e3 v3
    have e13 := (e1.trans e2).trans e3
    have hp0 : H p = none := Ex.free (e1.trans e2) n3
    refine for_runs (runs_enumS s) (fun i σ H' => Ex H2 H' ∧ (∃ ts, PairsAt H H' p ts (prs s.cps.toList t.cps.toList i)) ∧ ∃ a b c, σ = [some (.str s), some (.str t), some (.ref d), some (.ref p), a, b, c]) ⟨e3, ⟨[], hp0, v3, .nil⟩, _, _, _, rfl⟩ (fun _ _ _ _ _ => trivial) ?_ ?_
    · rintro i x σ H' H'' hi ⟨e, ⟨ts, PA⟩, a, b, c0, rfl⟩ ⟨T, c, rfl, hT, eT, vT, hc⟩
      have hd : H'' d = _ := eT.get (e.get P.at_)
      have rows := (P.rows.ex e).ex eT
      have hp' : H'' p = _ := eT.get PA.at_
      walk_at "go"
      rename_i q G4 n4 e4 v4
      have hd4 := e4.get hd
      refine st_dget2P (k := Sum.inr (tx [c])) hd4 ?_
      have hrow : prRow s.cps.toList t.cps.toList i = (posOf c t.cps.toList).map fun j => (i, j) := by unfold prRow; rw [hc]
      obtain ⟨r, hr, hr2⟩ : ∃ r, (valV (((firsts t.cps.toList).zip rs).map fun q => ((Sum.inr (tx [q.1]) : Key), V.ref q.2)) (Sum.inr (tx [c]))).getD (.ref q) = .ref r ∧ G4 r = some (.lst ((posOf c t.cps.toList).map fun (j : Nat) => V.int j)) := by
        by_cases z : c ∈ firsts t.cps.toList
        · obtain ⟨kx, hkx⟩ := List.getElem?_of_mem z
          have hkl : kx < rs.length := by rw [P.len]; exact (List.getElem?_eq_some_iff.mp hkx).1
          refine ⟨rs[kx], ?_, ?_⟩
          · rw [places_get P.len (firsts_nodup _) hkx (List.getElem?_eq_getElem hkl)]; rfl
          · exact e4.get (rows.at kx _ _ (List.getElem?_eq_getElem hkl) (by rw [List.getElem?_map, hkx]; rfl))
        · refine ⟨q, by rw [places_none z]; rfl, ?_⟩
          rw [v4]
          have : posOf c t.cps.toList = [] := by
            unfold posOf
            rw [List.filter_eq_nil_iff]
            intro j hj w
            exact z ((firsts_mem _ _).mpr (List.mem_of_getElem? (of_decide_eq_true w)))
          rw [this]
          rfl
      rw [hr]
      walk_at "go"
      refine lc_objs0 (rv_list K r (posOf c t.cps.toList) fun (j : Nat) => V.int j) (fun H' e => lst_of (e.get hr2)) (by have := posOf_len c t.cps.toList; omega) (fun j => tupO (i, j)) ?_ ?_
      · intro j H5 hj e5 B h1
        refine ⟨rfl, ?_⟩
        walk_at "go"
        rename_i T5 G5 n5 e6 v5
        exact h1 T5 G5 n5 e6 v5
      · intro D H5 us hD e5 hd5 tups nd nn news
        have ee : Ex H'' H5 := e4.trans e5
        have hpl := prs_len s.cps.toList t.cps.toList i
        have hpl2 : (prs s.cps.toList t.cps.toList i).length ≤ 48 * 48 := Nat.le_trans hpl (Nat.mul_le_mul (by omega) ht1)
        have l1 := PA.tups.len
        have l2 := tups.len
        have l3 := posOf_len c t.cps.toList
        rw [List.length_map] at l1 l2
        walk_at "go"
        refine st_ext (ee.get hp') hd5 (by rw [List.length_map, List.length_map]; omega) ?_
        have hp5 : H5 p = some (.lst (ts.map V.ref)) := ee.get hp'
        have t1 : ObjsAt H5 (ts ++ us) ((prs s.cps.toList t.cps.toList (i + 1)).map tupO) := by
          rw [prs_succ, List.map_append, hrow, List.map_map]
          exact ((PA.tups.ex eT).ex ee).app tups
        refine ⟨((e.trans eT).trans ee).mut n3, ⟨ts ++ us, hp0, by rw [upd_same, List.map_append], .up (objs_ntup t1 hp5) t1⟩, _, _, _, rfl⟩
    · rintro σ H' ⟨e, ⟨ts, PA⟩, a, b, c, rfl⟩
      walk_at "go"
      exact k p ts H' ((e1.trans e2).trans e) PA
/-- a pair lies below the end -/
theorem Lc_pair {s t : List Nat} {n m : Nat} {q : Nat × Nat} (h : q.1 < n ∧ ∃ c, s[q.1]? = some c ∧ t[q.2]? = some c) (hm : t.length ≤ m) : Lc s t q.1 q.2 < Lc s t n m := by
  obtain ⟨h1, c, h2, h3⟩ := h
  have h4 : q.2 < t.length := (List.getElem?_eq_some_iff.mp h3).1
  have e : Lc s t (q.1 + 1) (q.2 + 1) = Lc s t q.1 q.2 + 1 := by rw [Lc_ss, if_pos (by rw [h2, h3])]
  have := Lc_mono s t (i := q.1 + 1) (i' := n) (j := q.2 + 1) (j' := m) (by omega) (by omega)
  omega
/-- the pairs among qs that end a longest thread of l more -/
def lev (s t : List Nat) (qs : List (Nat × Nat)) (l : Nat) : List (Nat × Nat) := qs.filter fun q => decide (Lc s t q.1 q.2 = l)
theorem lev_snoc (s t : List Nat) (qs : List (Nat × Nat)) (q : Nat × Nat) (l : Nat) : lev s t (qs ++ [q]) l = lev s t qs l ++ (if Lc s t q.1 q.2 = l then [q] else []) := by
  unfold lev
  rw [List.filter_append]
  congr 1
  by_cases h : Lc s t q.1 q.2 = l
  · rw [if_pos h, List.filter_cons_of_pos (by simpa using h), List.filter_nil]
  · rw [if_neg h, List.filter_cons_of_neg (by simpa using h), List.filter_nil]
/-- the list at d of lists at hs of tuples at tss: these pairs, heap by heap -/
structure HeapsAt (H0 H : Hp) (d : Addr) (hs : List Addr) (tss : List (List Addr)) (n : Nat) (lv : Nat → List (Nat × Nat)) : Prop where
  new : H0 d = none
  at_ : H d = some (.lst (hs.map V.ref))
  len : tss.length = n
  rows : ObjsAt H hs (tss.map fun ts => .lst (ts.map V.ref))
  nd : hs.Nodup
  non : d ∉ hs
  news : ∀ h ∈ hs, H0 h = none
  tups : ∀ l ts, tss[l]? = some ts → ObjsAt H ts ((lv l).map tupO)
theorem HeapsAt.ex {H0 H H' : Hp} {d : Addr} {hs : List Addr} {tss : List (List Addr)} {n : Nat} {lv : Nat → List (Nat × Nat)} (h : HeapsAt H0 H d hs tss n lv) (e : Ex H H') : HeapsAt H0 H' d hs tss n lv :=
  ⟨h.new, e.get h.at_, h.len, h.rows.ex e, h.nd, h.non, h.news, fun l ts h1 => (h.tups l ts h1).ex e⟩
/-- one more pair, q, as the tuple at T, into its heap -/
theorem HeapsAt.put {H0 H : Hp} {d : Addr} {hs : List Addr} {tss : List (List Addr)} {n : Nat} {s t : List Nat} {qs : List (Nat × Nat)} {q : Nat × Nat} {T r : Addr} {ts : List Addr} (h : HeapsAt H0 H d hs tss n (lev s t qs)) (hT : H T = some (tupO q)) (hr : hs[Lc s t q.1 q.2]? = some r) (hts : tss[Lc s t q.1 q.2]? = some ts) :
    HeapsAt H0 (upd H r (.lst (ts.map V.ref ++ [V.ref T]))) d hs (tss.set (Lc s t q.1 q.2) (ts ++ [T])) n (lev s t (qs ++ [q])) := by
  have hrm := List.mem_of_getElem? hr
  have hrd : d ≠ r := fun z => h.non (z ▸ hrm)
  have hrr := h.rows.at _ _ _ hr (by rw [List.getElem?_map, hts]; rfl)
  have hTr : T ≠ r := fun z => by
    rw [z, hrr] at hT
    cases hT
  refine ⟨h.new, by rw [upd_ne hrd]; exact h.at_, by rw [List.length_set]; exact h.len, ?_, h.nd, h.non, h.news, ?_⟩
  · have := h.rows.set (u := .lst (ts.map V.ref ++ [V.ref T])) h.nd hr
    rw [List.map_set, List.map_append]
    exact this
  · intro l us hl
    rw [lev_snoc, List.map_append]
    by_cases e : l = Lc s t q.1 q.2
    · subst e
      rw [List.getElem?_set_self (List.getElem?_eq_some_iff.mp hts).1] at hl
      cases hl
      rw [if_pos rfl]
      refine ObjsAt.app (.up (objs_ntup (h.tups _ _ hts) hrr) (h.tups _ _ hts)) (.one ?_)
      rw [upd_ne hTr]
      exact hT
    · rw [List.getElem?_set_ne (Ne.symm e)] at hl
      rw [if_neg (Ne.symm e), List.map_nil, List.append_nil]
      exact .up (objs_ntup (h.tups _ _ hl) hrr) (h.tups _ _ hl)
theorem HeapsAt.mut {H0 H H' : Hp} {d : Addr} {hs : List Addr} {tss : List (List Addr)} {n : Nat} {lv : Nat → List (Nat × Nat)} (h : HeapsAt H0 H d hs tss n lv) (e : Ex H0 H') {r : Addr} {o : HO} (hr : r ∈ hs) : Ex H0 (upd H' r o) := e.mut (h.news r hr)
def sp_heaps_of (K : PySem.W.Frag) : Sp := fun vs H Q E => ∃ x y, vs = [x, y] ∧ Rows2 K E H x y fun s t => ∀ d hs tss H', Ex H H' → HeapsAt H H' d hs tss (Lc s.cps.toList t.cps.toList s.length t.length) (lev s.cps.toList t.cps.toList (prs s.cps.toList t.cps.toList s.length)) → Q (.ref d) H'
theorem ok_heaps_of (T : Tx K mg ad fd tk base tc) : FnOk P w K mg base (L2.CX P w) 6 (ad 26) (fd 26) ["side", "top"] (sp_heaps_of K) := by
  refine T.d_heaps_of.F.okX sc_heaps_of (fun vs H Q E h => ?_) (fun cdv A outer s H vs Q E hr h => ?_)
  · obtain ⟨x, y, rfl, _⟩ := h
    rfl
  · obtain ⟨x, y, rfl, hR⟩ := h
    refine ⟨_, (pss_cons (ps_set (i := 2) sc_heaps_of.nd rfl (Or.inl rfl) (pe_call (ok_lengths T) (hr.mono (by decide)) rfl T.d_lengths.g T.d_lengths.F.kp T.d_lengths.b .nil (passes_call (takes_of rfl rfl rfl rfl) (fun _ _ _ _ h => h)) (pa_cons (pv 0) (pa_cons (pv 1) pa_nil))))
      (pss_cons (ps_setLc (i := 3) (own := [("k", 6)]) (g := gName 6) rfl sc_heaps_of.nd rfl rfl (sw_true rfl rfl rfl (by decide +kernel)) (pi_range1 rfl T.b_range (pa_cons (pe_ix (i_ix (K := K)) (pe_ix (i_ix (K := K)) (pv 2) (pe_un un_neg pe_int) (fun _ _ => rfl)) (pe_un un_neg pe_int) (fun _ _ => rfl)) pa_nil)) (blkOk_by (own := [("k", 6)]) (N := N_heaps_of) (sc := defScope s_heaps_of) (by decide +kernel)) (fun _ _ _ _ _ => pg_name (i := 6) sc_heaps_of.nd rfl (Or.inl rfl)) (fun _ _ _ _ _ => pts_nil) (fun _ _ _ _ _ => (pe_lst pa_nil)))
      (pss_cons (ps_for (passes_of rfl) rfl (pi_list (pe_call (ok_pairs_of T) (hr.mono (by decide)) rfl T.d_pairs_of.g T.d_pairs_of.F.kp T.d_pairs_of.b .nil (passes_call (takes_of rfl rfl rfl rfl) (fun _ _ _ _ h => h)) (pa_cons (pv 0) (pa_cons (pv 1) pa_nil)))) (pg_tup rfl (pgs_cons (pg_name (i := 4) sc_heaps_of.nd rfl (Or.inl rfl)) (pgs_cons (pg_name (i := 5) sc_heaps_of.nd rfl (Or.inl rfl)) pgs_nil))) (pss_one (ps_expr (pe_bm PySem.F.plainAttrs_list PySem.F.slot_list_append PySem.F.type_list_append mt_append (pe_ix (i_ix (K := K)) (pv 3) (pe_ix (i_ix (K := K)) (pe_ix (i_ix (K := K)) (pv 2) (pv 4) (fun _ _ => rfl)) (pv 5) (fun _ _ => rfl)) (fun _ _ => rfl)) (pa_cons (pe_tup (pa_cons (pv 4) (pa_cons (pv 5) pa_nil))) pa_nil)))))
      (pss_one (ps_ret (pv 3)))))), ?_⟩
    walk_at "go"
    refine ⟨x, y, rfl, hR.imp fun s t ex ey hs ht k p rs H1 e1 hrs T1 => ?_⟩
    subst ex ey
    have hs1 := hs.len
    have ht1 := ht.len
    have hsl : s.cps.toList.length = s.length := Array.length_toList
    have htl : t.cps.toList.length = t.length := Array.length_toList
    obtain ⟨r, hr0⟩ : ∃ r, rs[s.length]? = some r := ⟨rs[s.length]'(by omega), List.getElem?_eq_getElem _⟩
    have hle := Lc_le s.cps.toList t.cps.toList s.length t.length
    walk_at "go"
    refine st_ixL T1.at_ (at_last (n := s.length) (v := .ref r) (by rw [List.length_map]; exact hrs) (by rw [List.getElem?_map, hr0]; rfl)) ?_
    walk_at "go"
    refine st_ixL (T1.rows _ _ hr0) (at_last (n := t.length) (by rw [lcRow_len]) (lcRow_at (by omega))) ?_
    walk_at "go"
    refine lc_objs0 (rv_range 0 _) (fun _ _ => trivial) (by rw [List.length_range]; omega) (fun _ => .lst []) ?_ ?_
    · intro i H' hi e B h1
      refine ⟨rfl, ?_⟩
      walk_at "go"
      rename_i q G2 n2 e2 v2
      exact h1 q G2 n2 e2 v2
    · intro d H2 hs' hd0 e2 hd2 rows nd nn news
      rw [Int.toNat_natCast] at rows
      have hh0 : HeapsAt H1 H2 d hs' ((List.range (Lc s.cps.toList t.cps.toList s.length t.length)).map fun _ => []) (Lc s.cps.toList t.cps.toList s.length t.length) (lev s.cps.toList t.cps.toList []) := by
        refine ⟨hd0, hd2, by rw [List.length_map, List.length_range], by rw [List.map_map]; exact rows, nd, nn, news, fun l ts hl => ?_⟩
        rw [List.getElem?_map] at hl
        cases hq : (List.range (Lc s.cps.toList t.cps.toList s.length t.length))[l]? with
        | none => rw [hq] at hl; cases hl
        | some z => rw [hq] at hl; cases hl; exact .nil
      walk_at "go"
      refine ⟨.str s, .str t, rfl, .inl ⟨s, t, rfl, rfl, hs, ht, fun p2 ts H3 e3 PA => ?_⟩⟩
      have hp3 := PA.at_
      have hnp : p2 ∉ hs' := fun z => by
        obtain ⟨kx, hk⟩ := List.getElem?_of_mem z
        have hk2 : kx < ((List.range (Lc s.cps.toList t.cps.toList s.length t.length)).map fun _ => HO.lst []).length := by
          rw [← rows.len]; exact (List.getElem?_eq_some_iff.mp hk).1
        have := rows.at kx _ _ hk (List.getElem?_eq_getElem hk2)
        rw [PA.new] at this
        cases this
      walk_at "go"
      refine for_runs (runs_list K p2 (ts.map V.ref)) (fun i σ H' => Ex H1 H' ∧ H' p2 = some (.lst (ts.map V.ref)) ∧ ObjsAt H' ts ((prs s.cps.toList t.cps.toList s.length).map tupO) ∧ (∃ tss, HeapsAt H1 H' d hs' tss (Lc s.cps.toList t.cps.toList s.length t.length) (lev s.cps.toList t.cps.toList ((prs s.cps.toList t.cps.toList s.length).take i))) ∧ ∃ a b c, σ = [some (.str s), some (.str t), some (.ref p), some (.ref d), a, b, c]) ⟨e2.trans e3, PA.at_, PA.tups, ⟨_, hh0.ex e3⟩, _, _, _, rfl⟩ (fun i σ H' _ ⟨_, h, _⟩ => lst_of h) ?_ ?_
      · rintro i x σ H' H'' hi ⟨e, hp2, tups, ⟨tss, HA⟩, a, b, c, rfl⟩ ⟨rfl, hx⟩
        rw [List.length_map] at hi
        have hl1 := tups.len
        rw [List.length_map] at hl1
        obtain ⟨q, hq⟩ : ∃ q, (prs s.cps.toList t.cps.toList s.length)[i]? = some q := ⟨_, List.getElem?_eq_getElem (by omega)⟩
        obtain ⟨T, hT⟩ : ∃ T, ts[i]? = some T := ⟨_, List.getElem?_eq_getElem hi⟩
        rw [List.getElem?_map, hT] at hx
        cases hx
        have hTv : H'' T = some (.tup [.int (q.1 : Nat), .int (q.2 : Nat)]) := tups.at i _ _ hT (by rw [List.getElem?_map, hq]; rfl)
        have hqm := prs_mem.mp (List.mem_of_getElem? hq)
        have hlt := Lc_pair (m := t.length) hqm (by omega)
        have hq2 : q.2 < t.length := by
          obtain ⟨_, c', _, h3⟩ := hqm
          have := (List.getElem?_eq_some_iff.mp h3).1
          omega
        have T2 := T1.ex e
        obtain ⟨r1, hr1⟩ : ∃ r1, rs[q.1]? = some r1 := ⟨rs[q.1]'(by have := hqm.1; omega), List.getElem?_eq_getElem _⟩
        have hl2 := HA.rows.len
        rw [List.length_map, HA.len] at hl2
        obtain ⟨h9, hh9⟩ : ∃ h9, hs'[Lc s.cps.toList t.cps.toList q.1 q.2]? = some h9 := ⟨_, List.getElem?_eq_getElem (by omega)⟩
        obtain ⟨us, hus⟩ : ∃ us, tss[Lc s.cps.toList t.cps.toList q.1 q.2]? = some us := ⟨_, List.getElem?_eq_getElem (by rw [HA.len]; omega)⟩
        have hrow := HA.rows.at _ _ _ hh9 (by rw [List.getElem?_map, hus]; rfl)
        have hd' := HA.at_
        walk_at "go"
        refine st_ixL T2.at_ (v := .ref r1) (at_mapN hr1) ?_
        walk_at "go"
        refine st_ixL (T2.rows _ _ hr1) (lcRow_atI (by omega)) ?_
        walk_at "go"
        refine st_ixL hd' (v := .ref h9) (at_mapN hh9) ?_
        walk_at "go"
        rename_i T3 G4 n4 e4 v4
        have tl := HA.tups _ _ hus
        have tll := tl.len
        have hpl := prs_len s.cps.toList t.cps.toList s.length
        have hpl2 : (prs s.cps.toList t.cps.toList s.length).length ≤ 48 * 48 := Nat.le_trans hpl (Nat.mul_le_mul hs1 (by omega))
        have hfl : (lev s.cps.toList t.cps.toList ((prs s.cps.toList t.cps.toList s.length).take i) (Lc s.cps.toList t.cps.toList q.1 q.2)).length ≤ 48 * 48 := Nat.le_trans (List.length_filter_le _ _) (by rw [List.length_take]; omega)
        rw [List.length_map] at tll
        refine st_app (e4.get hrow) (by rw [List.length_map]; omega) ?_
        have HA4 := (HA.ex e4).put (q := q) (T := T3) v4 hh9 hus
        have hqt : (prs s.cps.toList t.cps.toList s.length).take (i + 1) = (prs s.cps.toList t.cps.toList s.length).take i ++ [q] := by rw [List.take_add_one, hq]; rfl
        have hp9 : p2 ≠ h9 := fun z => hnp (z ▸ List.mem_of_getElem? hh9)
        refine ⟨HA.mut (e.trans e4) (List.mem_of_getElem? hh9), by rw [upd_ne hp9]; exact e4.get hp2, .up (objs_ntup (tups.ex e4) (e4.get hrow)) (tups.ex e4), ⟨_, by rw [hqt]; exact HA4⟩, _, _, _, rfl⟩
      · rintro σ H' ⟨e, hp2, tups, ⟨tss, HA⟩, a, b, c, rfl⟩
        rw [List.length_map] at HA
        have hl1 := tups.len
        rw [List.length_map] at hl1
        walk_at "go"
        rw [List.take_of_length_le (by omega)] at HA
        refine k d hs' tss H' (e1.trans e) ⟨?_, HA.at_, HA.len, HA.rows, HA.nd, HA.non, fun h hh => Ex.free e1 (HA.news h hh), HA.tups⟩
        exact Ex.free e1 HA.new
/-- the levels as lists of pairs -/
theorem lev_hp {H0 H : Hp} {s t : Str} {d : Addr} {hs : List Addr} {tss : List (List Addr)} (hs1 : RowS s) (ht1 : RowS t) (h : HeapsAt H0 H d hs tss (Lc s.cps.toList t.cps.toList s.length t.length) (lev s.cps.toList t.cps.toList (prs s.cps.toList t.cps.toList s.length))) :
    ∃ gs : List HZ, gs.map hV = hs.map V.ref ∧ gs.map (·.1) = hs ∧ gs.map (fun g => g.2.map (·.2)) = (List.range (Lc s.cps.toList t.cps.toList s.length t.length)).map (lev s.cps.toList t.cps.toList (prs s.cps.toList t.cps.toList s.length)) ∧ HP H gs ∧ gs.length ≤ 48 ∧ ∀ g ∈ gs, g.2.length ≤ 2304 := by
  have hl := h.rows.len
  rw [List.length_map, h.len] at hl
  have l1 := hs1.len
  have l2 := ht1.len2
  have l3 := ht1.len
  have hsl : s.cps.toList.length = s.length := Array.length_toList
  have htl : t.cps.toList.length = t.length := Array.length_toList
  generalize hM : Lc s.cps.toList t.cps.toList s.length t.length = M at *
  have hM48 : M ≤ 48 := by rw [← hM]; have := Lc_le s.cps.toList t.cps.toList s.length t.length; omega
  generalize hLV : lev s.cps.toList t.cps.toList (prs s.cps.toList t.cps.toList s.length) = LV at *
  have hfew : ∀ l, (LV l).length ≤ 2304 := fun l => by
    rw [← hLV]
    exact Nat.le_trans (List.length_filter_le _ _) (Nat.le_trans (prs_len _ _ _) (Nat.mul_le_mul l1 l2))
  have hsm : ∀ l, ∀ q ∈ LV l, q.1 ≤ 1000 ∧ q.2 ≤ 1000 := fun l q hq => by
    rw [← hLV] at hq
    obtain ⟨h1, _⟩ := List.mem_filter.mp hq
    obtain ⟨a, c, b1, b2⟩ := prs_mem.mp h1
    have := (List.getElem?_eq_some_iff.mp b2).1
    omega
  have one : ∀ l, l < M → ∃ g : HZ, hs[l]? = some g.1 ∧ H g.1 = some (.lst (g.2.map zV)) ∧ SP H g.2 ∧ g.2.map (·.2) = LV l := fun l hlM => by
    obtain ⟨a, ha⟩ : ∃ a, hs[l]? = some a := ⟨hs[l]'(by omega), List.getElem?_eq_getElem _⟩
    obtain ⟨ts, hts⟩ : ∃ ts, tss[l]? = some ts := ⟨tss[l]'(by rw [h.len]; omega), List.getElem?_eq_getElem _⟩
    have h1 := h.rows.at l _ _ ha (by rw [List.getElem?_map, hts]; rfl)
    have h2 := h.tups l ts hts
    have h3 := h2.len
    rw [List.length_map] at h3
    have hgS : (ts.zip (LV l)).map (·.2) = LV l := List.map_snd_zip (by omega)
    refine ⟨(a, ts.zip (LV l)), ha, ?_, ⟨fun g hg => ?_, ?_, fun z hz => ?_⟩, hgS⟩
    · have : (ts.zip (LV l)).map Prod.fst = ts := List.map_fst_zip (by omega)
      rw [show (zV : ZP → V) = V.ref ∘ Prod.fst from rfl, ← List.map_map, this]
      exact h1
    · obtain ⟨j, hj⟩ := List.getElem?_of_mem hg
      rw [List.getElem?_zip_eq_some] at hj
      exact h2.at j _ _ hj.1 (by rw [List.getElem?_map, hj.2]; rfl)
    · have := congrArg List.length hgS
      rw [List.length_map] at this
      rw [this]
      exact Nat.le_succ_of_le (hfew l)
    · exact hsm l z.2 (by rw [← hgS]; exact List.mem_map.mpr ⟨z, hz, rfl⟩)
  obtain ⟨f, hf⟩ : ∃ f : Nat → HZ, ∀ l, l < M → hs[l]? = some (f l).1 ∧ H (f l).1 = some (.lst ((f l).2.map zV)) ∧ SP H (f l).2 ∧ (f l).2.map (·.2) = LV l :=
    ⟨fun l => if h : l < M then (one l h).choose else (0, []), fun l h => by simp only [h, dif_pos]; exact (one l h).choose_spec⟩
  have e1 : ((List.range M).map f).map (·.1) = hs := by
    apply List.ext_getElem?
    intro j
    rw [List.map_map, List.getElem?_map]
    by_cases hj : j < M
    · rw [List.getElem?_range hj, (hf j hj).1]; rfl
    · rw [List.getElem?_eq_none (by rw [List.length_range]; omega), List.getElem?_eq_none (by omega)]; rfl
  refine ⟨(List.range M).map f, ?_, e1, ?_, ?_, by rw [List.length_map, List.length_range]; exact hM48, ?_⟩
  · rw [← e1, List.map_map, List.map_map, List.map_map]; rfl
  · rw [List.map_map]
    exact List.map_congr_left fun l hl' => (hf l (List.mem_range.mp hl')).2.2.2
  · intro g hg
    obtain ⟨l, hl', rfl⟩ := List.mem_map.mp hg
    have := hf l (List.mem_range.mp hl')
    exact ⟨this.2.1, this.2.2.1⟩
  · intro g hg
    obtain ⟨l, hl', rfl⟩ := List.mem_map.mp hg
    have := congrArg List.length (hf l (List.mem_range.mp hl')).2.2.2
    rw [List.length_map] at this
    rw [this]
    exact hfew l
/-- the thread that is told, as small pairs -/
theorem thr_sp {H : Hp} {s t : Str} {zs : List ZP} (hs : RowS s) (ht : RowS t) (tp : TP H zs) (th : zs.map (·.2) = thr s.cps.toList t.cps.toList s.length t.length) : SP H zs ∧ zs.length = Lc s.cps.toList t.cps.toList s.length t.length ∧ zs.length ≤ 48 ∧ (zs ≠ [] → 0 < s.length ∧ 0 < t.length) := by
  have hsl : s.cps.toList.length = s.length := Array.length_toList
  have htl : t.cps.toList.length = t.length := Array.length_toList
  obtain ⟨h1, _, h3⟩ := thr_ok s.cps.toList t.cps.toList s.length t.length (by omega) (by omega)
  have e1 := congrArg List.length th
  rw [List.length_map, h1] at e1
  have hle := Lc_le s.cps.toList t.cps.toList s.length t.length
  have l1 := hs.len
  have l2 := ht.len
  refine ⟨⟨tp, by omega, fun z hz => ?_⟩, e1, by omega, fun z => ?_⟩
  · have : z.2 ∈ zs.map (·.2) := List.mem_map_of_mem hz
    rw [th] at this
    have := h3 _ this
    omega
  · have := List.length_pos_iff.mpr z
    omega
/-- the heaps of the cut c, with places of the whole row -/
def hvC (l : List Nat) (c : Nat) : List (List (Nat × Nat)) := (List.range (Lc (l.take c) (l.drop c) c (l.length - c))).map fun k => (lev (l.take c) (l.drop c) (prs (l.take c) (l.drop c) c) k).map fun q => (q.1, q.2 + c)
theorem hvC_len (l : List Nat) (c : Nat) : (hvC l c).length = Lc (l.take c) (l.drop c) c (l.length - c) := by unfold hvC; rw [List.length_map, List.length_range]
def dnQ (d a : Nat) (q : Nat × Nat) : Nat × Nat := (q.1 + d, q.2 + a)
theorem hvC_eq (l : List Nat) (c : Nat) : hvC l c = ((List.range (Lc (l.take c) (l.drop c) c (l.length - c))).map (lev (l.take c) (l.drop c) (prs (l.take c) (l.drop c) c))).map fun g => g.map (dnQ 0 c) := by
  unfold hvC dnQ
  rw [List.map_map]
  rfl
/-- the first and the other letters of a row -/
structure CutS (s a b : Str) (c : Nat) : Prop where
  a_ : a.cps.toList = s.cps.toList.take c
  b_ : b.cps.toList = s.cps.toList.drop c
  al : a.length = c
  bl : b.length = s.length - c
theorem cut_s {s : Str} {c : Nat} (h : c ≤ s.length) : CutS s (cutS s none (some (c : Int))) (cutS s (some (c : Int)) none) c := ⟨cutS_toN s c, cutS_from s c h, by rw [cutS_toN_len]; omega, cutS_from_len s c h⟩
theorem CutS.rows {s a b : Str} {c : Nat} (h : CutS s a b c) (hs : RowS s) : RowS a ∧ RowS b := by
  have hs' : (decide (s.length ≤ 48) && s.cps.toList.all rowSign) = true := hs
  rw [Bool.and_eq_true] at hs'
  have h1 := of_decide_eq_true hs'.1
  have h2 := List.all_eq_true.mp hs'.2
  have h3 := h.al
  have h4 := h.bl
  have hsl : s.cps.toList.length = s.length := Array.length_toList
  have al : a.length ≤ s.length := by
    have : a.cps.toList.length = a.length := Array.length_toList
    rw [h.a_, List.length_take] at this
    omega
  constructor
  · show (decide (a.length ≤ 48) && a.cps.toList.all rowSign) = true
    rw [decide_eq_true (by omega), Bool.true_and, List.all_eq_true, h.a_]
    exact fun x hx => h2 x (List.mem_of_mem_take hx)
  · show (decide (b.length ≤ 48) && b.cps.toList.all rowSign) = true
    rw [decide_eq_true (by omega), Bool.true_and, List.all_eq_true, h.b_]
    exact fun x hx => h2 x (List.mem_of_mem_drop hx)
/-- lists of heaps, one behind the other -/
abbrev CU := Addr × List HZ
abbrev cuV (c : CU) : V := .ref c.1
def CP (H : Hp) (cs : List CU) : Prop := ∀ c ∈ cs, H c.1 = some (.lst (c.2.map hV)) ∧ HP H c.2
theorem CP.ex {H H' : Hp} {cs : List CU} (h : CP H cs) (e : Ex H H') : CP H' cs := fun c hc => ⟨e.get (h c hc).1, (h c hc).2.ex e⟩
def gsV (gs : List HZ) : List (List (Nat × Nat)) := gs.map fun g => g.2.map (·.2)
def encG (l : List (List (Nat × Nat))) : PyData := .list (l.map fun g => .list (g.map encQ))
def encCU (c : CU) : PyData := .list (c.2.map encH)
theorem encCU_eq (c : CU) : encCU c = encG (gsV c.2) := by
  unfold encCU encG gsV
  rw [List.map_map]
  congr 1
  refine List.map_congr_left fun g _ => ?_
  show encH g = PyData.list ((g.2.map (·.2)).map encQ)
  unfold encH
  rw [List.map_map]
  rfl
theorem CP.rn {H : Hp} {cs : List CU} {D : Addr} (h : CP H cs) (hD : H D = some (.lst (cs.map cuV))) : Rn H (.ref D) (.list (cs.map encCU)) := .lst hD (rnA_map fun c hc => (h c hc).2.rn (h c hc).1)
theorem eqv_encG (a b : List (List (Nat × Nat))) : PyData.eqv (encG a) (encG b) = decide (a = b) := eqv_list (enc := fun g : List (Nat × Nat) => PyData.list (g.map encQ)) (fun a b => eqv_list eqv_encQ a b) a b
theorem zip_SP {H : Hp} {ts : List Addr} {ps : List (Nat × Nat)} (h : ObjsAt H ts (ps.map tupO)) (few : ps.length ≤ 2305) (sm : ∀ q ∈ ps, q.1 ≤ 1000 ∧ q.2 ≤ 1000) : SP H (ts.zip ps) ∧ (ts.zip ps).map zV = ts.map V.ref ∧ (ts.zip ps).map (·.2) = ps := by
  have hl := h.len
  rw [List.length_map] at hl
  have e2 : (ts.zip ps).map (·.2) = ps := List.map_snd_zip (by omega)
  have e1 : (ts.zip ps).map Prod.fst = ts := List.map_fst_zip (by omega)
  refine ⟨⟨fun z hz => ?_, by have := congrArg List.length e2; rw [List.length_map] at this; omega, fun z hz => ?_⟩, ?_, e2⟩
  · obtain ⟨k, hk⟩ := List.getElem?_of_mem hz
    have h1 : ts[k]? = some z.1 := by rw [← e1, List.getElem?_map, hk]; rfl
    have h2 : ps[k]? = some z.2 := by rw [← e2, List.getElem?_map, hk]; rfl
    exact h.at k z.1 (tupO z.2) h1 (by rw [List.getElem?_map, h2]; rfl)
  · exact sm z.2 (by rw [← e2]; exact List.mem_map_of_mem hz)
  · have : (ts.zip ps).map zV = ((ts.zip ps).map Prod.fst).map V.ref := by rw [List.map_map]; rfl
    rw [this, e1]
theorem PlainS.rowS {z : Str} (h : isPlain (.str z) = true) : RowS z := by
  have h : (isRow (.str z) && (decide (z.length ≤ 24) && !decide (46 ∈ z.cps.toList))) = true := h
  rw [Bool.and_eq_true] at h
  exact h.1
theorem CP.rp {H : Hp} {cs : List CU} {D : Addr} (h : CP H cs) (hD : H D = some (.lst (cs.map cuV))) : Rp H (.ref D) (.list (cs.map encCU)) := .lst (lst_of hD) (rpA_map fun c hc => (h c hc).2.rp (h c hc).1)
theorem encCU_depth (c : CU) : (encCU c).depth ≤ 4 := gs_depth c.2
theorem cs_depth (cs : List CU) : (PyData.list (cs.map encCU)).depth ≤ 5 := by
  have : PyData.depthAll (cs.map encCU) ≤ 4 := depth_map fun c _ => encCU_depth c
  simp only [PyData.depth]
  omega
theorem eqv_cus (fs gs : List CU) : PyData.eqv (.list (fs.map encCU)) (.list (gs.map encCU)) = decide (fs.map (fun c => gsV c.2) = gs.map fun c => gsV c.2) := by
  have h := eqv_list (enc := encG) eqv_encG (fs.map fun c => gsV c.2) (gs.map fun c => gsV c.2)
  rw [List.map_map, List.map_map] at h
  rw [show (encCU : CU → PyData) = encG ∘ fun c => gsV c.2 from funext encCU_eq]
  exact h
theorem hid_to {D : Addr} {H1 H : Hp} {o : HO} (e : Ex (hid D H1) H) : Ex (hid D H1) (upd H D o) := fun b u _ q => by
  have h := e b u (fun z => z) q
  by_cases c : b = D
  · rw [c] at q
    unfold hid at q
    rw [if_pos rfl] at q
    cases q
  · rw [upd_ne c]
    exact h
theorem new_upd {D : Addr} {H0 H : Hp} {o : HO} : hid D (newO H0 (upd H D o)) = hid D (newO H0 H) := by
  funext b
  unfold hid newO
  by_cases c : b = D
  · rw [if_pos c, if_pos c]
  · rw [if_neg c, if_neg c, upd_ne c]
theorem new_hid {D : Addr} {H0 H H' : Hp} (e : Ex H H') : Ex (hid D (newO H0 H)) (hid D (newO H0 H')) := fun b u _ q => by
  have h := hid_ex _ _ b u (fun z => z) q
  refine hid_get (newO_mono e b u (fun z => z) h) fun z => ?_
  rw [z] at q
  unfold hid at q
  rw [if_pos rfl] at q
  cases q
theorem HP.hid {H : Hp} {D : Addr} {gs : List HZ} {xs : List V} (h : HP H gs) (hD : H D = some (.lst xs)) (n : ∀ g ∈ gs, g.1 ≠ D) : HP (hid D H) gs := fun g hg => ⟨hid_get (h g hg).1 (n g hg), ⟨fun z hz => hid_get ((h g hg).2.tp z hz) (fun e => by
  have := (h g hg).2.tp z hz
  rw [e, hD] at this
  cases this), (h g hg).2.few, (h g hg).2.small⟩⟩
theorem HP.app {H : Hp} {fs gs : List HZ} (h : HP H fs) (k : HP H gs) : HP H (fs ++ gs) := fun g hg => by
  rcases List.mem_append.mp hg with q | q
  · exact h g q
  · exact k g q
theorem pick2 {α β : Type} {R : α → Addr → β → Prop} : ∀ {ts : List Addr} {ys : List α}, ts.length = ys.length → (∀ (k : Nat) a y, ts[k]? = some a → ys[k]? = some y → ∃ b, R y a b) → ∃ bs : List (Addr × β), bs.map Prod.fst = ts ∧ bs.length = ys.length ∧ ∀ (k : Nat) c y, bs[k]? = some c → ys[k]? = some y → R y c.1 c.2
  | [], [], _, _ => ⟨[], rfl, rfl, fun k c y h => by simp at h⟩
  | [], _ :: _, h, _ => by cases h
  | _ :: _, [], h, _ => by cases h
  | t :: ts, y :: ys, hl, h => by
    obtain ⟨b, hb⟩ := h 0 t y rfl rfl
    obtain ⟨bs, h1, h2, h3⟩ := pick2 (R := R) (ts := ts) (ys := ys) (Nat.succ.inj hl) fun k a z p q => h (k + 1) a z p q
    refine ⟨(t, b) :: bs, by rw [List.map_cons, h1], by rw [List.length_cons, List.length_cons, h2], fun k c z p q => ?_⟩
    cases k with
    | zero => cases p; cases q; exact hb
    | succ k => exact h3 k c z p q
theorem map_of_R {α β γ : Type} {f : β → γ} {g : α → γ} : ∀ {bs : List β} {ys : List α}, bs.length = ys.length → (∀ (k : Nat) b y, bs[k]? = some b → ys[k]? = some y → f b = g y) → bs.map f = ys.map g
  | [], [], _, _ => rfl
  | [], _ :: _, h, _ => by cases h
  | _ :: _, [], h, _ => by cases h
  | b :: bs, y :: ys, hl, h => by
    rw [List.map_cons, List.map_cons, h 0 b y rfl rfl, map_of_R (bs := bs) (ys := ys) (Nat.succ.inj hl) fun k c z p q => h (k + 1) c z p q]
theorem at_mem {α β : Type} {bs : List β} {ys : List α} (hl : bs.length = ys.length) {b : β} (hb : b ∈ bs) : ∃ (k : Nat) (y : α), bs[k]? = some b ∧ ys[k]? = some y := by
  obtain ⟨k, hk⟩ := List.getElem?_of_mem hb
  have := (List.getElem?_eq_some_iff.mp hk).1
  exact ⟨k, ys[k]'(by omega), hk, List.getElem?_eq_getElem _⟩
/-- the heaps that a comprehension made -/
theorem hz_pick {H : Hp} {f : HZ → List (Nat × Nat)} {ts : List Addr} {gs : List HZ} (hl : ts.length = gs.length) (h : ∀ (k : Nat) a g, ts[k]? = some a → gs[k]? = some g → ∃ ys : List ZP, HP H [(a, ys)] ∧ ys.map (·.2) = f g) : ∃ fs : List HZ, fs.map hV = ts.map V.ref ∧ HP H fs ∧ gsV fs = gs.map f := by
  obtain ⟨bs, h1, h2, h3⟩ := pick2 (R := fun (g : HZ) a (ys : List ZP) => HP H [(a, ys)] ∧ ys.map (·.2) = f g) hl h
  refine ⟨bs, by rw [← h1, List.map_map]; rfl, fun g hg => ?_, map_of_R h2 fun k b y p q => (h3 k b y p q).2⟩
  obtain ⟨k, y, p, q⟩ := at_mem h2 hg
  exact (h3 k g y p q).1 g List.mem_cons_self
/-- the lists of heaps that a comprehension made -/
theorem cu_pick {H : Hp} {f : Nat → List (List (Nat × Nat))} {ts : List Addr} {ns : List Nat} (hl : ts.length = ns.length) (h : ∀ (k : Nat) a n, ts[k]? = some a → ns[k]? = some n → ∃ gs : List HZ, CP H [(a, gs)] ∧ gsV gs = f n) : ∃ cs : List CU, cs.map cuV = ts.map V.ref ∧ CP H cs ∧ cs.map (fun c => gsV c.2) = ns.map f := by
  obtain ⟨bs, h1, h2, h3⟩ := pick2 (R := fun (n : Nat) a (gs : List HZ) => CP H [(a, gs)] ∧ gsV gs = f n) hl h
  refine ⟨bs, by rw [← h1, List.map_map]; rfl, fun g hg => ?_, map_of_R h2 fun k b y p q => (h3 k b y p q).2⟩
  obtain ⟨k, y, p, q⟩ := at_mem h2 hg
  exact (h3 k g y p q).1 g List.mem_cons_self
/-- the first greatest of the first n numbers of f -/
def maxAt (f : Nat → Nat) : Nat → Nat
  | 0 => 0
  | n + 1 => if f (maxAt f n) < f n then n else maxAt f n
theorem maxAt_ok (f : Nat → Nat) : ∀ n, maxAt f (n + 1) < n + 1 ∧ (∀ i, i < n + 1 → f i ≤ f (maxAt f (n + 1))) ∧ ∀ i, i < maxAt f (n + 1) → f i < f (maxAt f (n + 1))
  | 0 => by
    have e : maxAt f 1 = 0 := by
      unfold maxAt
      split
      · rfl
      · rfl
    rw [e]
    exact ⟨by omega, fun i hi => by rw [show i = 0 by omega]; exact Nat.le_refl _, fun i hi => by omega⟩
  | n + 1 => by
    obtain ⟨h1, h2, h3⟩ := maxAt_ok f n
    by_cases c : f (maxAt f (n + 1)) < f (n + 1)
    · have e : maxAt f (n + 1 + 1) = n + 1 := by rw [maxAt, if_pos c]
      rw [e]
      refine ⟨by omega, fun i hi => ?_, fun i hi => ?_⟩
      · by_cases z : i = n + 1
        · rw [z]; exact Nat.le_refl _
        · have := h2 i (by omega); omega
      · have := h2 i hi; omega
    · have e : maxAt f (n + 1 + 1) = maxAt f (n + 1) := by rw [maxAt, if_neg c]
      rw [e]
      refine ⟨by omega, fun i hi => ?_, h3⟩
      by_cases z : i = n + 1
      · rw [z]; omega
      · exact h2 i (by omega)
/-- how much a row says twice at each cut -/
def twL (l : List Nat) (c : Nat) : Nat := Lc (l.take c) (l.drop c) c (l.length - c)
def maxL (l : List Nat) : Nat := maxAt (twL l) (l.length + 1)
def twI (l : List Nat) : List Int := (List.range (l.length + 1)).map fun c => ((twL l c : Nat) : Int)
theorem twI_at {l : List Nat} {i : Nat} (h : i < l.length + 1) : (twI l)[i]? = some ((twL l i : Nat) : Int) := by
  unfold twI
  rw [List.getElem?_map, List.getElem?_range h]
  rfl
theorem twI_len (l : List Nat) : (twI l).length = l.length + 1 := by unfold twI; rw [List.length_map, List.length_range]
/-- the greatest, and where it stands first -/
theorem twI_max {l : List Nat} {m : Int} (h : m ∈ twI l) (k : ∀ y, y ∈ twI l → y ≤ m) : m = (twL l (maxL l) : Nat) ∧ (twI l)[maxL l]? = some m ∧ ∀ i, i < maxL l → (twI l)[i]? ≠ some m := by
  obtain ⟨h1, h2, h3⟩ := maxAt_ok (twL l) l.length
  have e : m = (twL l (maxL l) : Nat) := by
    obtain ⟨c, hc, rfl⟩ := List.mem_map.mp h
    have a := h2 c (List.mem_range.mp hc)
    have b := k _ (List.mem_of_getElem? (twI_at (l := l) h1))
    unfold maxL
    omega
  refine ⟨e, by rw [e]; exact twI_at h1, fun i hi z => ?_⟩
  have a := h3 i hi
  have hi' : i < l.length + 1 := by unfold maxL at hi; omega
  rw [twI_at hi', e] at z
  have := Option.some.inj z
  unfold maxL at this
  omega
theorem maxL_le (l : List Nat) : maxL l ≤ l.length := by
  have := (maxAt_ok (twL l) l.length).1
  unfold maxL
  omega
theorem new_in {D : Addr} {N H7 H8 : Hp} {o : HO} (e : Ex N H7) (h : H7 D = some o) : Ex (newO H7 H8) (hid D (newO N H8)) := fun b u _ q => by
  obtain ⟨n, g⟩ := newO_is q
  refine hid_get (newO_get g (Ex.free e n)) fun z => ?_
  rw [z, h] at n
  cases n
theorem lev_small {a b : List Nat} {n l : Nat} {q : Nat × Nat} (h : q ∈ lev a b (prs a b n) l) : q.1 < a.length ∧ q.2 < b.length := by
  obtain ⟨k1, _⟩ := List.mem_filter.mp h
  obtain ⟨u, w, b1, b2⟩ := prs_mem.mp k1
  have k3 := (List.getElem?_eq_some_iff.mp b2).1
  have k4 := (List.getElem?_eq_some_iff.mp b1).1
  exact ⟨k4, k3⟩
theorem len_hv {l : List Nat} {n : Nat} {cs : List CU} (he : cs.map (fun c => gsV c.2) = (List.range n).map (hvC l)) : (List.range n).map (fun c => twL l c) = cs.map fun c => c.2.length := by
  have := congrArg (List.map List.length) he
  rw [List.map_map, List.map_map] at this
  have h2 : (List.length ∘ hvC l) = fun c => twL l c := funext fun c => hvC_len _ _
  have h3 : (List.length ∘ fun c : CU => gsV c.2) = fun c => c.2.length := funext fun c => by
    show (gsV c.2).length = _
    unfold gsV
    rw [List.length_map]
  rw [h2, h3] at this
  exact this.symm
theorem twI_hv {l : List Nat} {cs : List CU} (he : cs.map (fun c => gsV c.2) = (List.range (l.length + 1)).map (hvC l)) : cs.map (fun c => V.int (c.2.length : Nat)) = (twI l).map V.int := by
  have := congrArg (List.map fun n : Nat => V.int (n : Nat)) (len_hv he)
  rw [List.map_map, List.map_map] at this
  unfold twI
  rw [List.map_map]
  exact this.symm
theorem tabs_lst {T : List (Addr × Str)} {H : Hp} {p : Addr} {xs : List V} {u : HO} (t : LamX.Tabs T H) (hp : H p = some (.lst xs)) : LamX.Tabs T (upd H p u) := fun q hq => by
  obtain ⟨ps, h1, h2, h3⟩ := t q hq
  refine ⟨ps, (upd_ne fun z => by rw [z, hp] at h1; cases h1).trans h1, h2, fun pos cv hc => ?_⟩
  obtain ⟨c, e1, e2⟩ := h3 pos cv hc
  exact ⟨c, e1, (upd_ne fun z => by rw [z, hp] at e2; unfold CodeO at e2; cases e2).trans e2⟩
def sp_moved : Sp := fun vs H Q _ => ∃ (A : Addr) (zs : List ZP) (d a : Nat), vs = [.ref A, .int (d : Nat), .int (a : Nat)] ∧ H A = some (.lst (zs.map zV)) ∧ SP H zs ∧ (∀ z ∈ zs, z.2.1 + d ≤ 1000 ∧ z.2.2 + a ≤ 1000) ∧
  ∀ p (ys : List ZP) H', Ex H H' → H p = none → H' p = some (.lst (ys.map zV)) → (∀ G : Hp, (∀ b o, H b = none → H' b = some o → G b = some o) → G p = some (.lst (ys.map zV)) ∧ SP G ys) → ys.map (·.2) = (zs.map (·.2)).map (dnQ d a) → Q (.ref p) H'
theorem ok_moved (T : Tx K mg ad fd tk base tc) : FnOk P w K mg base CX0 1 (ad 27) (fd 27) ["pairs", "down", "along"] sp_moved := by
  refine T.d_moved.F.ok sc_moved (fun vs H Q E h => ?_) (fun cdv A outer s H vs Q E hr h => ?_)
  · obtain ⟨A, zs, d, a, rfl, _⟩ := h
    rfl
  · obtain ⟨A, zs, d, a, rfl, hA, hz, hb, k⟩ := h
    refine ⟨_, (pss_one (ps_ret (pe_lc (own := [("i", 3), ("j", 4)]) (g := gTup K 2 (gCons (gName 3) (gCons (gName 4) gNil))) rfl sc_moved.nd (pi_list (pv 0)) (blkOk_by (own := [("i", 3), ("j", 4)]) (N := N_moved) (sc := defScope s_moved) (by decide +kernel)) (fun _ _ _ _ _ => (pg_tup rfl (pgs_cons (pg_name (i := 3) sc_moved.nd rfl (Or.inl rfl)) (pgs_cons (pg_name (i := 4) sc_moved.nd rfl (Or.inl rfl)) pgs_nil)))) (fun _ _ _ _ _ => pts_nil) (fun _ _ _ _ _ => (pe_tup (pa_cons (pe_op o_add (pv 3) (pv 1)) (pa_cons (pe_op o_add (pv 4) (pv 2)) pa_nil))))))), ?_⟩
    walk_at "go"
    refine lc_objs0 (rv_list _ A zs zV) (fun H' e => lst_of (e.get hA)) (by have := hz.few; omega) (fun z => tupO (dnQ d a z.2)) ?_ ?_ gTup_mono
    · intro z H' hzm e B hB
      have t : H' z.1 = some (.tup [.int (z.2.1 : Nat), .int (z.2.2 : Nat)]) := e.get (hz.tp z hzm)
      walk_at "go"
      refine ⟨rfl, ?_⟩
      walk_at "go"
      rename_i q G n f v
      refine hB q G n f ?_
      rw [v]
      show some (HO.tup _) = some (HO.tup _)
      congr 3
    · intro D H' ts nD e vD hos nts hDn hnew
      have hos' : ObjsAt H' ts (((zs.map (·.2)).map (dnQ d a)).map tupO) := by
        rw [List.map_map, List.map_map]
        exact hos
      have hf : ((zs.map (·.2)).map (dnQ d a)).length ≤ 2305 := by
        rw [List.length_map, List.length_map]
        exact hz.few
      have hsm : ∀ q ∈ (zs.map (·.2)).map (dnQ d a), q.1 ≤ 1000 ∧ q.2 ≤ 1000 := fun q hq => by
        obtain ⟨r, hr1, rfl⟩ := List.mem_map.mp hq
        obtain ⟨z, hz1, rfl⟩ := List.mem_map.mp hr1
        exact hb z hz1
      obtain ⟨s1, s2, s3⟩ := zip_SP hos' hf hsm
      refine k D _ H' e nD (by rw [s2]; exact vD) (fun G hG => ⟨by rw [s2]; exact hG D _ nD vD, (zip_SP (objs_in (fun x hx o ho => hG x o (hnew x hx) ho) hos') hf hsm).1⟩) s3
def sp_Tally_from_on (K : PySem.W.Frag) : Sp := fun vs H Q _ => ∃ (p : Addr) (l : List Nat) (b e : Nat), vs = [.ref p, .int (b : Nat), .int (e : Nat)] ∧ TalAt K H p l ∧ b ≤ 1000 ∧ Q (.int (cntT l b e : Nat)) H
theorem ok_Tally_from_on (T : Tx K mg ad fd tk base tc) : FnOk P w K mg base CX0 2 (ad 28) (fd 28) ["self", "begin", "end"] (sp_Tally_from_on K) := by
  refine T.d_Tally_from_on.F.ok sc_Tally_from_on (fun vs H Q E h => ?_) (fun cdv A outer s H vs Q E hr h => ?_)
  · obtain ⟨p, l, b, e, rfl, _⟩ := h
    rfl
  · obtain ⟨p, l, b, e, rfl, hp, hb, k⟩ := h
    refine ⟨_, (pss_cons (ps_set (i := 3) sc_Tally_from_on.nd rfl (Or.inl rfl) pe_int)
      (pss_cons (ps_set (i := 4) sc_Tally_from_on.nd rfl (Or.inl rfl) (pv 1))
      (pss_cons (ps_for PassesOwn.never rfl (pi_list (pe_fldK (K := K) (pv 0) rfl)) (pg_name (i := 5) sc_Tally_from_on.nd rfl (Or.inl rfl)) (pss_cons (ps_if (pt_cmpR o_ge (pv 4) (pe_callB (c_len (K := K)) (by rfl) T.b_len (by decide +kernel) (pa_cons (pv 5) pa_nil)) (nomark _)) (pss_one (ps_ret (pv 3))) pss_nil)
      (pss_cut (ps_if (PW.pt (pw_or (pt_cmpR (o_eq hr.units) (pe_op o_mod (pv 4) pe_int) pe_int (nomark _)) (pw_or1 (pt_cmpR (o_eq hr.units) (pe_callB (c_len (K := K)) (by rfl) T.b_len (by decide +kernel) (pa_cons (pv 5) pa_nil)) pe_int (nomark _))))) (pss_cons (ps_aug (i := 3) sc_Tally_from_on.nd rfl (Or.inl rfl) (pe_call (ok_lesser T) (hr.mono (by decide)) rfl T.d_lesser.g T.d_lesser.F.kp T.d_lesser.b .nil pass0 (pa_cons (pe_ix (i_ix (K := K)) (pv 5) (pv 4) (fun _ _ => rfl)) (pa_cons (pv 2) pa_nil))) ip_add)
      (pss_one (ps_aug (i := 4) sc_Tally_from_on.nd rfl (Or.inl rfl) pe_int ip_add))) pss_nil)
      (pss_one (ps_set (i := 4) sc_Tally_from_on.nd rfl (Or.inl rfl) (pe_op o_div (pv 4) pe_int))))))
      (pss_one (ps_ret (pv 3)))))), ?_⟩
    obtain ⟨dx, fa, qs, fs, h1, h2, h3, h4, h5, h6, h7⟩ := hp
    have hql := h3.len
    walk_at "go"
    have start : restP (fun x => decide (x < e)) (ones l) b = cntT l b e := rest_ones _ l _ b rfl
    refine for_runs (runs_list K fa _) (fun j σ H' => H' = H ∧ ∃ (tot at_ : Nat), ((∃ bs, fs[j]? = some bs ∧ tot + restP (fun x => decide (x < e)) bs at_ = cntT l b e) ∨ (j = fs.length ∧ tot = cntT l b e)) ∧ at_ ≤ 1001 ∧ ∃ y, σ = [some (.ref p), some (.int (b : Nat)), some (.int (e : Nat)), some (.int (tot : Nat)), some (.int (at_ : Nat)), y]) ⟨rfl, 0, b, .inl ⟨_, h4.fst, by rw [start]; omega⟩, by omega, _, rfl⟩ (fun j σ H' _ h => by rw [h.1]; exact lst_of h2) ?_ ?_
    rotate_left
    · rintro σ H' ⟨rfl, tot, at_, hc, _, y, rfl⟩
      rw [List.length_map, hql] at hc
      have ht : tot = cntT l b e := by
        rcases hc with ⟨bs, hbs, _⟩ | ⟨_, h⟩
        · have := (List.getElem?_eq_some_iff.mp hbs).1
          omega
        · exact h
      subst ht
      walk_at "go"
      exact k
    rintro j x σ H0 H' hj ⟨hH, tot, at_, hc, hat, y, rfl⟩ ⟨hH2, hx⟩
    have hH3 := (hH2.trans hH).symm
    clear hH2 hH
    subst hH3
    rw [List.length_map, hql] at hj
    obtain ⟨q, hq⟩ : ∃ q, qs[j]? = some q := ⟨qs[j]'(by omega), List.getElem?_eq_getElem _⟩
    rw [List.getElem?_map, hq] at hx
    cases hx
    obtain ⟨bs, hbs, hrest⟩ : ∃ bs, fs[j]? = some bs ∧ tot + restP (fun x => decide (x < e)) bs at_ = cntT l b e := by
      rcases hc with h | ⟨h, _⟩
      · exact h
      · omega
    obtain ⟨rs, bs', hb', hT⟩ := h3.tb j q hq
    have : bs' = bs := by rw [hb'] at hbs; exact Option.some.inj hbs
    subst this
    have hrl := hT.len
    have hTa := hT.at_
    have hlen := h4.len _ _ hbs
    walk_at "go"
    rw [List.length_map, hrl]
    refine st_br2 (fun c1 => ?_) (fun c1 => ?_)
    · rw [restP_end (by omega)] at hrest
      have ht : tot = cntT l b e := by omega
      subst ht
      walk_at "go"
      exact k
    have hal : at_ < bs'.length := by omega
    have step := restP_at (p := fun x => decide (x < e)) hal
    have next : ∀ cs, fs[j + 1]? = some cs → 2 ≤ bs'.length ∧ ∀ i, restP (fun x => decide (x < e)) cs i = restP (fun x => decide (x < e)) bs' (2 * i) := fun cs hcs => by
      obtain ⟨g1, g2⟩ := h4.nxt j _ _ hbs hcs
      exact ⟨g1, fun i => g2.rest _ _ i rfl⟩
    have last : ¬ j + 1 < fs.length → bs'.length ≤ 1 := fun h => h5 _ (by rw [show fs.length - 1 = j by omega]; exact hbs)
    walk_at "go"
    refine ⟨fun σ' H' => H' = H ∧ ∃ (tot at_ : Nat), ((∃ cs, fs[j + 1]? = some cs ∧ tot + restP (fun x => decide (x < e)) cs (at_ / 2) = cntT l b e) ∨ (j + 1 = fs.length ∧ tot = cntT l b e)) ∧ at_ ≤ 1001 ∧ σ' = [some (.ref p), some (.int (b : Nat)), some (.int (e : Nat)), some (.int (tot : Nat)), some (.int (at_ : Nat)), some (.ref q)], ?_, ?_⟩
    rotate_left
    · rintro σ' H' ⟨rfl, tot', at', hc', hat', rfl⟩
      walk_at "go"
      refine ⟨rfl, tot', at' / 2, hc', by omega, some (.ref q), ?_⟩
      rw [show ((at' / 2 : Nat) : Int) = ((at' : Nat) : Int) / 2 by omega]
      rfl
    obtain ⟨r, hr1, hr2⟩ := hT.row hal
    have hblk := h4.blk hbs (List.getElem_mem hal)
    have fin : at_ % 2 = 1 ∨ bs'.length = 1 → ((∃ cs, fs[j + 1]? = some cs ∧ (tot + bs'[at_].countP (fun x => decide (x < e))) + restP (fun x => decide (x < e)) cs ((at_ + 1) / 2) = cntT l b e) ∨ (j + 1 = fs.length ∧ tot + bs'[at_].countP (fun x => decide (x < e)) = cntT l b e)) := fun hc => by
      by_cases hj2 : j + 1 < fs.length
      · obtain ⟨g1, g2⟩ := next _ (List.getElem?_eq_getElem hj2)
        refine .inl ⟨_, List.getElem?_eq_getElem hj2, ?_⟩
        rw [g2, show 2 * ((at_ + 1) / 2) = at_ + 1 by omega]
        omega
      · have := last hj2
        rw [restP_end (i := at_ + 1) (by omega)] at step
        exact .inr ⟨by omega, by omega⟩
    have stay : ¬ (at_ % 2 = 1) → ¬ (bs'.length = 1) → ((∃ cs, fs[j + 1]? = some cs ∧ tot + restP (fun x => decide (x < e)) cs (at_ / 2) = cntT l b e) ∨ (j + 1 = fs.length ∧ tot = cntT l b e)) := fun c2 c3 => by
      by_cases hj2 : j + 1 < fs.length
      · obtain ⟨g1, g2⟩ := next _ (List.getElem?_eq_getElem hj2)
        refine .inl ⟨_, List.getElem?_eq_getElem hj2, ?_⟩
        rw [g2, show 2 * (at_ / 2) = at_ by omega]
        exact hrest
      · have := last hj2
        omega
    refine st_ifS ?_
    walk_at "go"
    by_cases c2 : at_ % 2 = 1
    · rw [decide_eq_true (by omega)]
      walk_at "go"
      refine st_ixL hTa (v := .ref r) (at_nat (by rw [List.getElem?_map, hr1]; rfl)) ?_
      walk_at "go"
      refine ⟨r, _, e, rfl, hr2, hblk.1, by omega, ?_⟩
      walk_at "go"
      refine ⟨rfl, _, at_ + 1, fin (.inl c2), by omega, ?_⟩
      rw [show ((at_ + 1 : Nat) : Int) = ((at_ : Nat) : Int) + 1 by omega, Int.natCast_add]
      rfl
    · rw [decide_eq_false (by omega)]
      walk_at "go"
      rw [List.length_map, hrl]
      by_cases c3 : bs'.length = 1
      · rw [decide_eq_true (by omega)]
        walk_at "go"
        refine st_ixL hTa (v := .ref r) (at_nat (by rw [List.getElem?_map, hr1]; rfl)) ?_
        walk_at "go"
        refine ⟨r, _, e, rfl, hr2, hblk.1, by omega, ?_⟩
        walk_at "go"
        refine ⟨rfl, _, at_ + 1, fin (.inr c3), by omega, ?_⟩
        rw [show ((at_ + 1 : Nat) : Int) = ((at_ : Nat) : Int) + 1 by omega, Int.natCast_add]
        rfl
      · rw [decide_eq_false (by omega)]
        walk_at "go"
        exact ⟨rfl, tot, at_, stay c2 c3, hat, rfl⟩
def sp_Tally_below (K : PySem.W.Frag) : Sp := fun vs H Q E => ∃ (p : Addr) (l : List Nat) (b e : V), vs = [.ref p, b, e] ∧ TalAt K H p l ∧ Ty H b ∧ Ty H e ∧ (withinV b 0 l.length = false → RaF K E H "NoPlace" [("found", b)]) ∧ (withinV b 0 l.length = true → withinV e 0 l.length = false → RaF K E H "NoPlace" [("found", e)]) ∧ (∀ i j : Nat, b = .int (i : Nat) → e = .int (j : Nat) → i ≤ l.length → j ≤ l.length → Q (.int (cntT l i j : Nat)) H)
theorem ok_Tally_below (T : Tx K mg ad fd tk base tc) : FnOk P w K mg base (L2.CX P w) 4 (ad 29) (fd 29) ["self", "begin", "end"] (sp_Tally_below K) := by
  refine T.d_Tally_below.F.okX sc_Tally_below (fun vs H Q E h => ?_) (fun cdv A outer s H vs Q E hr h => ?_)
  · obtain ⟨p, l, b, e, rfl, _⟩ := h
    rfl
  · obtain ⟨p, l, b, e, rfl, hp, hb, he, k0, k1, k2⟩ := h
    refine ⟨_, (pss_cons (ps_expr (pe_call (ok_need_place T) (hr.mono (by decide)) rfl T.d_need_place.g T.d_need_place.F.kp T.d_need_place.b .nil (passes_call (takes_of rfl rfl rfl rfl) (fun _ _ _ _ h => h)) (pa_cons (pv 1) (pa_cons (pe_fldK (K := K) (pv 0) rfl) pa_nil))))
      (pss_cons (ps_expr (pe_call (ok_need_place T) (hr.mono (by decide)) rfl T.d_need_place.g T.d_need_place.F.kp T.d_need_place.b .nil (passes_call (takes_of rfl rfl rfl rfl) (fun _ _ _ _ h => h)) (pa_cons (pv 2) (pa_cons (pe_fldK (K := K) (pv 0) rfl) pa_nil))))
      (pss_one (ps_ret (pe_meth (pv 0) T.cl_Tally T.d_Tally_from_on.g (ok_Tally_from_on T) (hr.mono (by decide)) T.d_Tally_from_on.b .nil pass0 (pa_cons (pv 1) (pa_cons (pv 2) pa_nil))))))), ?_⟩
    obtain ⟨dx, fa, qs, fs, h1, _, _, _, _, _, h7⟩ := id hp
    walk_at "go"
    refine ⟨b, _, rfl, hb, k0, fun hbt => ?_⟩
    walk_at "go"
    refine ⟨e, _, rfl, he, k1 hbt, fun het => ?_⟩
    obtain ⟨i, rfl, hi⟩ := within_nat hbt
    obtain ⟨j, rfl, hj⟩ := within_nat het
    walk_at "go"
    exact ⟨p, l, i, j, rfl, hp, by omega, k2 i j rfl rfl hi hj⟩
def sp_Asks_window (K : PySem.W.Frag) : Sp := fun vs H Q E => ∃ (p : Addr) (l : List Nat) (m f la b e : Nat), vs = [.ref p, .int (f : Nat), .int (la : Nat), .int (b : Nat), .int (e : Nat)] ∧ AsksAt K H p l m ∧ WinOk m (l.length - m) f la b e ∧ ∀ H', Ex H H' → Q (.int (winV l m f la b e)) H'
theorem ok_Asks_window (T : Tx K mg ad fd tk base tc) : FnOk P w K mg base CX0 5 (ad 30) (fd 30) ["self", "first", "last", "begin", "end"] (sp_Asks_window K) := by
  refine T.d_Asks_window.F.ok sc_Asks_window (fun vs H Q E h => ?_) (fun cdv A outer s H vs Q E hr h => ?_)
  · obtain ⟨p, l, m, f, la, b, e, rfl, _⟩ := h
    rfl
  · obtain ⟨p, l, m, f, la, b, e, rfl, hp, hk, k⟩ := h
    refine ⟨_, (pss_cons (ps_expr (pe_call (ok_need_window T) (hr.mono (by decide)) rfl T.d_need_window.g T.d_need_window.F.kp T.d_need_window.b .nil pass0 (pa_cons (pe_fldK (K := K) (pv 0) rfl) (pa_cons (pe_fldK (K := K) (pv 0) rfl) (pa_cons (pe_tup (pa_cons (pv 1) (pa_cons (pv 2) (pa_cons (pv 3) (pa_cons (pv 4) pa_nil))))) pa_nil)))))
      (pss_one (ps_ret (pe_op o_sub (pe_op o_sub (pv 4) (pv 3)) (pe_meth (pe_fldK (K := K) (pv 0) rfl) T.cl_Tally T.d_Tally_below.g (ok_Tally_below T) (hr.mono (by decide)) T.d_Tally_below.b .nil passL (pa_cons (pe_op o_add (pe_op o_sub (pe_fldK (K := K) (pv 0) rfl) (pv 1)) (pv 3)) (pa_cons (pe_op o_add (pe_op o_sub (pe_fldK (K := K) (pv 0) rfl) (pv 2)) (pv 4)) pa_nil))))))), ?_⟩
    obtain ⟨dx, tp, ga, sa, h1, h2, h3, h4, h5, h6, h7⟩ := hp
    obtain ⟨g1, g2, g3, g4, g5, g6⟩ := id hk
    walk_at "go"
    rename_i t H1 n1 e1 v1
    refine ⟨t, m, l.length - m, f, la, b, e, rfl, v1, hk, ?_⟩
    have h1' := e1.get h1
    have h2' := h2.ex e1
    obtain ⟨_, _, _, _, hins, _⟩ := id h2'
    walk_at "go"
    rw [show ((m : Nat) : Int) - (f : Nat) + (b : Nat) = ((m - f + b : Nat) : Int) by omega, show ((m : Nat) : Int) - (la : Nat) + (e : Nat) = ((m - la + e : Nat) : Int) by omega]
    refine ⟨tp, l, _, _, rfl, h2', ⟨_, rfl⟩, ⟨_, rfl⟩, fun h => nat_no (by omega) h, fun _ h => nat_no (by omega) h, fun i j hi hj _ _ => ?_⟩
    have q1 : i = m - f + b := by have := V.int.inj hi; omega
    have q2 : j = m - la + e := by have := V.int.inj hj; omega
    subst q1
    subst q2
    walk_at "go"
    exact k _ e1
theorem twL_Lc (s : Str) {c : Nat} (h : c ≤ s.length) : Lc (s.cps.toList.drop 0) (s.cps.toList.drop c) (c - 0) (s.length - c) = twL s.cps.toList c := by
  have hsl : s.cps.toList.length = s.length := Array.length_toList
  unfold twL
  rw [List.drop_zero, Nat.sub_zero, hsl]
  refine Lc_congr _ _ _ (Nat.le_refl _) (fun k hk => ?_) (fun k _ => rfl)
  rw [List.getElem?_take_of_lt hk]
def sp_twice_lengths (K : PySem.W.Frag) (TL : List (Addr × Str)) : Sp := fun vs H Q E => ∃ x, vs = [x] ∧ LamX.Tabs TL H ∧ Plain1 K E H x fun s => ∀ p H', Ex (noT H) H' → LamX.Tabs TL H' → noT H p = none → H' p = some (.lst ((List.range (s.length + 1)).map fun c => V.int (twL s.cps.toList c : Nat))) → Q (.ref p) H'
theorem ok_twice_lengths (T : Tx K mg ad fd tk base tc) : FnOk P w K mg base (L2.CX P w) 10 (ad 31) (fd 31) ["row"] (sp_twice_lengths K (tabsL tc)) := by
  refine T.d_twice_lengths.F.okX sc_twice_lengths (fun vs H Q E h => ?_) (fun cdv A outer s H vs Q E hr h => ?_)
  · obtain ⟨x, rfl, _⟩ := h
    rfl
  · obtain ⟨x, rfl, hT, hx⟩ := h
    refine ⟨_, (pss_cons (ps_expr (pe_call (ok_need_plain T) (hr.mono (by decide)) rfl T.d_need_plain.g T.d_need_plain.F.kp T.d_need_plain.b .nil (passes_call (takes_of rfl rfl rfl rfl) (fun _ _ _ _ h => h)) (pa_cons (pv 0) pa_nil)))
      (pss_cons (ps_set (i := 1) sc_twice_lengths.nd rfl (Or.inr rfl) (pe_call (ok_asks_of T) (hr.mono (by decide)) rfl T.d_asks_of.g T.d_asks_of.F.kp T.d_asks_of.b .nil (passes_call (takes_of rfl rfl rfl rfl) (fun _ _ _ _ h => h)) (pa_cons (pv 0) (pa_cons (pv 0) pa_nil))))
      (pss_one (ps_ret (pe_lc (own := [("cut", 2)]) (g := gName 2) rfl sc_twice_lengths.nd (pi_range1 rfl T.b_range (pa_cons (pe_op o_add (pe_callB (c_len (K := K)) (by rfl) T.b_len (by decide +kernel) (pa_cons (pv 0) pa_nil)) pe_int) pa_nil)) (blkOk_by (own := [("cut", 2)]) (N := N_twice_lengths) (sc := defScope s_twice_lengths) (by decide +kernel)) (fun _ _ _ _ _ => pg_name (i := 2) sc_twice_lengths.nd rfl (Or.inl rfl)) (fun _ _ _ _ _ => pts_nil) (fun _ _ _ _ _ => (pe_meth (pv 1) T.cl_Asks T.d_Asks_window.g (ok_Asks_window T) (hr.mono (by decide)) T.d_Asks_window.b .nil pass0 (pa_cons pe_int (pa_cons (pv 2) (pa_cons (pv 2) (pa_cons (pe_callB (c_len (K := K)) (by rfl) T.b_len (by decide +kernel) (pa_cons (pv 0) pa_nil)) pa_nil))))))))))), ?_⟩
    walk_at "go"
    refine ⟨x, rfl, hx.imp fun s hxs hs k H1 e1 => ?_⟩
    subst hxs
    have hs1 := hs.len
    have rs : RowS s := PlainS.rowS hs
    have hT1 : LamX.Tabs (tabsL tc) H1 := hT.ext fun b o h => e1.get h
    walk_at "go"
    refine ⟨s, s, rfl, rs, rs, hT1, fun p H2 e2 hT2 hA => ?_⟩
    walk_at "go"
    rw [show (((s.length : Nat) : Int) + 1).toNat = s.length + 1 by omega]
    refine lc_map (rv_range 0 (s.length + 1)) (fun _ _ => trivial) (by rw [List.length_range]; omega) (fun (i : Nat) => V.int (twL s.cps.toList i : Nat)) ?_ ?_
    · intro i H3 hi e3 B hB
      have hi' := List.mem_range.mp hi
      have hA3 := hA.ex e3
      obtain ⟨dx, tp, ga, sa, h1, h2, h3, h4, h5, h6, h7⟩ := id hA3
      refine ⟨rfl, ?_⟩
      rw [Int.zero_add]
      walk_at "go"
      have hbl := brdL_len s s
      refine ⟨p, brdL s s, s.length, 0, i, i, s.length, rfl, hA3, ⟨Nat.zero_le _, by omega, by omega, by omega, .inl rfl, .inr (by omega)⟩, fun H4 e4 => ?_⟩
      have hw := winV_Lc s s (f := 0) (la := i) (b := i) (e := s.length) (.inl rfl) (.inr rfl) (Nat.zero_le _) (by omega) (by omega) (Nat.le_refl _)
      rw [twL_Lc s (by omega)] at hw
      have hv : winV (brdL s s) s.length 0 i i s.length = (twL s.cps.toList i : Nat) := hw
      rw [hv]
      exact hB H4 e4
    · intro D H3 nD e3 v3
      have e4 : Ex (noT H) H3 := ((noT_mono e1).trans e2).trans e3
      have hn : noT H D = none := by
        cases h : noT H D with
        | none => rfl
        | some o =>
          have := ((noT_mono e1).trans e2).get h
          rw [this] at nD
          cases nD
      exact k D H3 e4 (hT2.ext fun b o h => e3.get h) hn v3
/-- rising places, from lo up to hi -/
def riseB (hi : Nat) : Nat → List Nat → Bool
  | _, [] => true
  | lo, p :: ps => decide (lo ≤ p ∧ p < hi) && riseB hi (p + 1) ps
theorem riseB_of {hi : Nat} : ∀ {l : List Nat} {lo : Nat}, l.Pairwise (· < ·) → (∀ x ∈ l, lo ≤ x ∧ x < hi) → riseB hi lo l = true
  | [], _, _, _ => rfl
  | p :: ps, lo, hp, h => by
    rw [List.pairwise_cons] at hp
    show (decide (lo ≤ p ∧ p < hi) && riseB hi (p + 1) ps) = true
    rw [decide_eq_true (h p List.mem_cons_self), riseB_of hp.2 fun x hx => ⟨hp.1 x hx, (h x (List.mem_cons_of_mem _ hx)).2⟩]
    rfl
def sp_twice (K : PySem.W.Frag) (TL : List (Addr × Str)) : Sp := fun vs H Q E => ∃ x, vs = [x] ∧ LamX.Tabs TL H ∧ Plain1 K E H x fun s =>
  ∀ (p a b D : Addr) (qs : List (Nat × Nat)) (cs : List CU) H', Ex (noT H) H' → LamX.Tabs TL H' → (noT H a = none ∧ noT H b = none ∧ noT H D = none ∧ a ≠ b) → H' p = some (.tup [.int (maxL s.cps.toList : Nat), .ref a, .ref b, .ref D]) → H' a = some (.lst (qs.map fun q => V.int (q.1 : Nat))) → H' b = some (.lst (qs.map fun q => V.int ((q.2 + maxL s.cps.toList : Nat) : Int))) → H' D = some (.lst (cs.map cuV)) →
    qs = thr (s.cps.toList.take (maxL s.cps.toList)) (s.cps.toList.drop (maxL s.cps.toList)) (maxL s.cps.toList) (s.length - maxL s.cps.toList) →
    CP (hid D (newO (noT H) H')) cs → cs.map (fun c => gsV c.2) = (List.range (s.length + 1)).map (hvC s.cps.toList) → (∀ c ∈ cs, c.1 ≠ D) → Q (.ref p) H'
theorem ok_twice (T : Tx K mg ad fd tk base tc) : FnOk P w K mg base (L2.CX P w) 11 (ad 32) (fd 32) ["row"] (sp_twice K (tabsL tc)) := by
  refine T.d_twice.F.okX sc_twice (fun vs H Q E h => ?_) (fun cdv A outer s H vs Q E hr h => ?_)
  · obtain ⟨x, rfl, _⟩ := h
    rfl
  · obtain ⟨x, rfl, hT, hx⟩ := h
    refine ⟨_, (pss_cons (ps_set (i := 1) sc_twice.nd rfl (Or.inl rfl) (pe_call (ok_twice_lengths T) (hr.mono (by decide)) rfl T.d_twice_lengths.g T.d_twice_lengths.F.kp T.d_twice_lengths.b .nil (passes_call (takes_of rfl rfl rfl rfl) (fun _ _ _ _ h => h)) (pa_cons (pv 0) pa_nil)))
      (pss_cons (ps_set (i := 2) sc_twice.nd rfl (Or.inl rfl) (pe_bmK (K := K) PySem.F.plainAttrs_list PySem.F.slot_list_index PySem.F.type_list_index (m_index (K := K)) (pv 1) (pa_cons (pe_callB (c_max1 rfl (K := K)) (by rfl) T.b_max (by decide +kernel) (pa_cons (pv 1) pa_nil)) pa_nil)))
      (pss_cons (ps_set (i := 3) sc_twice.nd rfl (Or.inl rfl) (pe_call (ok_moved T) (hr.mono (by decide)) rfl T.d_moved.g T.d_moved.F.kp T.d_moved.b .nil pass0 (pa_cons (pe_call (ok_thread_of T) (hr.mono (by decide)) rfl T.d_thread_of.g T.d_thread_of.F.kp T.d_thread_of.b .nil (passes_call (takes_of rfl rfl rfl rfl) (fun _ _ _ _ h => h)) (pa_cons (pe_slice (s_sl (K := K)) (pv 0) po_none (po_some (pv 2))) (pa_cons (pe_slice (s_sl (K := K)) (pv 0) (po_some (pv 2)) po_none) pa_nil))) (pa_cons pe_int (pa_cons (pv 2) pa_nil)))))
      (pss_cons (ps_set (i := 4) sc_twice.nd rfl (Or.inl rfl) (pe_lst pa_nil))
      (pss_cons (ps_for (passes_of rfl) rfl (pi_range1 rfl T.b_range (pa_cons (pe_callB (c_len (K := K)) (by rfl) T.b_len (by decide +kernel) (pa_cons (pv 1) pa_nil)) pa_nil)) (pg_name (i := 5) sc_twice.nd rfl (Or.inr rfl)) (pss_one (ps_expr (pe_bm PySem.F.plainAttrs_list PySem.F.slot_list_append PySem.F.type_list_append mt_append (pv 4) (pa_cons (pe_lc (own := [("heap", 6)]) (g := gName 6) rfl sc_twice.nd (pi_list (pe_call (ok_heaps_of T) (hr.mono (by decide)) rfl T.d_heaps_of.g T.d_heaps_of.F.kp T.d_heaps_of.b .nil (passes_call (takes_of rfl rfl rfl rfl) (fun _ _ _ _ h => h)) (pa_cons (pe_slice (s_sl (K := K)) (pv 0) po_none (po_some (pv 5))) (pa_cons (pe_slice (s_sl (K := K)) (pv 0) (po_some (pv 5)) po_none) pa_nil)))) (blkOk_by (own := [("heap", 6)]) (N := N_twice) (sc := defScope s_twice) (by decide +kernel)) (fun _ _ _ _ _ => pg_name (i := 6) sc_twice.nd rfl (Or.inl rfl)) (fun _ _ _ _ _ => pts_nil) (fun _ _ _ _ _ => (pe_call (ok_moved T) (hr.mono (by decide)) rfl T.d_moved.g T.d_moved.F.kp T.d_moved.b .nil pass0 (pa_cons (pv 6) (pa_cons pe_int (pa_cons (pv 5) pa_nil)))))) pa_nil)))))
      (pss_one (ps_ret (pe_tup (pa_cons (pv 2) (pa_cons (pe_lc (own := [("pair", 7)]) (g := gName 7) rfl sc_twice.nd (pi_list (pv 3)) (blkOk_by (own := [("pair", 7)]) (N := N_twice) (sc := defScope s_twice) (by decide +kernel)) (fun _ _ _ _ _ => pg_name (i := 7) sc_twice.nd rfl (Or.inl rfl)) (fun _ _ _ _ _ => pts_nil) (fun _ _ _ _ _ => (pe_ix (i_ix (K := K)) (pv 7) pe_int (fun _ _ => rfl)))) (pa_cons (pe_lc (own := [("pair", 7)]) (g := gName 7) rfl sc_twice.nd (pi_list (pv 3)) (blkOk_by (own := [("pair", 7)]) (N := N_twice) (sc := defScope s_twice) (by decide +kernel)) (fun _ _ _ _ _ => pg_name (i := 7) sc_twice.nd rfl (Or.inl rfl)) (fun _ _ _ _ _ => pts_nil) (fun _ _ _ _ _ => (pe_ix (i_ix (K := K)) (pv 7) pe_int (fun _ _ => rfl)))) (pa_cons (pv 4) pa_nil)))))))))))), ?_⟩
    walk_at "go"
    refine ⟨x, rfl, hT, hx.imp fun s hxs hs k p H1 e1 hT1 np vp => ?_⟩
    subst hxs
    walk_at "go"
    have hs1 := hs.len
    have rs : RowS s := PlainS.rowS hs
    have hsl : s.cps.toList.length = s.length := Array.length_toList
    have vI : H1 p = some (.lst ((twI s.cps.toList).map V.int)) := by
      rw [vp]
      unfold twI
      rw [List.map_map, hsl]
      rfl
    refine st_maxL (lstAt_sq (lst_of vI)) (by rw [twI_len]; omega) fun m hm hmx => ?_
    obtain ⟨m1, m2, m3⟩ := twI_max hm hmx
    walk_at "go"
    refine st_index (j := maxL s.cps.toList) (lstAt_sq (lst_of vI)) m2 m3 ?_
    have hml := maxL_le s.cps.toList
    rw [hsl] at hml
    generalize hM : maxL s.cps.toList = M at *
    walk_at "go"
    have cs := cut_s hml
    generalize cutS s none (some (M : Int)) = u at cs ⊢
    generalize cutS s (some (M : Int)) none = t at cs ⊢
    obtain ⟨ru, rt⟩ := cs.rows rs
    have ul := cs.al
    have tl := cs.bl
    refine ⟨.str u, .str t, rfl, .inl ⟨u, t, rfl, rfl, ru, rt, fun A zs H2 e2 nA vA tA hz => ?_⟩⟩
    obtain ⟨z1, z2, z3, z4⟩ := thr_sp ru rt tA hz
    walk_at "go"
    have zb : ∀ z ∈ zs, z.2.1 + 0 ≤ 1000 ∧ z.2.2 + M ≤ 1000 := fun z hzm => by
      have hq : z.2 ∈ thr u.cps.toList t.cps.toList u.length t.length := by rw [← hz]; exact List.mem_map_of_mem hzm
      have h1 : u.cps.toList.length = u.length := Array.length_toList
      have h2 : t.cps.toList.length = t.length := Array.length_toList
      obtain ⟨k1, k2, _⟩ := (thr_ok u.cps.toList t.cps.toList u.length t.length (by omega) (by omega)).2.2 _ hq
      omega
    refine ⟨A, zs, 0, M, rfl, vA, z1, zb, fun A2 xs H3 e3 nA2 vA2 news hx2 => ?_⟩
    obtain ⟨_, sx⟩ := news H3 fun _ _ _ h => h
    have vI3 := e3.get (e2.get vI)
    walk_at "go"
    rename_i D H4 nD e4 vD
    have vI4 := e4.get vI3
    have e14 : Ex H1 H4 := e2.trans (e3.trans e4)
    rw [List.length_map, twI_len, hsl]
    refine ⟨_, rfl, by omega, by omega, ?_⟩
    rw [Int.toNat_natCast]
    have eN : Ex (noT H) H3 := e1.trans (e2.trans e3)
    refine for_runs (runs_range 0 _) (fun i σ H' => Ex H3 H' ∧ (∃ cs : List CU, H' D = some (.lst (cs.map cuV)) ∧ CP (hid D (newO (noT H) H')) cs ∧ (∀ c ∈ cs, c.1 ≠ D) ∧ cs.map (fun c => gsV c.2) = (List.range i).map (hvC s.cps.toList)) ∧ ∃ y5 y6 y7, σ = [some (.str s), some (.ref p), some (.int (M : Nat)), some (.ref A2), some (.ref D), y5, y6, y7]) ⟨e4, ⟨[], vD, (fun _ h => by cases h), (fun _ h => by cases h), rfl⟩, _, _, _, rfl⟩ (fun i σ H' _ h => trivial) ?_ ?_
    · rintro i x σ H5 H6 hi ⟨e5, ⟨cs, vD5, hcs, hcD, hce⟩, y5, y6, y7, rfl⟩ ⟨rfl, rfl⟩
      have hi' : i ≤ s.length := by omega
      rw [Int.zero_add]
      walk_at "go"
      have cs2 := cut_s hi'
      generalize cutS s none (some (i : Int)) = a at cs2 ⊢
      generalize cutS s (some (i : Int)) none = b at cs2 ⊢
      obtain ⟨ra, rb⟩ := cs2.rows rs
      have al := cs2.al
      have bl := cs2.bl
      have q1 := cs2.a_
      have q2 := cs2.b_
      have h1 : a.cps.toList.length = a.length := Array.length_toList
      have h2 : b.cps.toList.length = b.length := Array.length_toList
      refine ⟨.str a, .str b, rfl, .inl ⟨a, b, rfl, rfl, ra, rb, fun d hs' tss H7 e7 hh => ?_⟩⟩
      obtain ⟨gs, g1, g2, g3, g4, g5, g6⟩ := lev_hp ra rb hh
      have vd : H7 d = some (.lst (gs.map hV)) := by rw [g1]; exact hh.at_
      refine ⟨d, rfl, ⟨_, lstAt_sq (lst_of vd)⟩, ?_⟩
      refine lc_made (rv_list _ d gs hV) (fun H' e => lst_of (e.get vd)) (by omega) (fun g q G => ∃ ys : List ZP, HP (newO H7 G) [(q, ys)] ∧ ys.map (·.2) = (g.2.map (·.2)).map (dnQ 0 i)) (fun g q G G' h e => by
        obtain ⟨ys, a1, a2⟩ := h
        exact ⟨ys, a1.ex (newO_mono e), a2⟩) ?_ ?_
      · intro g H8 hg e8 B hB
        obtain ⟨k1, k2⟩ := g4 g hg
        have hgb : ∀ z ∈ g.2, z.2.1 + 0 ≤ 1000 ∧ z.2.2 + i ≤ 1000 := fun z hz => by
          have q0 : g.2.map (·.2) ∈ gs.map fun g => g.2.map (·.2) := List.mem_map_of_mem hg
          rw [g3] at q0
          obtain ⟨l, _, hl⟩ := List.mem_map.mp q0
          have q5 : z.2 ∈ lev a.cps.toList b.cps.toList (prs a.cps.toList b.cps.toList a.length) l := by rw [hl]; exact List.mem_map_of_mem hz
          have := lev_small q5
          omega
        refine ⟨rfl, ?_⟩
        walk_at "go"
        refine ⟨g.1, g.2, 0, i, rfl, e8.get k1, k2.ex e8, hgb, fun q ys H9 e9 nq vq nw hq => ?_⟩
        exact hB q H9 e9 fun G hG => ⟨ys, fun f hf => by
          rw [List.mem_singleton.mp hf]
          exact nw (newO H7 G) fun c o n w => newO_get (hG c o n w) (Ex.free e8 n), hq⟩
      · intro L H8 ts nL e8 vL hl hP
        obtain ⟨fs, f1, f2, f3⟩ := hz_pick hl hP
        have vD8 := e8.get (e7.get vD5)
        have vD7 := e7.get vD5
        have hnL : L ≠ D := fun z => by
          rw [z, vD7] at nL
          cases nL
        have hcl : cs.length ≤ 48 := by
          have := congrArg List.length hce
          rw [List.length_map, List.length_map, List.length_range] at this
          omega
        walk_at "go"
        refine st_app vD8 (by rw [List.length_map]; omega) ?_
        refine ⟨(e5.trans (e7.trans e8)).mut nD, ⟨cs ++ [(L, fs)], ?_, ?_, ?_, ?_⟩, _, _, _, rfl⟩
        · rw [upd_same, List.map_append]
          rfl
        · rw [new_upd]
          intro c hc
          rcases List.mem_append.mp hc with hc | hc
          · exact (hcs.ex (new_hid (e7.trans e8))) c hc
          · rw [List.mem_singleton.mp hc]
            have eo := new_in (H8 := H8) (eN.trans (e5.trans e7)) vD7
            exact ⟨by rw [f1]; exact eo.get (newO_get vL nL), f2.ex eo⟩
        · intro c hc
          rcases List.mem_append.mp hc with hc | hc
          · exact hcD c hc
          · rw [List.mem_singleton.mp hc]
            exact hnL
        · rw [List.map_append, List.range_succ, List.map_append, hce]
          refine congrArg (fun z => _ ++ [z]) ?_
          show gsV fs = hvC s.cps.toList i
          rw [f3, hvC_eq, hsl, ← q1, ← q2]
          rw [al, bl] at g3
          rw [← g3, List.map_map]
          rfl
    · rintro σ H5 ⟨e5, ⟨cs', vD5, hcs, hcD, hce⟩, y5, y6, y7, rfl⟩
      have vA5 := e5.get vA2
      have sx5 := sx.ex e5
      walk_at "go"
      refine lc_map (rv_list _ A2 xs zV) (fun H' e => lst_of (e.get vA5)) (by have := sx.few; omega) (fun z => V.int (z.2.1 : Nat)) ?_ ?_
      · intro z H' hz e B hB
        have zt : H' z.1 = some (.tup [.int (z.2.1 : Nat), .int (z.2.2 : Nat)]) := e.get (sx5.tp z hz)
        refine ⟨rfl, ?_⟩
        walk_at "go"
        exact hB _ (Fr.refl _)
      intro a H6 na e6 va
      have vA6 := e6.get vA5
      have sx6 := sx5.ex e6
      walk_at "go"
      refine lc_map (rv_list _ A2 xs zV) (fun H' e => lst_of (e.get vA6)) (by have := sx.few; omega) (fun z => V.int (z.2.2 : Nat)) ?_ ?_
      · intro z H' hz e B hB
        have zt : H' z.1 = some (.tup [.int (z.2.1 : Nat), .int (z.2.2 : Nat)]) := e.get (sx6.tp z hz)
        refine ⟨rfl, ?_⟩
        walk_at "go"
        exact hB _ (Fr.refl _)
      intro b H7 nb e7 vb
      walk_at "go"
      rename_i pp H8 np e8 vp8
      have e58 : Ex H5 H8 := e6.trans (e7.trans e8)
      have eA : Ex (noT H) H5 := eN.trans e5
      have hM2 : maxL s.cps.toList = M := hM
      subst hM2
      have q1 := cs.a_
      have q2 := cs.b_
      refine k pp a b D (zs.map (·.2)) cs' H8 (eA.trans e58) (hT1.ext fun c o h => (e2.trans (e3.trans (e5.trans e58))).get h) ⟨Ex.free eA na, Ex.free (eA.trans e6) nb, Ex.free eN nD, ?_⟩ vp8 ?_ ?_ ((e58).get vD5) ?_ (hcs.ex (new_hid e58)) hce hcD
      · intro z
        rw [z] at va
        rw [va] at nb
        cases nb
      · rw [(e7.trans e8).get va]
        congr 2
        have : xs.map (fun z => V.int (z.2.1 : Nat)) = (xs.map (·.2)).map fun q => V.int (q.1 : Nat) := by rw [List.map_map]; rfl
        rw [this, hx2, List.map_map]
        rfl
      · rw [e8.get vb]
        congr 2
        have : xs.map (fun z => V.int (z.2.2 : Nat)) = (xs.map (·.2)).map fun q => V.int (q.2 : Nat) := by rw [List.map_map]; rfl
        rw [this, hx2, List.map_map]
        rfl
      · rw [hz, q1, q2, ul, tl]
def sp__law_cell_at (K : PySem.W.Frag) : Sp := fun vs H Q _ => ∃ (a : Addr) (ns : List Int) (j : Int), vs = [.ref a, .int j] ∧ SqL K H a (ns.map V.int) ∧ (0 ≤ j ∧ j < 1000000) ∧ ns.length ≤ 63 ∧ ∀ z : Int, Q (.int z) H
theorem ok__law_cell_at (T : Tx K mg ad fd tk base tc) : FnOk P w K mg base CX0 1 (ad 33) (fd 33) ["_law_script", "_law_k"] (sp__law_cell_at K) := by
  refine T.d__law_cell_at.F.ok sc__law_cell_at (fun vs H Q E h => ?_) (fun cdv A outer s H vs Q E hr h => ?_)
  · obtain ⟨a, ns, j, rfl, _⟩ := h
    rfl
  · obtain ⟨a, ns, j, rfl, hs, hj, hl, k⟩ := h
    refine ⟨_, (pss_cons (ps_if (pt_cmpR o_lt (pv 1) (pe_callB (c_len (K := K)) (by rfl) T.b_len (by decide +kernel) (pa_cons (pv 0) pa_nil)) (nomark _)) (pss_one (ps_ret (pe_ix (i_ix (K := K)) (pv 0) (pv 1) (fun _ _ => rfl)))) pss_nil)
      (pss_one (ps_ret pe_int))), ?_⟩
    walk_at "go"
    refine st_lenK hs ?_
    walk_at "go"
    refine st_br2 (fun c => ?_) (fun c => ?_)
    · walk_at "go"
      rw [List.length_map] at c
      obtain ⟨v, h2, h3⟩ := at_in (xs := ns.map V.int) hj.1 (by rw [List.length_map]; exact c)
      rw [List.getElem?_map] at h3
      cases q : ns[j.toNat]? with
      | none => rw [q] at h3; cases h3
      | some z =>
        rw [q] at h3
        cases h3
        exact st_ixK hs h2 (k z)
    · walk_at "go"
      exact k _
def sp__law_great : Sp := fun vs H Q _ => ∃ c : Int, vs = [.int c] ∧ ∀ n : Int, 0 ≤ n → Q (.int n) H
theorem ok__law_great (T : Tx K mg ad fd tk base tc) : FnOk P w K mg base CX0 1 (ad 34) (fd 34) ["_law_cell"] sp__law_great := by
  refine T.d__law_great.F.ok sc__law_great (fun vs H Q E h => ?_) (fun cdv A outer s H vs Q E hr h => ?_)
  · obtain ⟨c, rfl, _⟩ := h
    rfl
  · obtain ⟨c, rfl, k⟩ := h
    refine ⟨_, (pss_cons (ps_if (pt_cmpR o_ge (pv 0) (pe_op o_pow pe_int pe_int) (nomark _)) (pss_one (ps_ret (pv 0))) pss_nil)
      (pss_cons (ps_set (i := 1) sc__law_great.nd rfl (Or.inl rfl) pe_int)
      (pss_cons (ps_set (i := 2) sc__law_great.nd rfl (Or.inl rfl) (pe_op o_add (pe_op o_mod (pv 0) pe_int) pe_int))
      (pss_cons (ps_for PassesOwn.never rfl (pi_range1 rfl T.b_range (pa_cons pe_int pa_nil)) (pg_name (i := 3) sc__law_great.nd rfl (Or.inl rfl)) (pss_cons (ps_set (i := 2) sc__law_great.nd rfl (Or.inl rfl) (pe_op o_mod (pe_op o_add (pe_op o_add (pe_op o_mul (pv 2) (pv 2)) (pe_op o_mul pe_int (pv 2))) (pv 3)) pe_int))
      (pss_one (ps_set (i := 1) sc__law_great.nd rfl (Or.inl rfl) (pe_op o_add (pe_op o_mul (pv 1) pe_int) (pe_op o_mod (pe_op o_mul (pv 2) pe_int) pe_int))))))
      (pss_one (ps_ret (pv 1))))))), ?_⟩
    walk_at "go"
    refine st_br2 (fun c1 => ?_) (fun c1 => ?_)
    · walk_at "go"
      exact k c (Int.le_trans (by decide +kernel : (0 : Int) ≤ 10 ^ Int.toNat 18) c1)
    · walk_at "go"
      have b0 := Int.emod_nonneg c (b := 2147483647) (by decide)
      have b1 := Int.emod_lt_of_pos c (b := 2147483647) (by decide)
      refine for_runs (runs_range 0 _) (fun i σ H' => H' = H ∧ ∃ f n y, σ = [some (.int c), some (.int f), some (.int n), y] ∧ 0 ≤ f ∧ 0 ≤ n ∧ n < 2147495992) ⟨rfl, _, _, _, rfl, by decide, by omega, by omega⟩ (fun _ _ _ _ _ => trivial) ?_ ?_
      · rintro i x σ H0 H1 hi ⟨rfl, f, n, y, rfl, f0, n0, n1⟩ ⟨rfl, rfl⟩
        walk_at "go"
        have r0 := Int.emod_nonneg (n * n + 48271 * n + (0 + ((i : Nat) : Int))) (b := 2147483647) (by decide)
        have r1 := Int.emod_lt_of_pos (n * n + 48271 * n + (0 + ((i : Nat) : Int))) (b := 2147483647) (by decide)
        refine ⟨rfl, _, _, _, rfl, ?_, r0, Int.lt_trans r1 (by decide)⟩
        generalize (n * n + 48271 * n + (0 + ((i : Nat) : Int))) % 2147483647 = r at r0 r1 ⊢
        have := Int.emod_nonneg (r * 69621) (b := 2147483629) (by decide)
        omega
      · rintro σ H0 ⟨rfl, f, n, y, rfl, f0, n0, n1⟩
        walk_at "go"
        exact k f f0
theorem at_abc {i : Int} (h0 : 0 ≤ i) (h1 : i < 26) : atI ("abcdefghijklmnopqrstuvwxyz" : Str).cps.toList i = some (97 + i.toNat) := by
  have e : ("abcdefghijklmnopqrstuvwxyz" : Str).cps.toList = List.range' 97 26 := by decide +kernel
  rw [e]
  unfold atI ixN
  rw [List.length_range', if_pos h0, if_pos (by omega)]
  show (List.range' 97 26)[i.toNat]? = _
  rw [List.getElem?_range' (by omega), Nat.one_mul]
def sp__law_letter : Sp := fun vs H Q _ => ∃ n : Int, vs = [.int n] ∧ Q (.str (tx [97 + (n % 26).toNat])) H
theorem ok__law_letter (T : Tx K mg ad fd tk base tc) : FnOk P w K mg base CX0 1 (ad 35) (fd 35) ["_law_number"] sp__law_letter := by
  refine T.d__law_letter.F.ok sc__law_letter (fun vs H Q E h => ?_) (fun cdv A outer s H vs Q E hr h => ?_)
  · obtain ⟨n, rfl, _⟩ := h
    rfl
  · obtain ⟨n, rfl, k⟩ := h
    refine ⟨_, (pss_one (ps_ret (pe_ix (i_ix (K := K)) pe_str (pe_op o_mod (pv 0) pe_int) (fun _ _ => rfl)))), ?_⟩
    walk_at "go"
    have b0 := Int.emod_nonneg n (b := 26) (by omega)
    have b1 := Int.emod_lt_of_pos n (b := 26) (by omega)
    exact st_sign (by decide +kernel) (at_abc b0 b1) k
/-- a stretch with its worth, begin, end -/
structure S3 where
  w : Int
  b : Nat
  e : Nat
deriving DecidableEq
def encS (z : S3) : PyData := .tuple [.int z.w, .int (z.b : Nat), .int (z.e : Nat)]
def sO (z : S3) : HO := .tup [.int z.w, .int (z.b : Nat), .int (z.e : Nat)]
abbrev TZ := Addr × S3
abbrev tV (z : TZ) : V := .ref z.1
/-- each of these stands as its tuple -/
def TT (H : Hp) (zs : List TZ) : Prop := ∀ z ∈ zs, H z.1 = some (sO z.2)
theorem TT.ex {H H' : Hp} {zs : List TZ} (h : TT H zs) (e : Ex H H') : TT H' zs := fun z hz => e.get (h z hz)
theorem TT.up {H : Hp} {zs : List TZ} {D : Addr} {xs : List V} {u : HO} (h : TT H zs) (hD : H D = some (.lst xs)) : TT (upd H D u) zs := fun z hz => by
  rw [upd_ne fun e => ?_]
  · exact h z hz
  · have := h z hz
    rw [e, hD] at this
    cases this
theorem TT.sub {H : Hp} {zs ys : List TZ} (h : TT H zs) (e : ∀ z ∈ ys, z ∈ zs) : TT H ys := fun z hz => h z (e z hz)
theorem TT.app {H : Hp} {zs ys : List TZ} (h : TT H zs) (k : TT H ys) : TT H (zs ++ ys) := fun z hz => by
  rcases List.mem_append.mp hz with q | q
  · exact h z q
  · exact k z q
theorem TT.rn1 {H : Hp} {z : TZ} (h : H z.1 = some (sO z.2)) : Rn H (tV z) (encS z.2) := .tup h (.cons (.int _) (.cons (.int _) (.cons (.int _) .nil)))
theorem TT.rn {H : Hp} {zs : List TZ} (h : TT H zs) : RnA H (zs.map tV) (zs.map fun z => encS z.2) := rnA_map fun z hz => TT.rn1 (h z hz)
theorem TT.rnL {H : Hp} {zs : List TZ} {a : Addr} (h : TT H zs) (ha : H a = some (.lst (zs.map tV))) : Rn H (.ref a) (.list (zs.map fun z => encS z.2)) := .lst ha h.rn
theorem encS_noDict (zs : List TZ) : (PyData.list (zs.map fun z => encS z.2)).hasDict = false := by
  simp only [PyData.hasDict]
  exact hasDictA_of fun d hd => by
    obtain ⟨z, _, rfl⟩ := List.mem_map.mp hd
    rfl
theorem TT.rpL {H : Hp} {zs : List TZ} {a : Addr} (h : TT H zs) (ha : H a = some (.lst (zs.map tV))) : Rp H (.ref a) (.list (zs.map fun z => encS z.2)) := (h.rnL ha).rp (encS_noDict zs)
def apartS (a b : S3) : Prop := a.e ≤ b.b ∨ b.e ≤ a.b
/-- a choice apart: places in the list, no two of one another's places -/
structure Choice (zs : List S3) (cs : List Nat) : Prop where
  lt : ∀ c ∈ cs, c < zs.length
  ap : cs.Pairwise fun a b => ∀ x y, zs[a]? = some x → zs[b]? = some y → apartS x y
theorem apartS_sym {a b : S3} (h : apartS a b) : apartS b a := Or.symm h
theorem Choice.perm {zs : List S3} {cs ds : List Nat} (h : Choice zs cs) (p : ds.Perm cs) : Choice zs ds := ⟨fun c hc => h.lt c (p.mem_iff.mp hc), (p.pairwise_iff (fun {x y} h a b h1 h2 => apartS_sym (h b a h2 h1))).mpr h.ap⟩
inductive Chg where
  | keep (a : Nat) : Chg
  | change (a b : Nat) : Chg
  | out (a : Nat) : Chg
  | inn (a : Nat) : Chg
deriving DecidableEq
def isL (a : Nat) : Prop := 97 ≤ a ∧ a ≤ 122
def ChgOk : Chg → Prop
  | .keep a => isL a
  | .change a b => isL a ∧ isL b ∧ a ≠ b
  | .out a => isL a
  | .inn a => isL a
def encC : Chg → PyData
  | .keep a => .tuple [.str "keep", .str (tx [a])]
  | .change a b => .tuple [.str "change", .str (tx [a]), .str (tx [b])]
  | .out a => .tuple [.str "out", .str (tx [a])]
  | .inn a => .tuple [.str "in", .str (tx [a])]
def ChgD (d : PyData) : Prop := ∃ c, d = encC c ∧ ChgOk c
/-- no text in it is too long to be looked at -/
def tB : PyData → Prop
  | .tuple ds => ∀ z, PyData.str z ∈ ds → z.length ≤ 16777216
  | _ => True
def chVs : Chg → List V
  | .keep a => [.str "keep", .str (tx [a])]
  | .change a b => [.str "change", .str (tx [a]), .str (tx [b])]
  | .out a => [.str "out", .str (tx [a])]
  | .inn a => [.str "in", .str (tx [a])]
abbrev CZ := Addr × Chg
def cV (z : CZ) : V := .ref z.1
def CT (H : Hp) (zs : List CZ) : Prop := ∀ z ∈ zs, H z.1 = some (.tup (chVs z.2))
theorem CT.ex {H H' : Hp} {zs : List CZ} (h : CT H zs) (e : Ex H H') : CT H' zs := fun z hz => e.get (h z hz)
theorem CT.app {H : Hp} {zs ys : List CZ} (h : CT H zs) (k : CT H ys) : CT H (zs ++ ys) := fun z hz => (List.mem_append.mp hz).elim (h z) (k z)
theorem CT.sub {H : Hp} {zs ys : List CZ} (h : CT H zs) (k : ∀ z ∈ ys, z ∈ zs) : CT H ys := fun z hz => h z (k z hz)
/-- things that are no changes -/
def NoCh (H : Hp) (v : V) : Prop := ∃ d, Rn H v d ∧ tB d ∧ d.hasDict = false ∧ d.depth ≤ 5 ∧ ¬ ChgD d
theorem NoCh.mk {H : Hp} {v : V} {d : PyData} (h1 : Rn H v d) (h2 : tB d) (h3 : d.hasDict = false) (h4 : d.depth ≤ 5) (h5 : ¬ ChgD d) : NoCh H v := ⟨d, h1, h2, h3, h4, h5⟩
theorem NoCh.ex {H H' : Hp} {v : V} (h : NoCh H v) (e : Ex H H') : NoCh H' v := by
  obtain ⟨d, h1, h2⟩ := h
  exact ⟨d, h1.ex e, h2⟩
theorem zip_cz {H : Hp} : ∀ {ts : List Addr} {cs : List Chg}, ObjsAt H ts (cs.map fun c => HO.tup (chVs c)) → CT H (ts.zip cs) ∧ (ts.zip cs).map cV = ts.map V.ref ∧ (ts.zip cs).length = ts.length ∧ ∀ z ∈ ts.zip cs, z.2 ∈ cs
  | [], [], _ => ⟨fun _ h => (by cases h), rfl, rfl, fun _ h => (by cases h)⟩
  | [], _ :: _, h => by cases h
  | _ :: _, [], h => by cases h
  | t :: ts, c :: cs, h => by
    cases h with
    | cons h1 h2 =>
      obtain ⟨a, b, d, e⟩ := zip_cz h2
      refine ⟨fun z hz => ?_, by rw [List.zip_cons_cons, List.map_cons, List.map_cons, b]; rfl, by rw [List.zip_cons_cons, List.length_cons, List.length_cons, d], fun z hz => ?_⟩
      · rcases List.mem_cons.mp hz with rfl | hz
        · exact h1
        · exact a z hz
      · rcases List.mem_cons.mp hz with rfl | hz
        · exact List.mem_cons_self
        · exact List.mem_cons_of_mem _ (e z hz)
def Chg.o : Chg → List Nat
  | .keep a => [a]
  | .change a _ => [a]
  | .out a => [a]
  | .inn _ => []
def Chg.n : Chg → List Nat
  | .keep a => [a]
  | .change _ b => [b]
  | .out _ => []
  | .inn a => [a]
def newR (l : List Chg) : Str := tx (l.flatMap Chg.n)
theorem chn_le (c : Chg) : c.n.length ≤ 1 ∧ ∀ a ∈ c.n, ChgOk c → isL a := by
  cases c <;> exact ⟨by simp [Chg.n], fun a ha ok => by first | (cases ha; done) | (rw [List.mem_singleton.mp ha]; first | exact ok | exact ok.2.1)⟩
theorem newR_let {l : List Chg} (h : ∀ c ∈ l, ChgOk c) : ∀ a ∈ (newR l).cps.toList, isL a := fun a ha => by
  unfold newR at ha
  rw [tx_toList] at ha
  obtain ⟨c, hc, h2⟩ := List.mem_flatMap.mp ha
  exact (chn_le c).2 a h2 (h c hc)
theorem let_plain {z : Str} (h : ∀ a ∈ z.cps.toList, isL a) (hl : z.length ≤ 24) : PlainS z := by
  show (isRow (.str z) && (decide (z.length ≤ 24) && !decide (46 ∈ z.cps.toList))) = true
  rw [decide_eq_true hl, decide_eq_false (fun m => by have := h 46 m; unfold isL at this; omega), Bool.not_false, Bool.true_and, Bool.and_true]
  show (decide (z.length ≤ 48) && z.cps.toList.all rowSign) = true
  rw [decide_eq_true (by omega), Bool.true_and, List.all_eq_true]
  intro a ha
  have := h a ha
  unfold isL at this
  unfold rowSign
  simp [this]
theorem join_flat {f : Chg → List Nat} (l : List Chg) : Txt.join "" (l.map fun c => tx (f c)) = tx (l.flatMap f) := by
  have h := join_txs (l.map f)
  rw [List.map_map] at h
  rw [List.flatMap_def]
  exact h
theorem sum_flat {f : Chg → List Nat} (h : ∀ c, (f c).length ≤ 1) : ∀ l : List Chg, ((l.map fun c => tx (f c)).map (·.length)).sum ≤ l.length
  | [] => Nat.le_refl _
  | c :: l => by
    have := h c
    have := sum_flat h l
    rw [List.map_cons, List.map_cons, List.sum_cons, tx_length, List.length_cons]
    omega
theorem let_modR (n : Int) : isL (97 + (n % 26).toNat) := by
  have := Int.emod_nonneg n (b := 26) (by decide)
  have := Int.emod_lt_of_pos n (b := 26) (by decide)
  unfold isL
  omega
def sp__law_row : Sp := fun vs H Q _ => ∃ c : Int, vs = [.int c, .int 24] ∧ ∀ (s : Str) H', Ex H H' → (∀ a ∈ s.cps.toList, isL a) → s.length ≤ 24 → Q (.str s) H'
theorem ok__law_row (T : Tx K mg ad fd tk base tc) : FnOk P w K mg base CX0 2 (ad 36) (fd 36) ["_law_cell", "_law_most"] sp__law_row := by
  refine T.d__law_row.F.ok sc__law_row (fun vs H Q E h => ?_) (fun cdv A outer s H vs Q E hr h => ?_)
  · obtain ⟨c, rfl, _⟩ := h
    rfl
  · obtain ⟨c, rfl, k⟩ := h
    refine ⟨_, (pss_cons (ps_set (i := 2) sc__law_row.nd rfl (Or.inl rfl) (pe_call (ok__law_great T) (hr.mono (by decide)) rfl T.d__law_great.g T.d__law_great.F.kp T.d__law_great.b .nil pass0 (pa_cons (pv 0) pa_nil)))
      (pss_cons (ps_set (i := 3) sc__law_row.nd rfl (Or.inl rfl) (pe_op o_mod (pv 2) pe_int))
      (pss_cut (ps_if (pt_cmpR (o_eq hr.units) (pe_op o_mod (pe_op o_div (pv 2) pe_int) pe_int) pe_int (nomark _)) (pss_one (ps_set (i := 3) sc__law_row.nd rfl (Or.inl rfl) (pe_op o_mod (pe_op o_div (pv 2) pe_int) (pe_op o_add (pv 1) pe_int)))) pss_nil)
      (pss_cons (ps_set (i := 2) sc__law_row.nd rfl (Or.inl rfl) (pe_op o_div (pv 2) pe_int))
      (pss_cons (ps_set (i := 4) sc__law_row.nd rfl (Or.inl rfl) (pe_ix (i_ix (K := K)) (pe_lst (pa_cons pe_int (pa_cons pe_int (pa_cons pe_int (pa_cons pe_int (pa_cons pe_int (pa_cons pe_int pa_nil))))))) (pe_op o_mod (pv 2) pe_int) (fun _ _ => rfl)))
      (pss_cons (ps_set (i := 5) sc__law_row.nd rfl (Or.inl rfl) (pe_op o_div (pv 2) pe_int))
      (pss_cons (ps_set (i := 2) sc__law_row.nd rfl (Or.inl rfl) (pe_op o_div (pv 5) pe_int))
      (pss_cons (ps_set (i := 6) sc__law_row.nd rfl (Or.inl rfl) pe_str)
      (pss_cons (ps_for PassesOwn.never rfl (pi_range1 rfl T.b_range (pa_cons (pv 3) pa_nil)) (pg_name (i := 7) sc__law_row.nd rfl (Or.inl rfl)) (pss_cons (ps_set (i := 6) sc__law_row.nd rfl (Or.inl rfl) (pe_op o_add (pv 6) (pe_call (ok__law_letter T) (hr.mono (by decide)) rfl T.d__law_letter.g T.d__law_letter.F.kp T.d__law_letter.b .nil pass0 (pa_cons (pe_op o_add (pe_op o_mod (pv 5) pe_int) (pe_op o_mod (pv 2) (pv 4))) pa_nil))))
      (pss_one (ps_set (i := 2) sc__law_row.nd rfl (Or.inl rfl) (pe_op o_div (pv 2) (pv 4))))))
      (pss_one (ps_ret (pv 6)))))))))))), ?_⟩
    walk_at "go"
    refine ⟨c, rfl, fun n hn => ?_⟩
    walk_at "go"
    refine ⟨fun σ' H' => H' = H ∧ ∃ (m : Nat) (y3 y4 y5 y6 : Option V), m ≤ 24 ∧ σ' = [some (.int c), some (.int 24), some (.int n), some (.int (m : Nat)), y3, y4, y5, y6], ?_, ?_⟩
    · walk_at "go"
      refine st_br2 (fun c1 => ?_) (fun c1 => ?_)
      · walk_at "go"
        have b0 := Int.emod_nonneg (n / 72) (b := 25) (by decide)
        have b1 := Int.emod_lt_of_pos (n / 72) (b := 25) (by decide)
        exact ⟨rfl, (n / 72 % 25).toNat, _, _, _, _, by omega, by rw [Int.toNat_of_nonneg b0]; rfl⟩
      · walk_at "go"
        have b0 := Int.emod_nonneg n (b := 9) (by decide)
        have b1 := Int.emod_lt_of_pos n (b := 9) (by decide)
        exact ⟨rfl, (n % 9).toNat, _, _, _, _, by omega, by rw [Int.toNat_of_nonneg b0]; rfl⟩
    rintro σ' H' ⟨rfl, m, y3, y4, y5, y6, hm, rfl⟩
    walk_at "go"
    rename_i L H1 n1 e1 v1
    have b0 := Int.emod_nonneg (n / 1800) (b := 6) (by decide)
    have b1 := Int.emod_lt_of_pos (n / 1800) (b := 6) (by decide)
    refine st_ixI [1, 2, 2, 3, 4, 26] v1 rfl (by omega) (by simp; omega) fun w hw hwm => ?_
    have hw26 : 1 ≤ w ∧ w ≤ 26 := by
      simp only [List.mem_cons, List.not_mem_nil, or_false] at hwm
      omega
    walk_at "go"
    rw [Int.toNat_natCast]
    refine for_runs (runs_range 0 _) (fun i σ G => G = H1 ∧ ∃ (z : Str) (u g : Int) (y : Option V), σ = [some (.int c), some (.int 24), some (.int u), some (.int (m : Nat)), some (.int w), some (.int g), some (.str z), y] ∧ (∀ a ∈ z.cps.toList, isL a) ∧ z.length = i) ⟨rfl, "", _, _, _, rfl, (fun a h => by cases h), rfl⟩ (fun _ _ _ _ _ => trivial) ?_ ?_
    · rintro i x σ H0 H2 hi ⟨rfl, z, u, g, y, rfl, hz, hzl⟩ ⟨rfl, rfl⟩
      walk_at "go"
      refine ⟨_, rfl, ?_⟩
      have hl := let_modR (g % 26 + u % w)
      generalize 97 + ((g % 26 + u % w) % 26).toNat = o at hl ⊢
      refine st_addS (by rw [tx_length, hzl]; simp; omega) ?_
      walk_at "go"
      refine ⟨rfl, _, _, _, _, rfl, fun a ha => ?_, by rw [Str.length_append, tx_length, hzl]; rfl⟩
      rw [show (z ++ tx [o]).cps.toList = z.cps.toList ++ (tx [o]).cps.toList from Array.toList_append, tx_toList] at ha
      rcases List.mem_append.mp ha with ha | ha
      · exact hz a ha
      · rw [List.mem_singleton.mp ha]; exact hl
    · rintro σ H0 ⟨rfl, z, u, g, y, rfl, hz, hzl⟩
      walk_at "go"
      exact k z H0 e1 hz (by omega)
def OO (l : List Chg) : List Nat := l.flatMap Chg.o
def NN (l : List Chg) : List Nat := l.flatMap Chg.n
theorem NN_cons (a : Chg) (l : List Chg) : NN (a :: l) = a.n ++ NN l := List.flatMap_cons
theorem OO_app (l m : List Chg) : OO (l ++ m) = OO l ++ OO m := List.flatMap_append
theorem NN_app (l m : List Chg) : NN (l ++ m) = NN l ++ NN m := List.flatMap_append
def sp__law_list : Sp := fun vs H Q _ => ∃ (s : Str) (p : Addr) (cs : List Int), vs = [.str s, .ref p, .int 12] ∧ (∀ a ∈ s.cps.toList, isL a) ∧ s.length ≤ 12 ∧ H p = some (.lst (cs.map V.int)) ∧ cs.length ≤ 900 ∧ ∀ q (zs : List CZ) H', Ex H H' → H q = none → H' q = some (.lst (zs.map cV)) → CT H' zs → zs.length ≤ 1000 → (∀ z ∈ zs, ChgOk z.2) → (NN (zs.map fun z => z.2)).length ≤ 12 → Q (.ref q) H'
/-- what stands while the list is made -/
def ListI (H : Hp) (s : Str) (p F : Addr) (tn : Nat) (σ : L2.St) (H' : Hp) : Prop := Ex H H' ∧ ∃ (n m : Nat) (zs : List CZ) (y6 y7 y8 y9 : Option V), H' F = some (.lst (zs.map cV)) ∧ CT H' zs ∧ (∀ z ∈ zs, ChgOk z.2) ∧ OO (zs.map fun z => z.2) = s.cps.toList.take n ∧ n ≤ s.length ∧ zs.length ≤ tn ∧ (NN (zs.map fun z => z.2)).length + s.length = m + n ∧ m ≤ 12 ∧ σ = [some (.str s), some (.ref p), some (.int 12), some (.ref F), some (.int (n : Nat)), some (.int (m : Nat)), y6, y7, y8, y9]
theorem ct_add {H : Hp} {F t : Addr} {zs : List CZ} {c : Chg} (h : CT H zs) (hF : H F = some (.lst (zs.map cV))) (ht : H t = some (.tup (chVs c))) : CT (upd H F (.lst (zs.map cV ++ [.ref t]))) (zs ++ [(t, c)]) := fun z hz => by
  have hz2 : H z.1 = some (.tup (chVs z.2)) := by
    rcases List.mem_append.mp hz with h2 | h2
    · exact h z h2
    · rw [List.mem_singleton.mp h2]; exact ht
  rw [upd_ne (fun e => by rw [e, hF] at hz2; cases hz2)]
  exact hz2
theorem list_add {H H' : Hp} {s : Str} {p F t : Addr} {n m k tn : Nat} {zs : List CZ} {c : Chg} {y6 y7 y8 y9 : Option V} (nF : H F = none) (e : Ex H H') (vF : H' F = some (.lst (zs.map cV))) (hz : CT H' zs) (ok : ∀ z ∈ zs, ChgOk z.2) (ho : OO (zs.map fun z => z.2) = s.cps.toList.take n) (ht : H' t = some (.tup (chVs c))) (okc : ChgOk c) (hc : s.cps.toList.take m = s.cps.toList.take n ++ c.o) (hm : m ≤ s.length) (hl : zs.length + 1 ≤ tn + 1) (hk : (NN (zs.map fun z => z.2)).length + c.n.length + s.length = k + m) (hk2 : k ≤ 12) :
    ListI H s p F (tn + 1) [some (.str s), some (.ref p), some (.int 12), some (.ref F), some (.int (m : Nat)), some (.int (k : Nat)), y6, y7, y8, y9] (upd H' F (.lst (zs.map cV ++ [.ref t]))) := by
  refine ⟨e.mut nF, m, k, zs ++ [(t, c)], y6, y7, y8, y9, by rw [upd_same, List.map_append]; rfl, ct_add hz vF ht, fun z hz => ?_, ?_, hm, by rw [List.length_append]; exact hl, ?_, hk2, rfl⟩
  · rcases List.mem_append.mp hz with h2 | h2
    · exact ok z h2
    · rw [List.mem_singleton.mp h2]; exact okc
  · rw [List.map_append, OO_app, ho, hc]
    simp [OO]
  · rw [List.map_append, NN_app, List.length_append, List.map_singleton, show NN [c] = c.n from by simp [NN]]
    exact hk
theorem keep_n : ∀ l : List Nat, NN (l.map Chg.keep) = l
  | [] => rfl
  | a :: l => by rw [List.map_cons, NN_cons, keep_n l]; rfl
theorem ok__law_list (T : Tx K mg ad fd tk base tc) : FnOk P w K mg base CX0 2 (ad 37) (fd 37) ["_law_row_here", "_law_cells", "_law_most"] sp__law_list := by
  refine T.d__law_list.F.ok sc__law_list (fun vs H Q E h => ?_) (fun cdv A outer s H vs Q E hr h => ?_)
  · obtain ⟨s, p, cs, rfl, _⟩ := h
    rfl
  · obtain ⟨s, p, cs, rfl, hs, hl, hp, hc, k⟩ := h
    refine ⟨_, (pss_cons (ps_set (i := 3) sc__law_list.nd rfl (Or.inl rfl) (pe_lst pa_nil))
      (pss_cons (ps_set (i := 4) sc__law_list.nd rfl (Or.inl rfl) pe_int)
      (pss_cons (ps_set (i := 5) sc__law_list.nd rfl (Or.inl rfl) (pe_callB (c_len (K := K)) (by rfl) T.b_len (by decide +kernel) (pa_cons (pv 0) pa_nil)))
      (pss_cons (ps_for PassesOwn.never rfl (pi_list (pv 1)) (pg_name (i := 6) sc__law_list.nd rfl (Or.inl rfl)) (pss_one (ps_if (PW.pt (pw_and (pt_cmpR o_lt (pe_op o_mod (pv 6) pe_int) pe_int (nomark _)) (pw_and1 (pt_cmpR o_lt (pv 4) (pe_callB (c_len (K := K)) (by rfl) T.b_len (by decide +kernel) (pa_cons (pv 0) pa_nil)) (nomark _))))) (pss_cons (ps_set (i := 7) sc__law_list.nd rfl (Or.inl rfl) (pe_ix (i_ix (K := K)) (pv 0) (pv 4) (fun _ _ => rfl)))
      (pss_cons (ps_set (i := 8) sc__law_list.nd rfl (Or.inl rfl) (pe_call (ok__law_letter T) (hr.mono (by decide)) rfl T.d__law_letter.g T.d__law_letter.F.kp T.d__law_letter.b .nil pass0 (pa_cons (pe_op o_add (pe_op o_add (pe_op o_sub (pe_callB call_ord (by rfl) T.b_ord (by decide +kernel) (pa_cons (pv 7) pa_nil)) (pe_callB call_ord (by rfl) T.b_ord (by decide +kernel) (pa_cons pe_str pa_nil))) pe_int) (pe_op o_mod (pe_op o_div (pv 6) pe_int) pe_int)) pa_nil)))
      (pss_cons (ps_set (i := 4) sc__law_list.nd rfl (Or.inl rfl) (pe_op o_add (pv 4) pe_int))
      (pss_cons (ps_expr (pe_bm PySem.F.plainAttrs_list PySem.F.slot_list_append PySem.F.type_list_append mt_append (pv 3) (pa_cons (pe_ix (i_ix (K := K)) (pe_lst (pa_cons (pe_tup (pa_cons pe_str (pa_cons (pv 7) pa_nil))) (pa_cons (pe_tup (pa_cons pe_str (pa_cons (pv 7) (pa_cons (pv 8) pa_nil)))) (pa_cons (pe_tup (pa_cons pe_str (pa_cons (pv 7) pa_nil))) pa_nil)))) (pe_op o_div (pe_op o_mod (pv 6) pe_int) pe_int) (fun _ _ => rfl)) pa_nil)))
      (pss_one (ps_set (i := 5) sc__law_list.nd rfl (Or.inl rfl) (pe_op o_sub (pv 5) (pe_callTy c_int (by rfl) T.b_int (by decide +kernel) (pa_cons (pe_cmpR o_gt (pe_op o_mod (pv 6) pe_int) pe_int (nomark _)) pa_nil))))))))) (pss_one (ps_if (pt_cmpR o_lt (pv 5) (pv 2) (nomark _)) (pss_cons (ps_expr (pe_bm PySem.F.plainAttrs_list PySem.F.slot_list_append PySem.F.type_list_append mt_append (pv 3) (pa_cons (pe_tup (pa_cons pe_str (pa_cons (pe_call (ok__law_letter T) (hr.mono (by decide)) rfl T.d__law_letter.g T.d__law_letter.F.kp T.d__law_letter.b .nil pass0 (pa_cons (pe_op o_div (pv 6) pe_int) pa_nil)) pa_nil))) pa_nil)))
      (pss_one (ps_set (i := 5) sc__law_list.nd rfl (Or.inl rfl) (pe_op o_add (pv 5) pe_int)))) pss_nil)))))
      (pss_one (ps_ret (pe_op o_add (pv 3) (pe_lc (own := [("_law_letter_here", 9)]) (g := gName 9) rfl sc__law_list.nd (pi_str (pe_slice (s_sl (K := K)) (pv 0) (po_some (pv 4)) po_none)) (blkOk_by (own := [("_law_letter_here", 9)]) (N := N__law_list) (sc := defScope s__law_list) (by decide +kernel)) (fun _ _ _ _ _ => pg_name (i := 9) sc__law_list.nd rfl (Or.inl rfl)) (fun _ _ _ _ _ => pts_nil) (fun _ _ _ _ _ => (pe_tup (pa_cons pe_str (pa_cons (pv 9) pa_nil)))))))))))), ?_⟩
    walk_at "go"
    rename_i F H1 n1 e1 v1
    have sl : s.cps.toList.length = s.length := Array.length_toList
    refine for_runs (rv_list K p cs V.int) (fun i σ H' => ListI H s p F i σ H') ⟨e1, 0, s.length, [], _, _, _, _, v1, (fun _ h => by cases h), (fun _ h => by cases h), rfl, Nat.zero_le _, by simp, by simp [NN], hl, rfl⟩ (fun i σ H' _ h => lst_of (h.1.get hp)) ?_ ?_
    · rintro i x σ H5 H6 hi I ⟨rfl, c, hci, rfl⟩
      obtain ⟨e5, n, m, zs, y6, y7, y8, y9, vF, hz, ok, ho, hn, hzl, hmm, hm24, rfl⟩ := I
      have q0 := Int.emod_nonneg c (b := 8) (by decide)
      have q1 := Int.emod_lt_of_pos c (b := 8) (by decide)
      have put : ∀ {y7 y8 y9 : Option V} (o : Nat), isL o → m < 12 → ∀ t H7, Ex H6 H7 → H7 t = some (.tup [.str "in", .str (tx [o])]) → ListI H s p F (i + 1) [some (.str s), some (.ref p), some (.int 12), some (.ref F), some (.int (n : Nat)), some (.int ((m + 1 : Nat) : Int)), some (.int c), y7, y8, y9] (upd H7 F (.lst (zs.map cV ++ [.ref t]))) := fun o lt hm t H7 e7 v7 =>
        list_add (c := .inn o) n1 (e5.trans e7) (e7.get vF) (hz.ex e7) ok ho v7 lt (by simp [Chg.o]) hn (by omega) (by simp only [Chg.n, List.length_singleton]; omega) (by omega)
      walk_at "go"
      refine st_br2 (fun c1 => ?_) (fun c1 => ?_)
      · walk_at "go"
        refine st_br2 (fun c2 => ?_) (fun c2 => ?_)
        · walk_at "go"
          obtain ⟨b, hb⟩ : ∃ b, s.cps.toList[n]? = some b := ⟨_, List.getElem?_eq_getElem (by omega)⟩
          have lb := hs b (List.mem_of_getElem? hb)
          refine st_sign (by omega) (at_nat hb) ?_
          walk_at "go"
          refine ⟨rfl, ?_⟩
          walk_at "go"
          refine ⟨rfl, ?_⟩
          walk_at "go"
          refine ⟨_, rfl, ?_⟩
          have cb : ((tx [b]).cps.getD 0 0 : Nat) = b := rfl
          have ca : (("a" : Str).cps.getD 0 0 : Nat) = 97 := by decide +kernel
          rw [cb, ca]
          have lt2 := let_modR ((b : Int) - ((97 : Nat) : Int) + 1 + c / 8 % 25)
          have ne2 : 97 + (((b : Int) - ((97 : Nat) : Int) + 1 + c / 8 % 25) % 26).toNat ≠ b := by
            have g0 := Int.emod_nonneg (c / 8) (b := 25) (by decide)
            have g1 := Int.emod_lt_of_pos (c / 8) (b := 25) (by decide)
            unfold isL at lb
            omega
          generalize 97 + (((b : Int) - ((97 : Nat) : Int) + 1 + c / 8 % 25) % 26).toNat = o2 at lt2 ne2 ⊢
          walk_at "go"
          rename_i t1 G1 m1 g1 w1 t2 G2 m2 g2 w2 t3 G3 m3 g3 w3 L4 G5 m5 g5 w5
          have g15 := g1.trans (g2.trans (g3.trans g5))
          have tk : s.cps.toList.take (n + 1) = s.cps.toList.take n ++ [b] := by rw [List.take_succ, hb]; rfl
          have add : ∀ (t : Addr) (x : Chg) (m' : Nat), G5 t = some (.tup (chVs x)) → ChgOk x → x.o = [b] → x.n.length + m = m' + 1 → ∀ {y6 y7 y8 y9 : Option V}, ListI H s p F (i + 1) [some (.str s), some (.ref p), some (.int 12), some (.ref F), some (.int ((n + 1 : Nat) : Int)), some (.int ((m' : Nat) : Int)), y6, y7, y8, y9] (upd G5 F (.lst (zs.map cV ++ [.ref t]))) := fun t x m' h1 h2 h3 h4 =>
            list_add n1 (e5.trans g15) (g15.get vF) (hz.ex g15) ok ho h1 h2 (by rw [h3, tk]) (by omega) (by omega) (by omega) (by have : x.n.length ≤ 1 := (chn_le x).1; omega)
          have c60 : c % 8 / 2 = 0 ∧ ¬ 3 < c % 8 ∨ c % 8 / 2 = 1 ∧ ¬ 3 < c % 8 ∨ c % 8 / 2 = 2 ∧ 3 < c % 8 := by omega
          rcases c60 with ⟨h, h3⟩ | ⟨h, h3⟩ | ⟨h, h3⟩
          · rw [h]
            refine st_ixL w5 (v := .ref t1) rfl ?_
            walk_at "go"
            refine st_app (g15.get vF) (by rw [List.length_map]; omega) ?_
            walk_at "go"
            have := add t1 (.keep b) m ((g2.trans (g3.trans g5)).get w1) lb rfl (by simp [Chg.n]; omega) (y6 := some (.int c)) (y7 := some (.str (tx [b]))) (y8 := some (.str (tx [o2]))) (y9 := y9)
            rw [decide_eq_false h3]
            rw [show ((m : Nat) : Int) - (if false = true then 1 else 0) = ((m : Nat) : Int) by simp]
            exact this
          · rw [h]
            refine st_ixL w5 (v := .ref t2) rfl ?_
            walk_at "go"
            refine st_app (g15.get vF) (by rw [List.length_map]; omega) ?_
            walk_at "go"
            have := add t2 (.change b o2) m ((g3.trans g5).get w2) ⟨lb, lt2, fun z => ne2 z.symm⟩ rfl (by simp [Chg.n]; omega) (y6 := some (.int c)) (y7 := some (.str (tx [b]))) (y8 := some (.str (tx [o2]))) (y9 := y9)
            rw [decide_eq_false h3]
            rw [show ((m : Nat) : Int) - (if false = true then 1 else 0) = ((m : Nat) : Int) by simp]
            exact this
          · rw [h]
            refine st_ixL w5 (v := .ref t3) rfl ?_
            walk_at "go"
            refine st_app (g15.get vF) (by rw [List.length_map]; omega) ?_
            walk_at "go"
            have hm1 : 0 < m := by
              have : 0 < s.length - n := by omega
              omega
            have := add t3 (.out b) (m - 1) (g5.get w3) lb rfl (by simp [Chg.n]; omega) (y6 := some (.int c)) (y7 := some (.str (tx [b]))) (y8 := some (.str (tx [o2]))) (y9 := y9)
            rw [decide_eq_true h3]
            rw [show ((m : Nat) : Int) - (if true = true then 1 else 0) = ((m - 1 : Nat) : Int) by simp; omega]
            exact this
        · walk_at "go"
          refine st_br2 (fun c3 => ?_) (fun c3 => ?_)
          · walk_at "go"
            refine ⟨_, rfl, ?_⟩
            have lt := let_modR (c / 8)
            generalize 97 + (c / 8 % 26).toNat = o at lt ⊢
            walk_at "go"
            rename_i t G1 m1 g1 w1
            refine st_app (g1.get vF) (by rw [List.length_map]; omega) ?_
            walk_at "go"
            exact put o lt (by omega) t G1 g1 w1
          · walk_at "go"
            exact ⟨e5, n, m, zs, _, _, _, _, vF, hz, ok, ho, hn, (by omega), hmm, hm24, rfl⟩
      · walk_at "go"
        refine st_br2 (fun c3 => ?_) (fun c3 => ?_)
        · walk_at "go"
          refine ⟨_, rfl, ?_⟩
          have lt := let_modR (c / 8)
          generalize 97 + (c / 8 % 26).toNat = o at lt ⊢
          walk_at "go"
          rename_i t G1 m1 g1 w1
          refine st_app (g1.get vF) (by rw [List.length_map]; omega) ?_
          walk_at "go"
          exact put o lt (by omega) t G1 g1 w1
        · walk_at "go"
          exact ⟨e5, n, m, zs, _, _, _, _, vF, hz, ok, ho, hn, (by omega), hmm, hm24, rfl⟩
    · rintro σ H2 ⟨e2, n, m, zs, y6, y7, y8, y9, vF, hz, ok, ho, hn, hzl, hmm, hm24, rfl⟩
      walk_at "go"
      refine lc_objs0 (rv_str _) (fun _ _ => trivial) (by rw [cutS_from _ _ hn, List.length_drop]; omega) (fun c => HO.tup (chVs (.keep c))) ?_ ?_
      · intro c H3 hc e B hB
        refine ⟨rfl, ?_⟩
        walk_at "go"
        rename_i t H4 n4 e4 v4
        exact hB t H4 n4 e4 v4
      intro D H3 ts nD e3 vD hO _ _ _
      rw [cutS_from _ _ hn, show (s.cps.toList.drop n).map (fun c => HO.tup (chVs (.keep c))) = ((s.cps.toList.drop n).map Chg.keep).map (fun c => HO.tup (chVs c)) from by rw [List.map_map]; rfl] at hO
      obtain ⟨z1, z2, z3, z4⟩ := zip_cz hO
      have hol := hO.len
      rw [List.length_map, List.length_map, List.length_drop, sl] at hol
      have hsnd : (ts.zip ((s.cps.toList.drop n).map Chg.keep)).map (fun z => z.2) = (s.cps.toList.drop n).map Chg.keep := List.map_snd_zip (by rw [List.length_map, List.length_drop, sl]; omega)
      refine st_addL (e3.get vF) vD (by rw [List.length_map, List.length_map]; omega) fun q H4 n4 e4 v4 => ?_
      refine k q (zs ++ ts.zip ((s.cps.toList.drop n).map Chg.keep)) H4 (e2.trans (e3.trans e4)) (Ex.free (e2.trans e3) n4) (by rw [v4, List.map_append, z2]) ((hz.ex (e3.trans e4)).app (z1.ex e4)) (by rw [List.length_append, z3]; omega) (fun z hz2 => ?_) ?_
      · rcases List.mem_append.mp hz2 with h2 | h2
        · exact ok z h2
        · obtain ⟨c, hc, he⟩ := List.mem_map.mp (z4 z h2)
          rw [← he]
          exact hs c (List.mem_of_mem_drop hc)
      · rw [List.map_append, NN_app, hsnd, keep_n, List.length_append, List.length_drop]
        omega
theorem HeapsAt.grow {H0 H : Hp} {d : Addr} {hs : List Addr} {tss : List (List Addr)} {n : Nat} {lv : Nat → List (Nat × Nat)} {r : Addr} (h : HeapsAt H0 H d hs tss n lv) (hr : H r = some (.lst [])) (hn : H0 r = none) (hd : d ≠ r) (hnr : r ∉ hs) (he : lv n = []) :
    HeapsAt H0 (upd H d (.lst (hs.map V.ref ++ [.ref r]))) d (hs ++ [r]) (tss ++ [[]]) (n + 1) lv := by
  have hat := h.at_
  refine ⟨h.new, by rw [upd_same, List.map_append]; rfl, by rw [List.length_append, h.len]; rfl, ?_, ?_, ?_, ?_, ?_⟩
  · rw [List.map_append]
    refine ObjsAt.app (h.rows.up h.non) (.one ?_)
    rw [upd_ne hd.symm]
    exact hr
  · rw [List.nodup_append]
    exact ⟨h.nd, by simp, fun a ha b hb => by rw [List.mem_singleton.mp hb]; exact fun z => hnr (z ▸ ha)⟩
  · rw [List.mem_append, List.mem_singleton]
    rintro (z | z)
    · exact h.non z
    · exact hd z
  · intro x hx
    rcases List.mem_append.mp hx with z | z
    · exact h.news x z
    · rw [List.mem_singleton.mp z]; exact hn
  · intro l ts hl
    by_cases c : l < tss.length
    · rw [List.getElem?_append_left c] at hl
      exact .up (objs_ntup (h.tups _ _ hl) hat) (h.tups _ _ hl)
    · rw [List.getElem?_append_right (by omega)] at hl
      have : l - tss.length = 0 := by
        by_cases z : l - tss.length = 0
        · exact z
        · rw [List.getElem?_eq_none (by simp; omega)] at hl; cases hl
      rw [this] at hl
      cases hl
      rw [show l = n by have := h.len; omega, he]
      exact .nil
/-- another list is changed -/
theorem HeapsAt.aside {H0 H : Hp} {d b : Addr} {hs : List Addr} {tss : List (List Addr)} {n : Nat} {lv : Nat → List (Nat × Nat)} {xs : List V} {o : HO} (h : HeapsAt H0 H d hs tss n lv) (hb : H b = some (.lst xs)) (hd : d ≠ b) (hn : b ∉ hs) : HeapsAt H0 (upd H b o) d hs tss n lv :=
  ⟨h.new, by rw [upd_ne hd]; exact h.at_, h.len, h.rows.up hn, h.nd, h.non, h.news, fun l ts hl => .up (objs_ntup (h.tups _ _ hl) hb) (h.tups _ _ hl)⟩
theorem HeapsAt.mem_lst {H0 H : Hp} {d : Addr} {hs : List Addr} {tss : List (List Addr)} {n : Nat} {lv : Nat → List (Nat × Nat)} (h : HeapsAt H0 H d hs tss n lv) {r : Addr} (hr : r ∈ hs) : ∃ ts : List Addr, H r = some (.lst (ts.map V.ref)) := by
  obtain ⟨i, hi⟩ := List.getElem?_of_mem hr
  have hl := h.rows.len
  have := (List.getElem?_eq_some_iff.mp hi).1
  rw [List.length_map] at hl
  exact ⟨_, h.rows.at i r _ hi (by rw [List.getElem?_map, List.getElem?_eq_getElem (by omega)]; rfl)⟩
/-- the pairs of one sign with the first ones of a row -/
theorem prRow_take {s t : List Nat} {i j c : Nat} (hi : s[i]? = some c) (hj : j < t.length) : prRow s (t.take (j + 1)) i = prRow s (t.take j) i ++ (if t[j]? = some c then [(i, j)] else []) := by
  unfold prRow
  rw [hi, List.take_succ, List.getElem?_eq_getElem hj]
  show (posOf c (t.take j ++ [t[j]])).map _ = _
  rw [posOf_snoc, List.map_append, List.length_take, Nat.min_eq_left (by omega)]
  congr 1
  by_cases h : t[j] = c
  · rw [if_pos h, if_pos (by rw [h])]
    rfl
  · rw [if_neg h, if_neg (fun z => h (Option.some.inj z))]
    rfl
theorem prRow_full {s t : List Nat} {i : Nat} {c : Nat} (hi : s[i]? = some c) : prRow s (t.take t.length) i = prRow s t i := by rw [List.take_length]
theorem prRow_0 {s t : List Nat} {i : Nat} : prRow s (t.take 0) i = [] := by
  unfold prRow
  cases s[i]? <;> rfl
/-- no pair so far stands as high -/
theorem lev_none {s t : List Nat} {qs : List (Nat × Nat)} {M : Nat} (h : ∀ q ∈ qs, Lc s t q.1 q.2 < M) : lev s t qs M = [] := by
  unfold lev
  rw [List.filter_eq_nil_iff]
  intro q hq z
  have := h q hq
  have := of_decide_eq_true z
  omega
/-- how many heaps there are behind so many pairs -/
def lvM (s t : List Nat) (i j : Nat) : Nat := max (Lc s t i t.length) (Lc s t (i + 1) j)
theorem lvM_0 (s t : List Nat) (i : Nat) : lvM s t i 0 = Lc s t i t.length := by unfold lvM; rw [Lc_j0]; omega
theorem lvM_m (s t : List Nat) (i : Nat) : lvM s t i t.length = Lc s t (i + 1) t.length := by
  have := Lc_up s t i t.length
  unfold lvM
  omega
theorem lvM_low {s t : List Nat} {i j : Nat} (hj : j < t.length) {q : Nat × Nat} (h : q ∈ prs s t i ++ prRow s (t.take j) i) : Lc s t q.1 q.2 < lvM s t i j := by
  unfold lvM
  rcases List.mem_append.mp h with h | h
  · have := Lc_pair (m := t.length) (prs_mem.mp h) (Nat.le_refl _)
    omega
  · have hq : q.1 = i ∧ q.2 < j ∧ ∃ c, s[i]? = some c ∧ t[q.2]? = some c := by
      unfold prRow at h
      cases hc : s[i]? with
      | none => rw [hc] at h; cases h
      | some c =>
        rw [hc] at h
        obtain ⟨p, hp, rfl⟩ := List.mem_map.mp h
        have hp := posOf_mem.mp hp
        have hp1 := (List.getElem?_eq_some_iff.mp hp).1
        rw [List.length_take] at hp1
        rw [List.getElem?_take, if_pos (by omega)] at hp
        exact ⟨rfl, by omega, c, rfl, hp⟩
    obtain ⟨h1, h2, c, h3, h4⟩ := hq
    have e : Lc s t (q.1 + 1) (q.2 + 1) = Lc s t q.1 q.2 + 1 := by rw [Lc_ss, if_pos (by rw [h1, h3, h4])]
    have := Lc_mono s t (i := q.1 + 1) (i' := i + 1) (j := q.2 + 1) (j' := j) (by omega) (by omega)
    omega
theorem lvM_eq {s t : List Nat} {i j : Nat} (hj : j < t.length) (h : s[i]? = t[j]?) : Lc s t i j ≤ lvM s t i j ∧ lvM s t i (j + 1) = if Lc s t i j = lvM s t i j then lvM s t i j + 1 else lvM s t i j := by
  have h1 : Lc s t (i + 1) (j + 1) = Lc s t i j + 1 := by rw [Lc_ss, if_pos h]
  have h2 := Lc_mono s t (i := i) (i' := i) (j := j) (j' := t.length) (Nat.le_refl _) (by omega)
  have h3 := Lc_ri s t (i + 1) j
  unfold lvM
  split <;> omega
theorem lvM_ne {s t : List Nat} {i j : Nat} (hj : j < t.length) (h : s[i]? ≠ t[j]?) : lvM s t i (j + 1) = lvM s t i j := by
  have h1 : Lc s t (i + 1) (j + 1) = max (Lc s t i (j + 1)) (Lc s t (i + 1) j) := by rw [Lc_ss, if_neg h]
  have h2 := Lc_mono s t (i := i) (i' := i) (j := j + 1) (j' := t.length) (Nat.le_refl _) (by omega)
  unfold lvM
  omega
def sp__law_heaps : Sp := fun vs H Q _ => ∃ s t, vs = [.str s, .str t] ∧ s.length ≤ 48 ∧ t.length ≤ 48 ∧ ∀ d hs tss H', Ex H H' → HeapsAt H H' d hs tss (Lc s.cps.toList t.cps.toList s.length t.length) (lev s.cps.toList t.cps.toList (prs s.cps.toList t.cps.toList s.length)) → Q (.ref d) H'
theorem ok__law_heaps (T : Tx K mg ad fd tk base tc) : FnOk P w K mg base CX0 1 (ad 38) (fd 38) ["_law_side", "_law_top"] sp__law_heaps := by
  refine T.d__law_heaps.F.ok sc__law_heaps (fun vs H Q E h => ?_) (fun cdv A outer s H vs Q E hr h => ?_)
  · obtain ⟨s, t, rfl, _⟩ := h
    rfl
  · obtain ⟨s, t, rfl, hs1, ht1, k⟩ := h
    refine ⟨_, (pss_cons (ps_set (i := 2) sc__law_heaps.nd rfl (Or.inl rfl) (pe_lst pa_nil))
      (pss_cons (ps_set (i := 3) sc__law_heaps.nd rfl (Or.inl rfl) (pe_op o_mul (pe_lst (pa_cons pe_int pa_nil)) (pe_op o_add (pe_callB (c_len (K := K)) (by rfl) T.b_len (by decide +kernel) (pa_cons (pv 1) pa_nil)) pe_int)))
      (pss_cons (ps_for PassesOwn.never rfl (pi_range1 rfl T.b_range (pa_cons (pe_callB (c_len (K := K)) (by rfl) T.b_len (by decide +kernel) (pa_cons (pv 0) pa_nil)) pa_nil)) (pg_name (i := 4) sc__law_heaps.nd rfl (Or.inl rfl)) (pss_cons (ps_set (i := 5) sc__law_heaps.nd rfl (Or.inl rfl) (pe_lst (pa_cons pe_int pa_nil)))
      (pss_cons (ps_for PassesOwn.never rfl (pi_range1 rfl T.b_range (pa_cons (pe_callB (c_len (K := K)) (by rfl) T.b_len (by decide +kernel) (pa_cons (pv 1) pa_nil)) pa_nil)) (pg_name (i := 6) sc__law_heaps.nd rfl (Or.inl rfl)) (pss_cons (ps_expr (pe_bm PySem.F.plainAttrs_list PySem.F.slot_list_append PySem.F.type_list_append mt_append (pv 5) (pa_cons (pe_callB (c_max rfl) (by rfl) T.b_max (by decide +kernel) (pa_cons (pe_ix (i_ix (K := K)) (pv 3) (pe_op o_add (pv 6) pe_int) (fun _ _ => rfl)) (pa_cons (pe_ix (i_ix (K := K)) (pv 5) (pv 6) (fun _ _ => rfl)) pa_nil))) pa_nil)))
      (pss_one (ps_if (pt_cmpR (o_eq hr.units) (pe_ix (i_ix (K := K)) (pv 0) (pv 4) (fun _ _ => rfl)) (pe_ix (i_ix (K := K)) (pv 1) (pv 6) (fun _ _ => rfl)) (nomark _)) (pss_cons (ps_asg (pe_op o_add (pe_ix (i_ix (K := K)) (pv 3) (pv 6) (fun _ _ => rfl)) pe_int) (pg_sub (pv 5) (pe_op o_add (pv 6) pe_int) set_list))
      (pss_cut (ps_if (pt_cmpR (o_eq hr.units) (pe_ix (i_ix (K := K)) (pv 3) (pv 6) (fun _ _ => rfl)) (pe_callB (c_len (K := K)) (by rfl) T.b_len (by decide +kernel) (pa_cons (pv 2) pa_nil)) (nomark _)) (pss_one (ps_expr (pe_bm PySem.F.plainAttrs_list PySem.F.slot_list_append PySem.F.type_list_append mt_append (pv 2) (pa_cons (pe_lst pa_nil) pa_nil)))) pss_nil)
      (pss_one (ps_expr (pe_bm PySem.F.plainAttrs_list PySem.F.slot_list_append PySem.F.type_list_append mt_append (pe_ix (i_ix (K := K)) (pv 2) (pe_ix (i_ix (K := K)) (pv 3) (pv 6) (fun _ _ => rfl)) (fun _ _ => rfl)) (pa_cons (pe_tup (pa_cons (pv 4) (pa_cons (pv 6) pa_nil))) pa_nil)))))) pss_nil))))
      (pss_one (ps_set (i := 3) sc__law_heaps.nd rfl (Or.inl rfl) (pv 5))))))
      (pss_one (ps_ret (pv 2)))))), ?_⟩
    have hsl : s.cps.toList.length = s.length := Array.length_toList
    have htl : t.cps.toList.length = t.length := Array.length_toList
    have hpl : ∀ n ≤ s.length, (prs s.cps.toList t.cps.toList n).length ≤ 48 * 48 := fun n hn => Nat.le_trans (prs_len _ _ _) (Nat.mul_le_mul (by omega) (by omega))
    walk_at "go"
    rename_i F H1 n1 e1 v1 R0' H2' n2' e2' v2' R0 H2 n2 e2 v2
    have e12 := e1.trans (e2'.trans e2)
    have v1' := (e2'.trans e2).get v1
    have FR : F ≠ R0 := ne_of_none (e2'.get v1) n2
    have v2'' : H2 R0 = some (.lst (lcRow s.cps.toList t.cps.toList (t.length + 1) 0)) := by
      rw [v2, lcRow_zero, show ((t.length : Int) + 1).toNat = t.length + 1 by omega]
    have HA0 : HeapsAt H H2 F [] [] (Lc s.cps.toList t.cps.toList 0 t.length) (lev s.cps.toList t.cps.toList (prs s.cps.toList t.cps.toList 0)) := ⟨n1, v1', by rw [Lc_i0]; rfl, .nil, List.nodup_nil, List.not_mem_nil, (fun _ h => nomatch h), fun l ts h => by cases h⟩
    refine for_runs (runs_range 0 _) (fun i σ H' => Ex H H' ∧ (∃ (R : Addr) (hs : List Addr) (tss : List (List Addr)), H' R = some (.lst (lcRow s.cps.toList t.cps.toList (t.length + 1) i)) ∧ F ≠ R ∧ R ∉ hs ∧ HeapsAt H H' F hs tss (Lc s.cps.toList t.cps.toList i t.length) (lev s.cps.toList t.cps.toList (prs s.cps.toList t.cps.toList i)) ∧ ∃ y4 y5 y6, σ = [some (.str s), some (.str t), some (.ref F), some (.ref R), y4, y5, y6])) ⟨e12, R0, [], [], v2'', FR, List.not_mem_nil, HA0, _, _, _, rfl⟩ (fun _ _ _ _ _ => trivial) ?_ ?_
    · rintro i x σ H3 H4 hi ⟨e3, R, hs, tss, vR, FR, nR, HA, y4, y5, y6, rfl⟩ ⟨rfl, rfl⟩
      rw [Int.toNat_natCast] at hi
      obtain ⟨c, hc⟩ : ∃ c, s.cps.toList[i]? = some c := ⟨_, List.getElem?_eq_getElem (by omega)⟩
      walk_at "go"
      rename_i B H5 nB eB vB
      have FB : F ≠ B := ne_of_none HA.at_ nB
      have RB : R ≠ B := ne_of_none vR nB
      have nBh : B ∉ hs := fun z => by
        obtain ⟨ts, h⟩ := HA.mem_lst z
        rw [nB] at h; cases h
      have HA5 := HA.ex eB
      rw [← htl, ← lvM_0 s.cps.toList t.cps.toList i, ← List.append_nil (prs s.cps.toList t.cps.toList i), ← prRow_0 (s := s.cps.toList) (t := t.cps.toList) (i := i)] at HA5
      have vB' : H5 B = some (.lst (lcRow s.cps.toList t.cps.toList (0 + 1) (i + 1))) := by
        rw [vB]
        show _ = some (HO.lst [V.int ((Lc _ _ (i + 1) 0 : Nat) : Int)])
        rw [Lc_j0]
        rfl
      have nB0 : H B = none := Ex.free e3 nB
      rw [Int.toNat_natCast]
      refine for_runs (runs_range 0 _) (fun j σ H' => Ex H H' ∧ H' R = some (.lst (lcRow s.cps.toList t.cps.toList (t.length + 1) i)) ∧ H' B = some (.lst (lcRow s.cps.toList t.cps.toList (j + 1) (i + 1))) ∧ (∃ (hs : List Addr) (tss : List (List Addr)), R ∉ hs ∧ B ∉ hs ∧ HeapsAt H H' F hs tss (lvM s.cps.toList t.cps.toList i j) (lev s.cps.toList t.cps.toList (prs s.cps.toList t.cps.toList i ++ prRow s.cps.toList (t.cps.toList.take j) i))) ∧ ∃ y6, σ = [some (.str s), some (.str t), some (.ref F), some (.ref R), some (.int (i : Nat)), some (.ref B), y6]) ⟨e3.trans eB, eB.get vR, vB', ⟨hs, tss, nR, nBh, HA5⟩, _, by rw [Int.zero_add]; rfl⟩ (fun _ _ _ _ _ => trivial) ?_ ?_
      · rintro j x σ H6 H7 hj ⟨e6, vR, vB, ⟨hs, tss, nR, nBh, HA⟩, y6, rfl⟩ ⟨rfl, rfl⟩
        obtain ⟨b, hb⟩ : ∃ b, t.cps.toList[j]? = some b := ⟨_, List.getElem?_eq_getElem (by omega)⟩
        have hj2 : j < t.cps.toList.length := by omega
        walk_at "go"
        rw [Int.zero_add]
        refine st_ixL vR (lcRow_atI (j := j + 1) (by omega)) ?_
        walk_at "go"
        refine st_ixL vB (lcRow_atI (j := j) (by omega)) ?_
        walk_at "go"
        refine st_app vB (by rw [lcRow_len]; omega) ?_
        have mx : ∀ x y : Int, (if y > x then y else x) = max x y := fun x y => by split <;> omega
        rw [mx]
        have FB' : F ≠ B := FB
        have e7 : Ex H (upd H7 B (.lst (lcRow s.cps.toList t.cps.toList (j + 1) (i + 1) ++ [V.int (max ((Lc s.cps.toList t.cps.toList i (j + 1) : Nat) : Int) ((Lc s.cps.toList t.cps.toList (i + 1) j : Nat) : Int))]))) := e6.mut nB0
        have vR7 : upd H7 B (.lst (lcRow s.cps.toList t.cps.toList (j + 1) (i + 1) ++ [V.int (max ((Lc s.cps.toList t.cps.toList i (j + 1) : Nat) : Int) ((Lc s.cps.toList t.cps.toList (i + 1) j : Nat) : Int))])) R = some (.lst (lcRow s.cps.toList t.cps.toList (t.length + 1) i)) := by rw [upd_ne RB]; exact vR
        have vB7 : upd H7 B (.lst (lcRow s.cps.toList t.cps.toList (j + 1) (i + 1) ++ [V.int (max ((Lc s.cps.toList t.cps.toList i (j + 1) : Nat) : Int) ((Lc s.cps.toList t.cps.toList (i + 1) j : Nat) : Int))])) B = some (.lst (lcRow s.cps.toList t.cps.toList (j + 1) (i + 1) ++ [V.int (max ((Lc s.cps.toList t.cps.toList i (j + 1) : Nat) : Int) ((Lc s.cps.toList t.cps.toList (i + 1) j : Nat) : Int))])) := upd_same
        have HA7 := HA.aside (o := .lst (lcRow s.cps.toList t.cps.toList (j + 1) (i + 1) ++ [V.int (max ((Lc s.cps.toList t.cps.toList i (j + 1) : Nat) : Int) ((Lc s.cps.toList t.cps.toList (i + 1) j : Nat) : Int))])) vB FB nBh
        generalize upd H7 B (.lst (lcRow s.cps.toList t.cps.toList (j + 1) (i + 1) ++ [V.int (max ((Lc s.cps.toList t.cps.toList i (j + 1) : Nat) : Int) ((Lc s.cps.toList t.cps.toList (i + 1) j : Nat) : Int))])) = H8 at e7 vR7 vB7 HA7 ⊢
        walk_at "go"
        refine st_sign (by omega) (at_nat hc) ?_
        walk_at "go"
        refine st_sign (by omega) (at_nat hb) ?_
        walk_at "go"
        refine st_br2 (fun cc => ?_) (fun cc => ?_)
        rotate_left
        · have hne : s.cps.toList[i]? ≠ t.cps.toList[j]? := fun z => cc (by rw [hc, hb] at z; rw [Option.some.inj z])
          walk_at "go"
          refine ⟨e7, vR7, ?_, ⟨hs, tss, nR, nBh, ?_⟩, _, rfl⟩
          · rw [vB7, lcRow_more s.cps.toList t.cps.toList (j + 1), Lc_ss, if_neg hne]
            refine congrArg (fun z => some (HO.lst (_ ++ [V.int z]))) ?_
            omega
          · rw [lvM_ne hj2 hne, prRow_take hc hj2, if_neg (fun z => hne (by rw [hc, z])), List.append_nil]
            exact HA7
        have heq : s.cps.toList[i]? = t.cps.toList[j]? := by
          rw [tx_inj] at cc
          rw [hc, hb, show c = b by simpa using cc]
        obtain ⟨q1, q2⟩ := lvM_eq hj2 heq
        walk_at "go"
        refine st_ixL vR7 (lcRow_atI (j := j) (by omega)) ?_
        walk_at "go"
        refine st_setL vB7 (Evl.ixN_nat (j := j + 1) (by rw [List.length_append, lcRow_len]; simp)) ?_
        have lset : (lcRow s.cps.toList t.cps.toList (j + 1) (i + 1) ++ [V.int (max ((Lc s.cps.toList t.cps.toList i (j + 1) : Nat) : Int) ((Lc s.cps.toList t.cps.toList (i + 1) j : Nat) : Int))]).set (j + 1) (V.int (((Lc s.cps.toList t.cps.toList i j : Nat) : Int) + 1)) = lcRow s.cps.toList t.cps.toList (j + 1 + 1) (i + 1) := by
          rw [List.set_append_right _ _ (by rw [lcRow_len]; exact Nat.le_refl _), lcRow_len, Nat.sub_self, lcRow_more s.cps.toList t.cps.toList (j + 1), Lc_ss, if_pos heq]
          rfl
        rw [lset]
        have e8 : Ex H (upd H8 B (.lst (lcRow s.cps.toList t.cps.toList (j + 1 + 1) (i + 1)))) := e7.mut nB0
        have vR8 : upd H8 B (.lst (lcRow s.cps.toList t.cps.toList (j + 1 + 1) (i + 1))) R = some (.lst (lcRow s.cps.toList t.cps.toList (t.length + 1) i)) := by rw [upd_ne RB]; exact vR7
        have vB8 : upd H8 B (.lst (lcRow s.cps.toList t.cps.toList (j + 1 + 1) (i + 1))) B = some (.lst (lcRow s.cps.toList t.cps.toList (j + 1 + 1) (i + 1))) := upd_same
        have HA8 := HA7.aside (o := .lst (lcRow s.cps.toList t.cps.toList (j + 1 + 1) (i + 1))) vB7 FB nBh
        generalize upd H8 B (.lst (lcRow s.cps.toList t.cps.toList (j + 1 + 1) (i + 1))) = H9 at e8 vR8 vB8 HA8 ⊢
        have hlen := HA8.rows.len
        rw [List.length_map, HA8.len] at hlen
        refine ⟨fun σ' H' => Ex H H' ∧ H' R = some (.lst (lcRow s.cps.toList t.cps.toList (t.length + 1) i)) ∧ H' B = some (.lst (lcRow s.cps.toList t.cps.toList (j + 1 + 1) (i + 1))) ∧ (∃ (hs : List Addr) (tss : List (List Addr)), R ∉ hs ∧ B ∉ hs ∧ HeapsAt H H' F hs tss (lvM s.cps.toList t.cps.toList i (j + 1)) (lev s.cps.toList t.cps.toList (prs s.cps.toList t.cps.toList i ++ prRow s.cps.toList (t.cps.toList.take j) i))) ∧ σ' = [some (.str s), some (.str t), some (.ref F), some (.ref R), some (.int (i : Nat)), some (.ref B), some (.int (j : Nat))], ?_, ?_⟩
        · refine st_ifS ?_
          walk_at "go"
          refine st_ixL vR8 (lcRow_atI (j := j) (by omega)) ?_
          have hd8 := HA8.at_
          walk_at "go"
          rw [List.length_map]
          refine st_br2 (fun cm => ?_) (fun cm => ?_)
          · have cm : Lc s.cps.toList t.cps.toList i j = lvM s.cps.toList t.cps.toList i j := by omega
            rw [if_pos cm] at q2
            walk_at "go"
            rename_i r G1 m1 g1 w1
            refine st_app (g1.get hd8) (by rw [List.length_map, hlen]; unfold lvM; have h1 := Lc_le s.cps.toList t.cps.toList i t.cps.toList.length; have h2 := Lc_le s.cps.toList t.cps.toList (i + 1) j; omega) ?_
            walk_at "go"
            have nr0 : H r = none := Ex.free e8 m1
            have Fr : F ≠ r := ne_of_none hd8 m1
            have nrh : r ∉ hs := fun z => by
              obtain ⟨ts, h⟩ := HA8.mem_lst z
              rw [m1] at h; cases h
            have HA9 := (HA8.ex g1).grow w1 nr0 Fr nrh (lev_none fun q hq => lvM_low hj2 hq)
            refine ⟨(e8.trans g1).mut HA8.new, by rw [upd_ne FR.symm]; exact g1.get vR8, by rw [upd_ne FB.symm]; exact g1.get vB8, ⟨_, _, ?_, ?_, by rw [q2]; exact HA9⟩, rfl⟩
            · rw [List.mem_append, List.mem_singleton]
              rintro (z | z)
              · exact nR z
              · exact ne_of_none vR8 m1 z
            · rw [List.mem_append, List.mem_singleton]
              rintro (z | z)
              · exact nBh z
              · exact ne_of_none vB8 m1 z
          · have cm : ¬ Lc s.cps.toList t.cps.toList i j = lvM s.cps.toList t.cps.toList i j := by omega
            rw [if_neg cm] at q2
            walk_at "go"
            exact ⟨e8, vR8, vB8, ⟨_, _, nR, nBh, by rw [q2]; exact HA8⟩, rfl⟩
        rintro σ' H10 ⟨e10, vR10, vB10, ⟨hs', tss', nR', nB', HA10⟩, rfl⟩
        have hlt : Lc s.cps.toList t.cps.toList i j < lvM s.cps.toList t.cps.toList i (j + 1) := by rw [q2]; split <;> omega
        have hl10 := HA10.rows.len
        rw [List.length_map, HA10.len] at hl10
        obtain ⟨h9, hh9⟩ : ∃ h9, hs'[Lc s.cps.toList t.cps.toList i j]? = some h9 := ⟨_, List.getElem?_eq_getElem (by omega)⟩
        obtain ⟨us, hus⟩ : ∃ us, tss'[Lc s.cps.toList t.cps.toList i j]? = some us := ⟨_, List.getElem?_eq_getElem (by rw [HA10.len]; omega)⟩
        have hrow := HA10.rows.at _ _ _ hh9 (by rw [List.getElem?_map, hus]; rfl)
        walk_at "go"
        refine st_ixL vR10 (lcRow_atI (j := j) (by omega)) ?_
        walk_at "go"
        refine st_ixL HA10.at_ (v := .ref h9) (at_mapN hh9) ?_
        walk_at "go"
        rename_i T G1 m1 g1 w1
        have tl := (HA10.tups _ _ hus).len
        rw [List.length_map] at tl
        have fl : (lev s.cps.toList t.cps.toList (prs s.cps.toList t.cps.toList i ++ prRow s.cps.toList (t.cps.toList.take j) i) (Lc s.cps.toList t.cps.toList i j)).length ≤ 48 * 48 + 48 := by
          refine Nat.le_trans (List.length_filter_le _ _) ?_
          rw [List.length_append]
          have h1 := hpl i (by omega)
          have h2 : (prRow s.cps.toList (t.cps.toList.take j) i).length ≤ 48 := by
            unfold prRow
            rw [hc]
            show ((posOf c (t.cps.toList.take j)).map _).length ≤ 48
            rw [List.length_map]
            refine Nat.le_trans (posOf_len _ _) ?_
            rw [List.length_take]
            omega
          omega
        refine st_app (g1.get hrow) (by rw [List.length_map]; omega) ?_
        have HA11 := (HA10.ex g1).put (q := (i, j)) (T := T) w1 hh9 hus
        have hm9 := List.mem_of_getElem? hh9
        refine ⟨HA10.mut (e10.trans g1) hm9, by rw [upd_ne (fun z => nR' (by rw [z]; exact hm9))]; exact g1.get vR10, by rw [upd_ne (fun z => nB' (by rw [z]; exact hm9))]; exact g1.get vB10, ⟨hs', tss'.set (Lc s.cps.toList t.cps.toList i j) (us ++ [T]), nR', nB', ?_⟩, _, rfl⟩
        rw [prRow_take hc hj2, if_pos (by rw [← heq, hc]), ← List.append_assoc]
        exact HA11
      · rintro σ H6 ⟨e6, vR, vB, ⟨hs, tss, nR, nBh, HA⟩, y6, rfl⟩
        walk_at "go"
        rw [← htl, lvM_m, prRow_full hc, ← prs_succ] at HA
        exact ⟨e6, B, hs, tss, vB, FB, nBh, by rw [← htl]; exact HA, _, _, _, rfl⟩
    · rintro σ H3 ⟨e3, R, hs, tss, vR, FR, nR, HA, y4, y5, y6, rfl⟩
      walk_at "go"
      rw [Int.toNat_natCast] at HA
      exact k F hs tss H3 e3 HA
def sp__law_new : Sp := fun vs H Q _ => ∃ (p : Addr) (zs : List CZ), vs = [.ref p] ∧ H p = some (.lst (zs.map cV)) ∧ CT H zs ∧ zs.length ≤ 1000 ∧ ∀ H', Ex H H' → Q (.str (newR (zs.map fun z => z.2))) H'
def has_n : Chg → Bool
  | .inn _ => true
  | .out _ => false
  | _ => true
theorem flat_n : ∀ l : List CZ, ((l.filter fun z => has_n z.2).map fun z => z.2).flatMap Chg.n = (l.map fun z => z.2).flatMap Chg.n
  | [] => rfl
  | z :: l => by
    have ih := flat_n l
    obtain ⟨p, c⟩ := z
    rw [List.filter_cons, List.map_cons, List.flatMap_cons, ← ih]
    cases c <;> rfl
theorem ok__law_new (T : Tx K mg ad fd tk base tc) : FnOk P w K mg base CX0 1 (ad 39) (fd 39) ["_law_changes"] sp__law_new := by
  refine T.d__law_new.F.ok sc__law_new (fun vs H Q E h => ?_) (fun cdv A outer s H vs Q E hr h => ?_)
  · obtain ⟨p, zs, rfl, _⟩ := h
    rfl
  · obtain ⟨p, zs, rfl, hp, hz, hl, k⟩ := h
    refine ⟨_, (pss_one (ps_ret (pe_join pe_str (pe_lc (own := [("_law_change", 1)]) (g := gName 1) rfl sc__law_new.nd (pi_list (pv 0)) (blkOk_by (own := [("_law_change", 1)]) (N := N__law_new) (sc := defScope s__law_new) (by decide +kernel)) (fun _ _ _ _ _ => pg_name (i := 1) sc__law_new.nd rfl (Or.inl rfl)) (fun _ _ _ _ _ => pts_one (pt_cmpR (o_ne hr.units) (pe_ix (i_ix (K := K)) (pv 1) pe_int (fun _ _ => rfl)) pe_str (nomark _))) (fun _ _ _ _ _ => (pe_ix (i_ix (K := K)) (pv 1) (pe_un un_neg pe_int) (fun _ _ => rfl))))))), ?_⟩
    walk_at "go"
    refine lc_pure (rv_list K p zs cV) (fun H' e => lst_of (e.get hp)) (by omega) (fun z => has_n z.2) (fun z => V.str (tx (Chg.n z.2))) ?_ ?_
    · intro y H' hy e B A' h3 h4
      refine ⟨rfl, ?_⟩
      have hy2 := e.get (hz y hy)
      obtain ⟨yp, yc⟩ := y
      cases yc with
      | keep a =>
        have hy2 : H' yp = some (.tup [.str "keep", .str (tx [a])]) := hy2
        walk_at "go"
        refine st_ixT hy2 (v := .str "keep") rfl ?_
        walk_at "go"
        refine st_ixT hy2 rfl ?_
        exact h3 rfl _ (Fr.refl _)
      | change a b =>
        have hy2 : H' yp = some (.tup [.str "change", .str (tx [a]), .str (tx [b])]) := hy2
        walk_at "go"
        refine st_ixT hy2 (v := .str "change") rfl ?_
        walk_at "go"
        refine st_ixT hy2 rfl ?_
        exact h3 rfl _ (Fr.refl _)
      | out a =>
        have hy2 : H' yp = some (.tup [.str "out", .str (tx [a])]) := hy2
        walk_at "go"
        refine st_ixT hy2 (v := .str "out") rfl ?_
        walk_at "go"
        exact h4 rfl _ (Fr.refl _)
      | inn a =>
        have hy2 : H' yp = some (.tup [.str "in", .str (tx [a])]) := hy2
        walk_at "go"
        refine st_ixT hy2 (v := .str "in") rfl ?_
        walk_at "go"
        refine st_ixT hy2 rfl ?_
        exact h3 rfl _ (Fr.refl _)
    · intro C H1 nC e1 vC
      have vC' : H1 C = some (.lst ((((zs.filter fun z => has_n z.2).map fun z => z.2).map fun c => tx (Chg.n c)).map V.str)) := by
        rw [vC, List.map_map, List.map_map]
        rfl
      have hfl := List.length_filter_le (fun z : CZ => has_n z.2) zs
      walk_at "go"
      refine ⟨"", C, _, rfl, rfl, .inl (lstAt_sq (lst_of vC')), by
        have := sum_flat (f := Chg.n) (fun c => (chn_le c).1) ((zs.filter fun z => has_n z.2).map fun z => z.2)
        rw [List.length_map] at this
        rw [List.length_map, List.length_map]
        show _ + (zs.filter _).length * 0 ≤ _
        omega, ?_⟩
      rw [join_flat, flat_n]
      exact k H1 e1
def sp__law_heaps_at : Sp := fun vs H Q _ => ∃ (s : Str) (c : Nat), vs = [.str s, .int (c : Nat)] ∧ RowS s ∧ c ≤ s.length ∧ s.length ≤ 24 ∧
  ∀ p (gs : List HZ) H', Ex H H' → H p = none → H' p = some (.lst (gs.map hV)) → (∀ G : Hp, (∀ b o, H b = none → H' b = some o → G b = some o) → G p = some (.lst (gs.map hV)) ∧ HP G gs) → gsV gs = hvC s.cps.toList c → Q (.ref p) H'
theorem ok__law_heaps_at (T : Tx K mg ad fd tk base tc) : FnOk P w K mg base CX0 2 (ad 40) (fd 40) ["_law_row_here", "_law_cut"] sp__law_heaps_at := by
  refine T.d__law_heaps_at.F.ok sc__law_heaps_at (fun vs H Q E h => ?_) (fun cdv A outer s H vs Q E hr h => ?_)
  · obtain ⟨s, c, rfl, _⟩ := h
    rfl
  · obtain ⟨s, c, rfl, hs, hc, hl, k⟩ := h
    refine ⟨_, (pss_cons (ps_set (i := 2) sc__law_heaps_at.nd rfl (Or.inl rfl) (pe_lst pa_nil))
      (pss_cons (ps_for PassesOwn.never rfl (pi_list (pe_call (ok__law_heaps T) (hr.mono (by decide)) rfl T.d__law_heaps.g T.d__law_heaps.F.kp T.d__law_heaps.b .nil pass0 (pa_cons (pe_slice (s_sl (K := K)) (pv 0) po_none (po_some (pv 1))) (pa_cons (pe_slice (s_sl (K := K)) (pv 0) (po_some (pv 1)) po_none) pa_nil)))) (pg_name (i := 3) sc__law_heaps_at.nd rfl (Or.inl rfl)) (pss_one (ps_expr (pe_bm PySem.F.plainAttrs_list PySem.F.slot_list_append PySem.F.type_list_append mt_append (pv 2) (pa_cons (pe_lc (own := [("_law_i", 4), ("_law_j", 5)]) (g := gTup K 2 (gCons (gName 4) (gCons (gName 5) gNil))) rfl sc__law_heaps_at.nd (pi_list (pv 3)) (blkOk_by (own := [("_law_i", 4), ("_law_j", 5)]) (N := N__law_heaps_at) (sc := defScope s__law_heaps_at) (by decide +kernel)) (fun _ _ _ _ _ => (pg_tup rfl (pgs_cons (pg_name (i := 4) sc__law_heaps_at.nd rfl (Or.inl rfl)) (pgs_cons (pg_name (i := 5) sc__law_heaps_at.nd rfl (Or.inl rfl)) pgs_nil)))) (fun _ _ _ _ _ => pts_nil) (fun _ _ _ _ _ => (pe_tup (pa_cons (pv 4) (pa_cons (pe_op o_add (pv 5) (pv 1)) pa_nil))))) pa_nil)))))
      (pss_one (ps_ret (pv 2))))), ?_⟩
    walk_at "go"
    rename_i D H0 nD e0 vD
    have cs := cut_s hc
    generalize cutS s none (some (c : Int)) = a at cs ⊢
    generalize cutS s (some (c : Int)) none = b at cs ⊢
    obtain ⟨ra, rb⟩ := cs.rows hs
    have al := cs.al
    have bl := cs.bl
    refine ⟨a, b, rfl, by omega, by omega, fun d hs1 tss H1 e1 hh => ?_⟩
    obtain ⟨gs, g1, g2, g3, g4, g5, g6⟩ := lev_hp ra rb hh
    have vd : H1 d = some (.lst (gs.map hV)) := by rw [g1]; exact hh.at_
    have vD1 := e1.get vD
    have hdD : d ≠ D := fun z => by
      have := hh.new
      rw [z, vD] at this
      cases this
    have hgD : ∀ g ∈ gs, g.1 ≠ D := fun g hg z => by
      have := hh.news g.1 (by rw [← g2]; exact List.mem_map_of_mem hg)
      rw [z, vD] at this
      cases this
    have g4' := HP.hid g4 vD1 hgD
    have vd' : hid D H1 d = some (.lst (gs.map hV)) := hid_get vd hdD
    refine ⟨d, rfl, ⟨_, lstAt_sq (lst_of vd)⟩, ?_⟩
    refine for_runs (rv_list _ d gs hV) (fun i σ H' => Ex H H' ∧ Ex (hid D H1) H' ∧ (∃ fs : List HZ, H' D = some (.lst (fs.map hV)) ∧ HP (hid D (newO H H')) fs ∧ gsV fs = (gsV (gs.take i)).map fun g => g.map (dnQ 0 c)) ∧ ∃ y3 y4 y5, σ = [some (.str s), some (.int (c : Nat)), some (.ref D), y3, y4, y5]) ⟨e0.trans e1, hid_ex _ _, ⟨[], vD1, (fun _ h => by cases h), rfl⟩, _, _, _, rfl⟩ (fun i σ H' _ h => lst_of (h.2.1.get vd')) ?_ ?_
    · rintro i x σ H2 H3 hi ⟨e2, f2, ⟨fs, vD2, hf, he⟩, y3, y4, y5, rfl⟩ ⟨rfl, g, hg, rfl⟩
      have hgm := List.mem_of_getElem? hg
      obtain ⟨h1, h2⟩ := g4' g hgm
      have h1' := f2.get h1
      have h2' := h2.ex f2
      walk_at "go"
      refine lc_objs0 (rv_list _ g.1 g.2 zV) (fun H' e => lst_of (e.get h1')) (by have := h2.few; omega) (fun z => tupO (dnQ 0 c z.2)) ?_ ?_ gTup_mono
      · intro z H' hzm e B hB
        have t : H' z.1 = some (.tup [.int (z.2.1 : Nat), .int (z.2.2 : Nat)]) := e.get (h2'.tp z hzm)
        walk_at "go"
        refine ⟨rfl, ?_⟩
        walk_at "go"
        rename_i q G n f v
        refine hB q G n f ?_
        rw [v]
        show some (HO.tup _) = some (HO.tup _)
        congr 3
      · intro D2 H4 ts nD2 e4 v4 hos nts hDn hnew
        have hos' : ObjsAt H4 ts (((g.2.map (·.2)).map (dnQ 0 c)).map tupO) := by
          rw [List.map_map, List.map_map]
          exact hos
        have n2 : D2 ≠ D := fun z => by
          rw [z, vD2] at nD2
          cases nD2
        have hg2 : (g.2.map (·.2)) = (lev a.cps.toList b.cps.toList (prs a.cps.toList b.cps.toList a.length) i) := by
          have := congrArg (fun l => l[i]?) g3
          simp only [List.getElem?_map, hg] at this
          have hir : i < Lc a.cps.toList b.cps.toList a.length b.length := by
            have := congrArg List.length g3
            rw [List.length_map, List.length_map, List.length_range] at this
            have := (List.getElem?_eq_some_iff.mp hg).1
            omega
          rw [List.getElem?_range hir] at this
          exact Option.some.inj this
        have hf2 : ((g.2.map (·.2)).map (dnQ 0 c)).length ≤ 2305 := by
          rw [List.length_map, List.length_map]
          exact h2.few
        have hsm : ∀ q ∈ (g.2.map (·.2)).map (dnQ 0 c), q.1 ≤ 1000 ∧ q.2 ≤ 1000 := fun q hq => by
          obtain ⟨r, hr1, rfl⟩ := List.mem_map.mp hq
          rw [hg2] at hr1
          obtain ⟨k1, _⟩ := List.mem_filter.mp hr1
          obtain ⟨u, w, b1, b2⟩ := prs_mem.mp k1
          have k3 := (List.getElem?_eq_some_iff.mp b2).1
          have hbl : b.cps.toList.length = b.length := Array.length_toList
          unfold dnQ
          constructor
          · show r.1 + 0 ≤ 1000
            omega
          · show r.2 + c ≤ 1000
            omega
        have nwt : ∀ x ∈ ts, H x = none ∧ x ≠ D := fun x hx => ⟨Ex.free e2 (hnew x hx), fun z => by
          have := hnew x hx
          rw [z, vD2] at this
          cases this⟩
        have hos2 : ObjsAt (hid D (newO H H4)) ts (((g.2.map (·.2)).map (dnQ 0 c)).map tupO) := objs_in (fun x hx o ho => hid_get (newO_get ho (nwt x hx).1) (nwt x hx).2) hos'
        obtain ⟨s1, s2, s3⟩ := zip_SP hos2 hf2 hsm
        have vD4 := e4.get vD2
        have hfl : fs.length ≤ 48 := by
          have := congrArg List.length he
          unfold gsV at this
          rw [List.length_map, List.length_map, List.length_map, List.length_take] at this
          omega
        walk_at "go"
        refine st_app vD4 (by rw [List.length_map]; omega) ?_
        refine ⟨(e2.trans e4).mut nD, hid_to (f2.trans e4), ⟨fs ++ [(D2, ts.zip ((g.2.map (·.2)).map (dnQ 0 c)))], ?_, ?_, ?_⟩, _, _, _, rfl⟩
        · rw [upd_same, List.map_append]
          rfl
        · rw [new_upd]
          refine HP.app (hf.ex (new_hid e4)) fun f hf' => ?_
          rw [List.mem_singleton.mp hf']
          exact ⟨by rw [s2]; exact hid_get (newO_get v4 (Ex.free e2 nD2)) n2, s1⟩
        · show gsV (fs ++ _) = _
          rw [show List.take (i + 1) gs = List.take i gs ++ [g] by rw [List.take_succ, hg]; rfl]
          unfold gsV at he ⊢
          rw [List.map_append, List.map_append, List.map_append, he]
          exact congrArg (fun z => _ ++ [z]) s3
    · rintro σ H2 ⟨e2, f2, ⟨fs, vD2, hf, he⟩, y3, y4, y5, rfl⟩
      walk_at "go"
      rw [List.take_length] at he
      refine k D fs H2 e2 nD vD2 (fun G hG => ⟨hG D _ nD vD2, hf.ex ((hid_ex _ _).trans (newO_fr hG))⟩) ?_
      rw [he, hvC_eq]
      have hsl : s.cps.toList.length = s.length := Array.length_toList
      have q1 := cs.a_
      have q2 := cs.b_
      unfold gsV
      rw [g3, q1, q2, al, bl, hsl]
def sp__law_rising : Sp := fun vs H Q _ => ∃ (F : Addr) (ps : List Nat) (lo hi : Nat), vs = [.ref F, .int (lo : Nat), .int (hi : Nat)] ∧ H F = some (.lst (ps.map fun p => V.int (p : Nat))) ∧ ps.length ≤ 100 ∧ riseB hi lo ps = true ∧ ∀ H', Ex H H' → Q (.bl true) H'
theorem ok__law_rising (T : Tx K mg ad fd tk base tc) : FnOk P w K mg base CX0 1 (ad 41) (fd 41) ["_law_found", "_law_low", "_law_high"] sp__law_rising := by
  refine T.d__law_rising.F.ok sc__law_rising (fun vs H Q E h => ?_) (fun cdv A outer s H vs Q E hr h => ?_)
  · obtain ⟨F, ps, lo, hi, rfl, _⟩ := h
    rfl
  · obtain ⟨F, ps, lo, hi, rfl, hF, hl, hb, k⟩ := h
    refine ⟨_, (pss_cons (ps_if (pt_not (pt_val (pe_callB c_is (by rfl) T.b_isinstance (by decide +kernel) (pa_cons (pv 0) (pa_cons (pe_bltn (v := .ty "list") rfl T.b_list (by decide +kernel) rfl) pa_nil))))) (pss_one (ps_ret pe_bl)) pss_nil)
      (pss_cons (ps_for PassesOwn.never rfl (pi_list (pv 0)) (pg_name (i := 3) sc__law_rising.nd rfl (Or.inl rfl)) (pss_cons (ps_if (PW.pt (pw_or (pt_not (pt_val (pe_callB c_is (by rfl) T.b_isinstance (by decide +kernel) (pa_cons (pv 3) (pa_cons (pe_bltn (v := .ty "int") rfl T.b_int (by decide +kernel) rfl) pa_nil))))) (pw_or (pt_val (pe_callB c_is (by rfl) T.b_isinstance (by decide +kernel) (pa_cons (pv 3) (pa_cons (pe_bltn (v := .ty "bool") rfl T.b_bool (by decide +kernel) rfl) pa_nil)))) (pw_or1 (pt_not (pt_chain o_le o_lt (pv 1) (pv 3) (pv 2))))))) (pss_one (ps_ret pe_bl)) pss_nil)
      (pss_one (ps_set (i := 1) sc__law_rising.nd rfl (Or.inl rfl) (pe_op o_add (pv 3) pe_int)))))
      (pss_one (ps_ret pe_bl)))), ?_⟩
    walk_at "go"
    refine for_runs (rv_list _ F ps fun p => V.int (p : Nat)) (fun i σ H' => Ex H H' ∧ ∃ (l : Nat) (y3 : Option V), riseB hi l (ps.drop i) = true ∧ σ = [some (.ref F), some (.int (l : Nat)), some (.int (hi : Nat)), y3]) ⟨Fr.refl _, lo, _, hb, rfl⟩ (fun i σ H' _ h => lst_of (h.1.get hF)) ?_ ?_
    · rintro i x σ H1 H2 hi1 ⟨e1, l, y3, hr1, rfl⟩ ⟨rfl, p, hp, rfl⟩
      rw [List.drop_eq_getElem_cons hi1] at hr1
      have hp' : ps[i] = p := by
        have := List.getElem?_eq_getElem hi1
        rw [hp] at this
        exact (Option.some.inj this).symm
      rw [hp'] at hr1
      have hr1 : (decide (l ≤ p ∧ p < hi) && riseB hi (p + 1) (ps.drop (i + 1))) = true := hr1
      rw [Bool.and_eq_true] at hr1
      have h2 := of_decide_eq_true hr1.1
      walk_at "go"
      rw [if_pos (decide_eq_true (show ((l : Nat) : Int) ≤ (p : Nat) by omega))]
      walk_at "go"
      refine st_F (by rw [decide_eq_true (show ((p : Nat) : Int) < (hi : Nat) by omega)]; rfl) ?_
      walk_at "go"
      exact ⟨e1, p + 1, _, hr1.2, rfl⟩
    · rintro σ H1 ⟨e1, l, y3, _, rfl⟩
      walk_at "go"
      exact k _ e1
def sp__law_same : Sp := fun vs H Q _ => ∃ (F D : Addr) (fs gs : List CU), vs = [.ref F, .ref D] ∧ H F = some (.lst (fs.map cuV)) ∧ H D = some (.lst (gs.map cuV)) ∧ CP H fs ∧ CP H gs ∧ gs.length ≤ 25 ∧ (∀ c ∈ fs, c.2.length ≤ 48) ∧ fs.map (fun c => gsV c.2) = gs.map (fun c => gsV c.2) ∧ ∀ H', Ex H H' → Q (.bl true) H'
theorem ok__law_same (T : Tx K mg ad fd tk base tc) : FnOk P w K mg base CX0 1 (ad 42) (fd 42) ["_law_found", "_law_due"] sp__law_same := by
  refine T.d__law_same.F.ok sc__law_same (fun vs H Q E h => ?_) (fun cdv A outer s H vs Q E hr h => ?_)
  · obtain ⟨F, D, fs, gs, rfl, _⟩ := h
    rfl
  · obtain ⟨F, D, fs, gs, rfl, hF, hD, cf, cg, hl, hs, he, k⟩ := h
    refine ⟨_, (pss_cons (ps_if (PW.pt (pw_or (pt_not (pt_val (pe_callB c_is (by rfl) T.b_isinstance (by decide +kernel) (pa_cons (pv 0) (pa_cons (pe_bltn (v := .ty "list") rfl T.b_list (by decide +kernel) rfl) pa_nil))))) (pw_or1 (pt_cmpR (o_ne hr.units) (pv 0) (pv 1) (nomark _))))) (pss_one (ps_ret pe_bl)) pss_nil)
      (pss_cons (ps_for PassesOwn.never rfl (pi_list (pv 0)) (pg_name (i := 2) sc__law_same.nd rfl (Or.inl rfl)) (pss_one (ps_if (PW.pt (pw_or (pt_not (pt_val (pe_callB c_is (by rfl) T.b_isinstance (by decide +kernel) (pa_cons (pv 2) (pa_cons (pe_bltn (v := .ty "list") rfl T.b_list (by decide +kernel) rfl) pa_nil))))) (pw_or1 (pt_not (pt_val (pe_callB (c_all rfl) (by rfl) T.b_all (by decide +kernel) (pa_cons (pe_lc (own := [("_law_heap", 3)]) (g := gName 3) rfl sc__law_same.nd (pi_list (pv 2)) (blkOk_by (own := [("_law_heap", 3)]) (N := N__law_same) (sc := defScope s__law_same) (by decide +kernel)) (fun _ _ _ _ _ => pg_name (i := 3) sc__law_same.nd rfl (Or.inl rfl)) (fun _ _ _ _ _ => pts_nil) (fun _ _ _ _ _ => (pe_callB c_is (by rfl) T.b_isinstance (by decide +kernel) (pa_cons (pv 3) (pa_cons (pe_bltn (v := .ty "list") rfl T.b_list (by decide +kernel) rfl) pa_nil))))) pa_nil))))))) (pss_one (ps_ret pe_bl)) pss_nil)))
      (pss_one (ps_ret pe_bl)))), ?_⟩
    walk_at "go"
    refine st_neD (cf.rp hF) (cg.rp hD) (by have := cs_depth fs; omega) ?_
    rw [eqv_cus, decide_eq_true he]
    refine ⟨_, rfl, ?_⟩
    walk_at "go"
    have hfl : fs.length ≤ 25 := by have := congrArg List.length he; rw [List.length_map, List.length_map] at this; omega
    refine for_runs (rv_list _ F fs cuV) (fun i σ H' => Ex H H' ∧ ∃ (y2 y3 : Option V), σ = [some (.ref F), some (.ref D), y2, y3]) ⟨Fr.refl _, _, _, rfl⟩ (fun i σ H' _ h => lst_of (h.1.get hF)) ?_ ?_
    · rintro i x σ H1 H2 hi1 ⟨e1, y2, y3, rfl⟩ ⟨rfl, c, hc, rfl⟩
      obtain ⟨c1, c2⟩ := cf c (List.mem_of_getElem? hc)
      have c3 := hs c (List.mem_of_getElem? hc)
      have c1' := e1.get c1
      walk_at "go"
      refine lc_map (rv_list _ c.1 c.2 hV) (fun H' e => lst_of (e.get c1')) (by omega) (fun _ => V.bl true) ?_ ?_
      · intro z H' hz e B hB
        have z1 := e.get (e1.get (c2 z hz).1)
        refine ⟨rfl, ?_⟩
        walk_at "go"
        exact hB _ (Fr.refl _)
      · intro L H' nL e vL
        walk_at "go"
        refine st_all (bs := c.2.map fun _ => true) vL (by rw [List.map_map]; rfl) ?_
        have ha : (c.2.map fun _ => true).all id = true := by
          rw [List.all_eq_true]
          intro b hb
          obtain ⟨_, _, rfl⟩ := List.mem_map.mp hb
          rfl
        rw [ha]
        refine ⟨_, rfl, ?_⟩
        walk_at "go"
        exact ⟨e1.trans e, _, _, rfl⟩
    · rintro σ H1 ⟨e1, y2, y3, rfl⟩
      walk_at "go"
      exact k _ e1
theorem hp_noT {H : Hp} {gs : List HZ} (h : HP H gs) : HP (noT H) gs := fun g hg => ⟨noT_get (h g hg).1 (fun _ z => by cases z), ⟨fun z hz => noT_get ((h g hg).2.tp z hz) (fun _ e => by unfold tupO at e; cases e), (h g hg).2.few, (h g hg).2.small⟩⟩
theorem cp_noT {H : Hp} {cs : List CU} (h : CP H cs) : CP (noT H) cs := fun c hc => ⟨noT_get (h c hc).1 (fun _ z => by cases z), hp_noT (h c hc).2⟩
theorem cp_on {H H' : Hp} {cs : List CU} (h : CP H cs) (e : Ex (noT H) H') : CP H' cs := (cp_noT h).ex e
/-- what twice tells, as data -/
def twD (M : Nat) (A B : List Nat) (fs : List CU) : PyData := .tuple [.int (M : Nat), .list (A.map fun n => .int (n : Nat)), .list (B.map fun n => .int (n : Nat)), .list (fs.map encCU)]
theorem rp_tw {H : Hp} {p a b F : Addr} {M : Nat} {A B : List Nat} {fs : List CU} (hp : H p = some (.tup [.int (M : Nat), .ref a, .ref b, .ref F])) (ha : H a = some (.lst (A.map fun n => V.int (n : Nat)))) (hb : H b = some (.lst (B.map fun n => V.int (n : Nat)))) (hF : H F = some (.lst (fs.map cuV))) (h : CP H fs) : Rp H (.ref p) (twD M A B fs) :=
  .tup (tup_of hp) (.cons (.int _) (.cons (.lst (lst_of ha) (rpA_map (enc := fun n : Nat => PyData.int (n : Nat)) fun n _ => .int _)) (.cons (.lst (lst_of hb) (rpA_map (enc := fun n : Nat => PyData.int (n : Nat)) fun n _ => .int _)) (.cons (h.rp hF) .nil))))
theorem ints_depth (A : List Nat) : (PyData.list (A.map fun n => .int (n : Nat))).depth ≤ 2 := by
  have : PyData.depthAll (A.map fun n : Nat => PyData.int (n : Nat)) ≤ 1 := depth_map fun n _ => by simp [PyData.depth]
  simp only [PyData.depth]
  omega
theorem twD_depth (M : Nat) (A B : List Nat) (fs : List CU) : (twD M A B fs).depth ≤ 6 := by
  have h1 := ints_depth A
  have h2 := ints_depth B
  have h3 := cs_depth fs
  unfold twD
  simp only [PyData.depth, PyData.depthAll] at h1 h2 h3 ⊢
  omega
theorem ints_hd (A : List Nat) : (PyData.list (A.map fun n => .int (n : Nat))).hasDict = false := by
  show PyData.hasDictAll _ = false
  refine hasDictA_of fun d hd => ?_
  obtain ⟨n, _, rfl⟩ := List.mem_map.mp hd
  rfl
theorem encCU_hd (c : CU) : (encCU c).hasDict = false := by
  show PyData.hasDictAll _ = false
  refine hasDictA_of fun d hd => ?_
  obtain ⟨g, _, rfl⟩ := List.mem_map.mp hd
  show PyData.hasDictAll _ = false
  refine hasDictA_of fun d hd => ?_
  obtain ⟨z, _, rfl⟩ := List.mem_map.mp hd
  rfl
theorem twD_hd (M : Nat) (A B : List Nat) (fs : List CU) : (twD M A B fs).hasDict = false := by
  show PyData.hasDictAll _ = false
  refine hasDictA_of fun d hd => ?_
  simp only [List.mem_cons, List.not_mem_nil, or_false] at hd
  rcases hd with rfl | rfl | rfl | rfl
  · rfl
  · exact ints_hd _
  · exact ints_hd _
  · show PyData.hasDictAll _ = false
    refine hasDictA_of fun d hd => ?_
    obtain ⟨c, _, rfl⟩ := List.mem_map.mp hd
    exact encCU_hd c
theorem twD_eq {M : Nat} {A B : List Nat} {fs gs : List CU} (h : fs.map (fun c => gsV c.2) = gs.map fun c => gsV c.2) : twD M A B fs = twD M A B gs := by
  have e : fs.map encCU = gs.map encCU := by
    have := congrArg (List.map encG) h
    rw [List.map_map, List.map_map] at this
    rw [show (encCU : CU → PyData) = encG ∘ fun c => gsV c.2 from funext encCU_eq]
    exact this
  unfold twD
  rw [e]
theorem noT_two {H H1 H2 : Hp} (e : Ex (noT H) H1) (f : Ex (noT H1) H2) : Ex (noT H) H2 := fun b o n q => f b o (fun z => z) (noT_get (e b o n q) (noT_of q).2)
def sp__law_told (K : PySem.W.Frag) (TL : List (Addr × Str)) : Sp := fun vs H Q _ => ∃ (s : Str) (D : Addr) (cs : List CU), vs = [.str s, .ref D] ∧ PlainS s ∧ LamX.Tabs TL H ∧ H D = some (.lst (cs.map cuV)) ∧ CP H cs ∧ cs.map (fun c => gsV c.2) = (List.range (s.length + 1)).map (hvC s.cps.toList) ∧ ∀ H', Ex (noT H) H' → LamX.Tabs TL H' → Q (.bl true) H'
theorem ok__law_told (T : Tx K mg ad fd tk base tc) : FnOk P w K mg base CX0 12 (ad 43) (fd 43) ["_law_row_here", "_law_due"] (sp__law_told K (tabsL tc)) := by
  refine T.d__law_told.F.ok sc__law_told (fun vs H Q E h => ?_) (fun cdv A outer s H vs Q E hr h => ?_)
  · obtain ⟨s, D, cs, rfl, _⟩ := h
    rfl
  · obtain ⟨s, D, cs, rfl, hs, hT, hD, hC, he, k⟩ := h
    refine ⟨_, (pss_cons (ps_setLc (i := 2) (own := [("_law_heaps_here", 6)]) (g := gName 6) rfl sc__law_told.nd rfl rfl (sw_true rfl rfl rfl (by decide +kernel)) (pi_list (pv 1)) (blkOk_by (own := [("_law_heaps_here", 6)]) (N := N__law_told) (sc := defScope s__law_told) (by decide +kernel)) (fun _ _ _ _ _ => pg_name (i := 6) sc__law_told.nd rfl (Or.inl rfl)) (fun _ _ _ _ _ => pts_nil) (fun _ _ _ _ _ => (pe_callB (c_len (K := K)) (by rfl) T.b_len (by decide +kernel) (pa_cons (pv 6) pa_nil))))
      (pss_cons (ps_set (i := 3) sc__law_told.nd rfl (Or.inl rfl) (pe_bmK (K := K) PySem.F.plainAttrs_list PySem.F.slot_list_index PySem.F.type_list_index (m_index (K := K)) (pv 2) (pa_cons (pe_callB (c_max1 rfl (K := K)) (by rfl) T.b_max (by decide +kernel) (pa_cons (pv 2) pa_nil)) pa_nil)))
      (pss_cons (ps_set (i := 4) sc__law_told.nd rfl (Or.inl rfl) (pe_call (ok_twice T) (hr.mono (by decide)) rfl T.d_twice.g T.d_twice.F.kp T.d_twice.b .nil passL (pa_cons (pv 0) pa_nil)))
      (pss_cons (ps_if (PW.pt (pw_or (pt_not (pt_val (pe_callB c_is (by rfl) T.b_isinstance (by decide +kernel) (pa_cons (pv 4) (pa_cons (pe_bltn (v := .ty "tuple") rfl T.b_tuple (by decide +kernel) rfl) pa_nil))))) (pw_or1 (pt_cmpR (o_ne hr.units) (pe_callB (c_len (K := K)) (by rfl) T.b_len (by decide +kernel) (pa_cons (pv 4) pa_nil)) pe_int (nomark _))))) (pss_one (ps_ret pe_bl)) pss_nil)
      (pss_cons (ps_if (PW.pt (pw_or (pt_not (pt_val (pe_callB c_is (by rfl) T.b_isinstance (by decide +kernel) (pa_cons (pe_ix (i_ix (K := K)) (pv 4) pe_int (fun _ _ => rfl)) (pa_cons (pe_bltn (v := .ty "int") rfl T.b_int (by decide +kernel) rfl) pa_nil))))) (pw_or (pt_val (pe_callB c_is (by rfl) T.b_isinstance (by decide +kernel) (pa_cons (pe_ix (i_ix (K := K)) (pv 4) pe_int (fun _ _ => rfl)) (pa_cons (pe_bltn (v := .ty "bool") rfl T.b_bool (by decide +kernel) rfl) pa_nil)))) (pw_or1 (pt_cmpR (o_ne hr.units) (pe_ix (i_ix (K := K)) (pv 4) pe_int (fun _ _ => rfl)) (pv 3) (nomark _)))))) (pss_one (ps_ret pe_bl)) pss_nil)
      (pss_cons (ps_if (PW.pt (pw_or (pt_not (pt_val (pe_call (ok__law_rising T) (hr.mono (by decide)) rfl T.d__law_rising.g T.d__law_rising.F.kp T.d__law_rising.b .nil pass0 (pa_cons (pe_ix (i_ix (K := K)) (pv 4) pe_int (fun _ _ => rfl)) (pa_cons pe_int (pa_cons (pv 3) pa_nil)))))) (pw_or1 (pt_not (pt_val (pe_call (ok__law_rising T) (hr.mono (by decide)) rfl T.d__law_rising.g T.d__law_rising.F.kp T.d__law_rising.b .nil pass0 (pa_cons (pe_ix (i_ix (K := K)) (pv 4) pe_int (fun _ _ => rfl)) (pa_cons (pv 3) (pa_cons (pe_callB (c_len (K := K)) (by rfl) T.b_len (by decide +kernel) (pa_cons (pv 0) pa_nil)) pa_nil))))))))) (pss_one (ps_ret pe_bl)) pss_nil)
      (pss_cons (ps_if (PW.pt (pw_or (pt_cmpR (o_ne hr.units) (pe_callB (c_len (K := K)) (by rfl) T.b_len (by decide +kernel) (pa_cons (pe_ix (i_ix (K := K)) (pv 4) pe_int (fun _ _ => rfl)) pa_nil)) (pe_ix (i_ix (K := K)) (pv 2) (pv 3) (fun _ _ => rfl)) (nomark _)) (pw_or1 (pt_cmpR (o_ne hr.units) (pe_callB (c_len (K := K)) (by rfl) T.b_len (by decide +kernel) (pa_cons (pe_ix (i_ix (K := K)) (pv 4) pe_int (fun _ _ => rfl)) pa_nil)) (pe_ix (i_ix (K := K)) (pv 2) (pv 3) (fun _ _ => rfl)) (nomark _))))) (pss_one (ps_ret pe_bl)) pss_nil)
      (pss_cons (ps_for PassesOwn.never rfl (pi_range1 rfl T.b_range (pa_cons (pe_ix (i_ix (K := K)) (pv 2) (pv 3) (fun _ _ => rfl)) pa_nil)) (pg_name (i := 5) sc__law_told.nd rfl (Or.inl rfl)) (pss_one (ps_if (pt_cmpR (o_ne hr.units) (pe_ix (i_ix (K := K)) (pv 0) (pe_ix (i_ix (K := K)) (pe_ix (i_ix (K := K)) (pv 4) pe_int (fun _ _ => rfl)) (pv 5) (fun _ _ => rfl)) (fun _ _ => rfl)) (pe_ix (i_ix (K := K)) (pv 0) (pe_ix (i_ix (K := K)) (pe_ix (i_ix (K := K)) (pv 4) pe_int (fun _ _ => rfl)) (pv 5) (fun _ _ => rfl)) (fun _ _ => rfl)) (nomark _)) (pss_one (ps_ret pe_bl)) pss_nil)))
      (pss_cons (ps_if (pt_not (pt_val (pe_call (ok__law_same T) (hr.mono (by decide)) rfl T.d__law_same.g T.d__law_same.F.kp T.d__law_same.b .nil pass0 (pa_cons (pe_ix (i_ix (K := K)) (pv 4) pe_int (fun _ _ => rfl)) (pa_cons (pv 1) pa_nil))))) (pss_one (ps_ret pe_bl)) pss_nil)
      (pss_cons (ps_if (pt_cmpR (o_neA (K := K) hr.units) (pe_call (ok_twice T) (hr.mono (by decide)) rfl T.d_twice.g T.d_twice.F.kp T.d_twice.b .nil passL (pa_cons (pv 0) pa_nil)) (pv 4) (nomark _)) (pss_one (ps_ret pe_bl)) pss_nil)
      (pss_cons (ps_expr (pe_bm PySem.F.plainAttrs_list PySem.F.slot_list_append PySem.F.type_list_append mt_append (pe_ix (i_ix (K := K)) (pv 4) pe_int (fun _ _ => rfl)) (pa_cons pe_int pa_nil)))
      (pss_cons (ps_expr (pe_bm0 PySem.F.plainAttrs_list PySem.F.slot_list_clear PySem.F.type_list_clear mt_clear (pe_ix (i_ix (K := K)) (pv 4) pe_int (fun _ _ => rfl))))
      (pss_cons (ps_expr (pe_bm PySem.F.plainAttrs_list PySem.F.slot_list_append PySem.F.type_list_append mt_append (pe_ix (i_ix (K := K)) (pe_ix (i_ix (K := K)) (pv 4) pe_int (fun _ _ => rfl)) (pe_un un_neg pe_int) (fun _ _ => rfl)) (pa_cons (pe_lst (pa_cons (pe_tup (pa_cons pe_int (pa_cons pe_int pa_nil))) pa_nil)) pa_nil)))
      (pss_cons (ps_expr (pe_bm PySem.F.plainAttrs_list PySem.F.slot_list_append PySem.F.type_list_append mt_append (pe_ix (i_ix (K := K)) (pv 4) pe_int (fun _ _ => rfl)) (pa_cons (pe_lst pa_nil) pa_nil)))
      (pss_one (ps_ret pe_bl)))))))))))))))), ?_⟩
    have hs1 := hs.len
    have hsl : s.cps.toList.length = s.length := Array.length_toList
    have hcl : cs.length = s.length + 1 := by
      have := congrArg List.length he
      rw [List.length_map, List.length_map, List.length_range] at this
      exact this
    walk_at "go"
    refine lc_map (rv_list _ D cs cuV) (fun H' e => lst_of (e.get hD)) (by omega) (fun c => V.int (c.2.length : Nat)) ?_ ?_
    · intro c H' hc e B hB
      have c1 := e.get (hC c hc).1
      refine ⟨rfl, ?_⟩
      walk_at "go"
      rw [List.length_map]
      exact hB _ (Fr.refl _)
    intro L H1 nL e1 vL
    have vI : H1 L = some (.lst ((twI s.cps.toList).map V.int)) := by
      rw [vL, twI_hv (l := s.cps.toList) (by rw [hsl]; exact he)]
    have hD1 := e1.get hD
    have hC1 := hC.ex e1
    have hT1 : LamX.Tabs (tabsL tc) H1 := hT.ext fun b o h => e1.get h
    clear vL
    walk_at "go"
    refine st_maxL (lstAt_sq (lst_of vI)) (by rw [twI_len]; omega) fun m hm hmx => ?_
    obtain ⟨m1, m2, m3⟩ := twI_max hm hmx
    walk_at "go"
    refine st_index (j := maxL s.cps.toList) (lstAt_sq (lst_of vI)) m2 m3 ?_
    have hml := maxL_le s.cps.toList
    rw [hsl] at hml
    obtain ⟨M, hM⟩ : ∃ M, maxL s.cps.toList = M := ⟨_, rfl⟩
    rw [hM] at m1 m2 m3 hml
    rw [hM]
    walk_at "go"
    refine ⟨.str s, rfl, hT1, .inl ⟨s, rfl, hs, fun p a b F qs fs H2 e2 hT2 np vp va vb vF hq hf hfe hfD => ?_⟩⟩
    rw [hM] at vp hq
    simp only [hM] at vb
    have vI2 := keepL vI e2
    have hD2 := keepL hD1 e2
    have hC2 := cp_on hC1 e2
    have hf2 : CP H2 fs := hf.ex ((hid_ex _ _).trans (newO_ex _ _))
    have q1 := List.length_take (i := M) (l := s.cps.toList)
    have q2 := List.length_drop (i := M) (l := s.cps.toList)
    obtain ⟨t1, t2, t3⟩ := thr_ok (s.cps.toList.take M) (s.cps.toList.drop M) M (s.length - M) (by omega) (by omega)
    rw [← hq] at t1 t2 t3
    have tl : qs.length = twL s.cps.toList M := by rw [t1]; unfold twL; rw [hsl]
    have va' : H2 a = some (.lst ((qs.map fun q => q.1).map fun n => V.int (n : Nat))) := by rw [va, List.map_map]; rfl
    have vb' : H2 b = some (.lst ((qs.map fun q => q.2 + M).map fun n => V.int (n : Nat))) := by rw [vb, List.map_map]; rfl
    have hql : qs.length ≤ 48 := by
      rw [t1]
      have := Lc_le (s.cps.toList.take M) (s.cps.toList.drop M) M (s.length - M)
      omega
    have r1 : riseB M 0 (qs.map fun q => q.1) = true := riseB_of (List.pairwise_map.mpr (t2.imp fun h => h.1)) fun x hx => by
      obtain ⟨q, hq1, rfl⟩ := List.mem_map.mp hx
      have := (t3 q hq1).1
      omega
    have r2 : riseB s.length M (qs.map fun q => q.2 + M) = true := riseB_of (List.pairwise_map.mpr (t2.imp fun h => Nat.add_lt_add_right h.2 M)) fun x hx => by
      obtain ⟨q, hq1, rfl⟩ := List.mem_map.mp hx
      have := (t3 q hq1).2.1
      omega
    have hfl : fs.length = s.length + 1 := by
      have := congrArg List.length hfe
      rw [List.length_map, List.length_map, List.length_range] at this
      exact this
    walk_at "go"
    refine st_F (by rw [decide_eq_true rfl]; rfl) ?_
    walk_at "go"
    refine ⟨a, qs.map (fun q => q.1), 0, M, rfl, va', by rw [List.length_map]; omega, r1, fun H3 e3 => ?_⟩
    walk_at "go"
    refine ⟨b, qs.map (fun q => q.2 + M), M, s.length, rfl, e3.get vb', by rw [List.length_map]; omega, r2, fun H4 e4 => ?_⟩
    have e24 := e3.trans e4
    have va4 := e24.get va'
    have vb4 := e24.get vb'
    have vI4 := e24.get vI2
    have vp4 := e24.get vp
    have vF4 := e24.get vF
    have hD4 := e24.get hD2
    have hC4 := hC2.ex e24
    have hf4 := hf2.ex e24
    have hT4 : LamX.Tabs (tabsL tc) H4 := hT2.ext fun c o h => e24.get h
    have hf' := hf.ex (new_hid e24)
    have eN4 : Ex (noT H1) H4 := e2.trans e24
    clear e3 e4 e24 va vb va' vb' vI2 vp vF hD2 hC2 hf2 hT2 hf
    have mI : atI ((twI s.cps.toList).map V.int) (M : Int) = some (.int (twL s.cps.toList M : Nat)) := at_nat (by rw [List.getElem?_map, twI_at (by omega)]; rfl)
    walk_at "go"
    refine st_ixL vI4 mI ?_
    walk_at "go"
    have l1 : ((List.map (fun n : Nat => V.int (n : Nat)) (List.map (fun q : Nat × Nat => q.1) qs)).length : Int) = (twL s.cps.toList M : Nat) := by rw [List.length_map, List.length_map, tl]
    refine st_F (by rw [decide_eq_true l1]; rfl) ?_
    walk_at "go"
    refine st_ixL vI4 mI ?_
    walk_at "go"
    have l2 : ((List.map (fun n : Nat => V.int (n : Nat)) (List.map (fun q : Nat × Nat => q.2 + M) qs)).length : Int) = (twL s.cps.toList M : Nat) := by rw [List.length_map, List.length_map, tl]
    refine st_F (by rw [decide_eq_true l2]; rfl) ?_
    walk_at "go"
    refine st_ixL vI4 mI ?_
    refine ⟨_, rfl, by omega, by omega, ?_⟩
    rw [Int.toNat_natCast, ← tl]
    refine for_runs (runs_range 0 _) (fun i σ H' => Ex H4 H' ∧ ∃ y5 y6, σ = [some (.str s), some (.ref D), some (.ref L), some (.int (M : Nat)), some (.ref p), y5, y6]) ⟨Fr.refl _, _, _, rfl⟩ (fun i σ H' _ h => trivial) ?_ ?_
    · rintro i x σ H5 H6 hi ⟨e5, y5, y6, rfl⟩ ⟨rfl, rfl⟩
      rw [Int.zero_add]
      obtain ⟨q, hqi⟩ : ∃ q, qs[i]? = some q := ⟨_, List.getElem?_eq_getElem hi⟩
      obtain ⟨g1, g2, c, c1, c2⟩ := t3 q (List.mem_of_getElem? hqi)
      have c1' : s.cps.toList[q.1]? = some c := by
        have h := c1
        rw [List.getElem?_take_of_lt g1] at h
        exact h
      have c2' : s.cps.toList[q.2 + M]? = some c := by
        have h := c2
        rw [List.getElem?_drop] at h
        rw [Nat.add_comm]
        exact h
      have va5 := e5.get va4
      have vb5 := e5.get vb4
      have vp5 := e5.get vp4
      walk_at "go"
      refine st_ixL va5 (at_nat (by rw [List.getElem?_map, List.getElem?_map, hqi]; rfl)) ?_
      walk_at "go"
      refine st_sign (by omega) (at_nat c1') ?_
      walk_at "go"
      refine st_ixL vb5 (at_nat (by rw [List.getElem?_map, List.getElem?_map, hqi]; rfl)) ?_
      walk_at "go"
      refine st_sign (by omega) (at_nat c2') ?_
      walk_at "go"
      rw [decide_eq_true rfl]
      walk_at "go"
      exact ⟨e5, _, _, rfl⟩
    rintro σ H5 ⟨e5, y5, y6, rfl⟩
    have va5 := e5.get va4
    have vb5 := e5.get vb4
    have vp5 := e5.get vp4
    have vF5 := e5.get vF4
    have hD5 := e5.get hD4
    have hC5 := hC4.ex e5
    have hf5 := hf4.ex e5
    have hT5 : LamX.Tabs (tabsL tc) H5 := hT4.ext fun c o h => e5.get h
    have hf6 := hf'.ex (new_hid e5)
    have eN5 := eN4.trans e5
    clear hf' e5 eN4 va4 vb4 vp4 vF4 hD4 hC4 hf4 hT4 vI4
    walk_at "go"
    have hlen : ∀ c ∈ fs, c.2.length ≤ 48 := fun c hc => by
      have h1 : c.2.length ∈ fs.map fun c => c.2.length := List.mem_map_of_mem hc
      rw [← len_hv hfe] at h1
      obtain ⟨n, hn, h2⟩ := List.mem_map.mp h1
      have h3 := List.mem_range.mp hn
      have h4 := Lc_le (s.cps.toList.take n) (s.cps.toList.drop n) n (s.cps.toList.length - n)
      unfold twL at h2
      omega
    refine ⟨F, D, fs, cs, rfl, vF5, hD5, hf5, hC5, by omega, hlen, by rw [hfe, he], fun H7 e7 => ?_⟩
    have hT7 : LamX.Tabs (tabsL tc) H7 := hT5.ext fun c o h => e7.get h
    walk_at "go"
    refine ⟨.str s, rfl, hT7, .inl ⟨s, rfl, hs, fun p' a' b' F' qs' fs' H8 e8 hT8 np' vp' va' vb' vF' hq' hf' hfe' hfD' => ?_⟩⟩
    have va8 := keepL (e7.get va5) e8
    have vb8 := keepL (e7.get vb5) e8
    have vp8 := e8.get (noT_get (e7.get vp5) fun ps z => by cases z)
    have vF8 := keepL (e7.get vF5) e8
    have hf8 := cp_on (hf5.ex e7) e8
    have hf8' : CP H8 fs' := hf'.ex ((hid_ex _ _).trans (newO_ex _ _))
    have hf9 : CP (hid F (newO (noT H1) H7)) fs := hf6.ex (new_hid e7)
    rw [hM] at vp' hq'
    simp only [hM] at vb'
    have hqq : qs' = qs := by rw [hq', hq]
    subst hqq
    have va9 : H8 a' = some (.lst ((qs'.map fun q => q.1).map fun n => V.int (n : Nat))) := by rw [va', List.map_map]; rfl
    have vb9 : H8 b' = some (.lst ((qs'.map fun q => q.2 + M).map fun n => V.int (n : Nat))) := by rw [vb', List.map_map]; rfl
    walk_at "go"
    refine st_neA (rp_tw vp' va9 vb9 vF' hf8') (rp_tw vp8 va8 vb8 vF8 hf8) (by have := twD_depth M (qs'.map fun q => q.1) (qs'.map fun q => q.2 + M) fs; omega) ?_
    rw [twD_eq (show fs'.map (fun c => gsV c.2) = fs.map fun c => gsV c.2 by rw [hfe', hfe]), eqv_self _ (twD_hd _ _ _ _)]
    refine ⟨_, rfl, ?_⟩
    walk_at "go"
    obtain ⟨na, nb, nF, nab⟩ := np
    have eM : Ex (noT H) (noT H1) := noT_mono e1
    have na0 := Ex.free eM na
    have nb0 := Ex.free eM nb
    have nF0 := Ex.free eM nF
    have e08 : Ex (noT H) H8 := noT_two (eM.trans (eN5.trans e7)) e8
    obtain ⟨c, hc⟩ : ∃ c, fs[s.length]? = some c := ⟨_, List.getElem?_eq_getElem (by omega)⟩
    have hcm := List.mem_of_getElem? hc
    have nc0 : noT H c.1 = none := by
      have h1 := hid_ex _ _ _ _ (fun z => z) (hf9 c hcm).1
      exact Ex.free eM (newO_is h1).1
    have vc8 := (hf8 c hcm).1
    have hcF := hfD c hcm
    have hc48 := hlen c hcm
    have hFx : ∀ {x : Addr} {A : List Nat}, H8 x = some (.lst (A.map fun n => V.int (n : Nat))) → F ≠ x := fun {x A} hx z => by
      rw [z, hx] at vF8
      have h := HO.lst.inj (Option.some.inj vF8)
      cases fs with
      | nil => cases hc
      | cons c fs =>
        cases A with
        | nil => cases h
        | cons n A => cases h
    have hFa := hFx va8
    have hFb := hFx vb8
    refine st_app va8 (by rw [List.length_map, List.length_map]; omega) ?_
    have up : ∀ {G : Hp} {x y : Addr} {zs : List V}, (∃ ys, G x = some (.lst ys) ∧ ys.length ≤ 60) → zs.length ≤ 60 → ∃ ys, upd G y (.lst zs) x = some (.lst ys) ∧ ys.length ≤ 60 := fun {G x y zs} h hz => by
      by_cases z : x = y
      · rw [z]; exact ⟨zs, upd_same, hz⟩
      · rw [upd_ne z]; exact h
    have e9 := e08.mut (o := .lst (List.map (fun n : Nat => V.int (n : Nat)) (List.map (fun q => q.1) qs') ++ [V.int 99])) na0
    have hT9 := tabs_lst (u := .lst (List.map (fun n : Nat => V.int (n : Nat)) (List.map (fun q => q.1) qs') ++ [V.int 99])) hT8 va8
    have vc9 := up (zs := List.map (fun n : Nat => V.int (n : Nat)) (List.map (fun q => q.1) qs') ++ [V.int 99]) (y := a) ⟨_, vc8, by rw [List.length_map]; omega⟩ (by rw [List.length_append, List.length_map, List.length_map]; simp; omega)
    have vp9 : upd H8 a (.lst (List.map (fun n : Nat => V.int (n : Nat)) (List.map (fun q => q.1) qs') ++ [V.int 99])) p = _ := (upd_ne fun z => by rw [z, va8] at vp8; cases vp8).trans vp8
    have vb0 : upd H8 a (.lst (List.map (fun n : Nat => V.int (n : Nat)) (List.map (fun q => q.1) qs') ++ [V.int 99])) b = _ := (upd_ne fun z => nab z.symm).trans vb8
    have vF0 : upd H8 a (.lst (List.map (fun n : Nat => V.int (n : Nat)) (List.map (fun q => q.1) qs') ++ [V.int 99])) F = _ := (upd_ne hFa).trans vF8
    generalize upd H8 a (.lst (List.map (fun n : Nat => V.int (n : Nat)) (List.map (fun q => q.1) qs') ++ [V.int 99])) = G at *
    clear e08 va8 vb8 vp8 vF8 vc8 hf8 hf8' hf9 hT8 va9 vb9 hFx e7 e8 vp' va' vb' vF' hf' e1 e2 hf6 hT5 hT7 hT1 va5 vb5 vp5 vF5 hD5 hC5 hf5 eN5 hq'
    walk_at "go"
    have e10 := e9.mut (o := .lst []) nb0
    have hT10 := tabs_lst (u := .lst []) hT9 vb0
    have vc10 := up (zs := []) (y := b) vc9 (by simp)
    have vp10 : upd G b (.lst []) p = _ := (upd_ne fun z => by rw [z, vb0] at vp9; cases vp9).trans vp9
    have vF10 : upd G b (.lst []) F = _ := (upd_ne hFb).trans vF0
    generalize upd G b (.lst []) = G2 at *
    clear e9 hT9 vc9 vp9 vb0 vF0 up
    walk_at "go"
    refine st_ixL vF10 (at_last (n := s.length) (v := .ref c.1) (by rw [List.length_map]; omega) (by rw [List.getElem?_map, hc]; rfl)) ?_
    obtain ⟨ys, vc, hys⟩ := vc10
    walk_at "go"
    rename_i t1' G3 nt3 e3' vt3 q1' G4 nq4 e4' vq4
    have e34 := e3'.trans e4'
    have vF4' := e34.get vF10
    have vp4' := e34.get vp10
    have vc4' := e34.get vc
    refine st_app vc4' (by omega) ?_
    have e11 := (e10.trans e34).mut (o := .lst (ys ++ [V.ref q1'])) nc0
    have hT11 := tabs_lst (u := .lst (ys ++ [V.ref q1'])) (hT10.ext fun b o h => e34.get h) vc4'
    have vF11 : upd G4 c.1 (.lst (ys ++ [V.ref q1'])) F = _ := (upd_ne fun z => hcF z.symm).trans vF4'
    have vp11 : upd G4 c.1 (.lst (ys ++ [V.ref q1'])) p = _ := (upd_ne fun z => by rw [z, vc4'] at vp4'; cases vp4').trans vp4'
    generalize upd G4 c.1 (.lst (ys ++ [V.ref q1'])) = G5 at *
    clear e10 hT10 vp10 vF10 vc e3' e4' e34 vF4' vp4' vc4' vt3 vq4
    walk_at "go"
    rename_i q6 G6 nq6 e6' vq6
    have vF6 := e6'.get vF11
    refine st_app vF6 (by rw [List.length_map]; omega) ?_
    walk_at "go"
    exact k _ ((e11.trans e6').mut nF0) (tabs_lst (hT11.ext fun b o h => e6'.get h) vF6)
def sp__law_lengths (K : PySem.W.Frag) (TL : List (Addr × Str)) : Sp := fun vs H Q _ => ∃ (s : Str) (D : Addr) (cs : List CU), vs = [.str s, .ref D] ∧ PlainS s ∧ LamX.Tabs TL H ∧ H D = some (.lst (cs.map cuV)) ∧ CP H cs ∧ cs.map (fun c => gsV c.2) = (List.range (s.length + 1)).map (hvC s.cps.toList) ∧ ∀ H', Ex (noT H) H' → LamX.Tabs TL H' → Q (.bl true) H'
theorem ok__law_lengths (T : Tx K mg ad fd tk base tc) : FnOk P w K mg base CX0 11 (ad 44) (fd 44) ["_law_row_here", "_law_due"] (sp__law_lengths K (tabsL tc)) := by
  refine T.d__law_lengths.F.ok sc__law_lengths (fun vs H Q E h => ?_) (fun cdv A outer s H vs Q E hr h => ?_)
  · obtain ⟨s, D, cs, rfl, _⟩ := h
    rfl
  · obtain ⟨s, D, cs, rfl, hs, hT, hD, hC, he, k⟩ := h
    refine ⟨_, (pss_cons (ps_set (i := 2) sc__law_lengths.nd rfl (Or.inl rfl) (pe_call (ok_twice_lengths T) (hr.mono (by decide)) rfl T.d_twice_lengths.g T.d_twice_lengths.F.kp T.d_twice_lengths.b .nil passL (pa_cons (pv 0) pa_nil)))
      (pss_cons (ps_if (PW.pt (pw_or (pt_not (pt_val (pe_callB c_is (by rfl) T.b_isinstance (by decide +kernel) (pa_cons (pv 2) (pa_cons (pe_bltn (v := .ty "list") rfl T.b_list (by decide +kernel) rfl) pa_nil))))) (pw_or1 (pt_cmpR (o_ne hr.units) (pv 2) (pe_lc (own := [("_law_heaps_here", 3)]) (g := gName 3) rfl sc__law_lengths.nd (pi_list (pv 1)) (blkOk_by (own := [("_law_heaps_here", 3)]) (N := N__law_lengths) (sc := defScope s__law_lengths) (by decide +kernel)) (fun _ _ _ _ _ => pg_name (i := 3) sc__law_lengths.nd rfl (Or.inl rfl)) (fun _ _ _ _ _ => pts_nil) (fun _ _ _ _ _ => (pe_callB (c_len (K := K)) (by rfl) T.b_len (by decide +kernel) (pa_cons (pv 3) pa_nil)))) (nomark _))))) (pss_one (ps_ret pe_bl)) pss_nil)
      (pss_cons (ps_if (pt_val (pe_callB (c_any rfl (K := K)) (by rfl) T.b_any (by decide +kernel) (pa_cons (pe_lc (own := [("_law_many", 4)]) (g := gName 4) rfl sc__law_lengths.nd (pi_list (pv 2)) (blkOk_by (own := [("_law_many", 4)]) (N := N__law_lengths) (sc := defScope s__law_lengths) (by decide +kernel)) (fun _ _ _ _ _ => pg_name (i := 4) sc__law_lengths.nd rfl (Or.inl rfl)) (fun _ _ _ _ _ => pts_nil) (fun _ _ _ _ _ => (pe_callB c_is (by rfl) T.b_isinstance (by decide +kernel) (pa_cons (pv 4) (pa_cons (pe_bltn (v := .ty "bool") rfl T.b_bool (by decide +kernel) rfl) pa_nil))))) pa_nil))) (pss_one (ps_ret pe_bl)) pss_nil)
      (pss_cons (ps_expr (pe_bm PySem.F.plainAttrs_list PySem.F.slot_list_append PySem.F.type_list_append mt_append (pv 2) (pa_cons pe_int pa_nil)))
      (pss_one (ps_ret pe_bl)))))), ?_⟩
    have hs1 := hs.len
    have hsl : s.cps.toList.length = s.length := Array.length_toList
    have hcl : cs.length = s.length + 1 := by
      have := congrArg List.length he
      rw [List.length_map, List.length_map, List.length_range] at this
      exact this
    walk_at "go"
    refine ⟨.str s, rfl, hT, .inl ⟨s, rfl, hs, fun p H1 e1 hT1 np vp => ?_⟩⟩
    have vD1 := keepL hD e1
    have hC1 := cp_on hC e1
    walk_at "go"
    refine lc_map (rv_list _ D cs cuV) (fun H' e => lst_of (e.get vD1)) (by omega) (fun c => V.int (c.2.length : Nat)) ?_ ?_
    · intro c H' hc e B hB
      have c1 := e.get (hC1 c hc).1
      refine ⟨rfl, ?_⟩
      walk_at "go"
      rw [List.length_map]
      exact hB _ (Fr.refl _)
    intro L H2 nL e2 vL
    have vp2 := e2.get vp
    have hq : (List.range (s.length + 1)).map (fun c => twL s.cps.toList c) = cs.map fun c => c.2.length := by
      have := congrArg (List.map List.length) he
      rw [List.map_map, List.map_map] at this
      have h2 : (List.length ∘ hvC s.cps.toList) = fun c => twL s.cps.toList c := funext fun c => hvC_len _ _
      have h3 : (List.length ∘ fun c : CU => gsV c.2) = fun c => c.2.length := funext fun c => by
        show (gsV c.2).length = _
        unfold gsV
        rw [List.length_map]
      rw [h2, h3] at this
      exact this.symm
    have vL3 : H2 L = some (.lst (((List.range (s.length + 1)).map fun c => twL s.cps.toList c).map fun n => V.int (n : Nat))) := by
      rw [vL, hq, List.map_map]
      rfl
    have vp3 : H2 p = some (.lst (((List.range (s.length + 1)).map fun c => twL s.cps.toList c).map fun n => V.int (n : Nat))) := by
      rw [vp2, List.map_map]
      rfl
    generalize hW : (List.range (s.length + 1)).map (fun c => twL s.cps.toList c) = W at vL3 vp3
    have hWl : W.length = s.length + 1 := by rw [← hW, List.length_map, List.length_range]
    clear vp2 vL
    walk_at "go"
    refine st_neD (.lst (lst_of vp3) (rpA_map (enc := fun n : Nat => PyData.int (n : Nat)) fun n _ => .int _)) (.lst (lst_of vL3) (rpA_map (enc := fun n : Nat => PyData.int (n : Nat)) fun n _ => .int _)) ?_ ?_
    · have : PyData.depthAll (W.map fun n : Nat => PyData.int (n : Nat)) ≤ 1 := depth_map fun n _ => by simp [PyData.depth]
      simp only [PyData.depth]
      omega
    rw [eqv_self _ (by
      show PyData.hasDictAll _ = false
      refine hasDictA_of fun d hd => ?_
      obtain ⟨n, _, rfl⟩ := List.mem_map.mp hd
      rfl)]
    refine ⟨_, rfl, ?_⟩
    walk_at "go"
    refine lc_map (rv_list _ p W fun n : Nat => V.int (n : Nat)) (fun H' e => lst_of (e.get vp3)) (by omega) (fun _ => V.bl false) ?_ ?_
    · intro n H' hn e B hB
      refine ⟨rfl, ?_⟩
      walk_at "go"
      exact hB _ (Fr.refl _)
    intro L2 H3 nL2 e3 vL2
    walk_at "go"
    refine ⟨L2, W.map fun _ => false, rfl, lstAt_sq (by rw [lst_of vL2, List.map_map]; rfl), ?_⟩
    have ha : (W.map fun _ => false).any id = false := by
      rw [List.any_eq_false]
      intro b hb
      obtain ⟨_, _, rfl⟩ := List.mem_map.mp hb
      decide
    rw [ha]
    refine ⟨_, rfl, ?_⟩
    walk_at "go"
    refine st_app (e3.get vp3) (by rw [List.length_map]; omega) ?_
    walk_at "go"
    have hpD : ∀ {o : HO}, noT H p = some o → False := fun z => by rw [np] at z; cases z
    refine k _ (((e1.trans e2).trans e3).mut np) (tabs_lst (hT1.ext fun b o h => (e2.trans e3).get h) (e3.get vp3))
def sp__law_refused (K : PySem.W.Frag) (TL : List (Addr × Str)) : Sp := fun vs H Q _ => ∃ (f : Addr) (x : V) (d : PyData), vs = [.ref f, x] ∧ (f = clsA K "twice" ∨ f = clsA K "twice_lengths") ∧ LamX.Tabs TL H ∧ Thg H x ∧ isPlain x = false ∧ Rn H x d ∧ d.hasDict = false ∧ d.depth ≤ 64 ∧ ∀ H', Ex H H' → Q (.bl true) H'
theorem df__law_refused__law_deed (T : Tx K mg ad fd tk base tc) : DynF P w K mg base (L2.CX P w) 11 (fun f => f = clsA K "twice" ∨ f = clsA K "twice_lengths") (fun f vs H Q E => (f = clsA K "twice" → (sp_twice K (tabsL tc)) vs H Q E) ∧ (f = clsA K "twice_lengths" → (sp_twice_lengths K (tabsL tc)) vs H Q E)) := fun f hf => by
  rcases hf with rfl | rfl
  · rw [← T.fa_twice]
    exact ⟨_, _, ((ok_twice T).mono (by decide)).imp (fun _ _ _ _ h => h.1 rfl), T.d_twice.b, T.d_twice.F.kp⟩
  · rw [← T.fa_twice_lengths]
    exact ⟨_, _, ((ok_twice_lengths T).mono (by decide)).imp (fun _ _ _ _ h => h.2 rfl), T.d_twice_lengths.b, T.d_twice_lengths.F.kp⟩
theorem ok__law_refused (T : Tx K mg ad fd tk base tc) : FnOk P w K mg base CX0 12 (ad 45) (fd 45) ["_law_deed", "_law_wrong"] (sp__law_refused K (tabsL tc)) := by
  refine T.d__law_refused.F.ok sc__law_refused (fun vs H Q E h => ?_) (fun cdv A outer s H vs Q E hr h => ?_)
  · obtain ⟨f, x, d, rfl, _⟩ := h
    rfl
  · obtain ⟨f, x, d, rfl, hf, hT, ht, hb, hd, hn, h64, k⟩ := h
    refine ⟨_, (pss_cons (ps_tryG rfl rfl L2.takes0 (fun W pn xe tk hp => (pss_one (ps_expr (pe_callV (E := WE W) (i := 0) rfl (Or.inl rfl) (df__law_refused__law_deed T) (hr.mono (by decide)) (fun σ => passAt tk σ) (pa_cons (pv 1) pa_nil)))))
      (.named (i := 2) sc__law_refused.nd rfl rfl ⟨rfl, by decide, Or.inl T.e_NoPlain.g⟩ (fun a oe cls d pn hz hf => (pss_one (ps_ret (pe_and (pe_cmpR (o_eqA (K := K) hr.units) (pe_xe hz hf (pv 2)) (pv 1) (nomark _)) (pe_and (pe_callB (call_isX hz hf) (by rfl) T.b_isinstance (by decide +kernel) (pa_cons (pv 2) (pa_cons (pe_bltn (v := .ty "ValueError") rfl T.b_ValueError (by decide +kernel) rfl) pa_nil))) (pe_one (pe_not (pe_callB (call_isX hz hf) (by rfl) T.b_isinstance (by decide +kernel) (pa_cons (pv 2) (pa_cons (pe_glob (v := .ref (clsA K "NoRow")) rfl T.e_NoRow.g rfl) pa_nil)))))))))) (.one ⟨rfl, by decide, Or.inl T.e_PaneError.g⟩ (fun a oe cls d pn hz hf => (pss_one (ps_ret pe_bl))) .nil)) pss_nil)
      (pss_one (ps_ret pe_bl))), ?_⟩
    walk_at "go"
    refine st_callV rfl hf ?_
    walk_at "go"
    refine ⟨fun _ => ⟨x, rfl, hT, .inr ⟨ht, hb, fun xd H1 hxd e1 hvx => ?_⟩⟩, fun _ => ⟨x, rfl, hT, .inr ⟨ht, hb, fun xd H1 hxd e1 hvx => ?_⟩⟩⟩
    · have hd1 := hd.ex e1
      walk_at "go"
      refine st_eqSelf hd1 (fun h => by rw [hn] at h; cases h) (by omega) ?_
      walk_at "go"
      exact k H1 e1
    · have hd1 := hd.ex e1
      walk_at "go"
      refine st_eqSelf hd1 (fun h => by rw [hn] at h; cases h) (by omega) ?_
      walk_at "go"
      exact k H1 e1
/-- no plain row -/
def NoQ (H : Hp) (x : V) : Prop := Thg H x ∧ isPlain x = false ∧ ∃ d, Rn H x d ∧ d.hasDict = false ∧ d.depth ≤ 64
def sp_law (K : PySem.W.Frag) (TL : List (Addr × Str)) : Sp := fun vs H Q _ => ∃ (a : Addr) (ns : List Int), vs = [.ref a] ∧ SqL K H a (ns.map V.int) ∧ LamX.Tabs TL H ∧ ns.length ≤ 63 ∧ ∀ H', Q (.bl true) H'
theorem ok_law (T : Tx K mg ad fd tk base tc) : FnOk P w K mg base CX0 13 (ad 46) (fd 46) ["_law_script"] (sp_law K (tabsL tc)) := by
  refine T.d_law.F.ok sc_law (fun vs H Q E h => ?_) (fun cdv A outer s H vs Q E hr h => ?_)
  · obtain ⟨a, ns, rfl, _⟩ := h
    rfl
  · obtain ⟨a, ns, rfl, hs, hT, hl, k⟩ := h
    refine ⟨_, (pss_cons (ps_set (i := 1) sc_law.nd rfl (Or.inl rfl) (pe_call (ok__law_cell_at T) (hr.mono (by decide)) rfl T.d__law_cell_at.g T.d__law_cell_at.F.kp T.d__law_cell_at.b .nil pass0 (pa_cons (pv 0) (pa_cons pe_int pa_nil))))
      (pss_cons (ps_set (i := 2) sc_law.nd rfl (Or.inr rfl) (pe_call (ok__law_row T) (hr.mono (by decide)) rfl T.d__law_row.g T.d__law_row.F.kp T.d__law_row.b .nil pass0 (pa_cons (pe_op o_div (pv 1) pe_int) (pa_cons pe_int pa_nil))))
      (pss_cut (ps_if (pt_cmpR (o_eq hr.units) (pe_op o_mod (pv 1) pe_int) pe_int (nomark _)) (pss_one (ps_set (i := 2) sc_law.nd rfl (Or.inr rfl) (pe_op o_add (pe_slice (s_sl (K := K)) (pv 2) po_none (po_some pe_int)) (pe_call (ok__law_new T) (hr.mono (by decide)) rfl T.d__law_new.g T.d__law_new.F.kp T.d__law_new.b .nil pass0 (pa_cons (pe_call (ok__law_list T) (hr.mono (by decide)) rfl T.d__law_list.g T.d__law_list.F.kp T.d__law_list.b .nil pass0 (pa_cons (pe_slice (s_sl (K := K)) (pv 2) po_none (po_some pe_int)) (pa_cons (pe_slice (s_sl (K := K)) (pv 0) (po_some pe_int) (po_some pe_int)) (pa_cons pe_int pa_nil)))) pa_nil))))) pss_nil)
      (pss_cons (ps_setLc (i := 3) (own := [("_law_cut", 7)]) (g := gName 7) rfl sc_law.nd rfl rfl (sw_true rfl rfl rfl (by decide +kernel)) (pi_range1 rfl T.b_range (pa_cons (pe_op o_add (pe_callB (c_len (K := K)) (by rfl) T.b_len (by decide +kernel) (pa_cons (pv 2) pa_nil)) pe_int) pa_nil)) (blkOk_by (own := [("_law_cut", 7)]) (N := N_law) (sc := defScope s_law) (by decide +kernel)) (fun _ _ _ _ _ => pg_name (i := 7) sc_law.nd rfl (Or.inl rfl)) (fun _ _ _ _ _ => pts_nil) (fun _ _ _ _ _ => (pe_call (ok__law_heaps_at T) (hr.mono (by decide)) rfl T.d__law_heaps_at.g T.d__law_heaps_at.F.kp T.d__law_heaps_at.b .nil pass0 (pa_cons (pv 2) (pa_cons (pv 7) pa_nil)))))
      (pss_cut (ps_if (PW.pt (pw_and (pt_cmpR (o_eq hr.units) (pe_op o_mod (pe_op o_div (pv 1) pe_int) pe_int) pe_int (nomark _)) (pw_and1 (pt_not (pt_val (pe_call (ok__law_lengths T) (hr.mono (by decide)) rfl T.d__law_lengths.g T.d__law_lengths.F.kp T.d__law_lengths.b .nil pass0 (pa_cons (pv 2) (pa_cons (pv 3) pa_nil)))))))) (pss_one (ps_ret pe_bl)) pss_nil)
      (pss_cons (ps_if (PW.pt (pw_or (pt_not (pt_val (pe_call (ok__law_told T) (hr.mono (by decide)) rfl T.d__law_told.g T.d__law_told.F.kp T.d__law_told.b .nil pass0 (pa_cons (pv 2) (pa_cons (pv 3) pa_nil))))) (pw_or (pt_not (pt_val (pe_call (ok__law_lengths T) (hr.mono (by decide)) rfl T.d__law_lengths.g T.d__law_lengths.F.kp T.d__law_lengths.b .nil pass0 (pa_cons (pv 2) (pa_cons (pv 3) pa_nil))))) (pw_or1 (pt_not (pt_val (pe_call (ok__law_told T) (hr.mono (by decide)) rfl T.d__law_told.g T.d__law_told.F.kp T.d__law_told.b .nil pass0 (pa_cons (pv 2) (pa_cons (pv 3) pa_nil))))))))) (pss_one (ps_ret pe_bl)) pss_nil)
      (pss_cons (ps_for PassesOwn.never rfl (pi_list (pe_lst (pa_cons pe_non (pa_cons pe_int (pa_cons pe_bl (pa_cons pe_str (pa_cons pe_str (pa_cons pe_str (pa_cons (pe_op o_mul pe_str pe_int) (pa_cons (pe_lst (pa_cons pe_str pa_nil)) (pa_cons (pe_tup (pa_cons pe_str (pa_cons pe_str pa_nil))) (pa_cons pe_str pa_nil)))))))))))) (pg_name (i := 4) sc_law.nd rfl (Or.inl rfl)) (pss_one (ps_if (PW.pt (pw_or (pt_not (pt_val (pe_call (ok__law_refused T) (hr.mono (by decide)) rfl T.d__law_refused.g T.d__law_refused.F.kp T.d__law_refused.b .nil pass0 (pa_cons (pe_glob (v := .ref (clsA K "twice")) rfl T.fg_twice rfl) (pa_cons (pv 4) pa_nil))))) (pw_or1 (pt_not (pt_val (pe_call (ok__law_refused T) (hr.mono (by decide)) rfl T.d__law_refused.g T.d__law_refused.F.kp T.d__law_refused.b .nil pass0 (pa_cons (pe_glob (v := .ref (clsA K "twice_lengths")) rfl T.fg_twice_lengths rfl) (pa_cons (pv 4) pa_nil)))))))) (pss_one (ps_ret pe_bl)) pss_nil)))
      (pss_cons (ps_set (i := 5) sc_law.nd rfl (Or.inr rfl) (pe_slice3 (pv 2) po_none po_none (pe_un un_neg pe_int) (K := K)))
      (pss_cons (ps_setLc (i := 6) (own := [("_law_cut", 7)]) (g := gName 7) rfl sc_law.nd rfl rfl (sw_true rfl rfl rfl (by decide +kernel)) (pi_range1 rfl T.b_range (pa_cons (pe_op o_add (pe_callB (c_len (K := K)) (by rfl) T.b_len (by decide +kernel) (pa_cons (pv 5) pa_nil)) pe_int) pa_nil)) (blkOk_by (own := [("_law_cut", 7)]) (N := N_law) (sc := defScope s_law) (by decide +kernel)) (fun _ _ _ _ _ => pg_name (i := 7) sc_law.nd rfl (Or.inl rfl)) (fun _ _ _ _ _ => pts_nil) (fun _ _ _ _ _ => (pe_call (ok__law_heaps_at T) (hr.mono (by decide)) rfl T.d__law_heaps_at.g T.d__law_heaps_at.F.kp T.d__law_heaps_at.b .nil pass0 (pa_cons (pv 5) (pa_cons (pv 7) pa_nil)))))
      (pss_one (ps_ret (pe_and (pe_call (ok__law_told T) (hr.mono (by decide)) rfl T.d__law_told.g T.d__law_told.F.kp T.d__law_told.b .nil pass0 (pa_cons (pv 5) (pa_cons (pv 6) pa_nil))) (pe_and (pe_call (ok__law_lengths T) (hr.mono (by decide)) rfl T.d__law_lengths.g T.d__law_lengths.F.kp T.d__law_lengths.b .nil pass0 (pa_cons (pv 2) (pa_cons (pv 3) pa_nil))) (pe_one (pe_call (ok__law_told T) (hr.mono (by decide)) rfl T.d__law_told.g T.d__law_told.F.kp T.d__law_told.b .nil pass0 (pa_cons pe_str (pa_cons (pe_lst (pa_cons (pe_lst pa_nil) pa_nil)) pa_nil))))))))))))))))), ?_⟩
    walk_at "go"
    refine ⟨a, ns, 0, rfl, hs, by decide, hl, fun c0 => ?_⟩
    walk_at "go"
    refine ⟨c0 / 4, rfl, fun s H1 e1 hlet hs24 => ?_⟩
    have hs1 := sqL_exV hs e1
    have hT1 : LamX.Tabs (tabsL tc) H1 := hT.ext fun b o h => e1.get h
    walk_at "go"
    refine ⟨fun σ' H' => LamX.Tabs (tabsL tc) H' ∧ ∃ (z : Str) (y3 y4 y5 y6 y7 : Option V), (∀ x ∈ z.cps.toList, isL x) ∧ z.length ≤ 24 ∧ σ' = [some (.ref a), some (.int c0), some (.str z), y3, y4, y5, y6, y7], ?_, ?_⟩
    · walk_at "go"
      refine st_br2 (fun c1 => ?_) (fun c1 => ?_)
      · walk_at "go"
        refine st_slK hs1 fun q H2 n2 e2 v2 => ?_
        rw [cutV_map] at v2
        have hcl := cutL_len ns (some 1) (some 63)
        generalize cutL ns (some 1) (some 63) = cells at v2 hcl
        have c12 := cutS_toN s 12
        have l12 := cutS_toN_len s 12
        have hT2 : LamX.Tabs (tabsL tc) H2 := hT1.ext fun b o h => e2.get h
        have u12 : cutS s none (some (12 : Int)) = cutS s none (some ((12 : Nat) : Int)) := rfl
        generalize cutS s none (some ((12 : Nat) : Int)) = u at c12 l12 u12
        rw [u12]
        have hu : ∀ x ∈ u.cps.toList, isL x := fun x hx => hlet x (List.mem_of_mem_take (by rw [c12] at hx; exact hx))
        walk_at "go"
        refine ⟨u, q, cells, rfl, hu, by omega, v2, by omega, fun q2 zs H3 e3 n3 v3 hz3 hl3 hok hn => ?_⟩
        walk_at "go"
        refine ⟨q2, zs, rfl, v3, hz3, hl3, fun H4 e4 => ?_⟩
        walk_at "go"
        have hnl := newR_let (l := zs.map fun z => z.2) fun c hc => by
          obtain ⟨z, hz, rfl⟩ := List.mem_map.mp hc
          exact hok z hz
        have hnn : (newR (zs.map fun z => z.2)).length ≤ 12 := by unfold newR; rw [tx_length]; exact hn
        generalize newR (zs.map fun z => z.2) = v at hnl hnn ⊢
        have hT4 : LamX.Tabs (tabsL tc) H4 := hT2.ext fun b o h => (e3.trans e4).get h
        walk_at "go"
        refine ⟨hT4, u ++ v, _, _, _, _, _, fun x hx => ?_, ?_, rfl⟩
        · rw [show (u ++ v).cps.toList = u.cps.toList ++ v.cps.toList from Array.toList_append] at hx
          rcases List.mem_append.mp hx with h | h
          · exact hu x h
          · exact hnl x h
        · have h1 : (u ++ v).length = u.length + v.length := Array.size_append
          omega
      · walk_at "go"
        exact ⟨hT1, s, _, _, _, _, _, hlet, hs24, rfl⟩
    rintro σ' H2 ⟨hT2, z, y3, y4, y5, y6, y7, hz, hz24, rfl⟩
    have hzl : z.cps.toList.length = z.length := Array.length_toList
    have pz : PlainS z := let_plain hz hz24
    have rz := PlainS.rowS pz
    walk_at "go"
    rw [show (((z.length : Nat) : Int) + 1).toNat = z.length + 1 by omega]
    refine lc_made (rv_range 0 (z.length + 1)) (fun _ _ => trivial) (by rw [List.length_range]; omega) (fun n q G => ∃ gs : List HZ, CP G [(q, gs)] ∧ gsV gs = hvC z.cps.toList n) (fun n q G G' h e => by
      obtain ⟨gs, a1, a2⟩ := h
      exact ⟨gs, a1.ex e, a2⟩) ?_ ?_
    · intro n H' hn e B hB
      have hn' := List.mem_range.mp hn
      refine ⟨rfl, ?_⟩
      rw [Int.zero_add]
      walk_at "go"
      refine ⟨z, n, rfl, rz, by omega, by omega, fun q gs H'' e' nq vq nw hv => ?_⟩
      exact hB q H'' e' fun G hG => ⟨gs, fun c hc => by
        rw [List.mem_singleton.mp hc]
        exact nw G hG, hv⟩
    intro D H3 ts nD eD vD hl' hP
    obtain ⟨cs, f1, f2, f3⟩ := cu_pick hl' hP
    rw [← f1] at vD
    clear hP
    have hT3 : LamX.Tabs (tabsL tc) H3 := hT2.ext fun b o h => eD.get h
    walk_at "go"
    refine ⟨fun σ' H' => Ex (noT H3) H' ∧ LamX.Tabs (tabsL tc) H' ∧ ∃ (y4 y5 y6 y7 : Option V), σ' = [some (.ref a), some (.int c0), some (.str z), some (.ref D), y4, y5, y6, y7], ?_, ?_⟩
    · walk_at "go"
      refine st_br2 (fun c1 => ?_) (fun c1 => ?_)
      · walk_at "go"
        refine ⟨z, D, cs, rfl, pz, hT3, vD, f2, f3, fun H4 e4 hT4 => ?_⟩
        walk_at "go"
        exact ⟨e4, hT4, _, _, _, _, rfl⟩
      · walk_at "go"
        exact ⟨noT_ex _, hT3, _, _, _, _, rfl⟩
    rintro σ' H4 ⟨e4, hT4, y4, y5, y6, y7, rfl⟩
    have vD4 := keepL vD e4
    have hC4 := cp_on f2 e4
    walk_at "go"
    refine ⟨z, D, cs, rfl, pz, hT4, vD4, hC4, f3, fun H5 e5 hT5 => ?_⟩
    have vD5 := keepL vD4 e5
    have hC5 := cp_on hC4 e5
    walk_at "go"
    refine ⟨z, D, cs, rfl, pz, hT5, vD5, hC5, f3, fun H6 e6 hT6 => ?_⟩
    have vD6 := keepL vD5 e6
    have hC6 := cp_on hC5 e6
    walk_at "go"
    refine ⟨z, D, cs, rfl, pz, hT6, vD6, hC6, f3, fun H7 e7 hT7 => ?_⟩
    have vD7 := keepL vD6 e7
    have hC7 := cp_on hC6 e7
    clear e4 e5 e6 e7 hT4 hT5 hT6 vD4 vD5 vD6 hC4 hC5 hC6 f2 vD hT3 eD nD hl' f1
    walk_at "go"
    refine st_mulS (by decide) (by decide) (by decide +kernel) ?_
    walk_at "go"
    rename_i q1 H8 n8 e8 v8 q2 H9 n9 e9 v9 q3 H10 n10 e10 v10
    have v8' := (e9.trans e10).get v8
    have v9' := e10.get v9
    have hA : ∀ x ∈ [V.non, V.int 7, V.bl true, V.str (Str.ofString "A"), V.str (Str.ofString "a.b"), V.str (Str.ofString "."), V.str (Txt.mul (Str.ofString "a") 25), V.ref q1, V.ref q2, V.str (Str.ofString "a a")], NoQ H10 x := by
      refine allE_cons ⟨⟨ty_non, fun _ h => (by cases h)⟩, rfl, _, .non, rfl, by simp [PyData.depth]⟩ ?_
      refine allE_cons ⟨⟨ty_int _, fun _ h => (by cases h)⟩, rfl, _, .int _, rfl, by simp [PyData.depth]⟩ ?_
      refine allE_cons ⟨⟨ty_bl _, fun _ h => (by cases h)⟩, rfl, _, .bl _, rfl, by simp [PyData.depth]⟩ ?_
      refine allE_cons ⟨thg_str (by decide +kernel), by decide +kernel, _, .str _, rfl, by simp [PyData.depth]⟩ ?_
      refine allE_cons ⟨thg_str (by decide +kernel), by decide +kernel, _, .str _, rfl, by simp [PyData.depth]⟩ ?_
      refine allE_cons ⟨thg_str (by decide +kernel), by decide +kernel, _, .str _, rfl, by simp [PyData.depth]⟩ ?_
      refine allE_cons ⟨thg_str (by decide +kernel), by decide +kernel, _, .str _, rfl, by simp [PyData.depth]⟩ ?_
      refine allE_cons ⟨⟨ty_lst v8', fun _ h => (by cases h)⟩, rfl, _, .lst v8' (.cons (.str _) .nil), rfl, by simp [PyData.depth, PyData.depthAll]⟩ ?_
      refine allE_cons ⟨⟨ty_tup v9', fun _ h => (by cases h)⟩, rfl, _, .tup v9' (.cons (.str _) (.cons (.str _) .nil)), rfl, by simp [PyData.depth, PyData.depthAll]⟩ ?_
      exact allE_cons ⟨thg_str (by decide +kernel), by decide +kernel, _, .str _, rfl, by simp [PyData.depth]⟩ allE_nil
    have e710 := e8.trans (e9.trans e10)
    have hT10 : LamX.Tabs (tabsL tc) H10 := hT7.ext fun b o h => e710.get h
    have vD10 := e710.get vD7
    have hC10 := hC7.ex e710
    have hx10 : [V.non, V.int 7, V.bl true, V.str (Str.ofString "A"), V.str (Str.ofString "a.b"), V.str (Str.ofString "."), V.str (Txt.mul (Str.ofString "a") 25), V.ref q1, V.ref q2, V.str (Str.ofString "a a")].length = 10 := rfl
    generalize [V.non, V.int 7, V.bl true, V.str (Str.ofString "A"), V.str (Str.ofString "a.b"), V.str (Str.ofString "."), V.str (Txt.mul (Str.ofString "a") 25), V.ref q1, V.ref q2, V.str (Str.ofString "a a")] = xs at v10 hA hx10
    clear e8 e9 e10 e710 v8 v9 v8' v9' hT7 vD7 hC7
    refine for_runs (runs_list _ q3 xs) (fun i σ H' => Ex H10 H' ∧ ∃ (y4 y5 y6 y7 : Option V), σ = [some (.ref a), some (.int c0), some (.str z), some (.ref D), y4, y5, y6, y7]) ⟨Fr.refl _, _, _, _, _, rfl⟩ (fun i σ H' _ h => lst_of (h.1.get v10)) ?_ ?_
    · rintro i x σ H11 H12 hi ⟨e11, y4, y5, y6, y7, rfl⟩ ⟨rfl, hx⟩
      obtain ⟨t1, t2, d, t3, t4, t5⟩ := hA x (List.mem_of_getElem? hx)
      have hT12 : LamX.Tabs (tabsL tc) H12 := hT10.ext fun b o h => e11.get h
      walk_at "go"
      refine ⟨clsA K "twice", x, d, rfl, .inl rfl, hT12, t1.ex e11, t2, t3.ex e11, t4, t5, fun H13 e13 => ?_⟩
      have e14 := e11.trans e13
      walk_at "go"
      refine ⟨clsA K "twice_lengths", x, d, rfl, .inr rfl, hT10.ext fun b o h => e14.get h, t1.ex e14, t2, t3.ex e14, t4, t5, fun H15 e15 => ?_⟩
      walk_at "go"
      exact ⟨e14.trans e15, _, _, _, _, rfl⟩
    rintro σ H11 ⟨e11, y4', y5', y6', y7', rfl⟩
    have hT11 : LamX.Tabs (tabsL tc) H11 := hT10.ext fun b o h => e11.get h
    have vD11 := e11.get vD10
    have hC11 := hC10.ex e11
    clear e11 hT10 vD10 hC10 hA v10
    walk_at "go"
    have hw : ∀ x ∈ (tx z.cps.toList.reverse).cps.toList, isL x := fun x hx => hz x (List.mem_reverse.mp (by rw [tx_toList] at hx; exact hx))
    have hwl : (tx z.cps.toList.reverse).length = z.length := by rw [tx_length, List.length_reverse, hzl]
    generalize tx z.cps.toList.reverse = w0 at hw hwl ⊢
    have pw : PlainS w0 := let_plain hw (by omega)
    have rw0 := PlainS.rowS pw
    walk_at "go"
    rw [show (((w0.length : Nat) : Int) + 1).toNat = w0.length + 1 by omega]
    refine lc_made (rv_range 0 (w0.length + 1)) (fun _ _ => trivial) (by rw [List.length_range]; omega) (fun n q G => ∃ gs : List HZ, CP G [(q, gs)] ∧ gsV gs = hvC w0.cps.toList n) (fun n q G G' h e => by
      obtain ⟨gs, a1, a2⟩ := h
      exact ⟨gs, a1.ex e, a2⟩) ?_ ?_
    · intro n H' hn e B hB
      have hn' := List.mem_range.mp hn
      refine ⟨rfl, ?_⟩
      rw [Int.zero_add]
      walk_at "go"
      refine ⟨w0, n, rfl, rw0, by omega, by omega, fun q gs H'' e' nq vq nw hv => ?_⟩
      exact hB q H'' e' fun G hG => ⟨gs, fun c hc => by
        rw [List.mem_singleton.mp hc]
        exact nw G hG, hv⟩
    intro D2 H12 ts nD eD vD hl' hP
    obtain ⟨cs2, f1, f2, f4⟩ := cu_pick hl' hP
    rw [← f1] at vD
    clear hP
    have hT12 : LamX.Tabs (tabsL tc) H12 := hT11.ext fun b o h => eD.get h
    have vD12 := eD.get vD11
    have hC12 := hC11.ex eD
    walk_at "go"
    refine ⟨w0, D2, cs2, rfl, pw, hT12, vD, f2, f4, fun H13 e13 hT13 => ?_⟩
    have vD13 := keepL vD12 e13
    have hC13 := cp_on hC12 e13
    clear e13
    walk_at "go"
    refine ⟨z, D, cs, rfl, pz, hT13, vD13, hC13, f3, fun H14 e14 hT14 => ?_⟩
    clear e14
    walk_at "go"
    rename_i i1 H15 n15 e15 v15 q9 H16 n16 e16 v16
    have hT16 : LamX.Tabs (tabsL tc) H16 := hT14.ext fun b o h => (e15.trans e16).get h
    have v15' := e16.get v15
    have hv0 : hvC (Str.ofString "").cps.toList 0 = [] := List.eq_nil_of_length_eq_zero (by rw [hvC_len]; exact Lc_i0 _ _ _)
    have hl0 : (Str.ofString "").length = 0 := by decide +kernel
    refine ⟨Str.ofString "", q9, [(i1, [])], rfl, (by decide +kernel : isPlain (.str (Str.ofString "")) = true), hT16, v16, ?_, ?_, fun H17 e17 _ => k H17⟩
    · intro c hc
      rw [List.mem_singleton.mp hc]
      exact ⟨v15', fun _ h => by cases h⟩
    · rw [hl0]
      show [gsV []] = [hvC (Str.ofString "").cps.toList 0]
      rw [hv0]
      rfl
end
theorem all_mk {l : PySem.W.OpenLaw} {w : World} {K : PySem.W.Frag} {h : Heap} {mg : Str → Option Value} {fa f0 f1 f2 f3 f4 f5 f6 f7 f8 f9 f10 f11 f12 f13 f14 f15 f16 f17 f18 f19 f20 f21 f22 f23 f24 f25 f26 f27 f28 f29 f30 f31 f32 f33 f34 f35 f36 f37 f38 f39 f40 f41 f42 f43 f44 f45 f46 : Addr} (X : K.In h) (G : h.Ns mainGlobals mg) (hfa : mg "law" = some (.ref fa))
    {od0 od1 od2 od3 od4 od5 od6 od7 od8 od9 od10 od11 od12 od13 od14 od15 od16 od17 od18 od19 od20 od21 od22 od23 od24 od25 od26 od27 od28 od29 od30 od31 od32 od33 od34 od35 od36 od37 od38 od39 od40 od41 od42 od43 od44 od45 od46 an0 an1 an2 an3 an4 an5 an6 an7 an8 an9 an10 an11 an12 an13 an14 an15 an16 an17 an18 an19 an20 an21 an22 an23 an24 an25 an26 an27 an28 an29 an30 an31 an32 an33 an34 an35 an36 an37 an38 an39 an40 an41 an42 an43 an44 an45 an46 : Option Addr} {sl0 sl1 sl2 sl3 sl4 sl5 sl6 sl7 sl8 sl9 sl10 sl11 sl12 sl13 sl14 sl15 sl16 sl17 sl18 sl19 sl20 sl21 sl22 sl23 sl24 sl25 sl26 sl27 sl28 sl29 sl30 sl31 sl32 sl33 sl34 sl35 sl36 sl37 sl38 sl39 sl40 sl41 sl42 sl43 sl44 sl45 sl46 : Array (Option Value)} {oc0 oc1 oc2 oc3 oc4 oc5 oc6 oc7 oc8 oc9 oc10 oc11 oc12 oc13 oc14 oc15 oc16 oc17 oc18 oc19 oc20 oc21 oc22 oc23 oc24 oc25 oc26 oc27 oc28 oc29 oc30 oc31 oc32 oc33 oc34 oc35 oc36 oc37 oc38 oc39 oc40 oc41 oc42 oc43 oc44 oc45 oc46 kV0 kV1 kV2 kV3 kV4 kV5 kV6 kV7 kV8 kV9 kV10 kV11 kV12 kV13 kV14 kV15 kV16 kV17 kV18 kV19 kV20 kV21 kV22 kV23 kV24 kV25 kV26 kV27 kV28 kV29 kV30 kV31 kV32 kV33 kV34 kV35 kV36 kV37 kV38 kV39 kV40 kV41 kV42 kV43 kV44 kV45 kV46 dc0 dc1 dc2 dc3 dc4 dc5 dc6 dc7 dc8 dc9 dc10 dc11 dc12 dc13 dc14 dc15 dc16 dc17 dc18 dc19 dc20 dc21 dc22 dc23 dc24 dc25 dc26 dc27 dc28 dc29 dc30 dc31 dc32 dc33 dc34 dc35 dc36 dc37 dc38 dc39 dc40 dc41 dc42 dc43 dc44 dc45 dc46 pm0 pm1 pm2 pm3 pm4 pm5 pm6 pm7 pm8 pm9 pm10 pm11 pm12 pm13 pm14 pm15 pm16 pm17 pm18 pm19 pm20 pm21 pm22 pm23 pm24 pm25 pm26 pm27 pm28 pm29 pm30 pm31 pm32 pm33 pm34 pm35 pm36 pm37 pm38 pm39 pm40 pm41 pm42 pm43 pm44 pm45 pm46 cd0 cd1 cd2 cd3 cd4 cd5 cd6 cd7 cd8 cd9 cd10 cd11 cd12 cd13 cd14 cd15 cd16 cd17 cd18 cd19 cd21 cd22 cd23 cd24 cd25 cd26 cd27 cd28 cd29 cd30 cd31 cd32 cd33 cd34 cd35 cd36 cd37 cd38 cd39 cd40 cd41 cd42 cd43 cd44 cd45 cd46 ct0 ct1 ct2 ct3 ct4 ct5 ct6 ct7 ct8 ct9 ct10 ct11 ct12 ct13 ct14 ct15 ct16 ct17 ct18 ct19 ct20 ct21 ct22 ct23 ct24 ct25 ct26 ct27 ct28 ct29 ct30 ct31 ct32 ct33 ct34 ct35 ct36 ct37 ct38 ct39 ct40 ct41 ct42 ct43 ct44 ct45 ct46 : Value} {cc20 PT20 : Addr} {hc20 : Value} {hd20 : Option Addr} {hv20 : Array Value} {hs20 : Array (Option Value)} {t_0 t_1 t_2 t_3 : Tok}{C_NoRow C_NoPlain C_NoSpan C_NoTurning C_NoPlace C_PaneError C_Tally C_Asks C_Board I_NoRow I_NoPlain I_NoSpan I_NoTurning I_NoPlace : Addr} {xn_NoRow xn_NoPlain xn_NoSpan xn_NoTurning xn_NoPlace xq_NoRow xq_NoPlain xq_NoSpan xq_NoTurning xq_NoPlace : Str} {xN_NoRow xN_NoPlain xN_NoSpan xN_NoTurning xN_NoPlace : Addr} {xb_NoRow xb_NoPlain xb_NoSpan xb_NoTurning xb_NoPlace xu_NoRow xu_NoPlain xu_NoSpan xu_NoTurning xu_NoPlace : List Value} {xs_NoRow xs_NoPlain xs_NoSpan xs_NoTurning xs_NoPlace : List Str} {xa_NoRow xa_NoPlain xa_NoSpan xa_NoTurning xa_NoPlace : Bool} {xc_NoRow xc_NoPlain xc_NoSpan xc_NoTurning xc_NoPlace : Option Bool} {xd_NoRow xd_NoPlain xd_NoSpan xd_NoTurning xd_NoPlace Iod_NoRow Iod_NoPlain Iod_NoSpan Iod_NoTurning Iod_NoPlace Ian_NoRow Ian_NoPlain Ian_NoSpan Ian_NoTurning Ian_NoPlace : Option Addr} {xk0_NoRow xk0_NoPlain xk0_NoSpan xk0_NoTurning xk0_NoPlace xk1_NoRow xk1_NoPlain xk1_NoSpan xk1_NoTurning xk1_NoPlace xk2_NoRow xk2_NoPlain xk2_NoSpan xk2_NoTurning xk2_NoPlace xk3_NoRow xk3_NoPlain xk3_NoSpan xk3_NoTurning xk3_NoPlace xk5_NoRow xk5_NoPlain xk5_NoSpan xk5_NoTurning xk5_NoPlace : Option Value} {Ioc_NoRow Ioc_NoPlain Ioc_NoSpan Ioc_NoTurning Ioc_NoPlace IkV_NoRow IkV_NoPlain IkV_NoSpan IkV_NoTurning IkV_NoPlace Idc_NoRow Idc_NoPlain Idc_NoSpan Idc_NoTurning Idc_NoPlace Ipm_NoRow Ipm_NoPlain Ipm_NoSpan Ipm_NoTurning Ipm_NoPlace Icd_NoRow Icd_NoPlain Icd_NoSpan Icd_NoTurning Icd_NoPlace Ict_NoRow Ict_NoPlain Ict_NoSpan Ict_NoTurning Ict_NoPlace : Value} {Isl_NoRow Isl_NoPlain Isl_NoSpan Isl_NoTurning Isl_NoPlace : Array (Option Value)} 
    (a0 : PySem.W.nsIn K mainGlobals "is_whole" = some (some (.ref f0)))
    (l0 : K.lookup f0 = some ⟨oc0, od0, .func (PySem.W.fnOf "is_whole" "is_whole" (defArgs s_is_whole) (defBody s_is_whole) (defScope s_is_whole) .none kV0 dc0 pm0 an0 cd0 ct0), sl0⟩)
    (c0 : PySem.W.codeIn K cd0 "is_whole" = true) (k0 : PySem.W.keepIn K (.ref f0) = true)
    (a1 : PySem.W.nsIn K mainGlobals "is_within" = some (some (.ref f1)))
    (l1 : K.lookup f1 = some ⟨oc1, od1, .func (PySem.W.fnOf "is_within" "is_within" (defArgs s_is_within) (defBody s_is_within) (defScope s_is_within) .none kV1 dc1 pm1 an1 cd1 ct1), sl1⟩)
    (c1 : PySem.W.codeIn K cd1 "is_within" = true) (k1 : PySem.W.keepIn K (.ref f1) = true)
    (a2 : PySem.W.nsIn K mainGlobals "is_row" = some (some (.ref f2)))
    (l2 : K.lookup f2 = some ⟨oc2, od2, .func (PySem.W.fnOf "is_row" "is_row" (defArgs s_is_row) (defBody s_is_row) (defScope s_is_row) .none kV2 dc2 pm2 an2 cd2 ct2), sl2⟩)
    (c2 : PySem.W.codeIn K cd2 "is_row" = true) (k2 : PySem.W.keepIn K (.ref f2) = true)
    (a3 : PySem.W.nsIn K mainGlobals "is_plain" = some (some (.ref f3)))
    (l3 : K.lookup f3 = some ⟨oc3, od3, .func (PySem.W.fnOf "is_plain" "is_plain" (defArgs s_is_plain) (defBody s_is_plain) (defScope s_is_plain) .none kV3 dc3 pm3 an3 cd3 ct3), sl3⟩)
    (c3 : PySem.W.codeIn K cd3 "is_plain" = true) (k3 : PySem.W.keepIn K (.ref f3) = true)
    (a4 : PySem.W.nsIn K mainGlobals "need_row" = some (some (.ref f4)))
    (l4 : K.lookup f4 = some ⟨oc4, od4, .func (PySem.W.fnOf "need_row" "need_row" (defArgs s_need_row) (defBody s_need_row) (defScope s_need_row) .none kV4 dc4 pm4 an4 cd4 ct4), sl4⟩)
    (c4 : PySem.W.codeIn K cd4 "need_row" = true) (k4 : PySem.W.keepIn K (.ref f4) = true)
    (a5 : PySem.W.nsIn K mainGlobals "need_rows" = some (some (.ref f5)))
    (l5 : K.lookup f5 = some ⟨oc5, od5, .func (PySem.W.fnOf "need_rows" "need_rows" (defArgs s_need_rows) (defBody s_need_rows) (defScope s_need_rows) .none kV5 dc5 pm5 an5 cd5 ct5), sl5⟩)
    (c5 : PySem.W.codeIn K cd5 "need_rows" = true) (k5 : PySem.W.keepIn K (.ref f5) = true)
    (a6 : PySem.W.nsIn K mainGlobals "need_plain" = some (some (.ref f6)))
    (l6 : K.lookup f6 = some ⟨oc6, od6, .func (PySem.W.fnOf "need_plain" "need_plain" (defArgs s_need_plain) (defBody s_need_plain) (defScope s_need_plain) .none kV6 dc6 pm6 an6 cd6 ct6), sl6⟩)
    (c6 : PySem.W.codeIn K cd6 "need_plain" = true) (k6 : PySem.W.keepIn K (.ref f6) = true)
    (a7 : PySem.W.nsIn K mainGlobals "need_span" = some (some (.ref f7)))
    (l7 : K.lookup f7 = some ⟨oc7, od7, .func (PySem.W.fnOf "need_span" "need_span" (defArgs s_need_span) (defBody s_need_span) (defScope s_need_span) .none kV7 dc7 pm7 an7 cd7 ct7), sl7⟩)
    (c7 : PySem.W.codeIn K cd7 "need_span" = true) (k7 : PySem.W.keepIn K (.ref f7) = true)
    (a8 : PySem.W.nsIn K mainGlobals "places_of" = some (some (.ref f8)))
    (l8 : K.lookup f8 = some ⟨oc8, od8, .func (PySem.W.fnOf "places_of" "places_of" (defArgs s_places_of) (defBody s_places_of) (defScope s_places_of) .none kV8 dc8 pm8 an8 cd8 ct8), sl8⟩)
    (c8 : PySem.W.codeIn K cd8 "places_of" = true) (k8 : PySem.W.keepIn K (.ref f8) = true)
    (a9 : PySem.W.nsIn K mainGlobals "led" = some (some (.ref f9)))
    (l9 : K.lookup f9 = some ⟨oc9, od9, .func (PySem.W.fnOf "led" "led" (defArgs s_led) (defBody s_led) (defScope s_led) .none kV9 dc9 pm9 an9 cd9 ct9), sl9⟩)
    (c9 : PySem.W.codeIn K cd9 "led" = true) (k9 : PySem.W.keepIn K (.ref f9) = true)
    (a10 : PySem.W.nsIn K mainGlobals "is_turning" = some (some (.ref f10)))
    (l10 : K.lookup f10 = some ⟨oc10, od10, .func (PySem.W.fnOf "is_turning" "is_turning" (defArgs s_is_turning) (defBody s_is_turning) (defScope s_is_turning) .none kV10 dc10 pm10 an10 cd10 ct10), sl10⟩)
    (c10 : PySem.W.codeIn K cd10 "is_turning" = true) (k10 : PySem.W.keepIn K (.ref f10) = true)
    (a11 : PySem.W.nsIn K mainGlobals "need_turning" = some (some (.ref f11)))
    (l11 : K.lookup f11 = some ⟨oc11, od11, .func (PySem.W.fnOf "need_turning" "need_turning" (defArgs s_need_turning) (defBody s_need_turning) (defScope s_need_turning) .none kV11 dc11 pm11 an11 cd11 ct11), sl11⟩)
    (c11 : PySem.W.codeIn K cd11 "need_turning" = true) (k11 : PySem.W.keepIn K (.ref f11) = true)
    (a12 : PySem.W.nsIn K mainGlobals "need_place" = some (some (.ref f12)))
    (l12 : K.lookup f12 = some ⟨oc12, od12, .func (PySem.W.fnOf "need_place" "need_place" (defArgs s_need_place) (defBody s_need_place) (defScope s_need_place) .none kV12 dc12 pm12 an12 cd12 ct12), sl12⟩)
    (c12 : PySem.W.codeIn K cd12 "need_place" = true) (k12 : PySem.W.keepIn K (.ref f12) = true)
    (a13 : PySem.W.nsIn K mainGlobals "opposite" = some (some (.ref f13)))
    (l13 : K.lookup f13 = some ⟨oc13, od13, .func (PySem.W.fnOf "opposite" "opposite" (defArgs s_opposite) (defBody s_opposite) (defScope s_opposite) .none kV13 dc13 pm13 an13 cd13 ct13), sl13⟩)
    (c13 : PySem.W.codeIn K cd13 "opposite" = true) (k13 : PySem.W.keepIn K (.ref f13) = true)
    (a14 : PySem.W.nsIn K mainGlobals "mixed" = some (some (.ref f14)))
    (l14 : K.lookup f14 = some ⟨oc14, od14, .func (PySem.W.fnOf "mixed" "mixed" (defArgs s_mixed) (defBody s_mixed) (defScope s_mixed) .none kV14 dc14 pm14 an14 cd14 ct14), sl14⟩)
    (c14 : PySem.W.codeIn K cd14 "mixed" = true) (k14 : PySem.W.keepIn K (.ref f14) = true)
    (a15 : PySem.W.nsIn K mainGlobals "floors_of" = some (some (.ref f15)))
    (l15 : K.lookup f15 = some ⟨oc15, od15, .func (PySem.W.fnOf "floors_of" "floors_of" (defArgs s_floors_of) (defBody s_floors_of) (defScope s_floors_of) .none kV15 dc15 pm15 an15 cd15 ct15), sl15⟩)
    (c15 : PySem.W.codeIn K cd15 "floors_of" = true) (k15 : PySem.W.keepIn K (.ref f15) = true)
    (a16 : PySem.W.nsIn K mainGlobals "lesser" = some (some (.ref f16)))
    (l16 : K.lookup f16 = some ⟨oc16, od16, .func (PySem.W.fnOf "lesser" "lesser" (defArgs s_lesser) (defBody s_lesser) (defScope s_lesser) .none kV16 dc16 pm16 an16 cd16 ct16), sl16⟩)
    (c16 : PySem.W.codeIn K cd16 "lesser" = true) (k16 : PySem.W.keepIn K (.ref f16) = true)
    (a17 : PySem.W.nsIn K mainGlobals "need_window" = some (some (.ref f17)))
    (l17 : K.lookup f17 = some ⟨oc17, od17, .func (PySem.W.fnOf "need_window" "need_window" (defArgs s_need_window) (defBody s_need_window) (defScope s_need_window) .none kV17 dc17 pm17 an17 cd17 ct17), sl17⟩)
    (c17 : PySem.W.codeIn K cd17 "need_window" = true) (k17 : PySem.W.keepIn K (.ref f17) = true)
    (a18 : PySem.W.findIn K (.ref C_Tally) "__init__" = some (some (.ref f18))) (i18 : PySem.W.isFn K (.ref f18) = true)
    (l18 : K.lookup f18 = some ⟨oc18, od18, .func (PySem.W.fnOf "__init__" "Tally.__init__" (defArgs s_Tally_init) (defBody s_Tally_init) (defScope s_Tally_init) .none kV18 dc18 pm18 an18 cd18 ct18), sl18⟩)
    (c18 : PySem.W.codeIn K cd18 "Tally.__init__" = true) (k18 : PySem.W.keepIn K (.ref f18) = true)
    (a19 : PySem.W.findIn K (.ref C_Asks) "__init__" = some (some (.ref f19))) (i19 : PySem.W.isFn K (.ref f19) = true)
    (l19 : K.lookup f19 = some ⟨oc19, od19, .func (PySem.W.fnOf "__init__" "Asks.__init__" (defArgs s_Asks_init) (defBody s_Asks_init) (defScope s_Asks_init) .none kV19 dc19 pm19 an19 cd19 ct19), sl19⟩)
    (c19 : PySem.W.codeIn K cd19 "Asks.__init__" = true) (k19 : PySem.W.keepIn K (.ref f19) = true)
    (a20 : PySem.W.findIn K (.ref C_Board) "__init__" = some (some (.ref f20))) (i20 : PySem.W.isFn K (.ref f20) = true)
    (l20 : K.lookup f20 = some ⟨oc20, od20, .func (PySem.W.fnOf "__init__" "Board.__init__" (defArgs s_Board_init) (defBody s_Board_init) (defScope s_Board_init) .none kV20 dc20 pm20 an20 (.ref cc20) ct20), sl20⟩)
    (c20 : PySem.W.codeIn K (.ref cc20) "Board.__init__" = true) (k20 : PySem.W.keepIn K (.ref f20) = true)
    (h20 : K.lookup cc20 = some ⟨hc20, hd20, .fields hv20, hs20⟩) (p20 : (hv20[11]? : Option Value) = some (.ref PT20)) (g20 : PySem.W.codeHdIn K cc20 PT20 = true) (n20 : K.lookup PT20 = none) (t20 : h.get? PT20 = some { cls := .none, data := .fields #[] })
    (a21 : PySem.W.findIn K (.ref C_Board) "lines" = some (some (.ref f21))) (i21 : PySem.W.isFn K (.ref f21) = true)
    (l21 : K.lookup f21 = some ⟨oc21, od21, .func (PySem.W.fnOf "lines" "Board.lines" (defArgs s_Board_lines) (defBody s_Board_lines) (defScope s_Board_lines) .none kV21 dc21 pm21 an21 cd21 ct21), sl21⟩)
    (c21 : PySem.W.codeIn K cd21 "Board.lines" = true) (k21 : PySem.W.keepIn K (.ref f21) = true)
    (a22 : PySem.W.nsIn K mainGlobals "asks_of" = some (some (.ref f22)))
    (l22 : K.lookup f22 = some ⟨oc22, od22, .func (PySem.W.fnOf "asks_of" "asks_of" (defArgs s_asks_of) (defBody s_asks_of) (defScope s_asks_of) .none kV22 dc22 pm22 an22 cd22 ct22), sl22⟩)
    (c22 : PySem.W.codeIn K cd22 "asks_of" = true) (k22 : PySem.W.keepIn K (.ref f22) = true)
    (a23 : PySem.W.nsIn K mainGlobals "lengths" = some (some (.ref f23)))
    (l23 : K.lookup f23 = some ⟨oc23, od23, .func (PySem.W.fnOf "lengths" "lengths" (defArgs s_lengths) (defBody s_lengths) (defScope s_lengths) .none kV23 dc23 pm23 an23 cd23 ct23), sl23⟩)
    (c23 : PySem.W.codeIn K cd23 "lengths" = true) (k23 : PySem.W.keepIn K (.ref f23) = true)
    (a24 : PySem.W.nsIn K mainGlobals "thread_of" = some (some (.ref f24)))
    (l24 : K.lookup f24 = some ⟨oc24, od24, .func (PySem.W.fnOf "thread_of" "thread_of" (defArgs s_thread_of) (defBody s_thread_of) (defScope s_thread_of) .none kV24 dc24 pm24 an24 cd24 ct24), sl24⟩)
    (c24 : PySem.W.codeIn K cd24 "thread_of" = true) (k24 : PySem.W.keepIn K (.ref f24) = true)
    (a25 : PySem.W.nsIn K mainGlobals "pairs_of" = some (some (.ref f25)))
    (l25 : K.lookup f25 = some ⟨oc25, od25, .func (PySem.W.fnOf "pairs_of" "pairs_of" (defArgs s_pairs_of) (defBody s_pairs_of) (defScope s_pairs_of) .none kV25 dc25 pm25 an25 cd25 ct25), sl25⟩)
    (c25 : PySem.W.codeIn K cd25 "pairs_of" = true) (k25 : PySem.W.keepIn K (.ref f25) = true)
    (a26 : PySem.W.nsIn K mainGlobals "heaps_of" = some (some (.ref f26)))
    (l26 : K.lookup f26 = some ⟨oc26, od26, .func (PySem.W.fnOf "heaps_of" "heaps_of" (defArgs s_heaps_of) (defBody s_heaps_of) (defScope s_heaps_of) .none kV26 dc26 pm26 an26 cd26 ct26), sl26⟩)
    (c26 : PySem.W.codeIn K cd26 "heaps_of" = true) (k26 : PySem.W.keepIn K (.ref f26) = true)
    (a27 : PySem.W.nsIn K mainGlobals "moved" = some (some (.ref f27)))
    (l27 : K.lookup f27 = some ⟨oc27, od27, .func (PySem.W.fnOf "moved" "moved" (defArgs s_moved) (defBody s_moved) (defScope s_moved) .none kV27 dc27 pm27 an27 cd27 ct27), sl27⟩)
    (c27 : PySem.W.codeIn K cd27 "moved" = true) (k27 : PySem.W.keepIn K (.ref f27) = true)
    (a28 : PySem.W.findIn K (.ref C_Tally) "from_on" = some (some (.ref f28))) (i28 : PySem.W.isFn K (.ref f28) = true)
    (l28 : K.lookup f28 = some ⟨oc28, od28, .func (PySem.W.fnOf "from_on" "Tally.from_on" (defArgs s_Tally_from_on) (defBody s_Tally_from_on) (defScope s_Tally_from_on) .none kV28 dc28 pm28 an28 cd28 ct28), sl28⟩)
    (c28 : PySem.W.codeIn K cd28 "Tally.from_on" = true) (k28 : PySem.W.keepIn K (.ref f28) = true)
    (a29 : PySem.W.findIn K (.ref C_Tally) "below" = some (some (.ref f29))) (i29 : PySem.W.isFn K (.ref f29) = true)
    (l29 : K.lookup f29 = some ⟨oc29, od29, .func (PySem.W.fnOf "below" "Tally.below" (defArgs s_Tally_below) (defBody s_Tally_below) (defScope s_Tally_below) .none kV29 dc29 pm29 an29 cd29 ct29), sl29⟩)
    (c29 : PySem.W.codeIn K cd29 "Tally.below" = true) (k29 : PySem.W.keepIn K (.ref f29) = true)
    (a30 : PySem.W.findIn K (.ref C_Asks) "window" = some (some (.ref f30))) (i30 : PySem.W.isFn K (.ref f30) = true)
    (l30 : K.lookup f30 = some ⟨oc30, od30, .func (PySem.W.fnOf "window" "Asks.window" (defArgs s_Asks_window) (defBody s_Asks_window) (defScope s_Asks_window) .none kV30 dc30 pm30 an30 cd30 ct30), sl30⟩)
    (c30 : PySem.W.codeIn K cd30 "Asks.window" = true) (k30 : PySem.W.keepIn K (.ref f30) = true)
    (a31 : PySem.W.nsIn K mainGlobals "twice_lengths" = some (some (.ref f31)))
    (l31 : K.lookup f31 = some ⟨oc31, od31, .func (PySem.W.fnOf "twice_lengths" "twice_lengths" (defArgs s_twice_lengths) (defBody s_twice_lengths) (defScope s_twice_lengths) .none kV31 dc31 pm31 an31 cd31 ct31), sl31⟩)
    (c31 : PySem.W.codeIn K cd31 "twice_lengths" = true) (k31 : PySem.W.keepIn K (.ref f31) = true)
    (a32 : PySem.W.nsIn K mainGlobals "twice" = some (some (.ref f32)))
    (l32 : K.lookup f32 = some ⟨oc32, od32, .func (PySem.W.fnOf "twice" "twice" (defArgs s_twice) (defBody s_twice) (defScope s_twice) .none kV32 dc32 pm32 an32 cd32 ct32), sl32⟩)
    (c32 : PySem.W.codeIn K cd32 "twice" = true) (k32 : PySem.W.keepIn K (.ref f32) = true)
    (a33 : PySem.W.nsIn K mainGlobals "_law_cell_at" = some (some (.ref f33)))
    (l33 : K.lookup f33 = some ⟨oc33, od33, .func (PySem.W.fnOf "_law_cell_at" "_law_cell_at" (defArgs s__law_cell_at) (defBody s__law_cell_at) (defScope s__law_cell_at) .none kV33 dc33 pm33 an33 cd33 ct33), sl33⟩)
    (c33 : PySem.W.codeIn K cd33 "_law_cell_at" = true) (k33 : PySem.W.keepIn K (.ref f33) = true)
    (a34 : PySem.W.nsIn K mainGlobals "_law_great" = some (some (.ref f34)))
    (l34 : K.lookup f34 = some ⟨oc34, od34, .func (PySem.W.fnOf "_law_great" "_law_great" (defArgs s__law_great) (defBody s__law_great) (defScope s__law_great) .none kV34 dc34 pm34 an34 cd34 ct34), sl34⟩)
    (c34 : PySem.W.codeIn K cd34 "_law_great" = true) (k34 : PySem.W.keepIn K (.ref f34) = true)
    (a35 : PySem.W.nsIn K mainGlobals "_law_letter" = some (some (.ref f35)))
    (l35 : K.lookup f35 = some ⟨oc35, od35, .func (PySem.W.fnOf "_law_letter" "_law_letter" (defArgs s__law_letter) (defBody s__law_letter) (defScope s__law_letter) .none kV35 dc35 pm35 an35 cd35 ct35), sl35⟩)
    (c35 : PySem.W.codeIn K cd35 "_law_letter" = true) (k35 : PySem.W.keepIn K (.ref f35) = true)
    (a36 : PySem.W.nsIn K mainGlobals "_law_row" = some (some (.ref f36)))
    (l36 : K.lookup f36 = some ⟨oc36, od36, .func (PySem.W.fnOf "_law_row" "_law_row" (defArgs s__law_row) (defBody s__law_row) (defScope s__law_row) .none kV36 dc36 pm36 an36 cd36 ct36), sl36⟩)
    (c36 : PySem.W.codeIn K cd36 "_law_row" = true) (k36 : PySem.W.keepIn K (.ref f36) = true)
    (a37 : PySem.W.nsIn K mainGlobals "_law_list" = some (some (.ref f37)))
    (l37 : K.lookup f37 = some ⟨oc37, od37, .func (PySem.W.fnOf "_law_list" "_law_list" (defArgs s__law_list) (defBody s__law_list) (defScope s__law_list) .none kV37 dc37 pm37 an37 cd37 ct37), sl37⟩)
    (c37 : PySem.W.codeIn K cd37 "_law_list" = true) (k37 : PySem.W.keepIn K (.ref f37) = true)
    (a38 : PySem.W.nsIn K mainGlobals "_law_heaps" = some (some (.ref f38)))
    (l38 : K.lookup f38 = some ⟨oc38, od38, .func (PySem.W.fnOf "_law_heaps" "_law_heaps" (defArgs s__law_heaps) (defBody s__law_heaps) (defScope s__law_heaps) .none kV38 dc38 pm38 an38 cd38 ct38), sl38⟩)
    (c38 : PySem.W.codeIn K cd38 "_law_heaps" = true) (k38 : PySem.W.keepIn K (.ref f38) = true)
    (a39 : PySem.W.nsIn K mainGlobals "_law_new" = some (some (.ref f39)))
    (l39 : K.lookup f39 = some ⟨oc39, od39, .func (PySem.W.fnOf "_law_new" "_law_new" (defArgs s__law_new) (defBody s__law_new) (defScope s__law_new) .none kV39 dc39 pm39 an39 cd39 ct39), sl39⟩)
    (c39 : PySem.W.codeIn K cd39 "_law_new" = true) (k39 : PySem.W.keepIn K (.ref f39) = true)
    (a40 : PySem.W.nsIn K mainGlobals "_law_heaps_at" = some (some (.ref f40)))
    (l40 : K.lookup f40 = some ⟨oc40, od40, .func (PySem.W.fnOf "_law_heaps_at" "_law_heaps_at" (defArgs s__law_heaps_at) (defBody s__law_heaps_at) (defScope s__law_heaps_at) .none kV40 dc40 pm40 an40 cd40 ct40), sl40⟩)
    (c40 : PySem.W.codeIn K cd40 "_law_heaps_at" = true) (k40 : PySem.W.keepIn K (.ref f40) = true)
    (a41 : PySem.W.nsIn K mainGlobals "_law_rising" = some (some (.ref f41)))
    (l41 : K.lookup f41 = some ⟨oc41, od41, .func (PySem.W.fnOf "_law_rising" "_law_rising" (defArgs s__law_rising) (defBody s__law_rising) (defScope s__law_rising) .none kV41 dc41 pm41 an41 cd41 ct41), sl41⟩)
    (c41 : PySem.W.codeIn K cd41 "_law_rising" = true) (k41 : PySem.W.keepIn K (.ref f41) = true)
    (a42 : PySem.W.nsIn K mainGlobals "_law_same" = some (some (.ref f42)))
    (l42 : K.lookup f42 = some ⟨oc42, od42, .func (PySem.W.fnOf "_law_same" "_law_same" (defArgs s__law_same) (defBody s__law_same) (defScope s__law_same) .none kV42 dc42 pm42 an42 cd42 ct42), sl42⟩)
    (c42 : PySem.W.codeIn K cd42 "_law_same" = true) (k42 : PySem.W.keepIn K (.ref f42) = true)
    (a43 : PySem.W.nsIn K mainGlobals "_law_told" = some (some (.ref f43)))
    (l43 : K.lookup f43 = some ⟨oc43, od43, .func (PySem.W.fnOf "_law_told" "_law_told" (defArgs s__law_told) (defBody s__law_told) (defScope s__law_told) .none kV43 dc43 pm43 an43 cd43 ct43), sl43⟩)
    (c43 : PySem.W.codeIn K cd43 "_law_told" = true) (k43 : PySem.W.keepIn K (.ref f43) = true)
    (a44 : PySem.W.nsIn K mainGlobals "_law_lengths" = some (some (.ref f44)))
    (l44 : K.lookup f44 = some ⟨oc44, od44, .func (PySem.W.fnOf "_law_lengths" "_law_lengths" (defArgs s__law_lengths) (defBody s__law_lengths) (defScope s__law_lengths) .none kV44 dc44 pm44 an44 cd44 ct44), sl44⟩)
    (c44 : PySem.W.codeIn K cd44 "_law_lengths" = true) (k44 : PySem.W.keepIn K (.ref f44) = true)
    (a45 : PySem.W.nsIn K mainGlobals "_law_refused" = some (some (.ref f45)))
    (l45 : K.lookup f45 = some ⟨oc45, od45, .func (PySem.W.fnOf "_law_refused" "_law_refused" (defArgs s__law_refused) (defBody s__law_refused) (defScope s__law_refused) .none kV45 dc45 pm45 an45 cd45 ct45), sl45⟩)
    (c45 : PySem.W.codeIn K cd45 "_law_refused" = true) (k45 : PySem.W.keepIn K (.ref f45) = true)
    (a46 : PySem.W.nsIn K mainGlobals "law" = some (some (.ref f46)))
    (l46 : K.lookup f46 = some ⟨oc46, od46, .func (PySem.W.fnOf "law" "law" (defArgs s_law) (defBody s_law) (defScope s_law) .none kV46 dc46 pm46 an46 cd46 ct46), sl46⟩)
    (c46 : PySem.W.codeIn K cd46 "law" = true) (k46 : PySem.W.keepIn K (.ref f46) = true)
    (cn0 : PySem.W.nsIn K mainGlobals "MOST_SIGNS" = some (some (.int 48 t_0)))
    (cn1 : PySem.W.nsIn K mainGlobals "LETTERS" = some (some (.str "abcdefghijklmnopqrstuvwxyz" t_1)))
    (cn2 : PySem.W.nsIn K mainGlobals "MOST_LETTERS" = some (some (.int 24 t_2)))
    (cn3 : PySem.W.nsIn K mainGlobals "MOST_LINES" = some (some (.int 96 t_3)))
    (z0 : PySem.W.nsIn K mainGlobals "isinstance" = some none)
    (z1 : PySem.W.nsIn K mainGlobals "int" = some none)
    (z2 : PySem.W.nsIn K mainGlobals "bool" = some none)
    (z3 : PySem.W.nsIn K mainGlobals "all" = some none)
    (z4 : PySem.W.nsIn K mainGlobals "str" = some none)
    (z5 : PySem.W.nsIn K mainGlobals "len" = some none)
    (z6 : PySem.W.nsIn K mainGlobals "enumerate" = some none)
    (z7 : PySem.W.nsIn K mainGlobals "list" = some none)
    (z8 : PySem.W.nsIn K mainGlobals "range" = some none)
    (z9 : PySem.W.nsIn K mainGlobals "tuple" = some none)
    (z10 : PySem.W.nsIn K mainGlobals "zip" = some none)
    (z11 : PySem.W.nsIn K mainGlobals "max" = some none)
    (z12 : PySem.W.nsIn K mainGlobals "ord" = some none)
    (z13 : PySem.W.nsIn K mainGlobals "any" = some none)
    (z14 : PySem.W.nsIn K mainGlobals "ValueError" = some none)
    (g_NoRow : PySem.W.nsIn K mainGlobals "NoRow" = some (some (.ref C_NoRow)))
    (g_NoPlain : PySem.W.nsIn K mainGlobals "NoPlain" = some (some (.ref C_NoPlain)))
    (g_NoSpan : PySem.W.nsIn K mainGlobals "NoSpan" = some (some (.ref C_NoSpan)))
    (g_NoTurning : PySem.W.nsIn K mainGlobals "NoTurning" = some (some (.ref C_NoTurning)))
    (g_NoPlace : PySem.W.nsIn K mainGlobals "NoPlace" = some (some (.ref C_NoPlace)))
    (g_PaneError : PySem.W.nsIn K mainGlobals "PaneError" = some (some (.ref C_PaneError)))
    (sb_NoPlain : PySem.W.subIn K (.ref C_NoPlain) (.type "BaseException") = some true)
    (hd_NoPlain : PySem.W.hasDictIn K C_NoPlain = true)
    (ty_NoPlain : PySem.W.typeIn K (.ref C_NoPlain) = some (.type "type"))
    (sb_PaneError : PySem.W.subIn K (.ref C_PaneError) (.type "BaseException") = some true)
    (hd_PaneError : PySem.W.hasDictIn K C_PaneError = true)
    (ty_PaneError : PySem.W.typeIn K (.ref C_PaneError) = some (.type "type"))
    (sb_NoRow : PySem.W.subIn K (.ref C_NoRow) (.type "BaseException") = some true)
    (hd_NoRow : PySem.W.hasDictIn K C_NoRow = true)
    (ty_NoRow : PySem.W.typeIn K (.ref C_NoRow) = some (.type "type"))
    (lk_NoRow : K.lookup C_NoRow = some (excClassObj xn_NoRow xq_NoRow C_NoRow xN_NoRow xb_NoRow [.ref C_PaneError, .type "ValueError", .type "Exception", .type "BaseException", .type "object"] true xs_NoRow xu_NoRow xa_NoRow xc_NoRow xd_NoRow xk0_NoRow xk1_NoRow xk2_NoRow xk3_NoRow xk5_NoRow "ValueError.__new__"))
    (f_setattr_NoRow : PySem.W.findIn K (.ref C_NoRow) "__setattr__" = some (some (.builtin "object.__setattr__")))
    (k_NoRow : PySem.W.keepIn K (.ref C_NoRow) = true)
    (f_found_NoRow : PySem.W.findIn K (.ref C_NoRow) "found" = some none)
    (ini_NoRow : PySem.W.findIn K (.ref C_NoRow) "__init__" = some (some (.ref I_NoRow)))
    (int_NoRow : PySem.W.typeIn K (.ref I_NoRow) = some (.type "function"))
    (il_NoRow : K.lookup I_NoRow = some ⟨Ioc_NoRow, Iod_NoRow, .func (PySem.W.fnOf "__init__" "NoRow.__init__" (defArgs si_NoRow) (defBody si_NoRow) (defScope si_NoRow) .none IkV_NoRow Idc_NoRow Ipm_NoRow Ian_NoRow Icd_NoRow Ict_NoRow), Isl_NoRow⟩)
    (ic_NoRow : PySem.W.codeIn K Icd_NoRow "NoRow.__init__" = true)
    (ik_NoRow : PySem.W.keepIn K (.ref I_NoRow) = true)
    (ct_ : PySem.W.specialIn K (.builtin "object.__class__") "__get__" = some (some (.builtin "getset_descriptor.__get__")))
    (cu_ : PySem.W.takesIn K (.builtin "object.__class__") = some true)
    (f_getattribute_NoRow : PySem.W.findIn K (.ref C_NoRow) "__getattribute__" = some (some (.builtin "BaseException.__getattribute__")))
    (f_getattr_NoRow : PySem.W.findIn K (.ref C_NoRow) "__getattr__" = some none)
    (f_class_NoRow : PySem.W.findIn K (.ref C_NoRow) "__class__" = some (some (.builtin "object.__class__")))
    (cm_NoRow : PySem.W.mroIn K C_NoRow (.type "object") = some true)
    (s_NoRow_NoPlain : PySem.W.subIn K (.ref C_NoRow) (.ref C_NoPlain) = some false)
    (s_NoRow_PaneError : PySem.W.subIn K (.ref C_NoRow) (.ref C_PaneError) = some true)
    (s_NoRow_NoRow : PySem.W.subIn K (.ref C_NoRow) (.ref C_NoRow) = some true)
    (v_NoRow : PySem.W.subIn K (.ref C_NoRow) (.type "ValueError") = some true)
    (lk_NoPlain : K.lookup C_NoPlain = some (excClassObj xn_NoPlain xq_NoPlain C_NoPlain xN_NoPlain xb_NoPlain [.ref C_PaneError, .type "ValueError", .type "Exception", .type "BaseException", .type "object"] true xs_NoPlain xu_NoPlain xa_NoPlain xc_NoPlain xd_NoPlain xk0_NoPlain xk1_NoPlain xk2_NoPlain xk3_NoPlain xk5_NoPlain "ValueError.__new__"))
    (f_setattr_NoPlain : PySem.W.findIn K (.ref C_NoPlain) "__setattr__" = some (some (.builtin "object.__setattr__")))
    (k_NoPlain : PySem.W.keepIn K (.ref C_NoPlain) = true)
    (f_found_NoPlain : PySem.W.findIn K (.ref C_NoPlain) "found" = some none)
    (ini_NoPlain : PySem.W.findIn K (.ref C_NoPlain) "__init__" = some (some (.ref I_NoPlain)))
    (int_NoPlain : PySem.W.typeIn K (.ref I_NoPlain) = some (.type "function"))
    (il_NoPlain : K.lookup I_NoPlain = some ⟨Ioc_NoPlain, Iod_NoPlain, .func (PySem.W.fnOf "__init__" "NoPlain.__init__" (defArgs si_NoPlain) (defBody si_NoPlain) (defScope si_NoPlain) .none IkV_NoPlain Idc_NoPlain Ipm_NoPlain Ian_NoPlain Icd_NoPlain Ict_NoPlain), Isl_NoPlain⟩)
    (ic_NoPlain : PySem.W.codeIn K Icd_NoPlain "NoPlain.__init__" = true)
    (ik_NoPlain : PySem.W.keepIn K (.ref I_NoPlain) = true)
    (f_getattribute_NoPlain : PySem.W.findIn K (.ref C_NoPlain) "__getattribute__" = some (some (.builtin "BaseException.__getattribute__")))
    (f_getattr_NoPlain : PySem.W.findIn K (.ref C_NoPlain) "__getattr__" = some none)
    (f_class_NoPlain : PySem.W.findIn K (.ref C_NoPlain) "__class__" = some (some (.builtin "object.__class__")))
    (cm_NoPlain : PySem.W.mroIn K C_NoPlain (.type "object") = some true)
    (s_NoPlain_NoPlain : PySem.W.subIn K (.ref C_NoPlain) (.ref C_NoPlain) = some true)
    (s_NoPlain_PaneError : PySem.W.subIn K (.ref C_NoPlain) (.ref C_PaneError) = some true)
    (s_NoPlain_NoRow : PySem.W.subIn K (.ref C_NoPlain) (.ref C_NoRow) = some false)
    (v_NoPlain : PySem.W.subIn K (.ref C_NoPlain) (.type "ValueError") = some true)
    (lk_NoSpan : K.lookup C_NoSpan = some (excClassObj xn_NoSpan xq_NoSpan C_NoSpan xN_NoSpan xb_NoSpan [.ref C_PaneError, .type "ValueError", .type "Exception", .type "BaseException", .type "object"] true xs_NoSpan xu_NoSpan xa_NoSpan xc_NoSpan xd_NoSpan xk0_NoSpan xk1_NoSpan xk2_NoSpan xk3_NoSpan xk5_NoSpan "ValueError.__new__"))
    (f_setattr_NoSpan : PySem.W.findIn K (.ref C_NoSpan) "__setattr__" = some (some (.builtin "object.__setattr__")))
    (sb_NoSpan : PySem.W.subIn K (.ref C_NoSpan) (.type "BaseException") = some true)
    (ty_NoSpan : PySem.W.typeIn K (.ref C_NoSpan) = some (.type "type"))
    (k_NoSpan : PySem.W.keepIn K (.ref C_NoSpan) = true)
    (f_begin_NoSpan : PySem.W.findIn K (.ref C_NoSpan) "begin" = some none)
    (f_end_NoSpan : PySem.W.findIn K (.ref C_NoSpan) "end" = some none)
    (ini_NoSpan : PySem.W.findIn K (.ref C_NoSpan) "__init__" = some (some (.ref I_NoSpan)))
    (int_NoSpan : PySem.W.typeIn K (.ref I_NoSpan) = some (.type "function"))
    (il_NoSpan : K.lookup I_NoSpan = some ⟨Ioc_NoSpan, Iod_NoSpan, .func (PySem.W.fnOf "__init__" "NoSpan.__init__" (defArgs si_NoSpan) (defBody si_NoSpan) (defScope si_NoSpan) .none IkV_NoSpan Idc_NoSpan Ipm_NoSpan Ian_NoSpan Icd_NoSpan Ict_NoSpan), Isl_NoSpan⟩)
    (ic_NoSpan : PySem.W.codeIn K Icd_NoSpan "NoSpan.__init__" = true)
    (ik_NoSpan : PySem.W.keepIn K (.ref I_NoSpan) = true)
    (f_getattribute_NoSpan : PySem.W.findIn K (.ref C_NoSpan) "__getattribute__" = some (some (.builtin "BaseException.__getattribute__")))
    (f_getattr_NoSpan : PySem.W.findIn K (.ref C_NoSpan) "__getattr__" = some none)
    (hd_NoSpan : PySem.W.hasDictIn K C_NoSpan = true)
    (f_class_NoSpan : PySem.W.findIn K (.ref C_NoSpan) "__class__" = some (some (.builtin "object.__class__")))
    (cm_NoSpan : PySem.W.mroIn K C_NoSpan (.type "object") = some true)
    (s_NoSpan_NoPlain : PySem.W.subIn K (.ref C_NoSpan) (.ref C_NoPlain) = some false)
    (s_NoSpan_PaneError : PySem.W.subIn K (.ref C_NoSpan) (.ref C_PaneError) = some true)
    (s_NoSpan_NoRow : PySem.W.subIn K (.ref C_NoSpan) (.ref C_NoRow) = some false)
    (v_NoSpan : PySem.W.subIn K (.ref C_NoSpan) (.type "ValueError") = some true)
    (lk_NoTurning : K.lookup C_NoTurning = some (excClassObj xn_NoTurning xq_NoTurning C_NoTurning xN_NoTurning xb_NoTurning [.ref C_PaneError, .type "ValueError", .type "Exception", .type "BaseException", .type "object"] true xs_NoTurning xu_NoTurning xa_NoTurning xc_NoTurning xd_NoTurning xk0_NoTurning xk1_NoTurning xk2_NoTurning xk3_NoTurning xk5_NoTurning "ValueError.__new__"))
    (f_setattr_NoTurning : PySem.W.findIn K (.ref C_NoTurning) "__setattr__" = some (some (.builtin "object.__setattr__")))
    (sb_NoTurning : PySem.W.subIn K (.ref C_NoTurning) (.type "BaseException") = some true)
    (ty_NoTurning : PySem.W.typeIn K (.ref C_NoTurning) = some (.type "type"))
    (k_NoTurning : PySem.W.keepIn K (.ref C_NoTurning) = true)
    (f_found_NoTurning : PySem.W.findIn K (.ref C_NoTurning) "found" = some none)
    (ini_NoTurning : PySem.W.findIn K (.ref C_NoTurning) "__init__" = some (some (.ref I_NoTurning)))
    (int_NoTurning : PySem.W.typeIn K (.ref I_NoTurning) = some (.type "function"))
    (il_NoTurning : K.lookup I_NoTurning = some ⟨Ioc_NoTurning, Iod_NoTurning, .func (PySem.W.fnOf "__init__" "NoTurning.__init__" (defArgs si_NoTurning) (defBody si_NoTurning) (defScope si_NoTurning) .none IkV_NoTurning Idc_NoTurning Ipm_NoTurning Ian_NoTurning Icd_NoTurning Ict_NoTurning), Isl_NoTurning⟩)
    (ic_NoTurning : PySem.W.codeIn K Icd_NoTurning "NoTurning.__init__" = true)
    (ik_NoTurning : PySem.W.keepIn K (.ref I_NoTurning) = true)
    (f_getattribute_NoTurning : PySem.W.findIn K (.ref C_NoTurning) "__getattribute__" = some (some (.builtin "BaseException.__getattribute__")))
    (f_getattr_NoTurning : PySem.W.findIn K (.ref C_NoTurning) "__getattr__" = some none)
    (hd_NoTurning : PySem.W.hasDictIn K C_NoTurning = true)
    (f_class_NoTurning : PySem.W.findIn K (.ref C_NoTurning) "__class__" = some (some (.builtin "object.__class__")))
    (cm_NoTurning : PySem.W.mroIn K C_NoTurning (.type "object") = some true)
    (s_NoTurning_NoPlain : PySem.W.subIn K (.ref C_NoTurning) (.ref C_NoPlain) = some false)
    (s_NoTurning_PaneError : PySem.W.subIn K (.ref C_NoTurning) (.ref C_PaneError) = some true)
    (s_NoTurning_NoRow : PySem.W.subIn K (.ref C_NoTurning) (.ref C_NoRow) = some false)
    (v_NoTurning : PySem.W.subIn K (.ref C_NoTurning) (.type "ValueError") = some true)
    (lk_NoPlace : K.lookup C_NoPlace = some (excClassObj xn_NoPlace xq_NoPlace C_NoPlace xN_NoPlace xb_NoPlace [.ref C_PaneError, .type "ValueError", .type "Exception", .type "BaseException", .type "object"] true xs_NoPlace xu_NoPlace xa_NoPlace xc_NoPlace xd_NoPlace xk0_NoPlace xk1_NoPlace xk2_NoPlace xk3_NoPlace xk5_NoPlace "ValueError.__new__"))
    (f_setattr_NoPlace : PySem.W.findIn K (.ref C_NoPlace) "__setattr__" = some (some (.builtin "object.__setattr__")))
    (sb_NoPlace : PySem.W.subIn K (.ref C_NoPlace) (.type "BaseException") = some true)
    (ty_NoPlace : PySem.W.typeIn K (.ref C_NoPlace) = some (.type "type"))
    (k_NoPlace : PySem.W.keepIn K (.ref C_NoPlace) = true)
    (f_found_NoPlace : PySem.W.findIn K (.ref C_NoPlace) "found" = some none)
    (ini_NoPlace : PySem.W.findIn K (.ref C_NoPlace) "__init__" = some (some (.ref I_NoPlace)))
    (int_NoPlace : PySem.W.typeIn K (.ref I_NoPlace) = some (.type "function"))
    (il_NoPlace : K.lookup I_NoPlace = some ⟨Ioc_NoPlace, Iod_NoPlace, .func (PySem.W.fnOf "__init__" "NoPlace.__init__" (defArgs si_NoPlace) (defBody si_NoPlace) (defScope si_NoPlace) .none IkV_NoPlace Idc_NoPlace Ipm_NoPlace Ian_NoPlace Icd_NoPlace Ict_NoPlace), Isl_NoPlace⟩)
    (ic_NoPlace : PySem.W.codeIn K Icd_NoPlace "NoPlace.__init__" = true)
    (ik_NoPlace : PySem.W.keepIn K (.ref I_NoPlace) = true)
    (f_getattribute_NoPlace : PySem.W.findIn K (.ref C_NoPlace) "__getattribute__" = some (some (.builtin "BaseException.__getattribute__")))
    (f_getattr_NoPlace : PySem.W.findIn K (.ref C_NoPlace) "__getattr__" = some none)
    (hd_NoPlace : PySem.W.hasDictIn K C_NoPlace = true)
    (f_class_NoPlace : PySem.W.findIn K (.ref C_NoPlace) "__class__" = some (some (.builtin "object.__class__")))
    (cm_NoPlace : PySem.W.mroIn K C_NoPlace (.type "object") = some true)
    (s_NoPlace_NoPlain : PySem.W.subIn K (.ref C_NoPlace) (.ref C_NoPlain) = some false)
    (s_NoPlace_PaneError : PySem.W.subIn K (.ref C_NoPlace) (.ref C_PaneError) = some true)
    (s_NoPlace_NoRow : PySem.W.subIn K (.ref C_NoPlace) (.ref C_NoRow) = some false)
    (v_NoPlace : PySem.W.subIn K (.ref C_NoPlace) (.type "ValueError") = some true)
    (ba_PaneError : PySem.W.specialIn K (.ref C_PaneError) "__getattribute__" = some (some (.builtin "type.__getattribute__")))
    (br_PaneError : PySem.W.readsIn K C_PaneError (.type "type") = true)
    (bf_PaneError : PySem.W.findCls K (.ref C_PaneError) (.type "type") "__init__" = some (.val (.builtin "ValueError.__init__")))
    (g_Tally : PySem.W.nsIn K mainGlobals "Tally" = some (some (.ref C_Tally)))
    (pg_Tally : PySem.W.plainGet K C_Tally Str.empty = true)
    (hd_Tally : PySem.W.hasDictIn K C_Tally = true)
    (po_Tally : PySem.W.plainOver K C_Tally = true)
    (sa_Tally : PySem.W.findIn K (.ref C_Tally) "__setattr__" = some (some (.builtin "object.__setattr__")))
    (na_Tally_many : PySem.W.findIn K (.ref C_Tally) "many" = some none)
    (na_Tally_floors : PySem.W.findIn K (.ref C_Tally) "floors" = some none)
    (mk_Tally : PySem.W.makesIn K C_Tally = true)
    (kc_Tally : PySem.W.keepIn K (.ref C_Tally) = true)
    (g_Asks : PySem.W.nsIn K mainGlobals "Asks" = some (some (.ref C_Asks)))
    (pg_Asks : PySem.W.plainGet K C_Asks Str.empty = true)
    (hd_Asks : PySem.W.hasDictIn K C_Asks = true)
    (po_Asks : PySem.W.plainOver K C_Asks = true)
    (sa_Asks : PySem.W.findIn K (.ref C_Asks) "__setattr__" = some (some (.builtin "object.__setattr__")))
    (na_Asks_tall : PySem.W.findIn K (.ref C_Asks) "tall" = some none)
    (na_Asks_wide : PySem.W.findIn K (.ref C_Asks) "wide" = some none)
    (na_Asks_tally : PySem.W.findIn K (.ref C_Asks) "tally" = some none)
    (na_Asks_goals : PySem.W.findIn K (.ref C_Asks) "goals" = some none)
    (na_Asks_starts : PySem.W.findIn K (.ref C_Asks) "starts" = some none)
    (mk_Asks : PySem.W.makesIn K C_Asks = true)
    (kc_Asks : PySem.W.keepIn K (.ref C_Asks) = true)
    (g_Board : PySem.W.nsIn K mainGlobals "Board" = some (some (.ref C_Board)))
    (pg_Board : PySem.W.plainGet K C_Board Str.empty = true)
    (hd_Board : PySem.W.hasDictIn K C_Board = true)
    (po_Board : PySem.W.plainOver K C_Board = true)
    (sa_Board : PySem.W.findIn K (.ref C_Board) "__setattr__" = some (some (.builtin "object.__setattr__")))
    (na_Board_left_row : PySem.W.findIn K (.ref C_Board) "left_row" = some none)
    (na_Board_upper_row : PySem.W.findIn K (.ref C_Board) "upper_row" = some none)
    (na_Board_meetings : PySem.W.findIn K (.ref C_Board) "meetings" = some none)
    (na_Board_signs : PySem.W.findIn K (.ref C_Board) "signs" = some none)
    (na_Board_goals : PySem.W.findIn K (.ref C_Board) "goals" = some none)
    (mk_Board : PySem.W.makesIn K C_Board = true)
    (kc_Board : PySem.W.keepIn K (.ref C_Board) = true)
    : LamX.LawAtS l w K CX0 13 63 "_law_script" mg fa h := by
  have e := hfa.symm.trans (PySem.W.mg_of X G a46)
  cases e
  have q_NoRow := clsA_of g_NoRow
  subst q_NoRow
  have q_NoPlain := clsA_of g_NoPlain
  subst q_NoPlain
  have q_NoSpan := clsA_of g_NoSpan
  subst q_NoSpan
  have q_NoTurning := clsA_of g_NoTurning
  subst q_NoTurning
  have q_NoPlace := clsA_of g_NoPlace
  subst q_NoPlace
  have q_PaneError := clsA_of g_PaneError
  subst q_PaneError
  have q_Tally := clsA_of g_Tally
  subst q_Tally
  have q_Asks := clsA_of g_Asks
  subst q_Asks
  have q_Board := clsA_of g_Board
  subst q_Board
  refine ⟨PySem.W.fnOf "law" "law" (defArgs s_law) (defBody s_law) (defScope s_law) .none kV46 dc46 pm46 an46 cd46 ct46, [(cc20, PT20)], sp_law K (tabsL (fun i => match i with | 0 => (cc20, PT20) | _ => (cc20, PT20))), (fun p hp => by
    simp only [List.mem_cons, List.not_mem_nil, or_false] at hp
    rcases hp with rfl
    · exact t20), (fun p hp => by
    simp only [List.mem_cons, List.not_mem_nil, or_false] at hp
    rcases hp with rfl
    · exact n20), (fun p hp => by
    simp only [List.mem_cons, List.not_mem_nil, or_false] at hp
    rcases hp with rfl
    · exact PySem.W.codeHd_of_K X g20), fun s v => .of_eq rfl, fun H a ns hl _ hTt hS => ⟨a, ns, rfl, hS, fun p hp => ?_, hl, fun _ => rfl⟩, fun base _ _ hTB => ?_⟩
  · simp only [tabsL, List.mem_cons, List.not_mem_nil, or_false] at hp
    rcases hp with rfl
    · exact LamX.TabS.nil (hTt (cc20, PT20) (by simp))
  have T : Tx K mg (fun i => match i with | 0 => f0 | 1 => f1 | 2 => f2 | 3 => f3 | 4 => f4 | 5 => f5 | 6 => f6 | 7 => f7 | 8 => f8 | 9 => f9 | 10 => f10 | 11 => f11 | 12 => f12 | 13 => f13 | 14 => f14 | 15 => f15 | 16 => f16 | 17 => f17 | 18 => f18 | 19 => f19 | 20 => f20 | 21 => f21 | 22 => f22 | 23 => f23 | 24 => f24 | 25 => f25 | 26 => f26 | 27 => f27 | 28 => f28 | 29 => f29 | 30 => f30 | 31 => f31 | 32 => f32 | 33 => f33 | 34 => f34 | 35 => f35 | 36 => f36 | 37 => f37 | 38 => f38 | 39 => f39 | 40 => f40 | 41 => f41 | 42 => f42 | 43 => f43 | 44 => f44 | 45 => f45 | 46 => fa | _ => f0) (fun i => match i with | 0 => PySem.W.fnOf "is_whole" "is_whole" (defArgs s_is_whole) (defBody s_is_whole) (defScope s_is_whole) .none kV0 dc0 pm0 an0 cd0 ct0 | 1 => PySem.W.fnOf "is_within" "is_within" (defArgs s_is_within) (defBody s_is_within) (defScope s_is_within) .none kV1 dc1 pm1 an1 cd1 ct1 | 2 => PySem.W.fnOf "is_row" "is_row" (defArgs s_is_row) (defBody s_is_row) (defScope s_is_row) .none kV2 dc2 pm2 an2 cd2 ct2 | 3 => PySem.W.fnOf "is_plain" "is_plain" (defArgs s_is_plain) (defBody s_is_plain) (defScope s_is_plain) .none kV3 dc3 pm3 an3 cd3 ct3 | 4 => PySem.W.fnOf "need_row" "need_row" (defArgs s_need_row) (defBody s_need_row) (defScope s_need_row) .none kV4 dc4 pm4 an4 cd4 ct4 | 5 => PySem.W.fnOf "need_rows" "need_rows" (defArgs s_need_rows) (defBody s_need_rows) (defScope s_need_rows) .none kV5 dc5 pm5 an5 cd5 ct5 | 6 => PySem.W.fnOf "need_plain" "need_plain" (defArgs s_need_plain) (defBody s_need_plain) (defScope s_need_plain) .none kV6 dc6 pm6 an6 cd6 ct6 | 7 => PySem.W.fnOf "need_span" "need_span" (defArgs s_need_span) (defBody s_need_span) (defScope s_need_span) .none kV7 dc7 pm7 an7 cd7 ct7 | 8 => PySem.W.fnOf "places_of" "places_of" (defArgs s_places_of) (defBody s_places_of) (defScope s_places_of) .none kV8 dc8 pm8 an8 cd8 ct8 | 9 => PySem.W.fnOf "led" "led" (defArgs s_led) (defBody s_led) (defScope s_led) .none kV9 dc9 pm9 an9 cd9 ct9 | 10 => PySem.W.fnOf "is_turning" "is_turning" (defArgs s_is_turning) (defBody s_is_turning) (defScope s_is_turning) .none kV10 dc10 pm10 an10 cd10 ct10 | 11 => PySem.W.fnOf "need_turning" "need_turning" (defArgs s_need_turning) (defBody s_need_turning) (defScope s_need_turning) .none kV11 dc11 pm11 an11 cd11 ct11 | 12 => PySem.W.fnOf "need_place" "need_place" (defArgs s_need_place) (defBody s_need_place) (defScope s_need_place) .none kV12 dc12 pm12 an12 cd12 ct12 | 13 => PySem.W.fnOf "opposite" "opposite" (defArgs s_opposite) (defBody s_opposite) (defScope s_opposite) .none kV13 dc13 pm13 an13 cd13 ct13 | 14 => PySem.W.fnOf "mixed" "mixed" (defArgs s_mixed) (defBody s_mixed) (defScope s_mixed) .none kV14 dc14 pm14 an14 cd14 ct14 | 15 => PySem.W.fnOf "floors_of" "floors_of" (defArgs s_floors_of) (defBody s_floors_of) (defScope s_floors_of) .none kV15 dc15 pm15 an15 cd15 ct15 | 16 => PySem.W.fnOf "lesser" "lesser" (defArgs s_lesser) (defBody s_lesser) (defScope s_lesser) .none kV16 dc16 pm16 an16 cd16 ct16 | 17 => PySem.W.fnOf "need_window" "need_window" (defArgs s_need_window) (defBody s_need_window) (defScope s_need_window) .none kV17 dc17 pm17 an17 cd17 ct17 | 18 => PySem.W.fnOf "__init__" "Tally.__init__" (defArgs s_Tally_init) (defBody s_Tally_init) (defScope s_Tally_init) .none kV18 dc18 pm18 an18 cd18 ct18 | 19 => PySem.W.fnOf "__init__" "Asks.__init__" (defArgs s_Asks_init) (defBody s_Asks_init) (defScope s_Asks_init) .none kV19 dc19 pm19 an19 cd19 ct19 | 20 => PySem.W.fnOf "__init__" "Board.__init__" (defArgs s_Board_init) (defBody s_Board_init) (defScope s_Board_init) .none kV20 dc20 pm20 an20 (.ref cc20) ct20 | 21 => PySem.W.fnOf "lines" "Board.lines" (defArgs s_Board_lines) (defBody s_Board_lines) (defScope s_Board_lines) .none kV21 dc21 pm21 an21 cd21 ct21 | 22 => PySem.W.fnOf "asks_of" "asks_of" (defArgs s_asks_of) (defBody s_asks_of) (defScope s_asks_of) .none kV22 dc22 pm22 an22 cd22 ct22 | 23 => PySem.W.fnOf "lengths" "lengths" (defArgs s_lengths) (defBody s_lengths) (defScope s_lengths) .none kV23 dc23 pm23 an23 cd23 ct23 | 24 => PySem.W.fnOf "thread_of" "thread_of" (defArgs s_thread_of) (defBody s_thread_of) (defScope s_thread_of) .none kV24 dc24 pm24 an24 cd24 ct24 | 25 => PySem.W.fnOf "pairs_of" "pairs_of" (defArgs s_pairs_of) (defBody s_pairs_of) (defScope s_pairs_of) .none kV25 dc25 pm25 an25 cd25 ct25 | 26 => PySem.W.fnOf "heaps_of" "heaps_of" (defArgs s_heaps_of) (defBody s_heaps_of) (defScope s_heaps_of) .none kV26 dc26 pm26 an26 cd26 ct26 | 27 => PySem.W.fnOf "moved" "moved" (defArgs s_moved) (defBody s_moved) (defScope s_moved) .none kV27 dc27 pm27 an27 cd27 ct27 | 28 => PySem.W.fnOf "from_on" "Tally.from_on" (defArgs s_Tally_from_on) (defBody s_Tally_from_on) (defScope s_Tally_from_on) .none kV28 dc28 pm28 an28 cd28 ct28 | 29 => PySem.W.fnOf "below" "Tally.below" (defArgs s_Tally_below) (defBody s_Tally_below) (defScope s_Tally_below) .none kV29 dc29 pm29 an29 cd29 ct29 | 30 => PySem.W.fnOf "window" "Asks.window" (defArgs s_Asks_window) (defBody s_Asks_window) (defScope s_Asks_window) .none kV30 dc30 pm30 an30 cd30 ct30 | 31 => PySem.W.fnOf "twice_lengths" "twice_lengths" (defArgs s_twice_lengths) (defBody s_twice_lengths) (defScope s_twice_lengths) .none kV31 dc31 pm31 an31 cd31 ct31 | 32 => PySem.W.fnOf "twice" "twice" (defArgs s_twice) (defBody s_twice) (defScope s_twice) .none kV32 dc32 pm32 an32 cd32 ct32 | 33 => PySem.W.fnOf "_law_cell_at" "_law_cell_at" (defArgs s__law_cell_at) (defBody s__law_cell_at) (defScope s__law_cell_at) .none kV33 dc33 pm33 an33 cd33 ct33 | 34 => PySem.W.fnOf "_law_great" "_law_great" (defArgs s__law_great) (defBody s__law_great) (defScope s__law_great) .none kV34 dc34 pm34 an34 cd34 ct34 | 35 => PySem.W.fnOf "_law_letter" "_law_letter" (defArgs s__law_letter) (defBody s__law_letter) (defScope s__law_letter) .none kV35 dc35 pm35 an35 cd35 ct35 | 36 => PySem.W.fnOf "_law_row" "_law_row" (defArgs s__law_row) (defBody s__law_row) (defScope s__law_row) .none kV36 dc36 pm36 an36 cd36 ct36 | 37 => PySem.W.fnOf "_law_list" "_law_list" (defArgs s__law_list) (defBody s__law_list) (defScope s__law_list) .none kV37 dc37 pm37 an37 cd37 ct37 | 38 => PySem.W.fnOf "_law_heaps" "_law_heaps" (defArgs s__law_heaps) (defBody s__law_heaps) (defScope s__law_heaps) .none kV38 dc38 pm38 an38 cd38 ct38 | 39 => PySem.W.fnOf "_law_new" "_law_new" (defArgs s__law_new) (defBody s__law_new) (defScope s__law_new) .none kV39 dc39 pm39 an39 cd39 ct39 | 40 => PySem.W.fnOf "_law_heaps_at" "_law_heaps_at" (defArgs s__law_heaps_at) (defBody s__law_heaps_at) (defScope s__law_heaps_at) .none kV40 dc40 pm40 an40 cd40 ct40 | 41 => PySem.W.fnOf "_law_rising" "_law_rising" (defArgs s__law_rising) (defBody s__law_rising) (defScope s__law_rising) .none kV41 dc41 pm41 an41 cd41 ct41 | 42 => PySem.W.fnOf "_law_same" "_law_same" (defArgs s__law_same) (defBody s__law_same) (defScope s__law_same) .none kV42 dc42 pm42 an42 cd42 ct42 | 43 => PySem.W.fnOf "_law_told" "_law_told" (defArgs s__law_told) (defBody s__law_told) (defScope s__law_told) .none kV43 dc43 pm43 an43 cd43 ct43 | 44 => PySem.W.fnOf "_law_lengths" "_law_lengths" (defArgs s__law_lengths) (defBody s__law_lengths) (defScope s__law_lengths) .none kV44 dc44 pm44 an44 cd44 ct44 | 45 => PySem.W.fnOf "_law_refused" "_law_refused" (defArgs s__law_refused) (defBody s__law_refused) (defScope s__law_refused) .none kV45 dc45 pm45 an45 cd45 ct45 | 46 => PySem.W.fnOf "law" "law" (defArgs s_law) (defBody s_law) (defScope s_law) .none kV46 dc46 pm46 an46 cd46 ct46 | _ => PySem.W.fnOf "is_whole" "is_whole" (defArgs s_is_whole) (defBody s_is_whole) (defScope s_is_whole) .none kV0 dc0 pm0 an0 cd0 ct0) (fun i => match i with | 0 => t_0 | 1 => t_1 | 2 => t_2 | 3 => t_3 | _ => t_0) base (fun i => match i with | 0 => (cc20, PT20) | _ => (cc20, PT20)) := {
    d_is_whole := df_mk X G a0 l0 c0 k0 (fun _ _ _ _ _ _ us hl => match us, hl with | [_], _ => rfl)
    d_is_within := df_mk X G a1 l1 c1 k1 (fun _ _ _ _ _ _ us hl => match us, hl with | [_, _, _], _ => rfl)
    d_is_row := df_mk X G a2 l2 c2 k2 (fun _ _ _ _ _ _ us hl => match us, hl with | [_], _ => rfl)
    d_is_plain := df_mk X G a3 l3 c3 k3 (fun _ _ _ _ _ _ us hl => match us, hl with | [_], _ => rfl)
    d_need_row := df_mk X G a4 l4 c4 k4 (fun _ _ _ _ _ _ us hl => match us, hl with | [_], _ => rfl)
    d_need_rows := df_mk X G a5 l5 c5 k5 (fun _ _ _ _ _ _ us hl => match us, hl with | [_, _], _ => rfl)
    d_need_plain := df_mk X G a6 l6 c6 k6 (fun _ _ _ _ _ _ us hl => match us, hl with | [_], _ => rfl)
    d_need_span := df_mk X G a7 l7 c7 k7 (fun _ _ _ _ _ _ us hl => match us, hl with | [_, _, _], _ => rfl)
    d_places_of := df_mk X G a8 l8 c8 k8 (fun _ _ _ _ _ _ us hl => match us, hl with | [_], _ => rfl)
    d_led := df_mk X G a9 l9 c9 k9 (fun _ _ _ _ _ _ us hl => match us, hl with | [_, _, _], _ => rfl)
    d_is_turning := df_mk X G a10 l10 c10 k10 (fun _ _ _ _ _ _ us hl => match us, hl with | [_], _ => rfl)
    d_need_turning := df_mk X G a11 l11 c11 k11 (fun _ _ _ _ _ _ us hl => match us, hl with | [_], _ => rfl)
    d_need_place := df_mk X G a12 l12 c12 k12 (fun _ _ _ _ _ _ us hl => match us, hl with | [_, _], _ => rfl)
    d_opposite := df_mk X G a13 l13 c13 k13 (fun _ _ _ _ _ _ us hl => match us, hl with | [_], _ => rfl)
    d_mixed := df_mk X G a14 l14 c14 k14 (fun _ _ _ _ _ _ us hl => match us, hl with | [_, _], _ => rfl)
    d_floors_of := df_mk X G a15 l15 c15 k15 (fun _ _ _ _ _ _ us hl => match us, hl with | [_], _ => rfl)
    d_lesser := df_mk X G a16 l16 c16 k16 (fun _ _ _ _ _ _ us hl => match us, hl with | [_, _], _ => rfl)
    d_need_window := df_mk X G a17 l17 c17 k17 (fun _ _ _ _ _ _ us hl => match us, hl with | [_, _, _], _ => rfl)
    d_Tally_init := dm_mk a18 i18 l18 c18 k18 (fun _ _ _ _ _ _ us hl => match us, hl with | [_, _], _ => rfl)
    d_Asks_init := dm_mk a19 i19 l19 c19 k19 (fun _ _ _ _ _ _ us hl => match us, hl with | [_, _, _], _ => rfl)
    d_Board_init := dm_mk a20 i20 l20 c20 k20 (fun _ _ _ _ _ _ us hl => match us, hl with | [_, _, _], _ => rfl)
    fc_Board_init := ⟨⟨_, _, _, _, _, _, _, _, rfl, l20, c20⟩⟩
    tb_Board_init := hTB (cc20, PT20) (by simp)
    d_Board_lines := dm_mk a21 i21 l21 c21 k21 (fun _ _ _ _ _ _ us hl => match us, hl with | [_], _ => rfl)
    d_asks_of := df_mk X G a22 l22 c22 k22 (fun _ _ _ _ _ _ us hl => match us, hl with | [_, _], _ => rfl)
    d_lengths := df_mk X G a23 l23 c23 k23 (fun _ _ _ _ _ _ us hl => match us, hl with | [_, _], _ => rfl)
    d_thread_of := df_mk X G a24 l24 c24 k24 (fun _ _ _ _ _ _ us hl => match us, hl with | [_, _], _ => rfl)
    d_pairs_of := df_mk X G a25 l25 c25 k25 (fun _ _ _ _ _ _ us hl => match us, hl with | [_, _], _ => rfl)
    d_heaps_of := df_mk X G a26 l26 c26 k26 (fun _ _ _ _ _ _ us hl => match us, hl with | [_, _], _ => rfl)
    d_moved := df_mk X G a27 l27 c27 k27 (fun _ _ _ _ _ _ us hl => match us, hl with | [_, _, _], _ => rfl)
    d_Tally_from_on := dm_mk a28 i28 l28 c28 k28 (fun _ _ _ _ _ _ us hl => match us, hl with | [_, _, _], _ => rfl)
    d_Tally_below := dm_mk a29 i29 l29 c29 k29 (fun _ _ _ _ _ _ us hl => match us, hl with | [_, _, _], _ => rfl)
    d_Asks_window := dm_mk a30 i30 l30 c30 k30 (fun _ _ _ _ _ _ us hl => match us, hl with | [_, _, _, _, _], _ => rfl)
    d_twice_lengths := df_mk X G a31 l31 c31 k31 (fun _ _ _ _ _ _ us hl => match us, hl with | [_], _ => rfl)
    d_twice := df_mk X G a32 l32 c32 k32 (fun _ _ _ _ _ _ us hl => match us, hl with | [_], _ => rfl)
    d__law_cell_at := df_mk X G a33 l33 c33 k33 (fun _ _ _ _ _ _ us hl => match us, hl with | [_, _], _ => rfl)
    d__law_great := df_mk X G a34 l34 c34 k34 (fun _ _ _ _ _ _ us hl => match us, hl with | [_], _ => rfl)
    d__law_letter := df_mk X G a35 l35 c35 k35 (fun _ _ _ _ _ _ us hl => match us, hl with | [_], _ => rfl)
    d__law_row := df_mk X G a36 l36 c36 k36 (fun _ _ _ _ _ _ us hl => match us, hl with | [_, _], _ => rfl)
    d__law_list := df_mk X G a37 l37 c37 k37 (fun _ _ _ _ _ _ us hl => match us, hl with | [_, _, _], _ => rfl)
    d__law_heaps := df_mk X G a38 l38 c38 k38 (fun _ _ _ _ _ _ us hl => match us, hl with | [_, _], _ => rfl)
    d__law_new := df_mk X G a39 l39 c39 k39 (fun _ _ _ _ _ _ us hl => match us, hl with | [_], _ => rfl)
    d__law_heaps_at := df_mk X G a40 l40 c40 k40 (fun _ _ _ _ _ _ us hl => match us, hl with | [_, _], _ => rfl)
    d__law_rising := df_mk X G a41 l41 c41 k41 (fun _ _ _ _ _ _ us hl => match us, hl with | [_, _, _], _ => rfl)
    d__law_same := df_mk X G a42 l42 c42 k42 (fun _ _ _ _ _ _ us hl => match us, hl with | [_, _], _ => rfl)
    d__law_told := df_mk X G a43 l43 c43 k43 (fun _ _ _ _ _ _ us hl => match us, hl with | [_, _], _ => rfl)
    d__law_lengths := df_mk X G a44 l44 c44 k44 (fun _ _ _ _ _ _ us hl => match us, hl with | [_, _], _ => rfl)
    d__law_refused := df_mk X G a45 l45 c45 k45 (fun _ _ _ _ _ _ us hl => match us, hl with | [_, _], _ => rfl)
    d_law := df_mk X G a46 l46 c46 k46 (fun _ _ _ _ _ _ us hl => match us, hl with | [_], _ => rfl)
    c_MOST_SIGNS := PySem.W.mg_of X G cn0
    c_LETTERS := PySem.W.mg_of X G cn1
    c_MOST_LETTERS := PySem.W.mg_of X G cn2
    c_MOST_LINES := PySem.W.mg_of X G cn3
    b_isinstance := PySem.W.mg_none_of X G z0
    b_int := PySem.W.mg_none_of X G z1
    b_bool := PySem.W.mg_none_of X G z2
    b_all := PySem.W.mg_none_of X G z3
    b_str := PySem.W.mg_none_of X G z4
    b_len := PySem.W.mg_none_of X G z5
    b_enumerate := PySem.W.mg_none_of X G z6
    b_list := PySem.W.mg_none_of X G z7
    b_range := PySem.W.mg_none_of X G z8
    b_tuple := PySem.W.mg_none_of X G z9
    b_zip := PySem.W.mg_none_of X G z10
    b_max := PySem.W.mg_none_of X G z11
    b_ord := PySem.W.mg_none_of X G z12
    b_any := PySem.W.mg_none_of X G z13
    b_ValueError := PySem.W.mg_none_of X G z14
    e_NoPlain := ⟨PySem.W.mg_of X G g_NoPlain, sb_NoPlain, hd_NoPlain, ty_NoPlain⟩
    e_PaneError := ⟨PySem.W.mg_of X G g_PaneError, sb_PaneError, hd_PaneError, ty_PaneError⟩
    e_NoRow := ⟨PySem.W.mg_of X G g_NoRow, sb_NoRow, hd_NoRow, ty_NoRow⟩
    g_NoRow := PySem.W.mg_of X G g_NoRow
    o_NoRow := ⟨⟨_, _, _, _, _, _, _, _, _, _, _, _, _, _, _, lk_NoRow, rfl⟩, f_setattr_NoRow, sb_NoRow, ty_NoRow, k_NoRow⟩
    n_NoRow_found := f_found_NoRow
    i_NoRow := ini_mk ini_NoRow int_NoRow il_NoRow ic_NoRow ik_NoRow (fun _ _ _ _ _ _ us hl => match us, hl with | [_, _], _ => rfl)
    x_NoRow := xi_mk f_getattribute_NoRow f_getattr_NoRow sb_NoRow hd_NoRow f_class_NoRow ct_ cu_ cm_NoRow
    s_NoRow_NoPlain := s_NoRow_NoPlain
    s_NoRow_PaneError := s_NoRow_PaneError
    s_NoRow_NoRow := s_NoRow_NoRow
    v_NoRow := v_NoRow
    g_NoPlain := PySem.W.mg_of X G g_NoPlain
    o_NoPlain := ⟨⟨_, _, _, _, _, _, _, _, _, _, _, _, _, _, _, lk_NoPlain, rfl⟩, f_setattr_NoPlain, sb_NoPlain, ty_NoPlain, k_NoPlain⟩
    n_NoPlain_found := f_found_NoPlain
    i_NoPlain := ini_mk ini_NoPlain int_NoPlain il_NoPlain ic_NoPlain ik_NoPlain (fun _ _ _ _ _ _ us hl => match us, hl with | [_, _], _ => rfl)
    x_NoPlain := xi_mk f_getattribute_NoPlain f_getattr_NoPlain sb_NoPlain hd_NoPlain f_class_NoPlain ct_ cu_ cm_NoPlain
    s_NoPlain_NoPlain := s_NoPlain_NoPlain
    s_NoPlain_PaneError := s_NoPlain_PaneError
    s_NoPlain_NoRow := s_NoPlain_NoRow
    v_NoPlain := v_NoPlain
    g_NoSpan := PySem.W.mg_of X G g_NoSpan
    o_NoSpan := ⟨⟨_, _, _, _, _, _, _, _, _, _, _, _, _, _, _, lk_NoSpan, rfl⟩, f_setattr_NoSpan, sb_NoSpan, ty_NoSpan, k_NoSpan⟩
    n_NoSpan_begin := f_begin_NoSpan
    n_NoSpan_end := f_end_NoSpan
    i_NoSpan := ini_mk ini_NoSpan int_NoSpan il_NoSpan ic_NoSpan ik_NoSpan (fun _ _ _ _ _ _ us hl => match us, hl with | [_, _, _], _ => rfl)
    x_NoSpan := xi_mk f_getattribute_NoSpan f_getattr_NoSpan sb_NoSpan hd_NoSpan f_class_NoSpan ct_ cu_ cm_NoSpan
    s_NoSpan_NoPlain := s_NoSpan_NoPlain
    s_NoSpan_PaneError := s_NoSpan_PaneError
    s_NoSpan_NoRow := s_NoSpan_NoRow
    v_NoSpan := v_NoSpan
    g_NoTurning := PySem.W.mg_of X G g_NoTurning
    o_NoTurning := ⟨⟨_, _, _, _, _, _, _, _, _, _, _, _, _, _, _, lk_NoTurning, rfl⟩, f_setattr_NoTurning, sb_NoTurning, ty_NoTurning, k_NoTurning⟩
    n_NoTurning_found := f_found_NoTurning
    i_NoTurning := ini_mk ini_NoTurning int_NoTurning il_NoTurning ic_NoTurning ik_NoTurning (fun _ _ _ _ _ _ us hl => match us, hl with | [_, _], _ => rfl)
    x_NoTurning := xi_mk f_getattribute_NoTurning f_getattr_NoTurning sb_NoTurning hd_NoTurning f_class_NoTurning ct_ cu_ cm_NoTurning
    s_NoTurning_NoPlain := s_NoTurning_NoPlain
    s_NoTurning_PaneError := s_NoTurning_PaneError
    s_NoTurning_NoRow := s_NoTurning_NoRow
    v_NoTurning := v_NoTurning
    g_NoPlace := PySem.W.mg_of X G g_NoPlace
    o_NoPlace := ⟨⟨_, _, _, _, _, _, _, _, _, _, _, _, _, _, _, lk_NoPlace, rfl⟩, f_setattr_NoPlace, sb_NoPlace, ty_NoPlace, k_NoPlace⟩
    n_NoPlace_found := f_found_NoPlace
    i_NoPlace := ini_mk ini_NoPlace int_NoPlace il_NoPlace ic_NoPlace ik_NoPlace (fun _ _ _ _ _ _ us hl => match us, hl with | [_, _], _ => rfl)
    x_NoPlace := xi_mk f_getattribute_NoPlace f_getattr_NoPlace sb_NoPlace hd_NoPlace f_class_NoPlace ct_ cu_ cm_NoPlace
    s_NoPlace_NoPlain := s_NoPlace_NoPlain
    s_NoPlace_PaneError := s_NoPlace_PaneError
    s_NoPlace_NoRow := s_NoPlace_NoRow
    v_NoPlace := v_NoPlace
    bi_PaneError := ⟨PySem.W.mg_of X G g_PaneError, ba_PaneError, br_PaneError, bf_PaneError⟩
    mg_Tally := PySem.W.mg_of X G g_Tally
    cl_Tally := ⟨pg_Tally, hd_Tally, po_Tally, sa_Tally⟩
    na_Tally_many := na_Tally_many
    na_Tally_floors := na_Tally_floors
    m_Tally := ⟨mk_Tally, a18, i18, kc_Tally⟩
    mg_Asks := PySem.W.mg_of X G g_Asks
    cl_Asks := ⟨pg_Asks, hd_Asks, po_Asks, sa_Asks⟩
    na_Asks_tall := na_Asks_tall
    na_Asks_wide := na_Asks_wide
    na_Asks_tally := na_Asks_tally
    na_Asks_goals := na_Asks_goals
    na_Asks_starts := na_Asks_starts
    m_Asks := ⟨mk_Asks, a19, i19, kc_Asks⟩
    mg_Board := PySem.W.mg_of X G g_Board
    cl_Board := ⟨pg_Board, hd_Board, po_Board, sa_Board⟩
    na_Board_left_row := na_Board_left_row
    na_Board_upper_row := na_Board_upper_row
    na_Board_meetings := na_Board_meetings
    na_Board_signs := na_Board_signs
    na_Board_goals := na_Board_goals
    m_Board := ⟨mk_Board, a20, i20, kc_Board⟩
    fg_twice := (by rw [clsA_of a32]; exact PySem.W.mg_of X G a32)
    fa_twice := (clsA_of a32).symm
    fg_twice_lengths := (by rw [clsA_of a31]; exact PySem.W.mg_of X G a31)
    fa_twice_lengths := (clsA_of a31).symm
  }
  exact ok_law T
end My
open PySem PySem.W PyProof.Rows in
set_option maxRecDepth 100000 in
set_option maxHeartbeats 0 in
theorem PySem.Challenge.cw_panethread_k80_said_twice_holds : PySem.Challenge.rw_panethread_k80_said_twice.Holds := by
  w_on; o_law; k_head; (case hw => w_witness2)
  k_fill
  refine LamX.walk_ofTs (l := PySem.Challenge.rw_panethread_k80_said_twice) (n := 63) (k := 13) (x := "_law_script") (CX := fun _ => L2.CX0) rfl (by decide) rfl ⟨rfl, by decide, by decide⟩ (fun w h Y => PySem.W.km_in_of Y) ?F (fun _ _ _ _ _ z => z)
  case F =>
    intro w mg fa h Y KX G hmg
    refine' My.all_mk KX G hmg ?a0 ?l0 ?c0 ?k0 ?a1 ?l1 ?c1 ?k1 ?a2 ?l2 ?c2 ?k2 ?a3 ?l3 ?c3 ?k3 ?a4 ?l4 ?c4 ?k4 ?a5 ?l5 ?c5 ?k5 ?a6 ?l6 ?c6 ?k6 ?a7 ?l7 ?c7 ?k7 ?a8 ?l8 ?c8 ?k8 ?a9 ?l9 ?c9 ?k9 ?a10 ?l10 ?c10 ?k10 ?a11 ?l11 ?c11 ?k11 ?a12 ?l12 ?c12 ?k12 ?a13 ?l13 ?c13 ?k13 ?a14 ?l14 ?c14 ?k14 ?a15 ?l15 ?c15 ?k15 ?a16 ?l16 ?c16 ?k16 ?a17 ?l17 ?c17 ?k17 ?a18 ?i18 ?l18 ?c18 ?k18 ?a19 ?i19 ?l19 ?c19 ?k19 ?a20 ?i20 ?l20 ?c20 ?k20 ?h20 ?p20 ?g20 ?n20 ?t20 ?a21 ?i21 ?l21 ?c21 ?k21 ?a22 ?l22 ?c22 ?k22 ?a23 ?l23 ?c23 ?k23 ?a24 ?l24 ?c24 ?k24 ?a25 ?l25 ?c25 ?k25 ?a26 ?l26 ?c26 ?k26 ?a27 ?l27 ?c27 ?k27 ?a28 ?i28 ?l28 ?c28 ?k28 ?a29 ?i29 ?l29 ?c29 ?k29 ?a30 ?i30 ?l30 ?c30 ?k30 ?a31 ?l31 ?c31 ?k31 ?a32 ?l32 ?c32 ?k32 ?a33 ?l33 ?c33 ?k33 ?a34 ?l34 ?c34 ?k34 ?a35 ?l35 ?c35 ?k35 ?a36 ?l36 ?c36 ?k36 ?a37 ?l37 ?c37 ?k37 ?a38 ?l38 ?c38 ?k38 ?a39 ?l39 ?c39 ?k39 ?a40 ?l40 ?c40 ?k40 ?a41 ?l41 ?c41 ?k41 ?a42 ?l42 ?c42 ?k42 ?a43 ?l43 ?c43 ?k43 ?a44 ?l44 ?c44 ?k44 ?a45 ?l45 ?c45 ?k45 ?a46 ?l46 ?c46 ?k46 ?cn0 ?cn1 ?cn2 ?cn3 ?z0 ?z1 ?z2 ?z3 ?z4 ?z5 ?z6 ?z7 ?z8 ?z9 ?z10 ?z11 ?z12 ?z13 ?z14 ?g_NoRow ?g_NoPlain ?g_NoSpan ?g_NoTurning ?g_NoPlace ?g_PaneError ?sb_NoPlain ?hd_NoPlain ?ty_NoPlain ?sb_PaneError ?hd_PaneError ?ty_PaneError ?sb_NoRow ?hd_NoRow ?ty_NoRow ?lk_NoRow ?f_setattr_NoRow ?k_NoRow ?f_found_NoRow ?ini_NoRow ?int_NoRow ?il_NoRow ?ic_NoRow ?ik_NoRow ?ct_ ?cu_ ?f_getattribute_NoRow ?f_getattr_NoRow ?f_class_NoRow ?cm_NoRow ?s_NoRow_NoPlain ?s_NoRow_PaneError ?s_NoRow_NoRow ?v_NoRow ?lk_NoPlain ?f_setattr_NoPlain ?k_NoPlain ?f_found_NoPlain ?ini_NoPlain ?int_NoPlain ?il_NoPlain ?ic_NoPlain ?ik_NoPlain ?f_getattribute_NoPlain ?f_getattr_NoPlain ?f_class_NoPlain ?cm_NoPlain ?s_NoPlain_NoPlain ?s_NoPlain_PaneError ?s_NoPlain_NoRow ?v_NoPlain ?lk_NoSpan ?f_setattr_NoSpan ?sb_NoSpan ?ty_NoSpan ?k_NoSpan ?f_begin_NoSpan ?f_end_NoSpan ?ini_NoSpan ?int_NoSpan ?il_NoSpan ?ic_NoSpan ?ik_NoSpan ?f_getattribute_NoSpan ?f_getattr_NoSpan ?hd_NoSpan ?f_class_NoSpan ?cm_NoSpan ?s_NoSpan_NoPlain ?s_NoSpan_PaneError ?s_NoSpan_NoRow ?v_NoSpan ?lk_NoTurning ?f_setattr_NoTurning ?sb_NoTurning ?ty_NoTurning ?k_NoTurning ?f_found_NoTurning ?ini_NoTurning ?int_NoTurning ?il_NoTurning ?ic_NoTurning ?ik_NoTurning ?f_getattribute_NoTurning ?f_getattr_NoTurning ?hd_NoTurning ?f_class_NoTurning ?cm_NoTurning ?s_NoTurning_NoPlain ?s_NoTurning_PaneError ?s_NoTurning_NoRow ?v_NoTurning ?lk_NoPlace ?f_setattr_NoPlace ?sb_NoPlace ?ty_NoPlace ?k_NoPlace ?f_found_NoPlace ?ini_NoPlace ?int_NoPlace ?il_NoPlace ?ic_NoPlace ?ik_NoPlace ?f_getattribute_NoPlace ?f_getattr_NoPlace ?hd_NoPlace ?f_class_NoPlace ?cm_NoPlace ?s_NoPlace_NoPlain ?s_NoPlace_PaneError ?s_NoPlace_NoRow ?v_NoPlace ?ba_PaneError ?br_PaneError ?bf_PaneError ?g_Tally ?pg_Tally ?hd_Tally ?po_Tally ?sa_Tally ?na_Tally_many ?na_Tally_floors ?mk_Tally ?kc_Tally ?g_Asks ?pg_Asks ?hd_Asks ?po_Asks ?sa_Asks ?na_Asks_tall ?na_Asks_wide ?na_Asks_tally ?na_Asks_goals ?na_Asks_starts ?mk_Asks ?kc_Asks ?g_Board ?pg_Board ?hd_Board ?po_Board ?sa_Board ?na_Board_left_row ?na_Board_upper_row ?na_Board_meetings ?na_Board_signs ?na_Board_goals ?mk_Board ?kc_Board
    (case g_NoRow => k_is)
    (case g_NoPlain => k_is)
    (case g_NoSpan => k_is)
    (case g_NoTurning => k_is)
    (case g_NoPlace => k_is)
    (case g_PaneError => k_is)
    (case g_Tally => k_is)
    (case g_Asks => k_is)
    (case g_Board => k_is)
    (case a0 => k_is)
    (case l0 => k_is)
    (case c0 => k_is)
    (case k0 => k_is)
    (case a1 => k_is)
    (case l1 => k_is)
    (case c1 => k_is)
    (case k1 => k_is)
    (case a2 => k_is)
    (case l2 => k_is)
    (case c2 => k_is)
    (case k2 => k_is)
    (case a3 => k_is)
    (case l3 => k_is)
    (case c3 => k_is)
    (case k3 => k_is)
    (case a4 => k_is)
    (case l4 => k_is)
    (case c4 => k_is)
    (case k4 => k_is)
    (case a5 => k_is)
    (case l5 => k_is)
    (case c5 => k_is)
    (case k5 => k_is)
    (case a6 => k_is)
    (case l6 => k_is)
    (case c6 => k_is)
    (case k6 => k_is)
    (case a7 => k_is)
    (case l7 => k_is)
    (case c7 => k_is)
    (case k7 => k_is)
    (case a8 => k_is)
    (case l8 => k_is)
    (case c8 => k_is)
    (case k8 => k_is)
    (case a9 => k_is)
    (case l9 => k_is)
    (case c9 => k_is)
    (case k9 => k_is)
    (case a10 => k_is)
    (case l10 => k_is)
    (case c10 => k_is)
    (case k10 => k_is)
    (case a11 => k_is)
    (case l11 => k_is)
    (case c11 => k_is)
    (case k11 => k_is)
    (case a12 => k_is)
    (case l12 => k_is)
    (case c12 => k_is)
    (case k12 => k_is)
    (case a13 => k_is)
    (case l13 => k_is)
    (case c13 => k_is)
    (case k13 => k_is)
    (case a14 => k_is)
    (case l14 => k_is)
    (case c14 => k_is)
    (case k14 => k_is)
    (case a15 => k_is)
    (case l15 => k_is)
    (case c15 => k_is)
    (case k15 => k_is)
    (case a16 => k_is)
    (case l16 => k_is)
    (case c16 => k_is)
    (case k16 => k_is)
    (case a17 => k_is)
    (case l17 => k_is)
    (case c17 => k_is)
    (case k17 => k_is)
    (case a18 => k_is)
    (case i18 => k_is)
    (case l18 => k_is)
    (case c18 => k_is)
    (case k18 => k_is)
    (case a19 => k_is)
    (case i19 => k_is)
    (case l19 => k_is)
    (case c19 => k_is)
    (case k19 => k_is)
    (case a20 => k_is)
    (case i20 => k_is)
    (case l20 => k_is)
    (case c20 => k_is)
    (case k20 => k_is)
    (case h20 => k_is)
    (case p20 => exact rfl)
    (case g20 => kernel_rfl)
    (case n20 => kernel_rfl)
    (case t20 => exact PySem.W.km_tabs_of Y _ (by decide))
    (case a21 => k_is)
    (case i21 => k_is)
    (case l21 => k_is)
    (case c21 => k_is)
    (case k21 => k_is)
    (case a22 => k_is)
    (case l22 => k_is)
    (case c22 => k_is)
    (case k22 => k_is)
    (case a23 => k_is)
    (case l23 => k_is)
    (case c23 => k_is)
    (case k23 => k_is)
    (case a24 => k_is)
    (case l24 => k_is)
    (case c24 => k_is)
    (case k24 => k_is)
    (case a25 => k_is)
    (case l25 => k_is)
    (case c25 => k_is)
    (case k25 => k_is)
    (case a26 => k_is)
    (case l26 => k_is)
    (case c26 => k_is)
    (case k26 => k_is)
    (case a27 => k_is)
    (case l27 => k_is)
    (case c27 => k_is)
    (case k27 => k_is)
    (case a28 => k_is)
    (case i28 => k_is)
    (case l28 => k_is)
    (case c28 => k_is)
    (case k28 => k_is)
    (case a29 => k_is)
    (case i29 => k_is)
    (case l29 => k_is)
    (case c29 => k_is)
    (case k29 => k_is)
    (case a30 => k_is)
    (case i30 => k_is)
    (case l30 => k_is)
    (case c30 => k_is)
    (case k30 => k_is)
    (case a31 => k_is)
    (case l31 => k_is)
    (case c31 => k_is)
    (case k31 => k_is)
    (case a32 => k_is)
    (case l32 => k_is)
    (case c32 => k_is)
    (case k32 => k_is)
    (case a33 => k_is)
    (case l33 => k_is)
    (case c33 => k_is)
    (case k33 => k_is)
    (case a34 => k_is)
    (case l34 => k_is)
    (case c34 => k_is)
    (case k34 => k_is)
    (case a35 => k_is)
    (case l35 => k_is)
    (case c35 => k_is)
    (case k35 => k_is)
    (case a36 => k_is)
    (case l36 => k_is)
    (case c36 => k_is)
    (case k36 => k_is)
    (case a37 => k_is)
    (case l37 => k_is)
    (case c37 => k_is)
    (case k37 => k_is)
    (case a38 => k_is)
    (case l38 => k_is)
    (case c38 => k_is)
    (case k38 => k_is)
    (case a39 => k_is)
    (case l39 => k_is)
    (case c39 => k_is)
    (case k39 => k_is)
    (case a40 => k_is)
    (case l40 => k_is)
    (case c40 => k_is)
    (case k40 => k_is)
    (case a41 => k_is)
    (case l41 => k_is)
    (case c41 => k_is)
    (case k41 => k_is)
    (case a42 => k_is)
    (case l42 => k_is)
    (case c42 => k_is)
    (case k42 => k_is)
    (case a43 => k_is)
    (case l43 => k_is)
    (case c43 => k_is)
    (case k43 => k_is)
    (case a44 => k_is)
    (case l44 => k_is)
    (case c44 => k_is)
    (case k44 => k_is)
    (case a45 => k_is)
    (case l45 => k_is)
    (case c45 => k_is)
    (case k45 => k_is)
    (case a46 => k_is)
    (case l46 => k_is)
    (case c46 => k_is)
    (case k46 => k_is)
    (case cn0 => k_is)
    (case cn1 => k_is)
    (case cn2 => k_is)
    (case cn3 => k_is)
    (case z0 => k_is)
    (case z1 => k_is)
    (case z2 => k_is)
    (case z3 => k_is)
    (case z4 => k_is)
    (case z5 => k_is)
    (case z6 => k_is)
    (case z7 => k_is)
    (case z8 => k_is)
    (case z9 => k_is)
    (case z10 => k_is)
    (case z11 => k_is)
    (case z12 => k_is)
    (case z13 => k_is)
    (case z14 => k_is)
    (case sb_NoPlain => k_is)
    (case hd_NoPlain => k_is)
    (case ty_NoPlain => k_is)
    (case sb_PaneError => k_is)
    (case hd_PaneError => k_is)
    (case ty_PaneError => k_is)
    (case sb_NoRow => k_is)
    (case hd_NoRow => k_is)
    (case ty_NoRow => k_is)
    (case lk_NoRow => k_is)
    (case f_setattr_NoRow => k_is)
    (case k_NoRow => k_is)
    (case f_found_NoRow => k_is)
    (case ini_NoRow => k_is)
    (case int_NoRow => k_is)
    (case il_NoRow => k_is)
    (case ic_NoRow => k_is)
    (case ik_NoRow => k_is)
    (case ct_ => k_is)
    (case cu_ => k_is)
    (case f_getattribute_NoRow => k_is)
    (case f_getattr_NoRow => k_is)
    (case f_class_NoRow => k_is)
    (case cm_NoRow => k_is)
    (case s_NoRow_NoPlain => k_is)
    (case s_NoRow_PaneError => k_is)
    (case s_NoRow_NoRow => k_is)
    (case v_NoRow => k_is)
    (case lk_NoPlain => k_is)
    (case f_setattr_NoPlain => k_is)
    (case k_NoPlain => k_is)
    (case f_found_NoPlain => k_is)
    (case ini_NoPlain => k_is)
    (case int_NoPlain => k_is)
    (case il_NoPlain => k_is)
    (case ic_NoPlain => k_is)
    (case ik_NoPlain => k_is)
    (case f_getattribute_NoPlain => k_is)
    (case f_getattr_NoPlain => k_is)
    (case f_class_NoPlain => k_is)
    (case cm_NoPlain => k_is)
    (case s_NoPlain_NoPlain => k_is)
    (case s_NoPlain_PaneError => k_is)
    (case s_NoPlain_NoRow => k_is)
    (case v_NoPlain => k_is)
    (case lk_NoSpan => k_is)
    (case f_setattr_NoSpan => k_is)
    (case sb_NoSpan => k_is)
    (case ty_NoSpan => k_is)
    (case k_NoSpan => k_is)
    (case f_begin_NoSpan => k_is)
    (case f_end_NoSpan => k_is)
    (case ini_NoSpan => k_is)
    (case int_NoSpan => k_is)
    (case il_NoSpan => k_is)
    (case ic_NoSpan => k_is)
    (case ik_NoSpan => k_is)
    (case f_getattribute_NoSpan => k_is)
    (case f_getattr_NoSpan => k_is)
    (case hd_NoSpan => k_is)
    (case f_class_NoSpan => k_is)
    (case cm_NoSpan => k_is)
    (case s_NoSpan_NoPlain => k_is)
    (case s_NoSpan_PaneError => k_is)
    (case s_NoSpan_NoRow => k_is)
    (case v_NoSpan => k_is)
    (case lk_NoTurning => k_is)
    (case f_setattr_NoTurning => k_is)
    (case sb_NoTurning => k_is)
    (case ty_NoTurning => k_is)
    (case k_NoTurning => k_is)
    (case f_found_NoTurning => k_is)
    (case ini_NoTurning => k_is)
    (case int_NoTurning => k_is)
    (case il_NoTurning => k_is)
    (case ic_NoTurning => k_is)
    (case ik_NoTurning => k_is)
    (case f_getattribute_NoTurning => k_is)
    (case f_getattr_NoTurning => k_is)
    (case hd_NoTurning => k_is)
    (case f_class_NoTurning => k_is)
    (case cm_NoTurning => k_is)
    (case s_NoTurning_NoPlain => k_is)
    (case s_NoTurning_PaneError => k_is)
    (case s_NoTurning_NoRow => k_is)
    (case v_NoTurning => k_is)
    (case lk_NoPlace => k_is)
    (case f_setattr_NoPlace => k_is)
    (case sb_NoPlace => k_is)
    (case ty_NoPlace => k_is)
    (case k_NoPlace => k_is)
    (case f_found_NoPlace => k_is)
    (case ini_NoPlace => k_is)
    (case int_NoPlace => k_is)
    (case il_NoPlace => k_is)
    (case ic_NoPlace => k_is)
    (case ik_NoPlace => k_is)
    (case f_getattribute_NoPlace => k_is)
    (case f_getattr_NoPlace => k_is)
    (case hd_NoPlace => k_is)
    (case f_class_NoPlace => k_is)
    (case cm_NoPlace => k_is)
    (case s_NoPlace_NoPlain => k_is)
    (case s_NoPlace_PaneError => k_is)
    (case s_NoPlace_NoRow => k_is)
    (case v_NoPlace => k_is)
    (case ba_PaneError => k_is)
    (case br_PaneError => k_is)
    (case bf_PaneError => k_is)
    (case pg_Tally => k_is)
    (case hd_Tally => k_is)
    (case po_Tally => k_is)
    (case sa_Tally => k_is)
    (case na_Tally_many => k_is)
    (case na_Tally_floors => k_is)
    (case mk_Tally => k_is)
    (case kc_Tally => k_is)
    (case pg_Asks => k_is)
    (case hd_Asks => k_is)
    (case po_Asks => k_is)
    (case sa_Asks => k_is)
    (case na_Asks_tall => k_is)
    (case na_Asks_wide => k_is)
    (case na_Asks_tally => k_is)
    (case na_Asks_goals => k_is)
    (case na_Asks_starts => k_is)
    (case mk_Asks => k_is)
    (case kc_Asks => k_is)
    (case pg_Board => k_is)
    (case hd_Board => k_is)
    (case po_Board => k_is)
    (case sa_Board => k_is)
    (case na_Board_left_row => k_is)
    (case na_Board_upper_row => k_is)
    (case na_Board_meetings => k_is)
    (case na_Board_signs => k_is)
    (case na_Board_goals => k_is)
    (case mk_Board => k_is)
    (case kc_Board => k_is)
#print axioms PySem.Challenge.cw_panethread_k80_said_twice_holds
