import PyProof.Rows.All
import Wide.All
import OpenK.AllK
import Wide.FinOn
import HandS.ForMost
import HandS.ForExc
import HandS.IsInst
import HandS.Codes
import HandS.Evl
import KE.DataEq
import KE.GoesEnum
import HandS.ExcInit
import HandS.WordsExc
import HandS.ExcOwn
import HandS.TryElse
import HandS.ExcField
import HandS.ExcIs
import KE.KExcIs
import HandS.SetKeys
import HandS.SortRule
import HandS.SortInts
import HandS.TupLe
import PyProof.ReprRoads
import HandS.Ends
import PyProof.ReprLen
import HandS.DeepEq
import HandS.Conv
import HandS.Wide
import HandS.DictComp
import HandS.TupAny
import HandS.TupLen
import PyProof.FString5
import PyProof.StrLawsTight
import HandS.ExcValue
import HandS.Flt
import OpenK.KTop
import HandS.JoinGen
import HandS.NoneIn
import KE.DataMinMax
import KE.DatumOrd
import PyProof.DictMoreH
import HandS.Nested
import HandS.EndTab
import KE.KNestM
import HandS.StrMore
import PySem.Challenge.RW_panethread_k33_whole_no_two_cross_twice
set_option Elab.async false
set_option linter.all false
set_option maxRecDepth 100000
set_option maxHeartbeats 4000000
namespace Zb
open PySem PySem.Spec PyProof.Rows L2
def seqAt (H : Hp) (p : Addr) : Option (List V) := match H p with
  | some (.lst xs) => some xs
  | some (.tup xs) => some xs
  | some (.frz _ (.lst xs)) => some xs
  | some (.frz _ (.tup xs)) => some xs
  | _ => none
theorem seqAt_sq {K : PySem.W.Frag} {H : Hp} {p : Addr} {xs : List V} (h : seqAt H p = some xs) : SqL K H p xs ∨ SqT K H p xs := by
  unfold seqAt at h
  split at h
  · rename_i e; cases h; exact .inl (.inl (.inl e))
  · rename_i e; cases h; exact .inr (.inl (.inl e))
  · rename_i e; cases h; exact .inl (.inl (.inr ⟨_, e⟩))
  · rename_i e; cases h; exact .inr (.inl (.inr ⟨_, e⟩))
  · cases h
def lstAt (H : Hp) (p : Addr) : Option (List V) := match H p with
  | some (.lst xs) => some xs
  | some (.frz _ (.lst xs)) => some xs
  | _ => none
theorem lstAt_sq {K : PySem.W.Frag} {H : Hp} {p : Addr} {xs : List V} (h : lstAt H p = some xs) : SqL K H p xs := by
  unfold lstAt at h
  split at h
  · rename_i e; cases h; exact .inl (.inl e)
  · rename_i e; cases h; exact .inl (.inr ⟨_, e⟩)
  · cases h
def tupAt (H : Hp) (p : Addr) : Option (List V) := match H p with
  | some (.tup xs) => some xs
  | some (.frz _ (.tup xs)) => some xs
  | _ => none
theorem tupAt_sq {K : PySem.W.Frag} {H : Hp} {p : Addr} {xs : List V} (h : tupAt H p = some xs) : SqT K H p xs := by
  unfold tupAt at h
  split at h
  · rename_i e; cases h; exact .inl (.inl e)
  · rename_i e; cases h; exact .inl (.inr ⟨_, e⟩)
  · cases h
mutual
inductive Rp (H : Hp) : V → PyData → Prop
  | non : Rp H .non .none
  | bl (b : Bool) : Rp H (.bl b) (.bool b)
  | int (i : Int) : Rp H (.int i) (.int i)
  | str (x : Str) : Rp H (.str x) (.str x)
  | lst {a : Addr} {xs : List V} {ds : List PyData} : lstAt H a = some xs → RpA H xs ds → Rp H (.ref a) (.list ds)
  | tup {a : Addr} {xs : List V} {ds : List PyData} : tupAt H a = some xs → RpA H xs ds → Rp H (.ref a) (.tuple ds)
inductive RpA (H : Hp) : List V → List PyData → Prop
  | nil : RpA H [] []
  | cons {v : V} {vs : List V} {d : PyData} {ds : List PyData} : Rp H v d → RpA H vs ds → RpA H (v :: vs) (d :: ds)
end
mutual
theorem Rp.dp {K : PySem.W.Frag} {H : Hp} : ∀ {v : V} {d : PyData}, Rp H v d → Dp K H v d
  | _, _, .non => .non
  | _, _, .bl b => .bl b
  | _, _, .int i => .int i
  | _, _, .str x => .str x
  | _, _, .lst h k => .lst (lstAt_sq h) (RpA.dp k)
  | _, _, .tup h k => .tup (tupAt_sq h) (RpA.dp k)
theorem RpA.dp {K : PySem.W.Frag} {H : Hp} : ∀ {vs : List V} {ds : List PyData}, RpA H vs ds → DpAll K H vs ds
  | _, _, .nil => .nil
  | _, _, .cons h k => .cons (Rp.dp h) (RpA.dp k)
end
def rAdd : R2 := fun x y H Q => match x, y with
  | .int i, .int j => Q (.int (i + j)) H
  | .str a, .str b => a.length + b.length ≤ 16777216 ∧ Q (.str (a ++ b)) H
  | .ref p, .ref q => ∃ xs ys, H p = some (.lst xs) ∧ H q = some (.lst ys) ∧ xs.length + ys.length ≤ 16777216 ∧ ∀ r, H r = none → Q (.ref r) (upd H r (.lst (xs ++ ys)))
  | _, _ => False
def rSub : R2 := fun x y H Q => match x, y with
  | .int i, .int j => Q (.int (i - j)) H
  | _, _ => False
def rMul : R2 := fun x y H Q => match x, y with
  | .int i, .int j => CMul i j ∧ Q (.int (i * j)) H
  | .ref p, .int k => ∃ xs, H p = some (.lst xs) ∧ -1000000 ≤ k ∧ k ≤ 1000000 ∧ xs.length * k.toNat ≤ 16777216 ∧ ∀ r, H r = none → Q (.ref r) (upd H r (.lst (List.replicate k.toNat xs).flatten))
  | .str a, .int k => -1000000 ≤ k ∧ k ≤ 1000000 ∧ a.length * k.toNat ≤ 16777216 ∧ Q (.str (Txt.mul a k)) H
  | _, _ => False
def rMod : R2 := fun x y H Q => match x, y with
  | .int i, .int j => 0 < j ∧ Q (.int (i % j)) H
  | _, _ => False
def rDiv : R2 := fun x y H Q => match x, y with
  | .int i, .int j => 0 < j ∧ j < 1073741824 ∧ Q (.int (i / j)) H
  | _, _ => False
def rPow : R2 := fun x y H Q => match x, y with
  | .int i, .int j => 0 ≤ j ∧ j ≤ 1000000 ∧ i.natAbs < 2 ^ 64 ∧ Q (.int (i ^ j.toNat)) H
  | _, _ => False
def rCmpI (f : Int → Int → Bool) : R2 := fun x y H Q => match x, y with
  | .int i, .int j => Q (.bl (f i j)) H
  | _, _ => False
mutual
theorem Rp.plain {H : Hp} : ∀ {v : V} {d : PyData}, Rp H v d → d.plain = true
  | _, _, .non => rfl
  | _, _, .bl b => rfl
  | _, _, .int i => rfl
  | _, _, .str x => rfl
  | _, _, .lst h k => by simp only [PyData.plain]; exact RpA.plain k
  | _, _, .tup h k => by simp only [PyData.plain]; exact RpA.plain k
theorem RpA.plain {H : Hp} : ∀ {vs : List V} {ds : List PyData}, RpA H vs ds → PyData.plainAll ds = true
  | _, _, .nil => rfl
  | _, _, .cons h k => by simp only [PyData.plainAll, Rp.plain h, RpA.plain k, Bool.and_self]
end
/-- == of data at any depth -/
def rEqU : R2 := fun x y H Q => ∃ d e, Rp H x d ∧ Rp H y e ∧ min d.depth e.depth ≤ 64 ∧ Q (.bl (PyData.eqv d e)) H
def rNeU : R2 := fun x y H Q => ∃ d e, Rp H x d ∧ Rp H y e ∧ min d.depth e.depth ≤ 64 ∧ Q (.bl (!PyData.eqv d e)) H
section
variable {X : Cx}
theorem sl16 : sizeLine = 16777216 := sizeLine_eq
theorem o_add : OpR X (binaryOp .Add) rAdd := by
  intro pins s σ H x y v u Q I rx ry h
  unfold rAdd at h
  split at h
  · exact op_add pins s σ H _ _ v u Q I rx ry ⟨_, _, rfl, rfl, h⟩
  · exact op_add_str pins s σ H _ _ v u Q I rx ry ⟨_, _, rfl, rfl, by rw [sl16]; exact h.1, h.2⟩
  · obtain ⟨xs, ys, h1, h2, h3, h4⟩ := h
    exact op_cat pins s σ H _ _ v u Q I rx ry ⟨_, _, _, _, rfl, rfl, h1, h2, by rw [sl16]; exact h3, h4⟩
  · exact h.elim
theorem o_sub : OpR X (binaryOp .Sub) rSub := by
  intro pins s σ H x y v u Q I rx ry h
  unfold rSub at h
  split at h
  · exact op_sub pins s σ H _ _ v u Q I rx ry ⟨_, _, rfl, rfl, h⟩
  · exact h.elim
/-- a text by its codes -/
def tx (l : List Nat) : Str := ⟨l.toArray⟩
theorem tx_toList (l : List Nat) : (tx l).cps.toList = l := by simp [tx]
theorem tx_length (l : List Nat) : (tx l).length = l.length := by simp [tx, Str.length]
theorem tx_inj {a b : List Nat} : tx a = tx b ↔ a = b := ⟨fun h => by have := congrArg (fun s => s.cps.toList) h; simpa [tx] using this, fun h => by rw [h]⟩
theorem tx_append (a b : List Nat) : tx a ++ tx b = tx (a ++ b) := by
  show Str.mk _ = _
  simp [tx]
theorem txt_mul_ok {a : Str} {k : Int} (h1 : -1000000 ≤ k) (h2 : k ≤ 1000000) (h3 : a.length * k.toNat ≤ 16777216) : MulOk a k := by
  refine ⟨?_, fun h4 _ => ?_, fun _ _ => ?_⟩
  · have h5 : ¬ k < -(2 ^ 63 : Int) := by omega
    have h6 : ¬ k ≥ (2 ^ 63 : Int) := by omega
    rw [decide_eq_false h5, decide_eq_false h6]
    rfl
  · have e : (a.length : Int) * k ≤ 16777216 := by
      have e1 : ((a.length * k.toNat : Nat) : Int) ≤ ((16777216 : Nat) : Int) := Int.ofNat_le.mpr h3
      have e2 : ((k.toNat : Nat) : Int) = k := by omega
      rw [Int.natCast_mul, e2] at e1
      exact e1
    have : (a.length : Int) ≤ (2 ^ 63 - 1) / k := by
      rw [Int.le_ediv_iff_mul_le (by omega)]
      omega
    omega
  · unfold Builtin.Str.tooLong
    have : ¬ (a.length * k.toNat > sizeLine) := by rw [sl16]; omega
    exact decide_eq_false this
theorem o_mul : OpR X (binaryOp .Mult) rMul := by
  intro pins s σ H x y v u Q I rx ry h
  unfold rMul at h
  split at h
  · exact op_mul pins s σ H _ _ v u Q I rx ry ⟨_, _, rfl, rfl, h.1, h.2⟩
  · obtain ⟨xs, h1, h2, h3, h4, h5⟩ := h
    exact op_rep pins s σ H _ _ v u Q I rx ry ⟨_, _, _, rfl, rfl, h1, by omega, by omega, by rw [sl16]; exact h4, h5⟩
  · obtain ⟨h1, h2, h3, h4⟩ := h
    obtain ⟨t, rfl⟩ := rx
    obtain ⟨t', rfl⟩ := ry
    exact SB.mul (txt_mul_ok h1 h2 h3) fun t' k => ⟨.str _, H, I.tok k, ⟨_, rfl⟩, h4⟩
  · exact h.elim
theorem o_mod : OpR X (binaryOp .Mod) rMod := by
  intro pins s σ H x y v u Q I rx ry h
  unfold rMod at h
  split at h
  · exact op_mod pins s σ H _ _ v u Q I rx ry ⟨_, _, rfl, rfl, h.1, h.2⟩
  · exact h.elim
theorem o_div : OpR X (binaryOp .FloorDiv) rDiv := by
  intro pins s σ H x y v u Q I rx ry h
  unfold rDiv at h
  split at h
  · exact op_fdiv pins s σ H _ _ v u Q I rx ry ⟨_, _, rfl, rfl, ⟨h.1, h.2.1⟩, h.2.2⟩
  · exact h.elim
theorem o_pow : OpR X (binaryOp .Pow) rPow := by
  intro pins s σ H x y v u Q I rx ry h
  unfold rPow at h
  split at h
  · exact op_pow pins s σ H _ _ v u Q I rx ry ⟨_, _, rfl, rfl, ⟨h.1, h.2.1, h.2.2.1⟩, h.2.2.2⟩
  · exact h.elim
theorem cmpI_of {f : Int → Int → Bool} {op : Value → Value → Sem Value} (ho : OpR X op (rI0 fun i j => .bl (f i j))) : OpR X op (rCmpI f) := by
  intro pins s σ H x y v u Q I rx ry h
  unfold rCmpI at h
  split at h
  · exact ho pins s σ H _ _ v u Q I rx ry ⟨_, _, rfl, rfl, h⟩
  · exact h.elim
theorem o_lt : OpR X (compareOp .Lt) (rCmpI fun i j => decide (i < j)) := cmpI_of op_lt
theorem o_le : OpR X (compareOp .LtE) (rCmpI fun i j => decide (i ≤ j)) := cmpI_of op_le
theorem o_gt : OpR X (compareOp .Gt) (rCmpI fun i j => decide (j < i)) := cmpI_of op_gt
theorem o_ge : OpR X (compareOp .GtE) (rCmpI fun i j => decide (j ≤ i)) := cmpI_of op_ge
theorem o_eq (hu : X.A.units + 64 < cLine) : OpR X (compareOp .Eq) rEqU := by
  intro pins s σ H x y v u Q I rx ry h
  obtain ⟨d, e, h1, h2, h3, q⟩ := h
  obtain ⟨as, r1⟩ := Dp.reads I d x v h1.dp rx
  obtain ⟨bs, r2⟩ := Dp.reads I e y u h2.dp ry
  exact SeqAt.eq_plain r1 r2 h1.plain h2.plain (by omega) ⟨.bl _, H, I, rfl, q⟩
theorem o_ne (hu : X.A.units + 64 < cLine) : OpR X (compareOp .NotEq) rNeU := by
  intro pins s σ H x y v u Q I rx ry h
  obtain ⟨d, e, h1, h2, h3, q⟩ := h
  obtain ⟨as, r1⟩ := Dp.reads I d x v h1.dp rx
  obtain ⟨bs, r2⟩ := Dp.reads I e y u h2.dp ry
  exact SeqAt.ne_plain r1 r2 h1.plain h2.plain (by omega) ⟨.bl _, H, I, rfl, q⟩
def rIxU (K : PySem.W.Frag) : R2 := fun x y H Q => match x, y with
  | .str z, .int i => z.length ≤ 16777216 ∧ ∃ c, atI z.cps.toList i = some c ∧ Q (.str (tx [c])) H
  | .ref p, .int i => ∃ xs, (SqL K H p xs ∨ SqT K H p xs) ∧ ∃ v, atI xs i = some v ∧ Q v H
  | _, _ => False
theorem i_ix {K : PySem.W.Frag} (hK : X.K = K := by rfl) : IxR X (rIxU K) := by
  subst hK
  intro value slice pins s σ H x y v u Q I rx ry h hs
  unfold rIxU at h
  split at h
  · obtain ⟨h1, c, h2, h3⟩ := h
    exact ix_str value slice pins s σ H _ _ v u Q I rx ry ⟨_, _, _, rfl, rfl, by rw [sl16]; exact h1, h2, h3⟩ hs
  · obtain ⟨xs, h1, v, h2, h3⟩ := h
    rcases h1 with h1 | h1
    · exact ix_list value slice pins s σ H _ _ _ u Q I rx ry ⟨_, _, _, _, rfl, rfl, h1, h2, h3⟩ hs
    · exact ix_tup value slice pins s σ H _ _ _ u Q I rx ry ⟨_, _, _, _, rfl, rfl, h1, h2, h3⟩ hs
  · exact h.elim
/-- a[lo:hi] of a text or a list -/
def rSlU (K : PySem.W.Frag) : V → Option Int → Option Int → Hp → VK → Prop := fun x lo hi H Q => match x with
  | .str z => z.length ≤ 16777216 ∧ Q (.str (cutS z lo hi)) H
  | .ref p => ∃ xs, SqL K H p xs ∧ ∀ q, H q = none → Q (.ref q) (upd H q (.lst (cutV xs lo hi)))
  | _ => False
theorem s_sl {K : PySem.W.Frag} (hK : X.K = K := by rfl) : SlR X (rSlU K) := by
  subst hK
  intro pins s σ H x v vl vu lo hi sl Q I rx hs pl pu h
  unfold rSlU at h
  split at h
  · exact sl_str pins s σ H _ v vl vu lo hi sl Q I rx hs pl pu ⟨_, rfl, by rw [sl16]; exact h.1, h.2⟩
  · obtain ⟨xs, h1, h2⟩ := h
    exact sl_list pins s σ H _ v vl vu lo hi sl Q I rx hs pl pu ⟨_, _, rfl, h1, h2⟩
  · exact h.elim
def rLen (K : PySem.W.Frag) : List V → Hp → VK → Prop := fun vs H Q => match vs with
  | [.str z] => z.length ≤ 16777216 ∧ Q (.int z.length) H
  | [.ref p] => (∃ xs, (SqL K H p xs ∨ SqT K H p xs) ∧ Q (.int xs.length) H)
  | _ => False
theorem c_len {K : PySem.W.Frag} (hK : X.K = K := by rfl) : CallR X (.builtin "len") (rLen K) := by
  subst hK
  intro pins s σ H xs us Q I r h
  unfold rLen at h
  split at h
  · exact call_len pins s σ H _ us Q I r ⟨_, _, rfl, ⟨by rw [sl16]; exact h.1, rfl⟩, h.2⟩
  · obtain ⟨ys, h1, h2⟩ := h
    rcases h1 with h1 | h1
    · exact call_len pins s σ H _ us Q I r ⟨_, _, rfl, .inl ⟨_, h1, rfl⟩, h2⟩
    · exact call_len pins s σ H _ us Q I r ⟨_, _, rfl, .inr ⟨_, h1, rfl⟩, h2⟩
  · exact h.elim
def rInU (neg : Bool) : R2 := fun x y H Q => match y with
  | .str b => ∃ a, x = .str a ∧ Q (.bl (if neg then !(!(Builtin.Str.occurrences b a 0 b.length 1).isEmpty) else !(Builtin.Str.occurrences b a 0 b.length 1).isEmpty)) H
  | .ref p => ∃ xs ds d, seqAt H p = some xs ∧ RpA H xs ds ∧ Rp H x d ∧ min (PyData.depthAll ds) d.depth ≤ 60 ∧ Q (.bl (if neg then !(ds.any fun y => PyData.eqv y d) else ds.any fun y => PyData.eqv y d)) H
  | _ => False
theorem seqAt_cases {H : Hp} {p : Addr} {xs : List V} (h : seqAt H p = some xs) : lstAt H p = some xs ∨ tupAt H p = some xs := by
  unfold seqAt at h
  unfold lstAt tupAt
  split at h <;> rename_i e <;> first | (cases h; rw [e]; first | exact .inl rfl | exact .inr rfl) | cases h
theorem o_in (hu : X.A.units + 64 < cLine) : OpR X (compareOp .In) (rInU false) := by
  intro pins s σ H x y v u Q I rx ry h
  unfold rInU at h
  split at h
  · obtain ⟨a, rfl, h⟩ := h
    exact op_in_str pins s σ H _ _ v u Q I rx ry ⟨_, _, rfl, rfl, h⟩
  · obtain ⟨xs, ds, d, h1, h2, h3, h4, q⟩ := h
    obtain ⟨bs, r2⟩ := Dp.reads I d x v h3.dp rx
    rcases seqAt_cases h1 with h1 | h1
    · obtain ⟨as, r1⟩ := Dp.reads I (.list ds) _ u (Rp.lst h1 h2).dp ry
      exact SeqAt.in_list_data r1 r2 h2.plain h3.plain (by omega) ⟨.bl _, H, I, rfl, q⟩
    · obtain ⟨as, r1⟩ := Dp.reads I (.tuple ds) _ u (Rp.tup h1 h2).dp ry
      exact SeqAt.in_tuple_data r1 r2 h2.plain h3.plain (by omega) ⟨.bl _, H, I, rfl, q⟩
  · exact h.elim
def tyO : Option HO → Option String
  | some (.lst _) => some "list"
  | some (.tup _) => some "tuple"
  | some (.dK _) => some "dict"
  | some (.dT _) => some "dict"
  | some (.frz _ (.lst _)) => some "list"
  | some (.frz _ (.tup _)) => some "tuple"
  | some (.frz _ (.dK _)) => some "dict"
  | _ => none
def tyN (H : Hp) : V → Option String
  | .non => some "NoneType"
  | .bl _ => some "bool"
  | .int _ => some "int"
  | .str _ => some "str"
  | .ref p => tyO (H p)
  | _ => none
theorem tyN_ok {K : PySem.W.Frag} {H : Hp} {v : V} {n : String} (h : tyN H v = some n) : TyX K H v (.type n) := by
  cases v with
  | non => cases h; exact .base .non
  | bl b => cases h; exact .base (.bl _)
  | int i => cases h; exact .base (.int _)
  | str x => cases h; exact .base (.str _)
  | ref p =>
    have h : tyO (H p) = some n := h
    unfold tyO at h
    split at h <;> rename_i e
    · cases h; exact .base (.lst e)
    · cases h; exact .base (.tup e)
    · cases h; exact .base (.dK e)
    · cases h; exact .base (.dT e)
    · cases h; exact .base (.frz e)
    · cases h; exact .fTuple e
    · cases h; exact .fDict e
    · cases h
  | _ => cases h
def rIs : List V → Hp → VK → Prop := fun vs H Q => match vs with
  | [x, .ty n] => ∃ t, tyN H x = some t ∧ ∃ b, kitB t n = some b ∧ Q (.bl b) H
  | _ => False
theorem c_is : CallR X (.builtin "isinstance") rIs := by
  intro pins s σ H xs us Q I r h
  unfold rIs at h
  split at h
  · obtain ⟨t, h1, b, h2, h3⟩ := h
    exact call_isi pins s σ H _ us Q I r ⟨_, _, _, _, _, rfl, .ty _, tyN_ok h1, kit_ty h2, h3⟩
  · exact h.elim
def rMax2 : List V → Hp → VK → Prop := fun vs H Q => match vs with
  | [.int i, .int j] => Q (.int (if j > i then j else i)) H
  | _ => False
def rMin2 : List V → Hp → VK → Prop := fun vs H Q => match vs with
  | [.int i, .int j] => Q (.int (if j < i then j else i)) H
  | _ => False
theorem c_max (hc : X.calm = true) : CallR X (.builtin "max") rMax2 := by
  intro pins s σ H xs us Q I r h
  unfold rMax2 at h
  split at h
  · exact call_max2 hc pins s σ H _ us Q I r ⟨_, _, rfl, h⟩
  · exact h.elim
theorem c_min (hc : X.calm = true) : CallR X (.builtin "min") rMin2 := by
  intro pins s σ H xs us Q I r h
  unfold rMin2 at h
  split at h
  · exact call_min2 hc pins s σ H _ us Q I r ⟨_, _, rfl, h⟩
  · exact h.elim
def rAllU : List V → Hp → VK → Prop := fun vs H Q => match vs with
  | [.ref p] => ∃ bs : List Bool, lstAt H p = some (bs.map V.bl) ∧ Q (.bl (bs.all id)) H
  | _ => False
theorem c_all (hc : X.calm = true) : CallR X (.builtin "all") rAllU := by
  intro pins s σ H xs us Q I r h
  unfold rAllU at h
  split at h
  · obtain ⟨bs, h1, h2⟩ := h
    exact cr_all hc pins s σ H _ us Q I r ⟨_, _, rfl, lstAt_sq h1, h2⟩
  · exact h.elim
theorem vals_of : ∀ {xs : List V} {us : List Value}, xs.length = us.length → (∀ (j : Nat) x u, xs[j]? = some x → us[j]? = some u → RelV x u) → Vals xs us
  | [], [], _, _ => .nil
  | [], _ :: _, h, _ => by simp at h
  | _ :: _, [], h, _ => by simp at h
  | a :: r, b :: s, h, k => .cons (k 0 a b rfl rfl) (vals_of (by simpa using h) fun j x u h1 h2 => k (j + 1) x u (by simpa using h1) (by simpa using h2))
theorem vals_signs {x : Str} {acc : Array Value} (h : ItemsOf (SignAt x) acc x.cps.size) : Vals (x.cps.toList.map fun c => V.str (tx [c])) acc.toList := by
  refine vals_of (by rw [List.length_map]; simp [h.1]) fun j v u h1 h2 => ?_
  obtain ⟨c, t, hc, rfl⟩ := h.2 j u (by simpa using h2)
  rw [List.getElem?_map, Array.getElem?_toList, hc] at h1
  cases h1
  exact ⟨t, rfl⟩
def rListU (K : PySem.W.Frag) : List V → Hp → VK → Prop := fun vs H Q => match vs with
  | [.str z] => z.length ≤ 16777216 ∧ ∀ p, H p = none → Q (.ref p) (upd H p (.lst (z.cps.toList.map fun c => V.str (tx [c]))))
  | [.ref p] => ∃ ys, (SqL K H p ys ∨ SqT K H p ys) ∧ ∀ l, H l = none → Q (.ref l) (upd H l (.lst ys))
  | _ => False
theorem c_list (hc : X.calm = true) {K : PySem.W.Frag} (hK : X.K = K := by rfl) : CallR X (.type "list") (rListU K) := by
  subst hK
  intro pins s σ H xs us Q I r h
  unfold rListU at h
  split at h
  · rename_i z
    obtain ⟨hz, q⟩ := h
    obtain ⟨u, rfl, t, rfl⟩ := vals1 r
    refine call_list_str (I.ok.hd hc) z t (fun h' tk acc c' kp e hacc => ?_) (by rw [sl16]; exact hz)
    have hl : (z.cps.toList.map fun c => V.str (tx [c])).length ≤ sizeLine := by rw [List.length_map, Array.length_toList, sl16]; exact hz
    exact ⟨.ref s.heap.objs.size, _, I.laid (t' := tk) kp (Nat.le_refl _) (show ObjOk X.prog X.w _ h' _ (.lst _) from ⟨hl, acc.toList, c', vals_signs hacc, by simpa using e⟩), rfl, q _ (I.hok.fresh (Nat.le_refl _))⟩
  · obtain ⟨ys, h1, h2⟩ := h
    exact call_list_of pins s σ H _ us Q I r ⟨_, _, rfl, h1, h2⟩
  · exact h.elim
def rTupU (K : PySem.W.Frag) : List V → Hp → VK → Prop := fun vs H Q => match vs with
  | [.str z] => z.length ≤ 16777216 ∧ ∀ p, H p = none → Q (.ref p) (upd H p (.tup (z.cps.toList.map fun c => V.str (tx [c]))))
  | [.ref p] => ∃ ys, (SqL K H p ys ∧ ∀ l, H l = none → Q (.ref l) (upd H l (.tup ys))) ∨ (SqT K H p ys ∧ Q (.ref p) H)
  | _ => False
end
end Zb
namespace Zb
open PySem PySem.Spec PyProof.Rows L2
open Evl (tCut pss_cut)
def Fr (M : Addr → Prop) (H H' : Hp) : Prop := ∀ b o, ¬ M b → H b = some o → H' b = some o
abbrev Ex (H H' : Hp) : Prop := Fr (fun _ => False) H H'
theorem Fr.refl {M : Addr → Prop} (H : Hp) : Fr M H H := fun _ _ _ e => e
theorem Fr.trans {M : Addr → Prop} {H H1 H2 : Hp} (a : Fr M H H1) (b : Fr M H1 H2) : Fr M H H2 := fun x o n e => b x o n (a x o n e)
theorem Fr.new {M : Addr → Prop} {H : Hp} {p : Addr} {o : HO} (h : H p = none) : Fr M H (upd H p o) := fun b u _ e => by
  rw [upd_ne (ne_of_none e h)]
  exact e
theorem Fr.at {M : Addr → Prop} {H : Hp} {p : Addr} {o : HO} (h : M p) : Fr M H (upd H p o) := fun b u n e => by
  rw [upd_ne fun z => n (by rw [z]; exact h)]
  exact e
theorem Fr.up {M M' : Addr → Prop} {H H' : Hp} (e : Fr M' H H') (h : ∀ b, M' b → M b) : Fr M H H' := fun b o n q => e b o (fun m => n (h b m)) q
theorem Fr.ex {M : Addr → Prop} {H H' : Hp} (e : Ex H H') : Fr M H H' := e.up fun _ z => z.elim
/-- an object that was not there at H may change -/
theorem Fr.mut {M : Addr → Prop} {H H' : Hp} {p : Addr} {o : HO} (e : Fr M H H') (h : H p = none) : Fr M H (upd H' p o) := fun b u n q => by
  rw [upd_ne (ne_of_none q h)]
  exact e b u n q
theorem Fr.get {M : Addr → Prop} {H H' : Hp} {a : Addr} {o : HO} (e : Fr M H H') (n : ¬ M a) (h : H a = some o) : H' a = some o := e a o n h
theorem Ex.get {H H' : Hp} {a : Addr} {o : HO} (e : Ex H H') (h : H a = some o) : H' a = some o := e a o (fun z => z) h
theorem Ex.free {H H' : Hp} (e : Ex H H') {p : Addr} (h : H' p = none) : H p = none := by
  cases q : H p with
  | none => rfl
  | some o =>
    rw [e p o (fun z => z) q] at h
    cases h
theorem Fr.free {M : Addr → Prop} {H H' : Hp} (e : Fr M H H') {p : Addr} (n : ¬ M p) (h : H' p = none) : H p = none := by
  cases q : H p with
  | none => rfl
  | some o =>
    rw [e p o n q] at h
    cases h
theorem upd_old {H : Hp} {p a : Addr} {o u : HO} (hp : H p = none) (ha : H a = some u) : upd H p o a = some u := by
  rw [upd_ne (ne_of_none ha hp)]
  exact ha
theorem upd_free {H : Hp} {p q : Addr} {o : HO} (h : upd H p o q = none) : H q = none := by
  by_cases e : q = p
  · rw [e, upd_same] at h
    cases h
  · rwa [upd_ne e] at h
theorem lst_of {H : Hp} {p : Addr} {xs : List V} (h : H p = some (.lst xs)) : lstAt H p = some xs := by unfold lstAt; rw [h]
theorem tup_of {H : Hp} {p : Addr} {xs : List V} (h : H p = some (.tup xs)) : tupAt H p = some xs := by unfold tupAt; rw [h]
theorem seq_l {H : Hp} {p : Addr} {xs : List V} (h : H p = some (.lst xs)) : seqAt H p = some xs := by unfold seqAt; rw [h]
theorem seq_t {H : Hp} {p : Addr} {xs : List V} (h : H p = some (.tup xs)) : seqAt H p = some xs := by unfold seqAt; rw [h]
section
variable {D : Ends} {σ : L2.St} {H : Hp} {Q : VK} {K : PySem.W.Frag} {R : L2.St → Hp → Prop} {B : Bool → Hp → Prop}
theorem st_seq {t u : TS} (h : t { D with nx := u D } σ H) : tSeq t u D σ H := h
theorem st_next (h : D.nx σ H) : tNext D σ H := h
theorem st_brk (h : D.bk σ H) : tBreak D σ H := h
theorem st_cont (h : D.ct σ H) : tCont D σ H := h
theorem st_drop {te : TE} (h : te σ H (fun _ H1 => D.nx σ H1)) : tDrop te D σ H := h
theorem st_ret {te : TE} (h : te σ H D.rt) : tRet te D σ H := h
theorem st_retN (h : D.rt .non H) : tRetN D σ H := h
theorem st_ifS {c : TT} {t u : TS} (h : c σ H (fun b H1 => if b = true then t D σ H1 else u D σ H1)) : tIfS c t u D σ H := h
theorem st_asg {te : TE} {g : TG} (h : te σ H (fun x H1 => g x σ H1 D.nx)) : tAsg te g D σ H := h
theorem st_name {i : Nat} {v : V} (h : R (σ.set i (some v)) H) : gName i v σ H R := h
theorem st_sub {to ti : TE} {t : TSet} {v : V} (h : to σ H (fun o H1 => ti σ H1 fun i H2 => t o i v H2 fun H3 => R σ H3)) : gSub to ti t v σ H R := h
theorem st_augI {i : Nat} {te : TE} {f : Int → Int → Int} {z : Int} (hx : σ[i]? = some (some (.int z))) (h : te σ H (fun y H1 => ipI f (.int z) y H1 fun z H2 => D.nx (σ.set i (some z)) H2)) : tAug i te (ipI f) D σ H := ⟨_, hx, h⟩
theorem st_ipI {f : Int → Int → Int} {x y : Int} (h : Q (.int (f x y)) H) : ipI f (.int x) (.int y) H Q := ⟨_, _, rfl, rfl, h⟩
theorem st_par {i j : Nat} {ta : TA} (h : ta σ H (fun vs H1 => ∃ v w, vs = [v, w] ∧ D.nx ((σ.set i (some v)).set j (some w)) H1)) : tPar i j ta D σ H := h
theorem st_par2 {v w : V} {P : V → V → Prop} (h : P v w) : ∃ v' w', [v, w] = [v', w'] ∧ P v' w' := ⟨v, w, rfl, h⟩
theorem st_var {i : Nat} {v : V} (hv : σ[i]? = some (some v)) (h : Q v H) : tVar i σ H Q := ⟨v, hv, h⟩
theorem st_c {v : V} (h : Q v H) : tC v σ H Q := h
theorem st_op {r : R2} {ta tb : TE} (h : ta σ H (fun x H1 => tb σ H1 fun y H2 => r x y H2 Q)) : tOp r ta tb σ H Q := h
theorem st_un {r : V → Hp → VK → Prop} {ta : TE} (h : ta σ H (fun x H1 => r x H1 Q)) : tUn r ta σ H Q := h
theorem st_rU {g : Int → V} {i : Int} (h : Q (g i) H) : rU g (.int i) H Q := ⟨i, rfl, h⟩
theorem st_B {t : TE} (h : t σ H (fun x H1 => ∃ c, x = .bl c ∧ B c H1)) : tB t σ H B := h
theorem st_test {t : TE} (h : t σ H (fun x H1 => ∃ c, x = .bl c ∧ B c H1)) : tTest t σ H B := h
theorem st_isb {b : Bool} {P : Bool → Prop} (h : P b) : ∃ c, V.bl b = .bl c ∧ P c := ⟨b, rfl, h⟩
theorem st_and {t u : TT} (h : t σ H (fun c H1 => if c = true then u σ H1 B else B false H1)) : tAnd t u σ H B := h
theorem st_or {t u : TT} (h : t σ H (fun c H1 => if c = true then B true H1 else u σ H1 B)) : tOr t u σ H B := h
theorem st_not {t : TT} (h : t σ H (fun c H1 => B (!c) H1)) : tNot t σ H B := h
theorem st_andV {ta tb : TE} (h : ta σ H (fun x H1 => ∃ c, x = .bl c ∧ if c = true then tb σ H1 Q else Q (.bl false) H1)) : tAndV ta tb σ H Q := h
theorem st_orV {ta tb : TE} (h : ta σ H (fun x H1 => ∃ c, x = .bl c ∧ if c = true then Q (.bl true) H1 else tb σ H1 Q)) : tOrV ta tb σ H Q := h
theorem st_notV {ta : TE} (h : ta σ H (fun x H1 => ∃ c, x = .bl c ∧ Q (.bl (!c)) H1)) : tNotV ta σ H Q := h
theorem st_if {t : TT} {ta tb : TE} (h : t σ H (fun c H1 => if c = true then ta σ H1 Q else tb σ H1 Q)) : tIf t ta tb σ H Q := h
theorem st_nil {P : List V → Hp → Prop} (h : P [] H) : tNil σ H P := h
theorem st_cons {ta : TE} {tr : TA} {P : List V → Hp → Prop} (h : ta σ H (fun x H1 => tr σ H1 fun xs H2 => P (x :: xs) H2)) : tCons ta tr σ H P := h
def NewO (o : List V → HO) (xs : List V) (Q : VK) (H : Hp) : Prop := xs.length ≤ sizeLine ∧ ∀ p, H p = none → Q (.ref p) (upd H p (o xs))
theorem st_tup {t : TA} (h : t σ H (fun xs H1 => NewO .tup xs Q H1)) : tTup t σ H Q := h
theorem st_lst {t : TA} (h : t σ H (fun xs H1 => NewO .lst xs Q H1)) : tLst t σ H Q := h
/-- a new object: from then on the heap is a letter -/
theorem st_new {xs : List V} {o : List V → HO} (hz : xs.length ≤ 16777216) (h : ∀ p H', H p = none → Ex H H' → H' p = some (o xs) → Q (.ref p) H') : NewO o xs Q H :=
  ⟨by rw [sl16]; exact hz, fun p hp => h p _ hp (Fr.new hp) upd_same⟩
theorem st_cb {r : List V → Hp → VK → Prop} {t : TA} (h : t σ H (fun vs H1 => r vs H1 Q)) : tCB r t σ H Q := h
theorem st_call {sp : Sp} {dvs : List V} {E : XK} {t : TA} (h : t σ H (fun vs H1 => sp (vs ++ dvs) H1 Q E)) : tCall sp dvs E t σ H Q := h
theorem st_sl {r : V → Option Int → Option Int → Hp → VK → Prop} {te : TE} {tl th : TO} (h : te σ H (fun x H1 => tl σ H1 fun l H2 => th σ H2 fun u H3 => r x l u H3 Q)) : tSl r te tl th σ H Q := h
theorem st_part {te : TE} {P : Option Int → Hp → Prop} (h : te σ H (fun x H1 => ∃ i, x = .int i ∧ P (some i) H1)) : tPart te σ H P := h
theorem st_isi {i : Int} {P : Int → Prop} (h : P i) : ∃ j, V.int i = .int j ∧ P j := ⟨i, rfl, h⟩
theorem st_nopart {P : Option Int → Hp → Prop} (h : P none H) : tNoPart σ H P := h
theorem st_addI {i j : Int} (h : Q (.int (i + j)) H) : rAdd (.int i) (.int j) H Q := h
theorem st_addS {a b : Str} (hz : a.length + b.length ≤ 16777216) (h : Q (.str (a ++ b)) H) : rAdd (.str a) (.str b) H Q := ⟨hz, h⟩
theorem st_addL {p q : Addr} {xs ys : List V} (h1 : H p = some (.lst xs)) (h2 : H q = some (.lst ys)) (hz : xs.length + ys.length ≤ 16777216) (h : ∀ r H', H r = none → Ex H H' → H' r = some (.lst (xs ++ ys)) → Q (.ref r) H') : rAdd (.ref p) (.ref q) H Q :=
  ⟨xs, ys, h1, h2, hz, fun r hr => h r _ hr (Fr.new hr) upd_same⟩
theorem st_subI {i j : Int} (h : Q (.int (i - j)) H) : rSub (.int i) (.int j) H Q := h
theorem st_mulI {i j : Int} (hc : (-(2 ^ 64) < i ∧ i < 2 ^ 64) ∨ (-(2 ^ 64) < j ∧ j < 2 ^ 64)) (h : Q (.int (i * j)) H) : rMul (.int i) (.int j) H Q := ⟨hc, h⟩
theorem st_mulL {p : Addr} {k : Int} {xs : List V} (h1 : H p = some (.lst xs)) (h2 : -1000000 ≤ k) (h3 : k ≤ 1000000) (hz : xs.length * k.toNat ≤ 16777216) (h : ∀ r H', H r = none → Ex H H' → H' r = some (.lst (List.replicate k.toNat xs).flatten) → Q (.ref r) H') : rMul (.ref p) (.int k) H Q :=
  ⟨xs, h1, h2, h3, hz, fun r hr => h r _ hr (Fr.new hr) upd_same⟩
theorem st_modI {i j : Int} (hc : 0 < j) (h : Q (.int (i % j)) H) : rMod (.int i) (.int j) H Q := ⟨hc, h⟩
theorem st_divI {i j : Int} (hc : 0 < j ∧ j < 1073741824) (h : Q (.int (i / j)) H) : rDiv (.int i) (.int j) H Q := ⟨hc.1, hc.2, h⟩
theorem st_powI {i j : Int} (hc : 0 ≤ j ∧ j ≤ 1000000 ∧ i.natAbs < 2 ^ 64) (h : Q (.int (i ^ j.toNat)) H) : rPow (.int i) (.int j) H Q := ⟨hc.1, hc.2.1, hc.2.2, h⟩
theorem st_cmpI {f : Int → Int → Bool} {i j : Int} (h : Q (.bl (f i j)) H) : rCmpI f (.int i) (.int j) H Q := h
theorem st_eqI {i j : Int} (h : Q (.bl (decide (i = j))) H) : rEqU (.int i) (.int j) H Q := ⟨_, _, .int i, .int j, by simp [PyData.depth], by
  have e : PyData.eqv (.int i) (.int j) = decide (i = j) := by simp only [PyData.eqv]; rfl
  rw [e]; exact h⟩
theorem st_neI {i j : Int} (h : Q (.bl (!decide (i = j))) H) : rNeU (.int i) (.int j) H Q := ⟨_, _, .int i, .int j, by simp [PyData.depth], by
  have e : PyData.eqv (.int i) (.int j) = decide (i = j) := by simp only [PyData.eqv]; rfl
  rw [e]; exact h⟩
theorem st_eqS {i j : Str} (h : Q (.bl (decide (i = j))) H) : rEqU (.str i) (.str j) H Q := ⟨_, _, .str i, .str j, by simp [PyData.depth], by
  have e : PyData.eqv (.str i) (.str j) = decide (i = j) := by simp only [PyData.eqv]; rfl
  rw [e]; exact h⟩
theorem st_neS {i j : Str} (h : Q (.bl (!decide (i = j))) H) : rNeU (.str i) (.str j) H Q := ⟨_, _, .str i, .str j, by simp [PyData.depth], by
  have e : PyData.eqv (.str i) (.str j) = decide (i = j) := by simp only [PyData.eqv]; rfl
  rw [e]; exact h⟩
theorem st_eqB {i j : Bool} (h : Q (.bl (i == j)) H) : rEqU (.bl i) (.bl j) H Q := ⟨_, _, .bl i, .bl j, by simp [PyData.depth], by
  have e : PyData.eqv (.bool i) (.bool j) = (i == j) := by simp only [PyData.eqv]
  rw [e]; exact h⟩
theorem st_neB {i j : Bool} (h : Q (.bl (!(i == j))) H) : rNeU (.bl i) (.bl j) H Q := ⟨_, _, .bl i, .bl j, by simp [PyData.depth], by
  have e : PyData.eqv (.bool i) (.bool j) = (i == j) := by simp only [PyData.eqv]
  rw [e]; exact h⟩
theorem st_eqD {x y : V} {d e : PyData} (h1 : Rp H x d) (h2 : Rp H y e) (hd : min d.depth e.depth ≤ 64) (h : Q (.bl (PyData.eqv d e)) H) : rEqU x y H Q := ⟨d, e, h1, h2, hd, h⟩
theorem st_neD {x y : V} {d e : PyData} (h1 : Rp H x d) (h2 : Rp H y e) (hd : min d.depth e.depth ≤ 64) (h : Q (.bl (!PyData.eqv d e)) H) : rNeU x y H Q := ⟨d, e, h1, h2, hd, h⟩
theorem st_ixL {p : Addr} {i : Int} {v : V} {xs : List V} (h1 : H p = some (.lst xs)) (h2 : atI xs i = some v) (h : Q v H) : rIxU K (.ref p) (.int i) H Q := ⟨xs, seqAt_sq (seq_l h1), v, h2, h⟩
theorem st_ixT {p : Addr} {i : Int} {v : V} {xs : List V} (h1 : H p = some (.tup xs)) (h2 : atI xs i = some v) (h : Q v H) : rIxU K (.ref p) (.int i) H Q := ⟨xs, seqAt_sq (seq_t h1), v, h2, h⟩
theorem st_ixK {p : Addr} {i : Int} {v : V} {xs : List V} (h1 : SqL K H p xs) (h2 : atI xs i = some v) (h : Q v H) : rIxU K (.ref p) (.int i) H Q := ⟨xs, .inl h1, v, h2, h⟩
theorem at_in {α : Type} {xs : List α} {i : Int} (h0 : 0 ≤ i) (h1 : i < xs.length) : ∃ v, atI xs i = some v ∧ xs[i.toNat]? = some v := by
  have hj : i.toNat < xs.length := by omega
  refine ⟨xs[i.toNat], ?_, List.getElem?_eq_getElem hj⟩
  unfold atI ixN
  rw [if_pos h0, if_pos h1]
  exact List.getElem?_eq_getElem hj
/-- an item of a row of numbers, of texts, at some place -/
theorem st_ixI {p : Addr} {i : Int} {xs : List V} (ns : List Int) (h1 : H p = some (.lst xs)) (e : xs = ns.map V.int) (h0 : 0 ≤ i) (hi : i < ns.length) (h : ∀ z, ns[i.toNat]? = some z → z ∈ ns → Q (.int z) H) : rIxU K (.ref p) (.int i) H Q := by
  subst e
  obtain ⟨v, h2, h3⟩ := at_in (xs := ns.map V.int) h0 (by rw [List.length_map]; exact hi)
  rw [List.getElem?_map] at h3
  cases q : ns[i.toNat]? with
  | none => rw [q] at h3; cases h3
  | some z =>
    rw [q] at h3
    cases h3
    exact st_ixL h1 h2 (h z q (List.mem_of_getElem? q))
/-- a sign of a text -/
theorem st_sign {z : Str} {i : Int} {c : Nat} (hz : z.length ≤ 16777216) (h2 : atI z.cps.toList i = some c) (h : Q (.str (tx [c])) H) : rIxU K (.str z) (.int i) H Q := ⟨hz, c, h2, h⟩
theorem st_slS {z : Str} {lo hi : Option Int} (hz : z.length ≤ 16777216) (h : Q (.str (cutS z lo hi)) H) : rSlU K (.str z) lo hi H Q := ⟨hz, h⟩
theorem st_slL {p : Addr} {xs : List V} {lo hi : Option Int} (h1 : lstAt H p = some xs) (h : ∀ q H', H q = none → Ex H H' → H' q = some (.lst (cutV xs lo hi)) → Q (.ref q) H') : rSlU K (.ref p) lo hi H Q := ⟨xs, lstAt_sq h1, fun q hq => h q _ hq (Fr.new hq) upd_same⟩
theorem st_slK {p : Addr} {xs : List V} {lo hi : Option Int} (h1 : SqL K H p xs) (h : ∀ q H', H q = none → Ex H H' → H' q = some (.lst (cutV xs lo hi)) → Q (.ref q) H') : rSlU K (.ref p) lo hi H Q := ⟨xs, h1, fun q hq => h q _ hq (Fr.new hq) upd_same⟩
theorem st_lenS {z : Str} (hz : z.length ≤ 16777216) (h : Q (.int z.length) H) : rLen K [.str z] H Q := ⟨hz, h⟩
theorem st_lenL {p : Addr} {xs : List V} (h1 : H p = some (.lst xs)) (h : Q (.int xs.length) H) : rLen K [.ref p] H Q := ⟨xs, seqAt_sq (seq_l h1), h⟩
theorem st_lenT {p : Addr} {xs : List V} (h1 : H p = some (.tup xs)) (h : Q (.int xs.length) H) : rLen K [.ref p] H Q := ⟨xs, seqAt_sq (seq_t h1), h⟩
theorem st_lenK {p : Addr} {xs : List V} (h1 : SqL K H p xs) (h : Q (.int xs.length) H) : rLen K [.ref p] H Q := ⟨xs, .inl h1, h⟩
theorem st_max2 {i j : Int} (h : Q (.int (if j > i then j else i)) H) : Zb.rMax2 [.int i, .int j] H Q := h
theorem st_min2 {i j : Int} (h : Q (.int (if j < i then j else i)) H) : Zb.rMin2 [.int i, .int j] H Q := h
theorem st_is {x : V} {n t : String} {b : Bool} (h1 : tyN H x = some t) (h2 : kitB t n = some b) (h : Q (.bl b) H) : rIs [x, .ty n] H Q := ⟨t, h1, b, h2, h⟩
/-- xs[i] = e -/
theorem st_setL {p : Addr} {k : Int} {v : V} {xs : List V} {j : Nat} {R : Hp → Prop} (h1 : H p = some (.lst xs)) (h2 : ixN xs.length k = some j) (h : R (upd H p (.lst (xs.set j v)))) : rSetL (.ref p) (.int k) v H R := ⟨p, xs, k, j, rfl, rfl, h1, h2, h⟩
theorem st_T {A B : Prop} {b : Bool} (hb : b = true) (h : A) : if b = true then A else B := by rw [if_pos hb]; exact h
theorem st_F {A B : Prop} {b : Bool} (hb : b = false) (h : B) : if b = true then A else B := by rw [hb, if_neg Bool.false_ne_true]; exact h
theorem st_br2 {A B : Prop} {p : Prop} [Decidable p] (h1 : p → A) (h2 : ¬ p → B) : if decide p = true then A else B := by
  by_cases q : p
  · rw [decide_eq_true q]; exact h1 q
  · rw [decide_eq_false q, if_neg Bool.false_ne_true]; exact h2 q
end
def Purse (H : Hp) (a : Addr) : Prop := ∃ x y z : Int, H a = some (.lst [.int x, .int y, .int z])
abbrev FrP (p : Addr) (H H' : Hp) : Prop := Fr (fun b => b = p) H H'
theorem FrP.at {H : Hp} {p : Addr} {o : HO} : FrP p H (upd H p o) := Fr.at (M := fun b => b = p) rfl
theorem Purse.ne {H : Hp} {p q : Addr} (h : Purse H p) (hq : H q = none) : q ≠ p := fun e => by
  obtain ⟨x, y, z, h⟩ := h
  rw [e, h] at hq
  cases hq
theorem Purse.ex {H H' : Hp} {p : Addr} (h : Purse H p) (e : Ex H H') : Purse H' p := by
  obtain ⟨x, y, z, h⟩ := h
  exact ⟨x, y, z, e.get h⟩
end Zb
namespace Zb
open PySem PySem.Spec PyProof.Rows L2
open Evl (tCut pss_cut)
structure Runs (J : It) (n : Nat) (S : Hp → Prop) (item : Nat → V → Hp → Hp → Prop) : Prop where
  go : ∀ i H, i < n → S H → J.go i H
  stop : ∀ H, S H → J.stop n H
  yld : ∀ i H x H', i < n → S H → J.yld i H x H' → item i x H H'
theorem runs_range (lo : Int) (n : Nat) : Runs (Itr lo n) n (fun _ => True) (fun i x H H' => H' = H ∧ x = .int (lo + i)) :=
  ⟨fun _ _ h _ => h, fun _ _ => Nat.le_refl _, fun _ _ _ _ _ _ y => y⟩
theorem runs_enum (K : PySem.W.Frag) (a : Addr) (xs : List V) : Runs (Ite K a) xs.length (fun H => lstAt H a = some xs) (fun i x H H' => ∃ T v, x = .ref T ∧ H T = none ∧ Ex H H' ∧ H' T = some (.tup [.int (i : Nat), v]) ∧ xs[i]? = some v) :=
  ⟨fun i H h s => ⟨xs, xs[i], lstAt_sq s, by simp [h]⟩, fun _ s => ⟨xs, lstAt_sq s, Nat.le_refl _⟩, fun i H x H' _ s y => by
    obtain ⟨T, v, e1, e2, e3, e4⟩ := y
    subst e3
    exact ⟨T, v, e1, e2, Fr.new e2, upd_same, e4 xs (lstAt_sq s)⟩⟩
def LcGoal (J : It) (g : TG) (tt : TT) (te : TE) (vs : List Nat) (σ : L2.St) (Q : VK) (H1 : Hp) : Prop := ∀ D, H1 D = none → ∃ W : Nat → Nat → Hp → Prop, (∃ m, W 0 m (upd H1 D (.lst []))) ∧ ∀ i m H, W i m H →
      (J.stop i H ∧ Q (.ref D) H) ∨ (J.go i H ∧ ∃ Nx : Hp → Prop, (∀ H', Nx H' → ∃ m', m' < m ∧ W (i + 1) m' H') ∧ ∀ x H', J.yld i H x H' → g x (wipe σ vs) H' fun σ2 H2 => wipe σ2 vs = wipe σ vs ∧ tt σ2 H2 fun b H3 =>
        if b = true then te σ2 H3 fun y H4 => ∃ acc, H4 D = some (.lst acc) ∧ acc.length < sizeLine ∧ Nx (upd H4 D (.lst (acc ++ [y]))) else Nx H3)
def ForGoal (J : It) (g : TG) (tb : TS) (D : Ends) (σ : L2.St) (H : Hp) : Prop := ∃ W : Nat → Nat → L2.St → Hp → Prop, (∃ m, W 0 m σ H) ∧ ∀ i m σ H, W i m σ H →
      (J.stop i H ∧ D.nx σ H) ∨ (J.go i H ∧ ∃ N : L2.St → Hp → Prop, (∀ σ' H', N σ' H' → ∃ m', m' < m ∧ W (i + 1) m' σ' H') ∧ ∀ x H', J.yld i H x H' → g x σ H' fun σ2 H2 => tb { D with nx := N, ct := N, bk := D.nx } σ2 H2)
section
variable {J : It} {n : Nat} {S : Hp → Prop} {item : Nat → V → Hp → Hp → Prop} {g : TG} {σ : L2.St} {H H1 : Hp} {K : PySem.W.Frag}
/-- a for loop by its word Pv -/
theorem for_runs {tb : TS} {D : Ends} (hR : Runs J n S item) (Pv : Nat → L2.St → Hp → Prop) (h0 : Pv 0 σ H) (hS : ∀ i σ H, i ≤ n → Pv i σ H → S H)
    (hs : ∀ i x σ H H', i < n → Pv i σ H → item i x H H' → g x σ H' fun σ2 H2 => tb { D with nx := Pv (i + 1), ct := Pv (i + 1), bk := D.nx } σ2 H2) (hd : ∀ σ H, Pv n σ H → D.nx σ H) :
    ForGoal J g tb D σ H := by
  refine ⟨fun i m σ H => m = n - i ∧ i ≤ n ∧ Pv i σ H, ⟨n, by simp, Nat.zero_le _, h0⟩, ?_⟩
  rintro i m σ H ⟨rfl, hi, p⟩
  by_cases hlt : i < n
  · refine .inr ⟨hR.go i H hlt (hS i σ H hi p), Pv (i + 1), fun σ' H' p' => ⟨n - (i + 1), by omega, rfl, hlt, p'⟩, fun x H' y => ?_⟩
    exact hs i x σ H H' hlt p (hR.yld i H x H' hlt (hS i σ H hi p) y)
  · have e : i = n := by omega
    subst e
    exact .inl ⟨hR.stop H (hS i σ H hi p), hd σ H p⟩
/-- the list of a comprehension on its way -/
structure LcAt (M : Addr → Prop) (H1 : Hp) (D : Addr) (acc : List V) (H : Hp) : Prop where
  new : H1 D = none
  non : ¬ M D
  at_ : H D = some (.lst acc)
  fr : Fr M H1 H
def LcW (M : Addr → Prop) (H1 : Hp) (Pv : Nat → List V → Hp → Prop) (D : Addr) (i : Nat) (H : Hp) : Prop := ∃ acc, LcAt M H1 D acc H ∧ Pv i acc H
/-- Pv does not look at the list itself -/
def LcSt (M : Addr → Prop) (H1 : Hp) (Pv : Nat → List V → Hp → Prop) : Prop := ∀ i acc H' D o, H1 D = none → Fr M H1 H' → Pv i acc H' → Pv i acc (upd H' D o)
theorem lc_yes {M : Addr → Prop} {Pv : Nat → List V → Hp → Prop} {D : Addr} {i : Nat} {acc : List V} {H' H4 : Hp} {y : V} (L : LcAt M H1 D acc H') (hst : LcSt M H1 Pv) (e : Fr M H' H4) (hz : acc.length < 1000000) (p : Pv (i + 1) (acc ++ [y]) H4) :
    ∃ acc, H4 D = some (.lst acc) ∧ acc.length < sizeLine ∧ LcW M H1 Pv D (i + 1) (upd H4 D (.lst (acc ++ [y]))) :=
  ⟨acc, e D _ L.non L.at_, by rw [sl16]; omega, acc ++ [y], ⟨L.new, L.non, upd_same, (L.fr.trans e).mut L.new⟩, hst _ _ _ _ _ L.new (L.fr.trans e) p⟩
theorem lc_no {M : Addr → Prop} {Pv : Nat → List V → Hp → Prop} {D : Addr} {i : Nat} {acc : List V} {H' H4 : Hp} (L : LcAt M H1 D acc H') (e : Fr M H' H4) (p : Pv (i + 1) acc H4) : LcW M H1 Pv D (i + 1) H4 :=
  ⟨acc, ⟨L.new, L.non, e D _ L.non L.at_, L.fr.trans e⟩, p⟩
theorem lc_runs {tt : TT} {te : TE} {vs : List Nat} {Q : VK} (hR : Runs J n S item) (M : Addr → Prop) (Pv : Nat → List V → Hp → Prop) (hM : ∀ b, M b → H1 b ≠ none) (h0 : Pv 0 [] H1) (hst : LcSt M H1 Pv) (hS : ∀ i acc H', Fr M H1 H' → Pv i acc H' → S H')
    (hs : ∀ D i acc x H' H'', i < n → LcAt M H1 D acc H' → Pv i acc H' → item i x H' H'' → g x (wipe σ vs) H'' fun σ2 H2 => wipe σ2 vs = wipe σ vs ∧ tt σ2 H2 fun b H3 => if b = true then te σ2 H3 fun y H4 => ∃ acc, H4 D = some (.lst acc) ∧ acc.length < sizeLine ∧ LcW M H1 Pv D (i + 1) (upd H4 D (.lst (acc ++ [y]))) else LcW M H1 Pv D (i + 1) H3)
    (hd : ∀ D acc H', H1 D = none → Fr M H1 H' → H' D = some (.lst acc) → Pv n acc H' → Q (.ref D) H') :
    LcGoal J g tt te vs σ Q H1 := by
  intro D hD
  refine ⟨fun i m H => m = n - i ∧ i ≤ n ∧ LcW M H1 Pv D i H, ⟨n, by simp, Nat.zero_le _, [], ⟨hD, fun m => hM D m hD, upd_same, Fr.new hD⟩, hst _ _ _ _ _ hD (Fr.refl _) h0⟩, ?_⟩
  rintro i m H ⟨rfl, hi, acc, L, p⟩
  by_cases hlt : i < n
  · refine .inr ⟨hR.go i H hlt (hS i acc H L.fr p), LcW M H1 Pv D (i + 1), fun H' p' => ⟨n - (i + 1), by omega, rfl, hlt, p'⟩, fun x H' y => ?_⟩
    exact hs D i acc x H H' hlt L p (hR.yld i H x H' hlt (hS i acc H L.fr p) y)
  · have e : i = n := by omega
    subst e
    exact .inl ⟨hR.stop H (hS i acc H L.fr p), hd D acc H hD L.fr L.at_ p⟩
abbrev RunsV {α : Type} (J : It) (ys : List α) (val : α → V) (S : Hp → Prop) : Prop := Runs J ys.length S (fun i x H H' => H' = H ∧ ∃ y, ys[i]? = some y ∧ x = val y)
theorem rv_str (z : Str) : RunsV (Its z) z.cps.toList (fun c => .str (tx [c])) (fun _ => True) :=
  ⟨fun i _ h _ => by show i < z.cps.size; simpa using h, fun _ _ => by show z.cps.size ≤ z.cps.toList.length; simp, fun _ _ _ _ _ _ y => by
    obtain ⟨h, c, e1, e2⟩ := y
    exact ⟨h, c, by rw [Array.getElem?_toList]; exact e1, e2⟩⟩
theorem rv_list (K : PySem.W.Frag) (a : Addr) {α : Type} (ys : List α) (val : α → V) : RunsV (Itl K a) ys val (fun H => lstAt H a = some (ys.map val)) :=
  ⟨fun i H h s => ⟨ys.map val, val ys[i], lstAt_sq s, by simp [h]⟩, fun _ s => ⟨ys.map val, lstAt_sq s, by simp⟩, fun i H x H' h s y => by
    have e := y.2 _ (lstAt_sq s)
    rw [List.getElem?_map, List.getElem?_eq_getElem h] at e
    exact ⟨y.1, ys[i], List.getElem?_eq_getElem h, (Option.some.inj e).symm⟩⟩
theorem lc_pure {α : Type} {ys : List α} {val : α → V} {tt : TT} {te : TE} {vs : List Nat} {Q : VK} (hR : RunsV J ys val S) (hS : ∀ H', Ex H1 H' → S H') (hz : ys.length < 1000000) (p : α → Bool) (f : α → V)
    (hs : ∀ y H', y ∈ ys → Ex H1 H' → ∀ (B : V → Hp → Prop) (A : Hp → Prop), (p y = true → ∀ H'', Ex H' H'' → B (f y) H'') → (p y = false → ∀ H'', Ex H' H'' → A H'') → g (val y) (wipe σ vs) H' fun σ2 H2 => wipe σ2 vs = wipe σ vs ∧ tt σ2 H2 fun b H3 => if b = true then te σ2 H3 B else A H3)
    (hd : ∀ D H', H1 D = none → Ex H1 H' → H' D = some (.lst ((ys.filter p).map f)) → Q (.ref D) H') :
    LcGoal J g tt te vs σ Q H1 := by
  have tk : ∀ {i : Nat} {y : α}, ys[i]? = some y → ys.take (i + 1) = ys.take i ++ [y] := fun {i y} e => by
    rw [List.take_succ, e]
    rfl
  refine lc_runs hR (fun _ => False) (fun i acc _ => acc = ((ys.take i).filter p).map f) (fun _ z => z.elim) (by simp) (fun i acc H' D o _ _ e => e) (fun i acc H' e _ => hS H' e) ?_ ?_
  · rintro D i acc x H' H'' hi L rfl ⟨rfl, y, hy, rfl⟩
    have hl : (((ys.take i).filter p).map f).length < 1000000 := by
      rw [List.length_map]
      have := List.length_filter_le p (ys.take i)
      rw [List.length_take] at this
      omega
    refine hs y H'' (List.mem_of_getElem? hy) L.fr _ _ (fun hp H3 e => ?_) (fun hp H3 e => ?_)
    · refine lc_yes L (fun i acc H' D o _ _ e => e) e hl ?_
      rw [tk hy, List.filter_append, List.map_append, List.filter_cons, if_pos hp]
      rfl
    · refine lc_no L e ?_
      rw [tk hy, List.filter_append, List.map_append, List.filter_cons, if_neg (by rw [hp]; decide)]
      simp
  · rintro D acc H' hD e h rfl
    rw [List.take_length] at h
    exact hd D H' hD e h
theorem st_yes {P : Bool → Hp → Prop} (h : P true H) : tYes σ H P := h
/-- isinstance(b, bool) -/
theorem st_isBool {Q : VK} {b : Bool} (h : Q (.bl true) H) : rIs [.bl b, .ty "bool"] H Q := ⟨"bool", rfl, true, by decide +kernel, h⟩
theorem st_iStr {te : TE} {R : It → Hp → Prop} (h : te σ H (fun v H1 => ∃ x, v = .str x ∧ R (Its x) H1)) : iStr te σ H R := h
theorem st_isStr {x : Str} {P : Str → Prop} (h : P x) : ∃ y, V.str x = .str y ∧ P y := ⟨x, rfl, h⟩
theorem st_iList {tl : TE} {R : It → Hp → Prop} (h : tl σ H (fun x H1 => ∃ a, x = .ref a ∧ (∃ xs, SqL K H1 a xs) ∧ R (Itl K a) H1)) : iList K tl σ H R := h
theorem st_isList {a : Addr} {xs : List V} {P : Addr → Prop} (h1 : lstAt H a = some xs) (h : P a) : ∃ b, V.ref a = .ref b ∧ (∃ xs, SqL K H b xs) ∧ P b := ⟨a, rfl, ⟨xs, lstAt_sq h1⟩, h⟩
theorem st_iTup {tl : TE} {R : It → Hp → Prop} (h : tl σ H (fun x H1 => ∃ a, x = .ref a ∧ (∃ xs, SqT K H1 a xs) ∧ R (Itt K a) H1)) : iTup K tl σ H R := h
theorem st_isTup {a : Addr} {xs : List V} {P : Addr → Prop} (h1 : tupAt H a = some xs) (h : P a) : ∃ b, V.ref a = .ref b ∧ (∃ xs, SqT K H b xs) ∧ P b := ⟨a, rfl, ⟨xs, tupAt_sq h1⟩, h⟩
theorem st_iR1 {ta : TA} {R : It → Hp → Prop} (h : ta σ H (fun vs H1 => ∃ j : Int, vs = [.int j] ∧ -(2 ^ 62) ≤ j ∧ j < 2 ^ 62 ∧ R (Itr 0 j.toNat) H1)) : iRng1 ta σ H R := h
theorem st_isR1 {j : Int} {P : Int → Prop} (h1 : -1000000000000 ≤ j ∧ j < 1000000000000) (h : P j) : ∃ i : Int, [V.int j] = [.int i] ∧ -(2 ^ 62) ≤ i ∧ i < 2 ^ 62 ∧ P i := ⟨j, rfl, by omega, by omega, h⟩
theorem st_iR2 {ta : TA} {R : It → Hp → Prop} (h : ta σ H (fun vs H1 => ∃ i j : Int, vs = [.int i, .int j] ∧ (-(2 ^ 62) ≤ i ∧ i < 2 ^ 62 ∧ -(2 ^ 62) ≤ j ∧ j < 2 ^ 62) ∧ R (Itr i (j - i).toNat) H1)) : iRng2 ta σ H R := h
theorem st_isR2 {i j : Int} {P : Int → Int → Prop} (h1 : -1000000000000 ≤ i ∧ i < 1000000000000 ∧ -1000000000000 ≤ j ∧ j < 1000000000000) (h : P i j) : ∃ i' j' : Int, [V.int i, V.int j] = [.int i', .int j'] ∧ (-(2 ^ 62) ≤ i' ∧ i' < 2 ^ 62 ∧ -(2 ^ 62) ≤ j' ∧ j' < 2 ^ 62) ∧ P i' j' := ⟨i, j, rfl, ⟨by omega, by omega, by omega, by omega⟩, h⟩
theorem st_iEn {ta : TA} {R : It → Hp → Prop} (h : ta σ H (fun vs H1 => ∃ a xs, vs = [.ref a] ∧ SqL K H1 a xs ∧ R (Ite K a) H1)) : iEnum K ta σ H R := h
theorem st_isEn {a : Addr} {xs : List V} {P : Addr → Prop} (h1 : lstAt H a = some xs) (h : P a) : ∃ b xs, [V.ref a] = [.ref b] ∧ SqL K H b xs ∧ P b := ⟨a, xs, rfl, lstAt_sq h1, h⟩
theorem st_iZp {ta : TA} {R : It → Hp → Prop} (h : ta σ H (fun vs H1 => ∃ a b xs ys, vs = [.ref a, .ref b] ∧ SqL K H1 a xs ∧ SqL K H1 b ys ∧ R (Itz K a b) H1)) : iZip K ta σ H R := h
theorem st_isZp {a b : Addr} {xs ys : List V} {P : Addr → Addr → Prop} (h1 : lstAt H a = some xs) (h2 : lstAt H b = some ys) (h : P a b) : ∃ a' b' xs ys, [V.ref a, V.ref b] = [.ref a', .ref b'] ∧ SqL K H a' xs ∧ SqL K H b' ys ∧ P a' b' := ⟨a, b, xs, ys, rfl, lstAt_sq h1, lstAt_sq h2, h⟩
theorem st_lc {wi : TI} {tt : TT} {te : TE} {vs : List Nat} {Q : VK} (h : wi σ H fun J H1 => LcGoal J g tt te vs σ Q H1) : tLc wi g tt te vs σ H Q := h
theorem st_for {wi : TI} {tb : TS} {D : Ends} (h : wi σ H fun J H1 => ForGoal J g tb D σ H1) : tFor wi g tb D σ H := h
end
section
variable {H : Hp} {Q : VK} {σ : L2.St}
theorem st_inC {c : Nat} {z : Str} (h : Q (.bl (decide (c ∈ z.cps.toList))) H) : rInU false (.str (tx [c])) (.str z) H Q := by
  refine ⟨_, rfl, ?_⟩
  show Q (.bl (!(Builtin.Str.occurrences z ⟨#[c]⟩ 0 z.length 1).isEmpty)) H
  rw [PySem.StrLaws.found_one]
  exact h
theorem st_ninC {c : Nat} {z : Str} (h : Q (.bl (!decide (c ∈ z.cps.toList))) H) : rInU true (.str (tx [c])) (.str z) H Q := by
  refine ⟨_, rfl, ?_⟩
  show Q (.bl (!(!(Builtin.Str.occurrences z ⟨#[c]⟩ 0 z.length 1).isEmpty))) H
  rw [PySem.StrLaws.found_one]
  exact h
theorem st_all {p : Addr} {bs : List Bool} {xs : List V} (h1 : H p = some (.lst xs)) (e : xs = bs.map V.bl) (h : Q (.bl (bs.all id)) H) : rAllU [.ref p] H Q := ⟨bs, by rw [lst_of h1, e], h⟩
theorem st_gtup {K : PySem.W.Frag} {a : Addr} {xs : List V} {n : Nat} {t : TGs} {R : L2.St → Hp → Prop} (h1 : H a = some (.tup xs)) (hn : xs.length = n) (h : t xs σ H R) : gTup K n t (.ref a) σ H R := ⟨a, xs, rfl, tupAt_sq (tup_of h1), hn, h⟩
theorem st_glst {K : PySem.W.Frag} {a : Addr} {xs : List V} {n : Nat} {t : TGs} {R : L2.St → Hp → Prop} (h1 : H a = some (.lst xs)) (hn : xs.length = n) (h : t xs σ H R) : gLst K n t (.ref a) σ H R := ⟨a, xs, rfl, lstAt_sq (lst_of h1), hn, h⟩
theorem st_gcons {v : V} {r : List V} {t : TG} {u : TGs} {R : L2.St → Hp → Prop} (h : t v σ H fun σ' H' => u r σ' H' R) : gCons t u (v :: r) σ H R := ⟨v, r, rfl, h⟩
theorem st_gnil {R : L2.St → Hp → Prop} (h : R σ H) : gNil [] σ H R := ⟨rfl, h⟩
theorem st_m1 {r : V → List V → Hp → VK → Prop} {to te : TE} (h : to σ H (fun x H1 => (∃ a, x = .str a) ∧ te σ H1 fun y H2 => r x [y] H2 Q)) : tM1 r to te σ H Q := h
theorem st_isS {a : Str} {P : Prop} (h : P) : (∃ b, V.str a = .str b) ∧ P := ⟨⟨a, rfl⟩, h⟩
theorem st_bm {K : PySem.W.Frag} {T : String} {r : V → List V → Hp → VK → Prop} {to : TE} {t : TA} (h : to σ H (fun x H1 => tyV K T x H1 ∧ t σ H1 fun xs H2 => r x xs H2 Q)) : tBM K T r to t σ H Q := h
theorem st_bm0 {K : PySem.W.Frag} {T : String} {r : V → List V → Hp → VK → Prop} {to : TE} (h : to σ H (fun x H1 => tyV K T x H1 ∧ r x [] H1 Q)) : tBM0 K T r to σ H Q := h
theorem st_tyL {K : PySem.W.Frag} {p : Addr} {xs : List V} {P : Prop} (h1 : H p = some (.lst xs)) (h : P) : tyV K "list" (.ref p) H ∧ P := ⟨.inl ⟨rfl, xs, lstAt_sq (lst_of h1)⟩, h⟩
theorem st_app {p : Addr} {xs : List V} {y : V} (h1 : H p = some (.lst xs)) (hz : xs.length < 16777216) (h : Q .non (upd H p (.lst (xs ++ [y])))) : rAppend (.ref p) [y] H Q := ⟨p, xs, y, rfl, rfl, h1, by rw [sl16]; exact hz, h⟩
theorem st_listS {K : PySem.W.Frag} {z : Str} (hz : z.length ≤ 16777216) (h : ∀ p H', H p = none → Ex H H' → H' p = some (.lst (z.cps.toList.map fun c => V.str (tx [c]))) → Q (.ref p) H') : rListU K [.str z] H Q := ⟨hz, fun p hp => h p _ hp (Fr.new hp) upd_same⟩
theorem st_listQ {K : PySem.W.Frag} {a : Addr} {ys : List V} (h1 : seqAt H a = some ys) (h : ∀ p H', H p = none → Ex H H' → H' p = some (.lst ys) → Q (.ref p) H') : rListU K [.ref a] H Q := ⟨ys, seqAt_sq h1, fun p hp => h p _ hp (Fr.new hp) upd_same⟩
theorem st_tupS {K : PySem.W.Frag} {z : Str} (hz : z.length ≤ 16777216) (h : ∀ p H', H p = none → Ex H H' → H' p = some (.tup (z.cps.toList.map fun c => V.str (tx [c]))) → Q (.ref p) H') : rTupU K [.str z] H Q := ⟨hz, fun p hp => h p _ hp (Fr.new hp) upd_same⟩
theorem st_tupL {K : PySem.W.Frag} {a : Addr} {ys : List V} (h1 : lstAt H a = some ys) (h : ∀ p H', H p = none → Ex H H' → H' p = some (.tup ys) → Q (.ref p) H') : rTupU K [.ref a] H Q := ⟨ys, .inl ⟨lstAt_sq h1, fun p hp => h p _ hp (Fr.new hp) upd_same⟩⟩
def DispEnd (p : Addr) (Q : VK) (ps : List (V × V)) (H2 : Hp) : Prop := H2 p = some (.dK []) ∧ ∃ kvs : List (Key × V), ps = kvs.map (fun kv => (kV kv.1, kv.2)) ∧ kvs.length ≤ 15 ∧ Q (.ref p) (upd H2 p (.dK (mergeK [] kvs)))
theorem st_disp {trs : List (TE × TE)} (h : ∀ p H', H p = none → Ex H H' → H' p = some (.dK []) → tPairs trs σ H' (DispEnd p Q)) : tDisp trs σ H Q := fun p hp => h p _ hp (Fr.new hp) upd_same
theorem st_pair {tk tv : TE} {r : List (TE × TE)} {P : List (V × V) → Hp → Prop} (h : tk σ H fun x H1 => tv σ H1 fun y H2 => tPairs r σ H2 fun ps H3 => P ((x, y) :: ps) H3) : tPairs ((tk, tv) :: r) σ H P := h
theorem st_pairs0 {P : List (V × V) → Hp → Prop} (h : P [] H) : tPairs [] σ H P := h
theorem st_clear {p : Addr} {xs : List V} (h1 : H p = some (.lst xs)) (h : Q .non (upd H p (.lst []))) : rClear (.ref p) [] H Q := ⟨p, xs, rfl, rfl, h1, h⟩
theorem st_isL {p : Addr} {xs : List V} {n : String} {b : Bool} (h1 : H p = some (.lst xs)) (h2 : kitB "list" n = some b) (h : Q (.bl b) H) : rIs [.ref p, .ty n] H Q := ⟨"list", by show tyO (H p) = _; rw [h1]; rfl, b, h2, h⟩
theorem st_isT {p : Addr} {xs : List V} {n : String} {b : Bool} (h1 : H p = some (.tup xs)) (h2 : kitB "tuple" n = some b) (h : Q (.bl b) H) : rIs [.ref p, .ty n] H Q := ⟨"tuple", by show tyO (H p) = _; rw [h1]; rfl, b, h2, h⟩
theorem st_isI {i : Int} {n : String} {b : Bool} (h2 : kitB "int" n = some b) (h : Q (.bl b) H) : rIs [.int i, .ty n] H Q := ⟨"int", rfl, b, h2, h⟩
theorem st_isB {i : Bool} {n : String} {b : Bool} (h2 : kitB "bool" n = some b) (h : Q (.bl b) H) : rIs [.bl i, .ty n] H Q := ⟨"bool", rfl, b, h2, h⟩
theorem st_isS' {i : Str} {n : String} {b : Bool} (h2 : kitB "str" n = some b) (h : Q (.bl b) H) : rIs [.str i, .ty n] H Q := ⟨"str", rfl, b, h2, h⟩
theorem kit_ii : kitB "int" "int" = some true := by decide +kernel
theorem kit_ib : kitB "int" "bool" = some false := by decide +kernel
theorem kit_il : kitB "int" "list" = some false := by decide +kernel
theorem kit_is : kitB "int" "str" = some false := by decide +kernel
theorem kit_it : kitB "int" "tuple" = some false := by decide +kernel
theorem kit_ll : kitB "list" "list" = some true := by decide +kernel
theorem kit_lt : kitB "list" "tuple" = some false := by decide +kernel
theorem kit_tt : kitB "tuple" "tuple" = some true := by decide +kernel
theorem kit_tl : kitB "tuple" "list" = some false := by decide +kernel
theorem kit_ss : kitB "str" "str" = some true := by decide +kernel
theorem kit_bb : kitB "bool" "bool" = some true := by decide +kernel
theorem kit_bi : kitB "bool" "int" = some true := by decide +kernel
/-- a table that is read -/
structure TabR (H : Hp) (p : Addr) (rs : List Addr) (row : Nat → List V) : Prop where
  at_ : H p = some (.lst (rs.map V.ref))
  rows : ∀ k r, rs[k]? = some r → H r = some (.lst (row k))
theorem TabR.ex {H H' : Hp} {p : Addr} {rs : List Addr} {row : Nat → List V} (T : TabR H p rs row) (e : Ex H H') : TabR H' p rs row := ⟨e.get T.at_, fun k r h => e.get (T.rows k r h)⟩
theorem refs_at {rs : List Addr} {i : Nat} {r : Addr} (h : rs[i]? = some r) : atI (rs.map V.ref) (i : Int) = some (V.ref r) := by
  unfold atI
  rw [Evl.ixN_nat (by rw [List.length_map]; exact (List.getElem?_eq_some_iff.mp h).1)]
  show (rs.map V.ref)[i]? = _
  rw [List.getElem?_map, h]
  rfl
/-- x is a thing whose type is known -/
def Ty (H : Hp) (v : V) : Prop := ∃ t, tyN H v = some t
theorem ty_str (z : Str) : Ty H (.str z) := ⟨"str", rfl⟩
theorem tyN_ex {H' : Hp} {v : V} {t : String} (e : Ex H H') (h : tyN H v = some t) : tyN H' v = some t := by
  cases v with
  | ref p =>
    have h : tyO (H p) = some t := h
    show tyO (H' p) = some t
    cases q : H p with
    | none => rw [q] at h; cases h
    | some o =>
      rw [e p o (fun z => z) q]
      rw [q] at h
      exact h
  | _ => exact h
theorem Ty.ex {H' : Hp} {v : V} (h : Ty H v) (e : Ex H H') : Ty H' v := by
  obtain ⟨t, h⟩ := h
  exact ⟨t, tyN_ex e h⟩
theorem cutS_len (z : Str) (lo hi : Option Int) : (cutS z lo hi).length ≤ z.length := by
  show ((z.cps.toList.drop _).take _).toArray.size ≤ z.cps.size
  simp only [List.size_toArray, List.length_take, List.length_drop, Array.length_toList]
  omega
def isStrV : V → Bool
  | .str _ => true
  | _ => false
theorem kb_str : kitB "NoneType" "str" = some false ∧ kitB "bool" "str" = some false ∧ kitB "int" "str" = some false ∧ kitB "str" "str" = some true ∧ kitB "list" "str" = some false ∧ kitB "tuple" "str" = some false ∧ kitB "dict" "str" = some false := by decide +kernel
theorem st_isStrT {x : V} (h1 : Ty H x) (h : Q (.bl (isStrV x)) H) : rIs [x, .ty "str"] H Q := by
  obtain ⟨t, h1⟩ := h1
  obtain ⟨k1, k2, k3, k4, k5, k6, k7⟩ := kb_str
  refine st_is h1 (b := isStrV x) ?_ h
  cases x with
  | ref p =>
    have h1 : tyO (H p) = some t := h1
    unfold tyO at h1
    split at h1 <;> first | (cases h1; assumption) | cases h1
  | _ => first | (cases h1; assumption) | cases h1
end
theorem lstAt_ex {H H' : Hp} {a : Addr} {xs : List V} (e : Ex H H') (h : lstAt H a = some xs) : lstAt H' a = some xs := by
  unfold lstAt at h ⊢
  cases q : H a with
  | none => rw [q] at h; cases h
  | some o => rw [e a o (fun z => z) q]; rw [q] at h; exact h
theorem tupAt_ex {H H' : Hp} {a : Addr} {xs : List V} (e : Ex H H') (h : tupAt H a = some xs) : tupAt H' a = some xs := by
  unfold tupAt at h ⊢
  cases q : H a with
  | none => rw [q] at h; cases h
  | some o => rw [e a o (fun z => z) q]; rw [q] at h; exact h
mutual
theorem Rp.ex {H H' : Hp} (e : Ex H H') : ∀ {v : V} {d : PyData}, Rp H v d → Rp H' v d
  | _, _, .non => .non
  | _, _, .bl b => .bl b
  | _, _, .int i => .int i
  | _, _, .str x => .str x
  | _, _, .lst h k => .lst (lstAt_ex e h) (RpA.ex e k)
  | _, _, .tup h k => .tup (tupAt_ex e h) (RpA.ex e k)
theorem RpA.ex {H H' : Hp} (e : Ex H H') : ∀ {vs : List V} {ds : List PyData}, RpA H vs ds → RpA H' vs ds
  | _, _, .nil => .nil
  | _, _, .cons h k => .cons (Rp.ex e h) (RpA.ex e k)
end
theorem rpA_map {H : Hp} {α : Type} {val : α → V} {enc : α → PyData} : ∀ {xs : List α}, (∀ x ∈ xs, Rp H (val x) (enc x)) → RpA H (xs.map val) (xs.map enc)
  | [], _ => .nil
  | a :: r, h => .cons (h a List.mem_cons_self) (rpA_map fun x hx => h x (List.mem_cons_of_mem _ hx))
theorem rpA_ints {H : Hp} (ns : List Int) : RpA H (ns.map V.int) (ns.map PyData.int) := rpA_map fun _ _ => .int _
theorem eqvAll_map {α : Type} [DecidableEq α] {enc : α → PyData} (h : ∀ a b, PyData.eqv (enc a) (enc b) = decide (a = b)) : ∀ xs ys : List α, PyData.eqvAll (xs.map enc) (ys.map enc) = decide (xs = ys)
  | [], [] => by simp [PyData.eqvAll]
  | [], _ :: _ => by simp [PyData.eqvAll]
  | _ :: _, [] => by simp [PyData.eqvAll]
  | a :: r, b :: s => by
    have ih := eqvAll_map h r s
    simp only [List.map_cons, PyData.eqvAll, h, ih]
    rw [Bool.eq_iff_iff]
    simp
theorem eqv_int (a b : Int) : PyData.eqv (.int a) (.int b) = decide (a = b) := by simp only [PyData.eqv]; rfl
theorem eqv_str (a b : Str) : PyData.eqv (.str a) (.str b) = decide (a = b) := by simp only [PyData.eqv]; rfl
theorem eqv_list {α : Type} [DecidableEq α] {enc : α → PyData} (h : ∀ a b, PyData.eqv (enc a) (enc b) = decide (a = b)) (xs ys : List α) : PyData.eqv (.list (xs.map enc)) (.list (ys.map enc)) = decide (xs = ys) := by
  simp only [PyData.eqv]
  exact eqvAll_map h xs ys
theorem depth_map {α : Type} {enc : α → PyData} {n : Nat} : ∀ {xs : List α}, (∀ x ∈ xs, (enc x).depth ≤ n) → PyData.depthAll (xs.map enc) ≤ n
  | [], _ => by simp [PyData.depthAll]
  | a :: r, h => by
    simp only [List.map_cons, PyData.depthAll]
    exact Nat.max_le.mpr ⟨h a List.mem_cons_self, depth_map fun x hx => h x (List.mem_cons_of_mem _ hx)⟩
structure Df (K : PySem.W.Frag) (mg : Str → Option Value) (x : Str) (st : Stmt) (ps : List Str) (f : Addr) (fd : FuncData) : Prop where
  g : mg x = some (.ref f)
  F : Fun K x x st f fd
  b : Binds K fd ps []
theorem df_mk {K : PySem.W.Frag} {h : Heap} {mg : Str → Option Value} {x : Str} {st : Stmt} {ps : List Str} {f : Addr} {oc : Value} {od an : Option Addr} {osl : Array (Option Value)} {kV dc pm cd ct : Value} (X : K.In h) (G : h.Ns mainGlobals mg)
    (a : PySem.W.nsIn K mainGlobals x = some (some (.ref f))) (l : K.lookup f = some ⟨oc, od, .func (PySem.W.fnOf x x (defArgs st) (defBody st) (defScope st) .none kV dc pm an cd ct), osl⟩) (c : PySem.W.codeIn K cd x = true) (k : PySem.W.keepIn K (.ref f) = true)
    (hb : ∀ (kV doc pm : Value) (an : Option Addr) (cdv ct : Value) (us : List Value), us.length = ps.length → bindArgs (PySem.W.fnOf x x (defArgs st) (defBody st) (defScope st) .none kV doc pm an cdv ct) ⟨us, []⟩ = pure (ps.zip us)) :
    Df K mg x st ps f (PySem.W.fnOf x x (defArgs st) (defBody st) (defScope st) .none kV dc pm an cd ct) :=
  have F := fun_mk (st := st) l c k
  ⟨PySem.W.mg_of X G a, F, F.binds hb⟩
/-- the script: a list of ints that is read, never written -/
def Scr (K : PySem.W.Frag) (H : Hp) (a : Addr) (ns : List Int) : Prop :=
  (∃ o, H a = some (.frz o (.lst (ns.map V.int)))) ∨ ∃ (o : Obj) (its : Array Value) (n : Nat), K.lookup a = some o ∧ o.cls = .type "list" ∧ o.dict = none ∧ o.data = .seq its n ∧ its.size ≤ sizeLine ∧ Vals (ns.map V.int) its.toList
theorem FrP.fresh {H0 H1 H2 : Hp} {p : Addr} (e : Ex H0 H1) (h : H0 p = none) (f : FrP p H1 H2) : Ex H0 H2 := fun b o _ q => f b o (ne_of_none q h) (e b o (fun z => z) q)
theorem tx_nil : ("" : Str) = tx [] := by decide +kernel
theorem Scr.ex {K : PySem.W.Frag} {H H' : Hp} {a : Addr} {ns : List Int} (h : Scr K H a ns) (e : Ex H H') : Scr K H' a ns := by
  rcases h with ⟨o, h⟩ | h
  · exact .inl ⟨o, e.get h⟩
  · exact .inr h
theorem Scr.frp {K : PySem.W.Frag} {H H' : Hp} {a p : Addr} {ns : List Int} (h : Scr K H a ns) (hp : Purse H p) (e : FrP p H H') : Scr K H' a ns := by
  rcases h with ⟨o, h⟩ | h
  · refine .inl ⟨o, e.get (fun z => ?_) h⟩
    obtain ⟨x, y, z', q⟩ := hp
    rw [z, q] at h
    cases h
  · exact .inr h
end Zb
namespace Zb
open PySem PySem.Spec PyProof.Rows L2
def Ites (x : Str) : It := ⟨fun i _ => i < x.cps.size, fun i H v H' => ∃ T c, v = .ref T ∧ H T = none ∧ H' = upd H T (.tup [.int (i : Nat), .str (tx [c])]) ∧ x.cps[i]? = some c, fun i _ => i = x.cps.size⟩
def iEnS (ta : TA) : TI := fun σ H R => ta σ H fun vs H1 => ∃ x, vs = [.str x] ∧ R (Ites x) H1
theorem st_iEnS {ta : TA} {σ : L2.St} {H : Hp} {R : It → Hp → Prop} (h : ta σ H (fun vs H1 => ∃ x, vs = [.str x] ∧ R (Ites x) H1)) : iEnS ta σ H R := h
theorem st_isEnS {x : Str} {P : Str → Prop} (h : P x) : ∃ y, [V.str x] = [.str y] ∧ P y := ⟨x, rfl, h⟩
end Zb
namespace Zb
open PySem PySem.Spec PyProof.Rows L2
def clsA (K : PySem.W.Frag) (nm : Str) : Addr := match PySem.W.nsIn K mainGlobals nm with
  | some (some (.ref C)) => C
  | _ => 0
theorem clsA_of {K : PySem.W.Frag} {nm : Str} {C : Addr} (h : PySem.W.nsIn K mainGlobals nm = some (some (.ref C))) : clsA K nm = C := by unfold clsA; rw [h]
/-- what an isinstance, a field, of an exception in hand wants -/
structure XI (K : PySem.W.Frag) (C : Addr) : Prop where
  hc : (PySem.W.clsIn K C).isSome = true
  ga : PySem.W.findIn K (.ref C) "__getattribute__" = some (some (.builtin "BaseException.__getattribute__"))
  gg : PySem.W.findIn K (.ref C) "__getattr__" = some none
  sb : PySem.W.subIn K (.ref C) (.type "BaseException") = some true
  hd : PySem.W.hasDictIn K C = true
  ca : PySem.W.findIn K (.ref C) "__class__" = some (some (.builtin "object.__class__"))
  cn : PySem.W.specialIn K (.builtin "object.__class__") "__get__" = some (some (.builtin "getset_descriptor.__get__"))
  ct : PySem.W.takesIn K (.builtin "object.__class__") = some true
  cm : PySem.W.mroIn K C (.type "object") = some true
abbrev Cl := Value × Option Nat × (Addr → Value → Option Addr → TS)
def goneD (i : Nat) (D : Ends) : Ends := { nx := fun σ' H' => D.nx (σ'.set i none) H', rt := D.rt, bk := fun σ' H' => D.bk (σ'.set i none) H', ct := fun σ' H' => D.ct (σ'.set i none) H' }
def clD : Option Nat → Ends → Ends
  | none, D => D
  | some i, D => goneD i D
def clS : Option Nat → Addr → L2.St → L2.St
  | none, _, σ => σ
  | some i, a, σ => σ.set i (some (.ref a))
def wG (K : PySem.W.Frag) (Wout : WX) (D : Ends) : List Cl → WX
  | [] => Wout
  | (c, i, ts) :: r => fun cls d σ H => ∃ b, PySem.W.exmOne K cls c = some b ∧ (b = true → ∀ a, H a = none → ts a cls d (clD i D) (clS i a σ) H) ∧ (b = false → wG K Wout D r cls d σ H)
section
variable {X : Cx} {body orelse : List Stmt} {h₀ : ExceptHandler} {hds : List ExceptHandler} {l : List Cl} {pos : Pos} {tb : WX → TS} {u : TS} {Wout : WX}
def tTry (K : PySem.W.Frag) (Wout : WX) (tb : WX → TS) (u : TS) (l : List Cl) : TS := fun D σ H => tb (wG K Wout D l) { D with nx := u D } σ H
end
def XeP (K : PySem.W.Frag) (a : Addr) (cls : Value) (d : Option Addr) (n : Str) (Q : VK) : VK := fun x H1 => x = .ref a ∧ ∃ C, cls = .ref C ∧ XI K C ∧ PySem.W.findIn K (.ref C) n = some none ∧ ∃ (dd : Addr) (fs : List (Str × V)) (v : V), d = some dd ∧ H1 dd = some (.xd fs) ∧ fs.lookup n = some v ∧ Q v H1
def tXe (K : PySem.W.Frag) (a : Addr) (cls : Value) (d : Option Addr) (n : Str) (te : TE) : TE := fun σ H Q => te σ H (XeP K a cls d n Q)
def rIsX (K : PySem.W.Frag) (a : Addr) (cls : Value) (d : Option Addr) : List V → Hp → VK → Prop := fun xs H Q => ∃ (c : V) (cv : Value) (b : Bool) (C dd : Addr) (fs : List (Str × V)), xs = [.ref a, c] ∧ (∀ u, RelV c u → u = cv) ∧ cls = .ref C ∧ XI K C ∧ d = some dd ∧ H dd = some (.xd fs) ∧ PySem.W.kitOne K (.ref C) cv = some b ∧ Q (.bl b) H
structure BI (K : PySem.W.Frag) (mg : Str → Option Value) (nm : Str) : Prop where
  g : mg nm = some (.ref (clsA K nm))
  ga : PySem.W.specialIn K (.ref (clsA K nm)) "__getattribute__" = some (some (.builtin "type.__getattribute__"))
  rd : PySem.W.readsIn K (clsA K nm) (.type "type") = true
  fi : PySem.W.findCls K (.ref (clsA K nm)) (.type "type") "__init__" = some (.val (.builtin "ValueError.__init__"))
section
variable {X : Cx} {e : Expr} {es : List Expr} {ta : TA} {p1 p2 pos : Pos} {nm : Str}
theorem pe_oinit {pl : Sem Bool} (B : BI X.K X.mg nm) (hg : Gl X nm) (ha : PA X (e :: es) ta) (hdb : (nm == ("__debug__" : Str)) = false := by decide)
    (hc : eval (.Call (.Attribute (.Name nm p1) "__init__" p2) (e :: es) [] pos) X.env = (do
      let ov ← eval (.Name nm p1) X.env
      standAt p2.atName
      let (f, first) ← holding [ov] (getMethod ov "__init__" pl)
      callWith pos f first (backTo pos (starEach (e :: es) X.env)) (backToKw pos (keywordEach [] X.env))) := by rfl)
    (he : starEach (e :: es) X.env = (false, eval e X.env) :: starEach es X.env := by rfl) (hpl : (backTo pos (starEach es X.env)).any (·.1) = false := by rfl) :
    PE X (.Call (.Attribute (.Name nm p1) "__init__" p2) (e :: es) [] pos) (tVeI X.K ta) := by
  refine ⟨fun pins s σ H Q I h => ?_⟩
  refine PySem.W.methodCall_KW (ld_glob I hg B.g ?_ hdb) hc
  refine PySem.W.method_cls I.kIn B.ga (PySem.W.cls_value I.kIn B.rd B.fi (by decide +kernel) ?_)
  show wpAny _ _ (callWith pos (Value.builtin "ValueError.__init__") [] (backTo pos (starEach (e :: es) X.env)) []) _ _ _
  refine PyProof.Rows.callWith_method1 (thn (ha.run pos pins _ σ H _ (I.tok _) h) fun us s1 ⟨vs, H1, I1, r1, a, C, ws, ev, hl, T, ea, q⟩ => ?_) he hpl
  subst ev
  cases r1 with
  | @cons _ u0 _ ur ra rw' =>
    obtain rfl : u0 = Value.ref a := ra
    have hlen : ur.length ≤ sizeLine := by
      rw [← Paired.length rw', sizeLine_eq]
      omega
    exact oinit_ok T I1 ea hlen fun s' J => ⟨.non, H1, J, rfl, q⟩
end
/-- its __init__ of one field, of two -/
def spI1 (K : PySem.W.Frag) (f : Str) : Sp := fun vs H Q _ => ∃ (a C : Addr) (y : V), vs = [.ref a, y] ∧ OexC K C ∧ PySem.W.findIn K (.ref C) f = some none ∧ H a = some (exo a C none) ∧
  ∀ dx, H dx = none → dx ≠ a → Q .non (upd (upd H dx (exd dx [(f, y)])) a (exo a C (some dx)))
def spI2 (K : PySem.W.Frag) (f g : Str) : Sp := fun vs H Q _ => ∃ (a C : Addr) (y z : V), vs = [.ref a, y, z] ∧ OexC K C ∧ PySem.W.findIn K (.ref C) f = some none ∧ PySem.W.findIn K (.ref C) g = some none ∧ H a = some (exo a C none) ∧
  ∀ dx, H dx = none → dx ≠ a → Q .non (upd (upd (upd H dx (exd dx [(f, y)])) a (exo a C (some dx))) dx (exd dx [(g, z), (f, y)]))
structure EX (P : Program) (w : World) (K : PySem.W.Frag) (mg : Str → Option Value) (base : Heap) (nm : Str) (ps : List Str) (sp : Sp) : Prop where
  g : mg nm = some (.ref (clsA K nm))
  o : OexC K (clsA K nm)
  i : ∃ (fI : Addr) (fd : FuncData), PySem.W.findIn K (.ref (clsA K nm)) "__init__" = some (some (.ref fI)) ∧ PySem.W.typeIn K (.ref fI) = some (.type "function") ∧ FnOk P w K mg base CX0 1 fI fd ps sp ∧ Binds K fd ps []
def MkG (C : Addr) (sp : Sp) (vs : List V) (Q : XK) (H1 : Hp) : Prop := vs.length ≤ 1000 ∧ ∀ a, H1 a = none → sp (.ref a :: (vs ++ [])) (upd H1 a (exo a C none))
  (fun v H2 => v = .non ∧ ∃ (d : Addr) (fs : List (Str × V)), H2 a = some (exo a C (some d)) ∧ H2 d = some (exd d fs) ∧ H1 d = none ∧ Q (.ref C) (some d) (upd (del H2 a) d (.xd fs))) (fun _ _ _ => False)
def tRaise (C : Addr) (sp : Sp) (W : WX) (ta : TA) : TS := fun _ σ H => ta σ H fun vs H1 => MkG C sp vs (fun cls d H' => W cls d σ H') H1
section
variable {X : Cx} {e : Expr} {es : List Expr} {ta : TA} {p pos pos2 : Pos} {nm : Str} {ps : List Str} {sp : Sp} {W : WX}
theorem ps_raiseG (hc : X.calm = true) (T : EX X.prog X.w X.K X.mg X.base nm ps sp) (hr : Room 2 X.A) (tk : Takes X W) (hg : Gl X nm) (ha : PA X (e :: es) ta)
    (hdb : (nm == ("__debug__" : Str)) = false := by decide) (he : starEach (e :: es) X.env = (false, eval e X.env) :: starEach es X.env := by rfl) (hpl : (backTo pos (starEach es X.env)).any (·.1) = false := by rfl) :
    PS X (.Raise (some (.Call (.Name nm p) (e :: es) [] pos)) none pos2) (tRaise (clsA X.K nm) sp W ta) := by
  obtain ⟨fI, fd, i1, i2, i3, i4⟩ := T.i
  exact ps_raise hc tk (pmk_oex (dvs := []) T.o i1 i2 i3 hr i4 .nil pass0 hg T.g ha hdb he hpl)
end
theorem mk_heap {H1 : Hp} {a dx : Addr} {o1 o2 o3 u : HO} (hn : H1 a = none) (ne : dx ≠ a) : upd (del (upd (upd (upd H1 a o1) dx o2) a o3) a) dx u = upd H1 dx u := by
  funext b
  by_cases h1 : b = dx
  · rw [h1, upd_same, upd_same]
  · rw [upd_ne h1, upd_ne h1]
    by_cases h2 : b = a
    · rw [h2, del_same, hn]
    · rw [del_ne h2, upd_ne h2, upd_ne h1, upd_ne h2]
theorem mk_heap2 {H1 : Hp} {a dx : Addr} {o1 o2 o3 o4 u : HO} (hn : H1 a = none) (ne : dx ≠ a) : upd (del (upd (upd (upd (upd H1 a o1) dx o2) a o3) dx o4) a) dx u = upd H1 dx u := by
  funext b
  by_cases h1 : b = dx
  · rw [h1, upd_same, upd_same]
  · rw [upd_ne h1, upd_ne h1]
    by_cases h2 : b = a
    · rw [h2, del_same, hn]
    · rw [del_ne h2, upd_ne h1, upd_ne h2, upd_ne h1, upd_ne h2]
section
variable {K : PySem.W.Frag} {C : Addr} {Q : XK} {H : Hp} {f g : Str}
theorem st_mk1 {v : V} (T : OexC K C) (hf : PySem.W.findIn K (.ref C) f = some none) (h : ∀ d H', H d = none → Ex H H' → H' d = some (.xd [(f, v)]) → Q (.ref C) (some d) H') : MkG C (spI1 K f) [v] Q H := by
  refine ⟨(by decide : 1 ≤ 1000), fun a ha => ⟨a, C, v, rfl, T, hf, upd_same, fun dx hdx ne => ⟨rfl, dx, [(f, v)], upd_same, ?_, ?_, ?_⟩⟩⟩
  · rw [upd_ne ne]; exact upd_same
  · rw [upd_ne ne] at hdx; exact hdx
  · rw [upd_ne ne] at hdx
    rw [mk_heap ha ne]
    exact h dx _ hdx (Fr.new hdx) upd_same
theorem st_mk2 {v z : V} (T : OexC K C) (hf : PySem.W.findIn K (.ref C) f = some none) (hg : PySem.W.findIn K (.ref C) g = some none) (h : ∀ d H', H d = none → Ex H H' → H' d = some (.xd [(g, z), (f, v)]) → Q (.ref C) (some d) H') : MkG C (spI2 K f g) [v, z] Q H := by
  refine ⟨(by decide : 2 ≤ 1000), fun a ha => ⟨a, C, v, z, rfl, T, hf, hg, upd_same, fun dx hdx ne => ⟨rfl, dx, [(g, z), (f, v)], ?_, upd_same, ?_, ?_⟩⟩⟩
  · rw [upd_ne (Ne.symm ne)]; exact upd_same
  · rw [upd_ne ne] at hdx; exact hdx
  · rw [upd_ne ne] at hdx
    rw [mk_heap2 ha ne]
    exact h dx _ hdx (Fr.new hdx) upd_same
end
structure IniF (K : PySem.W.Frag) (nm qual : Str) (st : Stmt) (ps : List Str) : Prop where
  ex : ∃ (fI : Addr) (fd : FuncData), PySem.W.findIn K (.ref (clsA K nm)) "__init__" = some (some (.ref fI)) ∧ PySem.W.typeIn K (.ref fI) = some (.type "function") ∧ Fun K "__init__" qual st fI fd ∧ Binds K fd ps []
theorem ini_mk {K : PySem.W.Frag} {nm qual : Str} {st : Stmt} {ps : List Str} {f : Addr} {oc : Value} {od an : Option Addr} {osl : Array (Option Value)} {kV dc pm cd ct : Value} (i : PySem.W.findIn K (.ref (clsA K nm)) "__init__" = some (some (.ref f))) (t : PySem.W.typeIn K (.ref f) = some (.type "function"))
    (l : K.lookup f = some ⟨oc, od, .func (PySem.W.fnOf "__init__" qual (defArgs st) (defBody st) (defScope st) .none kV dc pm an cd ct), osl⟩) (c : PySem.W.codeIn K cd qual = true) (k : PySem.W.keepIn K (.ref f) = true)
    (hb : ∀ (kV doc pm : Value) (an : Option Addr) (cdv ct : Value) (us : List Value), us.length = ps.length → bindArgs (PySem.W.fnOf "__init__" qual (defArgs st) (defBody st) (defScope st) .none kV doc pm an cdv ct) ⟨us, []⟩ = pure (ps.zip us)) : IniF K nm qual st ps :=
  have F := fun_mk (st := st) l c k
  ⟨f, _, i, t, F, F.binds hb⟩
theorem ini1_go {K : PySem.W.Frag} {f tx : Str} {a C : Addr} {y : V} {H : Hp} {Q : VK} (hO : OexC K C) (hn : PySem.W.findIn K (.ref C) f = some none) (ha : H a = some (exo a C none))
    (k : ∀ dx, H dx = none → dx ≠ a → Q .non (upd (upd H dx (exd dx [(f, y)])) a (exo a C (some dx)))) :
    tSeq (tDrop (tVeI K (tCons (tVar 0) (tCons (tC (.str tx)) tNil)))) (tOst K f (tVar 0) (tVar 1)) { nx := fun _ H' => Q .non H', rt := Q } [some (.ref a), some y] H :=
  ⟨.ref a, rfl, a, C, [.str tx], rfl, Nat.le_of_ble_eq_true rfl, hO, ha, y, rfl, .ref a, rfl, a, C, rfl, hO, hn, .inl ⟨ha, k⟩⟩
/-- a thing of a kind that is known; a text not too long -/
def Thg (H : Hp) (v : V) : Prop := Ty H v ∧ ∀ z, v = .str z → z.length ≤ 16777216
theorem Thg.ex {H H' : Hp} {v : V} (h : Thg H v) (e : Ex H H') : Thg H' v := ⟨h.1.ex e, h.2⟩
/-- an error of the class nm that holds these fields is let out -/
def RaF (K : PySem.W.Frag) (E : XK) (H : Hp) (nm : Str) (fs : List (Str × V)) : Prop := ∀ d H', H d = none → Ex H H' → H' d = some (.xd fs) → E (.ref (clsA K nm)) (some d) H'
abbrev RaR (K : PySem.W.Frag) (E : XK) (H : Hp) (nm f : Str) (v : V) : Prop := RaF K E H nm [(f, v)]
theorem RaF.ex {K : PySem.W.Frag} {E : XK} {H H1 : Hp} {nm : Str} {fs : List (Str × V)} (h : RaF K E H nm fs) (e : Ex H H1) : RaF K E H1 nm fs := fun d H' h1 h2 h3 => h d H' (Ex.free e h1) (e.trans h2) h3
section
variable {D : Ends} {σ : L2.St} {H : Hp} {Q : VK} {K : PySem.W.Frag}
theorem st_raise {C : Addr} {sp : Sp} {W : WX} {ta : TA} (h : ta σ H fun vs H1 => MkG C sp vs (fun cls d H' => W cls d σ H') H1) : tRaise C sp W ta D σ H := h
theorem st_try {Wout : WX} {tb : WX → TS} {u : TS} {l : List Cl} (h : tb (wG K Wout D l) { D with nx := u D } σ H) : tTry K Wout tb u l D σ H := h
theorem st_callS {sp : Sp} {W : WX} {t : TA} (h : t σ H fun vs H1 => sp vs H1 Q (WE W σ)) : tCallS sp (WE W) t σ H Q := h
theorem st_hYn {Wout : WX} {c : Value} {i : Nat} {ts : Addr → Value → Option Addr → TS} {r : List Cl} {cls : Value} {d : Option Addr} (e : PySem.W.exmOne K cls c = some true) (h : ∀ a, H a = none → ts a cls d { nx := fun σ' H' => D.nx (σ'.set i none) H', rt := D.rt, bk := fun σ' H' => D.bk (σ'.set i none) H', ct := fun σ' H' => D.ct (σ'.set i none) H' } (σ.set i (some (.ref a))) H) : wG K Wout D ((c, some i, ts) :: r) cls d σ H := ⟨true, e, fun _ => h, fun z => nomatch z⟩
theorem st_hY0 {Wout : WX} {c : Value} {ts : Addr → Value → Option Addr → TS} {r : List Cl} {cls : Value} {d : Option Addr} (e : PySem.W.exmOne K cls c = some true) (h : ∀ a, H a = none → ts a cls d D σ H) : wG K Wout D ((c, none, ts) :: r) cls d σ H := ⟨true, e, fun _ => h, fun z => nomatch z⟩
theorem st_hN {Wout : WX} {c : Value} {i : Option Nat} {ts : Addr → Value → Option Addr → TS} {r : List Cl} {cls : Value} {d : Option Addr} (e : PySem.W.exmOne K cls c = some false) (h : wG K Wout D r cls d σ H) : wG K Wout D ((c, i, ts) :: r) cls d σ H := ⟨false, e, (fun z => by cases z), fun _ => h⟩
theorem st_xe {a : Addr} {cls : Value} {d : Option Addr} {n : Str} {te : TE} (h : te σ H (XeP K a cls d n Q)) : tXe K a cls d n te σ H Q := h
theorem st_xeP {a C dd : Addr} {n : Str} {fs : List (Str × V)} {v : V} (T : XI K C) (hno : PySem.W.findIn K (.ref C) n = some none) (h1 : H dd = some (.xd fs)) (h2 : fs.lookup n = some v) (h : Q v H) : XeP K a (.ref C) (some dd) n Q (.ref a) H := ⟨rfl, C, rfl, T, hno, dd, fs, v, rfl, h1, h2, h⟩
theorem st_isX {a C C' dd : Addr} {fs : List (Str × V)} {b : Bool} (T : XI K C) (h1 : H dd = some (.xd fs)) (e : PySem.W.kitOne K (.ref C) (.ref C') = some b) (h : Q (.bl b) H) : rIsX K a (.ref C) (some dd) [.ref a, .ref C'] H Q := ⟨.ref C', .ref C', b, C, dd, fs, rfl, fun _ r => r, rfl, T, rfl, h1, e, h⟩
theorem st_isXT {a C dd : Addr} {fs : List (Str × V)} {n : String} {b : Bool} (T : XI K C) (h1 : H dd = some (.xd fs)) (e : PySem.W.kitOne K (.ref C) (.type n) = some b) (h : Q (.bl b) H) : rIsX K a (.ref C) (some dd) [.ref a, .ty n] H Q := ⟨.ty n, .type n, b, C, dd, fs, rfl, fun _ r => r, rfl, T, rfl, h1, e, h⟩
end
end Zb
namespace Zb
open PySem PySem.Spec PyProof.Rows L2
abbrev ixSt (lo hi : Option Int) (k : Int) (n : Nat) : List Nat := Builtin.Str.strSliceIndices lo hi k n
def pick {α : Type} (is : List Nat) (xs : List α) : List α := is.filterMap (xs[·]?)
theorem vals_pick {xs : List V} {its : List Value} (r : Vals xs its) : ∀ is : List Nat, Vals (pick is xs) (pick is its)
  | [] => .nil
  | i :: is => by
    have ih := vals_pick r is
    unfold pick at ih ⊢
    rw [List.filterMap_cons, List.filterMap_cons]
    cases e : xs[i]? with
    | some v =>
      obtain ⟨u, hu, ru⟩ := r.get e
      rw [hu]
      exact .cons ru ih
    | none =>
      have hl := r.length
      rw [List.getElem?_eq_none (by rw [List.getElem?_eq_none_iff] at e; omega)]
      exact ih
theorem pick_get {α : Type} {xs : List α} : ∀ {is : List Nat}, (∀ j ∈ is, j < xs.length) → ∀ i : Nat, (pick is xs)[i]? = is[i]?.bind (xs[·]?)
  | [], _, i => by simp [pick]
  | j :: is, h, i => by
    have hj := h j List.mem_cons_self
    have ih := pick_get (xs := xs) (is := is) fun k hk => h k (List.mem_cons_of_mem _ hk)
    unfold pick at ih ⊢
    rw [List.filterMap_cons, List.getElem?_eq_getElem hj]
    cases i with
    | zero => simp [hj]
    | succ i => simpa using ih i
theorem pick_rev {α : Type} (xs : List α) : pick (ixSt none none (-1) xs.length) xs = xs.reverse := by
  have e : ixSt none none (-1) xs.length = (List.range xs.length).map fun (i : Nat) => ((xs.length : Int) - 1 + (-1) * (i : Int)).toNat := by
    show sliceRange _ _ _ = _
    unfold sliceRange
    have h0 : ¬ ((-1 : Int) > 0) := by decide
    simp only [h0, if_false]
    by_cases h : xs.length = 0
    · rw [h]; rfl
    · have h1 : ((xs.length : Int) - 1) > -1 := by omega
      simp only [h1, if_true]
      have h2 : (((xs.length : Int) - 1 - -1 - -1 - 1) / - -1).toNat = xs.length := by rw [Int.neg_neg, Int.ediv_one]; omega
      rw [h2]
  apply List.ext_getElem?
  intro i
  rw [pick_get (fun j hj => by
    rw [e, List.mem_map] at hj
    obtain ⟨i, hi, rfl⟩ := hj
    rw [List.mem_range] at hi
    show ((xs.length : Int) - 1 + (-1) * (i : Int)).toNat < xs.length
    omega), e, List.getElem?_map]
  by_cases hi : i < xs.length
  · rw [List.getElem?_range hi, List.getElem?_reverse hi]
    show xs[((xs.length : Int) - 1 + (-1) * (i : Int)).toNat]? = _
    congr 1
    omega
  · rw [List.getElem?_eq_none (l := List.range _) (by rw [List.length_range]; omega), List.getElem?_eq_none (l := xs.reverse) (by rw [List.length_reverse]; omega)]
    rfl
/-- the items at 0, 2, .. ; at 1, 3, .. -/
def evL {α : Type} : List α → List α
  | [] => []
  | [a] => [a]
  | a :: _ :: r => a :: evL r
def odL {α : Type} : List α → List α
  | [] => []
  | [_] => []
  | _ :: b :: r => b :: odL r
theorem evL_get {α : Type} : ∀ (xs : List α) (i : Nat), (evL xs)[i]? = xs[2 * i]?
  | [], i => by simp [evL]
  | [a], i => by cases i <;> simp [evL]
  | a :: b :: r, i => by
    cases i with
    | zero => simp [evL]
    | succ i =>
      have ih := evL_get r i
      show (a :: evL r)[i + 1]? = (a :: b :: r)[2 * (i + 1)]?
      rw [List.getElem?_cons_succ, ih, show 2 * (i + 1) = 2 * i + 1 + 1 from rfl, List.getElem?_cons_succ, List.getElem?_cons_succ]
theorem odL_get {α : Type} : ∀ (xs : List α) (i : Nat), (odL xs)[i]? = xs[2 * i + 1]?
  | [], i => by simp [odL]
  | [a], i => by simp [odL]
  | a :: b :: r, i => by
    cases i with
    | zero => simp [odL]
    | succ i =>
      have ih := odL_get r i
      show (b :: odL r)[i + 1]? = (a :: b :: r)[2 * (i + 1) + 1]?
      rw [List.getElem?_cons_succ, ih, show 2 * (i + 1) + 1 = 2 * i + 1 + 1 + 1 from rfl, List.getElem?_cons_succ, List.getElem?_cons_succ]
theorem pick_ev {α : Type} (xs : List α) : pick (ixSt none none 2 xs.length) xs = evL xs := by
  have e : ixSt none none 2 xs.length = (List.range ((xs.length + 1) / 2)).map fun (i : Nat) => ((0 : Int) + 2 * (i : Int)).toNat := by
    show sliceRange _ _ _ = _
    unfold sliceRange
    have h0 : ((2 : Int) > 0) := by decide
    simp only [h0, if_true]
    by_cases h : xs.length = 0
    · rw [h]; rfl
    · have h1 : (0 : Int) < (xs.length : Int) := by omega
      simp only [h1, if_true]
      have h2 : (((xs.length : Int) - 0 + 2 - 1) / 2).toNat = (xs.length + 1) / 2 := by omega
      rw [h2]
  apply List.ext_getElem?
  intro i
  rw [pick_get (fun j hj => by
    rw [e, List.mem_map] at hj
    obtain ⟨i, hi, rfl⟩ := hj
    rw [List.mem_range] at hi
    show ((0 : Int) + 2 * (i : Int)).toNat < xs.length
    omega), e, List.getElem?_map, evL_get]
  by_cases hi : i < (xs.length + 1) / 2
  · rw [List.getElem?_range hi]
    show xs[((0 : Int) + 2 * (i : Int)).toNat]? = _
    congr 1
    omega
  · rw [List.getElem?_eq_none (l := List.range _) (by rw [List.length_range]; omega), List.getElem?_eq_none (l := xs) (by omega)]
    rfl
theorem pick_od {α : Type} (xs : List α) : pick (ixSt (some 1) none 2 xs.length) xs = odL xs := by
  have e : ixSt (some 1) none 2 xs.length = (List.range (xs.length / 2)).map fun (i : Nat) => ((1 : Int) + 2 * (i : Int)).toNat := by
    show sliceRange _ _ _ = _
    unfold sliceRange
    have h0 : ((2 : Int) > 0) := by decide
    have h9 : ¬ ((1 : Int) < 0) := by decide
    simp only [h0, h9, if_true, if_false]
    by_cases h : xs.length = 0
    · rw [h]; rfl
    · have h3 : (max 0 (min 1 (xs.length : Int))) = 1 := by omega
      rw [h3]
      by_cases h1 : (1 : Int) < (xs.length : Int)
      · simp only [h1, if_true]
        have h2 : (((xs.length : Int) - 1 + 2 - 1) / 2).toNat = xs.length / 2 := by omega
        rw [h2]
      · simp only [h1, if_false]
        have h2 : xs.length / 2 = 0 := by omega
        rw [h2]
        rfl
  apply List.ext_getElem?
  intro i
  rw [pick_get (fun j hj => by
    rw [e, List.mem_map] at hj
    obtain ⟨i, hi, rfl⟩ := hj
    rw [List.mem_range] at hi
    show ((1 : Int) + 2 * (i : Int)).toNat < xs.length
    omega), e, List.getElem?_map, odL_get]
  by_cases hi : i < xs.length / 2
  · rw [List.getElem?_range hi]
    show xs[((1 : Int) + 2 * (i : Int)).toNat]? = _
    congr 1
    omega
  · rw [List.getElem?_eq_none (l := List.range _) (by rw [List.length_range]; omega), List.getElem?_eq_none (l := xs) (by omega)]
    rfl
theorem pick_len {α : Type} (is : List Nat) (xs : List α) : (pick is xs).length ≤ is.length := List.length_filterMap_le _ _
theorem ixSt_len (lo hi : Option Int) (k : Int) (n : Nat) : (ixSt lo hi k n).length ≤ n := by
  have h := PySem.sliceRange_length_le (sliceBounds lo hi (some k) n).1 (sliceBounds lo hi (some k) n).2.1 (sliceBounds lo hi (some k) n).2.2 n (fun hc => ?_) (fun hc => ?_)
  · exact h
  · simp only [sliceBounds, Option.getD_some] at hc ⊢
    simp only [hc, if_true]
    constructor
    · cases lo with
      | none => simp
      | some i => dsimp only; omega
    · cases hi with
      | none => simp
      | some i => dsimp only; omega
  · simp only [sliceBounds, Option.getD_some] at hc ⊢
    simp only [hc, if_false]
    constructor
    · cases lo with
      | none => simp
      | some i => dsimp only; omega
    · cases hi with
      | none => simp
      | some i => dsimp only; omega
def rSt (K : PySem.W.Frag) : V → Option Int → Option Int → Int → Hp → VK → Prop := fun x lo hi k H Q => match x with
  | .str z => z.length ≤ 16777216 ∧ k ≠ 0 ∧ k ≠ 1 ∧ Q (.str (tx (pick (ixSt lo hi k z.length) z.cps.toList))) H
  | .ref p => ∃ xs, SqL K H p xs ∧ k ≠ 0 ∧ ∀ q, H q = none → Q (.ref q) (upd H q (.lst (pick (ixSt lo hi k xs.length) xs)))
  | _ => False
def tSt (r : V → Option Int → Option Int → Int → Hp → VK → Prop) (te : TE) (tl th : TO) (ts : TE) : TE := fun σ H Q => te σ H fun x H1 => tl σ H1 fun l H2 => th σ H2 fun u H3 => ts σ H3 fun s H4 => ∃ k, s = .int k ∧ r x l u k H4 Q
section
variable {X : Cx} {e st : Expr} {te ts : TE} {lo hi : Option Expr} {tl th : TO} {pos p2 : Pos} {K : PySem.W.Frag}
theorem pe_slice3 (he : PE X e te) (hl : PO X lo tl) (hu : PO X hi th) (hs : PE X st ts) (hK : X.K = K := by rfl) : PE X (.Subscript e (.Slice lo hi (some st) p2) pos) (tSt (rSt K) te tl th ts) := by
  subst hK
  refine ⟨fun pins s σ H Q I h => ?_⟩
  rw [eval_Subscript]
  refine wpAny_bind (thn (he.run pins s σ H _ I h) fun v s1 ⟨x, H1, I1, r1, q1⟩ => wpAny_bind (wpAny_holding (wpAny_Slice (thn (hl.run pins s1 σ H1 _ I1 q1) fun vl s2 ⟨l, H2, I2, pl, q2⟩ => thn (hu.run pins s2 σ H2 _ I2 q2) fun vu s3 ⟨u, H3, I3, pu, q3⟩ => ?_))))
  rw [evalPart_some]
  refine thn (hs.run pins s3 σ H3 _ I3 q3) fun vk s4 ⟨xk, H4, I4, rk, q4⟩ => ?_
  obtain ⟨k, ek, q⟩ := q4
  subst ek
  obtain ⟨tk, rfl⟩ := rk
  refine wpAny_bind (wpAny_standAt ?_)
  have I5 : Inv X pins σ H4 { s4 with heap := s4.heap.push { cls := .type "slice", data := .fields #[vl, vu, .int k tk] } } := I4.kept (t' := s4.toks) fun b ob q => Heap.get?_push_of_some _ q
  have go : ∀ {T id : String}, typeLookup (.type T) "__getitem__" = pure (some (.builtin id)) → ({ s4 with heap := s4.heap.push { cls := .type "slice", data := .fields #[vl, vu, .int k tk] } } : Shared).TypeIs v T → wpAny (model X.prog X.w) X.A (getItem v (.ref s4.heap.objs.size)) (EP X pins σ Q) X.xe { s4 with heap := s4.heap.push { cls := .type "slice", data := .fields #[vl, vu, .int k tk] } } →
      wpAny (model X.prog X.w) X.A (subscriptTail e (.Slice lo hi (some st) p2) v (.ref s4.heap.objs.size)) (EP X pins σ Q) X.xe { s4 with heap := s4.heap.push { cls := .type "slice", data := .fields #[vl, vu, .int k tk] } } := by
    intro T id hT ht hg
    exact tail_any (ops := [v, .ref s4.heap.objs.size]) ht hT hg (by with_unfolding_all rfl)
  have hsl : ({ s4 with heap := s4.heap.push { cls := .type "slice", data := .fields #[vl, vu, .int k tk] } } : Shared).heap.IsSliceOf s4.heap.objs.size vl vu (.int k tk) := Heap.IsSliceOf.new ..
  cases x with
  | str z =>
    obtain ⟨hz, hk0, hk1, q⟩ := q
    obtain ⟨tz, rfl⟩ := r1
    obtain ⟨l', rfl, rfl⟩ := IsPart.raw pl
    obtain ⟨u', rfl, rfl⟩ := IsPart.raw pu
    refine go F.slot_str_getitem.lookup (typeIs_str _ _ _) ?_
    refine wpAny_getItem_str_slice (l := l') (u := u') (st := some (k, tk)) hsl (by simpa using hk0) ?_
    have c : ¬ ((k == 1 && (ixSt (l'.map (·.1)) (u'.map (·.1)) k z.length).length == z.length) = true) := by
      intro z
      rw [Bool.and_eq_true] at z
      exact hk1 (by simpa using z.1)
    show Made.post (if (k == 1 && (ixSt (l'.map (·.1)) (u'.map (·.1)) k z.length).length == z.length) = true then Made.val (.str z tz)
      else Made.str ⟨((ixSt (l'.map (·.1)) (u'.map (·.1)) k z.length).filterMap (z.cps[·]?)).toArray⟩) (EP X pins σ Q) _
    rw [if_neg c]
    have e1 : (ixSt (l'.map (·.1)) (u'.map (·.1)) k z.length).filterMap (z.cps[·]?) = pick (ixSt (l'.map (·.1)) (u'.map (·.1)) k z.length) z.cps.toList := by
      unfold pick
      congr 1
      funext j
      rw [Array.getElem?_toList]
    rw [e1]
    refine ⟨?_, .str _, H4, I5.tok _, ⟨_, rfl⟩, q⟩
    show (tx (pick _ _)).length ≤ sizeLine
    rw [tx_length, sl16]
    exact Nat.le_trans (pick_len _ _) (Nat.le_trans (ixSt_len _ _ _ _) hz)
  | ref p =>
    obtain ⟨xs, hx, hk0, q⟩ := q
    obtain rfl : v = Value.ref p := r1
    obtain ⟨its, r, ht, hz⟩ := I5.list hx
    have hlen := r.length
    refine go slot_list_getitem.lookup ht.isList.typeIs ?_
    refine wpAny_getItem_list_slice ht.isList hsl pl pu (.int k tk) (by simpa using hk0) ?_ (by rw [List.size_toArray] <;> omega)
    have e1 : slicePick its.toArray l u (some k) = (pick (ixSt l u k xs.length) its).toArray := by
      unfold slicePick pick
      congr 1
      rw [hlen]
      show (ixSt l u k its.toArray.size).filterMap _ = _
      rw [List.size_toArray]
      congr 1
      funext j
      rw [List.getElem?_toArray]
    rw [e1]
    refine ⟨.ref _, _, I5.laid (t' := s4.toks) (o := .lst (pick (ixSt l u k xs.length) xs)) (fun b ob q => Heap.get?_push_of_some _ q) (Nat.le_refl _) ?_, rfl, q _ (I5.hok.fresh (Nat.le_refl _))⟩
    exact ⟨Nat.le_trans (pick_len _ _) (Nat.le_trans (ixSt_len _ _ _ _) hz), _, 0, vals_pick r _, Heap.get?_push_size _ rfl⟩
  | _ => exact q.elim
end
section
variable {K : PySem.W.Frag} {H : Hp} {σ : L2.St} {Q : VK}
theorem st_st3 {r : V → Option Int → Option Int → Int → Hp → VK → Prop} {te ts : TE} {tl th : TO} (h : te σ H fun x H1 => tl σ H1 fun l H2 => th σ H2 fun u H3 => ts σ H3 fun s H4 => ∃ k, s = .int k ∧ r x l u k H4 Q) : tSt r te tl th ts σ H Q := h
theorem st_revS {z : Str} (hz : z.length ≤ 16777216) (h : Q (.str (tx z.cps.toList.reverse)) H) : rSt K (.str z) none none (-1) H Q := ⟨hz, by decide, by decide, by
  have e : z.length = z.cps.toList.length := Array.length_toList.symm
  rw [e, pick_rev]; exact h⟩
theorem st_evS {z : Str} (hz : z.length ≤ 16777216) (h : Q (.str (tx (evL z.cps.toList))) H) : rSt K (.str z) none none 2 H Q := ⟨hz, by decide, by decide, by
  have e : z.length = z.cps.toList.length := Array.length_toList.symm
  rw [e, pick_ev]; exact h⟩
theorem st_odS {z : Str} (hz : z.length ≤ 16777216) (h : Q (.str (tx (odL z.cps.toList))) H) : rSt K (.str z) (some 1) none 2 H Q := ⟨hz, by decide, by decide, by
  have e : z.length = z.cps.toList.length := Array.length_toList.symm
  rw [e, pick_od]; exact h⟩
theorem st_revL {p : Addr} {xs : List V} (hx : SqL K H p xs) (h : ∀ q H', H q = none → Ex H H' → H' q = some (.lst xs.reverse) → Q (.ref q) H') : rSt K (.ref p) none none (-1) H Q := ⟨xs, hx, by decide, fun q hq => by
  rw [pick_rev]; exact h q _ hq (Fr.new hq) upd_same⟩
end
end Zb
namespace Zb
open PySem PySem.Spec PyProof.Rows L2 PySem.SeqAt
inductive PEq (H : Hp) : V → V → Bool → Prop
  | same (a : Addr) : PEq H (.ref a) (.ref a) true
  | dat {x y : V} {d e : PyData} : Rp H x d → Rp H y e → min d.depth e.depth ≤ 60 → PEq H x y (PyData.eqv d e)
inductive PEqs (H : Hp) : List V → List V → List Bool → Prop
  | nil : PEqs H [] [] []
  | cons {x y : V} {b : Bool} {xs ys : List V} {bs : List Bool} : PEq H x y b → PEqs H xs ys bs → PEqs H (x :: xs) (y :: ys) (b :: bs)
theorem PEqs.len {H : Hp} : ∀ {xs ys : List V} {bs : List Bool}, PEqs H xs ys bs → ys.length = xs.length ∧ bs.length = xs.length
  | _, _, _, .nil => ⟨rfl, rfl⟩
  | _, _, _, .cons _ r => ⟨congrArg (· + 1) r.len.1, congrArg (· + 1) r.len.2⟩
theorem PEqs.at {H : Hp} : ∀ {xs ys : List V} {bs : List Bool}, PEqs H xs ys bs → ∀ j (x y : V), xs[j]? = some x → ys[j]? = some y → PEq H x y (bs.getD j true)
  | _, _, _, .nil, j, x, y, h, _ => by simp at h
  | _, _, _, .cons a r, 0, x, y, h, k => by
    have e1 : _ = x := Option.some.inj h
    have e2 : _ = y := Option.some.inj k
    rw [← e1, ← e2]
    exact a
  | _, _, _, .cons a r, j + 1, x, y, h, k => by
    have h : _ = some x := h
    have := r.at j x y (by simpa using h) (by simpa using k)
    simpa using this
section
variable {X : Cx} {H : Hp} {Q : VK} {σ : L2.St}
def rIsN : R2 := fun x y H Q => y = .non ∧ Q (.bl (decide (x = .non))) H
def rNotN : R2 := fun x y H Q => y = .non ∧ Q (.bl (!decide (x = .non))) H
theorem o_isN : OpR X (compareOp .Is) Zb.rIsN := op_isN
theorem o_notN : OpR X (compareOp .IsNot) Zb.rNotN := op_notN
theorem st_isN {x : V} (h : Q (.bl (decide (x = .non))) H) : Zb.rIsN x .non H Q := ⟨rfl, h⟩
theorem st_notN {x : V} (h : Q (.bl (!decide (x = .non))) H) : Zb.rNotN x .non H Q := ⟨rfl, h⟩
def rInt1 : List V → Hp → VK → Prop := fun vs H Q => match vs with
  | [.int i] => Q (.int i) H
  | [.bl k] => Q (.int (if k then 1 else 0)) H
  | _ => False
theorem st_intI {i : Int} (h : Q (.int i) H) : rInt1 [.int i] H Q := h
theorem st_intB {k : Bool} (h : Q (.int (if k then 1 else 0)) H) : rInt1 [.bl k] H Q := h
theorem st_iR3 {ta : TA} {R : It → Hp → Prop} (h : ta σ H (fun vs H1 => ∃ (i j c : Int) (n : Nat), vs = [.int i, .int j, .int c] ∧ RgC i j c n ∧ R (Itc i c n) H1)) : iRng3 ta σ H R := h
end
end Zb
namespace Zb
open PySem PySem.Spec PyProof.Rows L2
/-- at these addresses these objects -/
inductive ObjsAt (H : Hp) : List Addr → List HO → Prop
  | nil : ObjsAt H [] []
  | cons {a : Addr} {o : HO} {ts : List Addr} {os : List HO} : H a = some o → ObjsAt H ts os → ObjsAt H (a :: ts) (o :: os)
section
variable {H H' : Hp}
theorem ObjsAt.len : ∀ {ts : List Addr} {os : List HO}, ObjsAt H ts os → ts.length = os.length
  | _, _, .nil => rfl
  | _, _, .cons _ r => congrArg (· + 1) r.len
theorem ObjsAt.ex (e : Ex H H') : ∀ {ts : List Addr} {os : List HO}, ObjsAt H ts os → ObjsAt H' ts os
  | _, _, .nil => .nil
  | _, _, .cons h r => .cons (e.get h) (r.ex e)
theorem ObjsAt.fr {M : Addr → Prop} (e : Fr M H H') : ∀ {ts : List Addr} {os : List HO}, (∀ a ∈ ts, ¬ M a) → ObjsAt H ts os → ObjsAt H' ts os
  | _, _, _, .nil => .nil
  | _, _, hm, .cons h r => .cons (e _ _ (hm _ List.mem_cons_self) h) (r.fr e fun a ha => hm a (List.mem_cons_of_mem _ ha))
theorem ObjsAt.up {D : Addr} {u : HO} : ∀ {ts : List Addr} {os : List HO}, D ∉ ts → ObjsAt H ts os → ObjsAt (upd H D u) ts os
  | _, _, _, .nil => .nil
  | _, _, hn, .cons h r => .cons (by rw [upd_ne (fun z => hn (by rw [← z]; exact List.mem_cons_self))]; exact h) (r.up fun z => hn (List.mem_cons_of_mem _ z))
theorem ObjsAt.app : ∀ {ts us : List Addr} {os ps : List HO}, ObjsAt H ts os → ObjsAt H us ps → ObjsAt H (ts ++ us) (os ++ ps)
  | _, _, _, _, .nil, k => k
  | _, _, _, _, .cons h r, k => .cons h (r.app k)
theorem ObjsAt.at : ∀ {ts : List Addr} {os : List HO}, ObjsAt H ts os → ∀ (k : Nat) a o, ts[k]? = some a → os[k]? = some o → H a = some o
  | _, _, .nil, k, a, o, h, _ => by simp at h
  | _, _, .cons h r, 0, a, o, h1, h2 => by
    have e1 : _ = a := Option.some.inj h1
    have e2 : _ = o := Option.some.inj h2
    rw [← e1, ← e2]; exact h
  | _, _, .cons h r, k + 1, a, o, h1, h2 => r.at k a o (by simpa using h1) (by simpa using h2)
theorem ObjsAt.of : ∀ {ts : List Addr} {os : List HO}, ts.length = os.length → (∀ (k : Nat) a o, ts[k]? = some a → os[k]? = some o → H a = some o) → ObjsAt H ts os
  | [], [], _, _ => .nil
  | [], _ :: _, h, _ => by simp at h
  | _ :: _, [], h, _ => by simp at h
  | a :: ts, o :: os, h, k => .cons (k 0 a o rfl rfl) (ObjsAt.of (by simpa using h) fun j x y h1 h2 => k (j + 1) x y (by simpa using h1) (by simpa using h2))
/-- one of them changes -/
theorem ObjsAt.set {a : Addr} {u : HO} {ts : List Addr} {os : List HO} {k : Nat} (h : ObjsAt H ts os) (nd : ts.Nodup) (hk : ts[k]? = some a) : ObjsAt (upd H a u) ts (os.set k u) := by
  refine .of (by rw [List.length_set, h.len]) fun j b o h1 h2 => ?_
  by_cases e : j = k
  · subst e
    rw [hk] at h1
    cases h1
    have hl : j < os.length := by
      rw [← h.len]
      exact (List.getElem?_eq_some_iff.mp hk).1
    rw [List.getElem?_set_self hl] at h2
    cases h2
    exact upd_same
  · rw [List.getElem?_set_ne (Ne.symm e)] at h2
    rw [upd_ne (fun z : b = a => e (nd_ix nd h1 (by rw [z]; exact hk)))]
    exact h.at j b o h1 h2
end
section
variable {H : Hp} {Q : VK} {σ : L2.St}
def DGet2P (a : Addr) (y z : V) (Q : VK) (H : Hp) : Prop := ∃ o, DGet H a y o ∧ Q (o.getD z) H
theorem st_dget2 {td ty tx : TE} (h : td σ H fun x H1 => ∃ a, x = .ref a ∧ IsD H1 a ∧ ty σ H1 fun y H2 => tx σ H2 fun z H3 => DGet2P a y z Q H3) : tDGet2 td ty tx σ H Q := h
theorem st_isD {a : Addr} {kvs : List (Key × V)} {P : Addr → Prop} (h1 : H a = some (.dK kvs)) (h : P a) : ∃ b, V.ref a = .ref b ∧ IsD H b ∧ P b := ⟨a, rfl, .inl ⟨kvs, .inl h1⟩, h⟩
def DSetP (a : Addr) (y z : V) (Q : VK) (H3 : Hp) : Prop := ∃ (kvs : List (Key × V)) (k : Key), H3 a = some (.dK kvs) ∧ y = kV k ∧ kvs.length < sizeLine ∧ (∀ v, valV kvs k = some v → Q v H3) ∧ (valV kvs k = none → Q z (upd H3 a (.dK (putK kvs k z))))
theorem st_dsetd {td ty tx : TE} (h : td σ H fun x H1 => ∃ a, x = .ref a ∧ IsD H1 a ∧ ty σ H1 fun y H2 => tx σ H2 fun z H3 => DSetP a y z Q H3) : tDSetd td ty tx σ H Q := h
/-- {} -/
def DNew (Q : VK) (H : Hp) : Prop := ∀ p H', H p = none → Ex H H' → H' p = some (.dK []) → Q (.ref p) H'
theorem st_dnew (h : DNew Q H) : tDNewK σ H Q := fun p hp => h p _ hp (Fr.new hp) upd_same
theorem st_dnewP (h : ∀ p H', H p = none → Ex H H' → H' p = some (.dK []) → Q (.ref p) H') : DNew Q H := h
end
theorem at_nat {α : Type} {xs : List α} {i : Nat} {a : α} (h : xs[i]? = some a) : atI xs (i : Int) = some a := by
  unfold atI
  rw [Evl.ixN_nat (List.getElem?_eq_some_iff.mp h).1]
  exact h
theorem at_mapN {α β : Type} {f : α → β} {xs : List α} {i : Nat} {a : α} (h : xs[i]? = some a) : atI (xs.map f) (i : Int) = some (f a) := at_nat (by rw [List.getElem?_map, h]; rfl)
theorem nodup_map {α β : Type} {f : α → β} {l : List α} (nd : l.Nodup) (h : ∀ a b, f a = f b → a = b) : (l.map f).Nodup := List.pairwise_map.mpr (List.Pairwise.imp (fun n e => n (h _ _ e)) nd)
end Zb
namespace Zb
open PySem PySem.Spec PyProof.Rows L2
theorem Ex.trans {H H1 H2 : Hp} (a : Ex H H1) (b : Ex H1 H2) : Ex H H2 := Fr.trans a b
section
variable {X : Cx} {H : Hp} {Q : VK} {σ : L2.St} {K : PySem.W.Frag}
def rIsB : R2 := fun x y H Q => ∃ a b, x = .bl a ∧ y = .bl b ∧ Q (.bl (decide (a = b))) H
def rNotB : R2 := fun x y H Q => ∃ a b, x = .bl a ∧ y = .bl b ∧ Q (.bl (!decide (a = b))) H
theorem st_isB2 {a b : Bool} (h : Q (.bl (decide (a = b))) H) : rIsB (.bl a) (.bl b) H Q := ⟨a, b, rfl, rfl, h⟩
theorem st_notB2 {a b : Bool} (h : Q (.bl (!decide (a = b))) H) : rNotB (.bl a) (.bl b) H Q := ⟨a, b, rfl, rfl, h⟩
theorem st_chain {r r' : R2} {ta tb tc : TE} (h : ta σ H fun x H1 => tb σ H1 fun y H2 => r x y H2 fun z H3 => ∃ k, z = .bl k ∧ (if k = true then tc σ H3 fun w' H4 => r' y w' H4 Q else Q (.bl false) H3)) : tChain r r' ta tb tc σ H Q := h
def isIntV : V → Bool
  | .int _ => true
  | .bl _ => true
  | _ => false
theorem kb_int : kitB "NoneType" "int" = some false ∧ kitB "bool" "int" = some true ∧ kitB "int" "int" = some true ∧ kitB "str" "int" = some false ∧ kitB "list" "int" = some false ∧ kitB "tuple" "int" = some false ∧ kitB "dict" "int" = some false := by decide +kernel
theorem st_isIntT {x : V} (h1 : Ty H x) (h : Q (.bl (isIntV x)) H) : rIs [x, .ty "int"] H Q := by
  obtain ⟨t, h1⟩ := h1
  obtain ⟨k1, k2, k3, k4, k5, k6, k7⟩ := kb_int
  refine st_is h1 (b := isIntV x) ?_ h
  cases x with
  | ref p =>
    have h1 : tyO (H p) = some t := h1
    unfold tyO at h1
    split at h1 <;> first | (cases h1; assumption) | cases h1
  | _ => first | (cases h1; assumption) | cases h1
/-- a value as a test -/
def tTru (K : PySem.W.Frag) (ta : TE) : TT := fun σ H B => ta σ H fun x H' => ∃ k, TruV K x H' k ∧ B k H'
theorem pt_tru {a : Expr} {ta : TE} (ha : PE X a ta) (he : ∀ whole, isTrue a X.env whole = (do let v ← whole; standAt a.pos; holding [v] (truthy v))) (hK : X.K = K := by rfl) : PT X a (tTru K ta) := by subst hK; exact pt_truth ha he
theorem st_tru {ta : TE} {B : Bool → Hp → Prop} (h : ta σ H fun x H' => ∃ k, TruV K x H' k ∧ B k H') : tTru K ta σ H B := h
theorem st_truB {b : Bool} {P : Bool → Prop} (h : P b) : ∃ k, TruV K (.bl b) H k ∧ P k := ⟨b, rfl, h⟩
theorem st_truI {i : Int} {P : Bool → Prop} (h : P (i != 0)) : ∃ k, TruV K (.int i) H k ∧ P k := ⟨_, rfl, h⟩
def WhPost (W : Nat → L2.St → Hp → Prop) (m : Nat) (tb : TS) (D : Ends) (σ : L2.St) : Bool → Hp → Prop := fun b H1 => if b = true then ∃ N : L2.St → Hp → Prop, (∀ σ' H', N σ' H' → ∃ m', m' < m ∧ W m' σ' H') ∧ tb { D with nx := N, ct := N, bk := D.nx } σ H1 else D.nx σ H1
def WhGoal (c : TT) (tb : TS) (D : Ends) (σ : L2.St) (H : Hp) : Prop := ∃ W : Nat → L2.St → Hp → Prop, (∃ m, W m σ H) ∧ ∀ m σ H, W m σ H → c σ H (WhPost W m tb D σ)
theorem st_while {c : TT} {tb : TS} {D : Ends} (h : WhGoal c tb D σ H) : tWhile c tb D σ H := h
/-- W: the word of the loop, with a number that falls -/
theorem while_inv {c : TT} {tb : TS} {D : Ends} (W : Nat → L2.St → Hp → Prop) (h0 : ∃ m, W m σ H) (hs : ∀ m σ H, W m σ H → c σ H (WhPost W m tb D σ)) : WhGoal c tb D σ H := ⟨W, h0, hs⟩
theorem wh_T {W : Nat → L2.St → Hp → Prop} {m : Nat} {tb : TS} {D : Ends} {b : Bool} (hb : b = true) (h : tb { D with nx := fun σ' H' => ∃ m', m' < m ∧ W m' σ' H', ct := fun σ' H' => ∃ m', m' < m ∧ W m' σ' H', bk := D.nx } σ H) : WhPost W m tb D σ b H := by
  unfold WhPost
  rw [if_pos hb]
  exact ⟨_, fun _ _ z => z, h⟩
theorem wh_F {W : Nat → L2.St → Hp → Prop} {m : Nat} {tb : TS} {D : Ends} {b : Bool} (hb : b = false) (h : D.nx σ H) : WhPost W m tb D σ b H := by
  unfold WhPost
  rw [hb, if_neg Bool.false_ne_true]
  exact h
end
def tupO (q : Nat × Nat) : HO := .tup [.int (q.1 : Nat), .int (q.2 : Nat)]
abbrev ZP := Addr × (Nat × Nat)
abbrev zV (z : ZP) : V := .ref z.1
/-- each of these stands as its tuple -/
def TP (H : Hp) (zs : List ZP) : Prop := ∀ z ∈ zs, H z.1 = some (tupO z.2)
section
variable {H H' : Hp} {zs ys : List ZP}
theorem TP.ex (h : TP H zs) (e : Ex H H') : TP H' zs := fun z hz => e.get (h z hz)
theorem TP.sub (h : TP H zs) (e : ∀ z ∈ ys, z ∈ zs) : TP H ys := fun z hz => h z (e z hz)
theorem tup_ne_purse {a p : Addr} {q : Nat × Nat} (h : H a = some (tupO q)) (hp : Purse H p) : a ≠ p := fun e => by
  obtain ⟨x, y, z, hp⟩ := hp
  rw [e, hp] at h
  cases h
theorem zs_ne_purse {a p : Addr} (h : H a = some (.lst (zs.map zV))) (hp : Purse H p) : a ≠ p := fun e => by
  obtain ⟨x, y, z, hp⟩ := hp
  rw [e, hp] at h
  cases zs with
  | nil => cases h
  | cons c r =>
    have h : HO.lst [V.int x, V.int y, V.int z] = HO.lst (V.ref c.1 :: r.map zV) := Option.some.inj h
    cases h
theorem TP.frp {p : Addr} (h : TP H zs) (hp : Purse H p) (e : FrP p H H') : TP H' zs := fun z hz => e.get (tup_ne_purse (h z hz) hp) (h z hz)
theorem TP.up {D : Addr} {xs : List V} {u : HO} (h : TP H zs) (hD : H D = some (.lst xs)) : TP (upd H D u) zs := fun z hz => by
  rw [upd_ne fun e => ?_]
  · exact h z hz
  · have := h z hz
    rw [e, hD] at this
    cases this
theorem TP.app (h : TP H zs) (k : TP H ys) : TP H (zs ++ ys) := fun z hz => by
  rcases List.mem_append.mp hz with q | q
  · exact h z q
  · exact k z q
theorem TP.cons {z : ZP} (h : H z.1 = some (tupO z.2)) (k : TP H ys) : TP H (z :: ys) := fun y hy => by
  rcases List.mem_cons.mp hy with q | q
  · rw [q]; exact h
  · exact k y q
theorem TP.perm (h : TP H zs) (e : ys.Perm zs) : TP H ys := h.sub fun z hz => e.mem_iff.mp hz
def encQ (q : Nat × Nat) : PyData := .tuple [.int (q.1 : Nat), .int (q.2 : Nat)]
theorem TP.rp1 {z : ZP} (h : H z.1 = some (tupO z.2)) : Rp H (zV z) (encQ z.2) := .tup (tup_of h) (.cons (.int _) (.cons (.int _) .nil))
theorem TP.rp (h : TP H zs) : RpA H (zs.map zV) (zs.map fun z => encQ z.2) := rpA_map fun z hz => TP.rp1 (h z hz)
theorem TP.rpL {a : Addr} (h : TP H zs) (ha : H a = some (.lst (zs.map zV))) : Rp H (.ref a) (.list (zs.map fun z => encQ z.2)) := .lst (lst_of ha) h.rp
theorem encQ_depth (q : Nat × Nat) : (encQ q).depth ≤ 2 := by simp [encQ, PyData.depth, PyData.depthAll]
theorem eqv_encQ (a b : Nat × Nat) : PyData.eqv (encQ a) (encQ b) = decide (a = b) := by
  obtain ⟨a1, a2⟩ := a
  obtain ⟨b1, b2⟩ := b
  simp only [encQ, PyData.eqv, PyData.eqvAll, Bool.and_true]
  rw [Bool.eq_iff_iff]
  simp [Prod.ext_iff]
  omega
theorem eqv_zs (zs ys : List ZP) : PyData.eqv (.list (zs.map fun z => encQ z.2)) (.list (ys.map fun z => encQ z.2)) = decide (zs.map (·.2) = ys.map (·.2)) := by
  have h := eqv_list (enc := encQ) eqv_encQ (zs.map (·.2)) (ys.map (·.2))
  rw [List.map_map, List.map_map] at h
  exact h
end
end Zb
namespace Zb
open PySem PySem.Spec PyProof.Rows L2
/-- a def's promise, where no list is being shown -/
structure FnG (P : Program) (w : World) (K : PySem.W.Frag) (mg : Str → Option Value) (base : Heap) (CX : CXT) (k : Nat) (f : Addr) (fd : FuncData) (ps : List Str) (sp : Sp) : Prop where
  len : ∀ vs H Q E, sp vs H Q E → vs.length = ps.length
  go : ∀ (A : Around) (outer : List Env) (s : Shared) (H : Hp) (args : Args) (us : List Value) (vs : List V) (Q : VK) (E : XK), A.guards = some [] → Room k A → Env0 P w K mg base A outer s H → BindsTo s fd args (ps.zip us) → Vals vs us → sp vs H Q E →
    codeAny (model P w) A (.call (.ref f) args) (CR CX outer P w H s Q E) s
section
variable {P : Program} {w : World} {K : PySem.W.Frag} {mg : Str → Option Value} {base : Heap} {k : Nat} {f : Addr} {fd : FuncData} {ps : List Str} {sp : Sp}
theorem FnG.of {CX : CXT} (F : FnOk P w K mg base CX k f fd ps sp) : FnG P w K mg base CX k f fd ps sp := ⟨F.len, fun A outer s H args us vs Q E _ => F.run A outer s H args us vs Q E⟩
end
def keyD : Key → PyData
  | .inl i => .int i
  | .inr x => .str x
mutual
inductive Rq (H : Hp) : V → PyData → Prop
  | non : Rq H .non .none
  | bl (b : Bool) : Rq H (.bl b) (.bool b)
  | int (i : Int) : Rq H (.int i) (.int i)
  | str (x : Str) : Rq H (.str x) (.str x)
  | lst {a : Addr} {xs : List V} {ds : List PyData} : lstAt H a = some xs → RqA H xs ds → Rq H (.ref a) (.list ds)
  | tup {a : Addr} {xs : List V} {ds : List PyData} : tupAt H a = some xs → RqA H xs ds → Rq H (.ref a) (.tuple ds)
  | dk {a : Addr} {kvs : List (Key × V)} {ds : List PyData} : H a = some (.dK kvs) → RqA H (kvs.map (·.2)) ds → Rq H (.ref a) (.dict ((kvs.map fun q => keyD q.1).zip ds))
inductive RqA (H : Hp) : List V → List PyData → Prop
  | nil : RqA H [] []
  | cons {v : V} {vs : List V} {d : PyData} {ds : List PyData} : Rq H v d → RqA H vs ds → RqA H (v :: vs) (d :: ds)
end
theorem RqA.len {H : Hp} : ∀ {vs : List V} {ds : List PyData}, RqA H vs ds → vs.length = ds.length
  | _, _, .nil => rfl
  | _, _, .cons _ k => congrArg (· + 1) k.len
theorem Rq.dk0 {H : Hp} {a : Addr} (h : H a = some (.dK [])) : Rq H (.ref a) (.dict []) := .dk h .nil
mutual
theorem Rp.rq {H : Hp} : ∀ {v : V} {d : PyData}, Rp H v d → Rq H v d
  | _, _, .non => .non
  | _, _, .bl b => .bl b
  | _, _, .int i => .int i
  | _, _, .str x => .str x
  | _, _, .lst h k => .lst h (RpA.rq k)
  | _, _, .tup h k => .tup h (RpA.rq k)
theorem RpA.rq {H : Hp} : ∀ {vs : List V} {ds : List PyData}, RpA H vs ds → RqA H vs ds
  | _, _, .nil => .nil
  | _, _, .cons h k => .cons (Rp.rq h) (RpA.rq k)
theorem noDict {H : Hp} : ∀ {v : V} {d : PyData}, Rp H v d → d.hasDict = false
  | _, _, .non => rfl
  | _, _, .bl b => rfl
  | _, _, .int i => rfl
  | _, _, .str x => rfl
  | _, _, .lst h k => by simp only [PyData.hasDict]; exact noDictA k
  | _, _, .tup h k => by simp only [PyData.hasDict]; exact noDictA k
theorem noDictA {H : Hp} : ∀ {vs : List V} {ds : List PyData}, RpA H vs ds → PyData.hasDictAll ds = false
  | _, _, .nil => rfl
  | _, _, .cons h k => by simp only [PyData.hasDictAll, noDict h, noDictA k, Bool.or_self]
end
section
variable {X : Cx} {pins : List (Addr × Obj)} {σ : L2.St} {H : Hp} {s : Shared}
theorem pairs_keys {h : Heap} {P : Program} {w : World} : ∀ {es : List DictEntry} {kvs : List (Key × V)} {vs : List (Key × Value)}, Pairs (mixKind P w) es vs → KV kvs vs → ∃ as, ReadsAll h (es.map (·.key)) (kvs.map fun q => keyD q.1) as
  | _, _, _, .nil, .nil => ⟨_, .nil⟩
  | _, _, _, .cons (e := e) (kv := kv) h1 h2 h3, .cons (a := p) q r => by
    obtain ⟨as, k⟩ := pairs_keys (h := h) h3 r
    have hk : (mixKind P w).is kv.1 e.key = true := h1
    rcases keyIs_shape hk with ⟨i, t, e1, e2⟩ | ⟨x, t, e1, e2⟩
    · refine ⟨_, .cons (as := []) ?_ k⟩
      show Reads h e.key (keyD p.1) []
      rw [q.1, e1, e2]
      exact .int i t
    · refine ⟨_, .cons (as := []) ?_ k⟩
      show Reads h e.key (keyD p.1) []
      rw [q.1, e1, e2]
      exact .str x t
theorem pairs_vals {P : Program} {w : World} : ∀ {es : List DictEntry} {kvs : List (Key × V)} {vs : List (Key × Value)}, Pairs (mixKind P w) es vs → KV kvs vs → Vals (kvs.map (·.2)) (es.map (·.val))
  | _, _, _, .nil, .nil => .nil
  | _, _, _, .cons (e := e) (kv := kv) h1 h2 h3, .cons (a := p) q r => .cons (by show RelV p.2 e.val; rw [h2]; exact q.2) (pairs_vals h3 r)
theorem zip_fst {α β : Type} : ∀ {xs : List α} {ys : List β}, xs.length = ys.length → (xs.zip ys).map (·.1) = xs := fun h => List.map_fst_zip (Nat.le_of_eq h)
theorem zip_snd {α β : Type} : ∀ {xs : List α} {ys : List β}, xs.length = ys.length → (xs.zip ys).map (·.2) = ys := fun h => List.map_snd_zip (Nat.le_of_eq h.symm)
/-- a tracked dict, as an object -/
theorem dk_obj (I : Inv X pins σ H s) {a : Addr} {kvs : List (Key × V)} (h : H a = some (.dK kvs)) : (a == sysModules) = false ∧ ∃ (o : Obj) (es : Array DictEntry) (n : Nat), s.heap.get? a = some o ∧ o.cls = .type "dict" ∧ o.data = .dict es n ∧ (∃ as, ReadsAll s.heap (es.toList.map (·.key)) (kvs.map fun q => keyD q.1) as) ∧ Vals (kvs.map (·.2)) (es.toList.map (·.val)) := by
  obtain ⟨_, hs, vs, rv, o, es, ep, e1, e2, e3, _, e5, _⟩ := dk_of I.hok h
  exact ⟨hs, o, es, ep, e1, e2.1, e3, pairs_keys e5 rv, pairs_vals e5 rv⟩
mutual
theorem Rq.reads (I : Inv X pins σ H s) : ∀ {v : V} {d : PyData} {u : Value}, Rq H v d → RelV v u → ∃ as, Reads s.heap u d as
  | _, _, u, .non, r => by cases r; exact ⟨_, .none⟩
  | _, _, u, .bl b, r => by cases r; exact ⟨_, .bool b⟩
  | _, _, u, .int i, r => by obtain ⟨t, rfl⟩ := r; exact ⟨_, .int i t⟩
  | _, _, u, .str x, r => by obtain ⟨t, rfl⟩ := r; exact ⟨_, .str x t⟩
  | _, _, u, @Rq.lst _ a xs ds h k, r => by
    obtain rfl : u = Value.ref a := r
    obtain ⟨its, rv, p, _⟩ := I.list (lstAt_sq h)
    obtain ⟨as, q1⟩ := RqA.reads I k rv
    obtain ⟨o, n, e1, e2, e3, e4⟩ := p
    exact ⟨_, .list e1 e2 e4 q1⟩
  | _, _, u, @Rq.tup _ a xs ds h k, r => by
    obtain rfl : u = Value.ref a := r
    obtain ⟨its, rv, p, _⟩ := I.tuple (tupAt_sq h)
    obtain ⟨as, q1⟩ := RqA.reads I k rv
    obtain ⟨o, e1, e2, n, e3⟩ := p
    exact ⟨_, .tuple e1 e2 e3 q1⟩
  | _, _, u, @Rq.dk _ a kvs ds h k, r => by
    obtain rfl : u = Value.ref a := r
    obtain ⟨_, o, es, n, e1, e2, e3, ⟨as, kr⟩, rv⟩ := dk_obj I h
    obtain ⟨bs, vr⟩ := RqA.reads I k rv
    have hl : (kvs.map fun q => keyD q.1).length = ds.length := by rw [List.length_map, ← k.len, List.length_map]
    exact ⟨_, .dict e1 e2 e3 (by rw [zip_fst hl]; exact kr) (by rw [zip_snd hl]; exact vr)⟩
theorem RqA.reads (I : Inv X pins σ H s) : ∀ {vs : List V} {ds : List PyData} {us : List Value}, RqA H vs ds → Vals vs us → ∃ as, ReadsAll s.heap us ds as
  | _, _, us, .nil, r => by cases r; exact ⟨_, .nil⟩
  | _, _, us, .cons h k, r => by
    cases r with
    | cons r1 r2 =>
      obtain ⟨as, a1⟩ := Rq.reads I h r1
      obtain ⟨bs, b1⟩ := RqA.reads I k r2
      exact ⟨_, .cons a1 b1⟩
end
end
end Zb
namespace Zb
open PySem PySem.Spec PyProof.Rows L2
def tyD : PyData → String
  | .none => "NoneType"
  | .bool _ => "bool"
  | .int _ => "int"
  | .str _ => "str"
  | .list _ => "list"
  | .tuple _ => "tuple"
  | .dict _ => "dict"
theorem Rq.tyn {H : Hp} {x : V} {d : PyData} (h : Rq H x d) : tyN H x = some (tyD d) := by
  cases h with
  | non => rfl
  | bl b => rfl
  | int i => rfl
  | str y => rfl
  | @lst a xs ds h _ =>
    show tyO (H a) = _
    unfold lstAt at h
    unfold tyO
    split at h <;> first | (rename_i e; rw [e]; rfl) | cases h
  | @tup a xs ds h _ =>
    show tyO (H a) = _
    unfold tupAt at h
    unfold tyO
    split at h <;> first | (rename_i e; rw [e]; rfl) | cases h
  | @dk a kvs ds h _ =>
    show tyO (H a) = _
    rw [h]
    rfl
theorem Rq.ty {H : Hp} {x : V} {d : PyData} (h : Rq H x d) : Ty H x := ⟨_, h.tyn⟩
theorem Rp.ty {H : Hp} {x : V} {d : PyData} (h : Rp H x d) : Ty H x := h.rq.ty
section
variable {H : Hp} {Q : VK} {K : PySem.W.Frag}
def isListD : PyData → Bool
  | .list _ => true
  | _ => false
def isTupD : PyData → Bool
  | .tuple _ => true
  | _ => false
/-- the items of data -/
theorem Rp.listAt {x : V} {ds : List PyData} (h : Rp H x (.list ds)) : ∃ a xs, x = .ref a ∧ lstAt H a = some xs ∧ RpA H xs ds := by
  cases h with
  | lst h k => exact ⟨_, _, rfl, h, k⟩
theorem RpA.len : ∀ {xs : List V} {ds : List PyData}, RpA H xs ds → xs.length = ds.length
  | _, _, .nil => rfl
  | _, _, .cons _ k => congrArg (· + 1) k.len
theorem RpA.at : ∀ {xs : List V} {ds : List PyData}, RpA H xs ds → ∀ (i : Nat) x, xs[i]? = some x → ∃ d, ds[i]? = some d ∧ Rp H x d
  | _, _, .nil, i, x, h => by simp at h
  | _, _, .cons a k, 0, x, h => by
    have e : _ = x := Option.some.inj h
    exact ⟨_, rfl, e ▸ a⟩
  | _, _, .cons a k, i + 1, x, h => k.at i x (by simpa using h)
end
end Zb
namespace Zb
open PySem PySem.Spec PyProof.Rows L2
mutual
/-- v is d, by things that are not frozen; empty dicts may be among them -/
inductive Rn (H : Hp) : V → PyData → Prop
  | non : Rn H .non .none
  | bl (b : Bool) : Rn H (.bl b) (.bool b)
  | int (i : Int) : Rn H (.int i) (.int i)
  | str (x : Str) : Rn H (.str x) (.str x)
  | lst {a : Addr} {xs : List V} {ds : List PyData} : H a = some (.lst xs) → RnA H xs ds → Rn H (.ref a) (.list ds)
  | tup {a : Addr} {xs : List V} {ds : List PyData} : H a = some (.tup xs) → RnA H xs ds → Rn H (.ref a) (.tuple ds)
  | dk {a : Addr} : H a = some (.dK []) → Rn H (.ref a) (.dict [])
inductive RnA (H : Hp) : List V → List PyData → Prop
  | nil : RnA H [] []
  | cons {v : V} {vs : List V} {d : PyData} {ds : List PyData} : Rn H v d → RnA H vs ds → RnA H (v :: vs) (d :: ds)
end
section
variable {H H' : Hp}
mutual
theorem Rn.rq : ∀ {v : V} {d : PyData}, Rn H v d → Rq H v d
  | _, _, .non => .non
  | _, _, .bl b => .bl b
  | _, _, .int i => .int i
  | _, _, .str x => .str x
  | _, _, .lst h k => .lst (lst_of h) (RnA.rq k)
  | _, _, .tup h k => .tup (tup_of h) (RnA.rq k)
  | _, _, .dk h => .dk0 h
theorem RnA.rq : ∀ {vs : List V} {ds : List PyData}, RnA H vs ds → RqA H vs ds
  | _, _, .nil => .nil
  | _, _, .cons h k => .cons (Rn.rq h) (RnA.rq k)
end
mutual
theorem Rn.rp : ∀ {v : V} {d : PyData}, Rn H v d → d.hasDict = false → Rp H v d
  | _, _, .non, _ => .non
  | _, _, .bl b, _ => .bl b
  | _, _, .int i, _ => .int i
  | _, _, .str x, _ => .str x
  | _, _, .lst h k, n => .lst (lst_of h) (RnA.rp k (by simpa only [PyData.hasDict] using n))
  | _, _, .tup h k, n => .tup (tup_of h) (RnA.rp k (by simpa only [PyData.hasDict] using n))
  | _, _, .dk h, n => by simp [PyData.hasDict] at n
theorem RnA.rp : ∀ {vs : List V} {ds : List PyData}, RnA H vs ds → PyData.hasDictAll ds = false → RpA H vs ds
  | _, _, .nil, _ => .nil
  | _, _, .cons h k, n => by
    simp only [PyData.hasDictAll, Bool.or_eq_false_iff] at n
    exact .cons (Rn.rp h n.1) (RnA.rp k n.2)
end
mutual
theorem Rn.ex (e : Ex H H') : ∀ {v : V} {d : PyData}, Rn H v d → Rn H' v d
  | _, _, .non => .non
  | _, _, .bl b => .bl b
  | _, _, .int i => .int i
  | _, _, .str x => .str x
  | _, _, .lst h k => .lst (e.get h) (RnA.ex e k)
  | _, _, .tup h k => .tup (e.get h) (RnA.ex e k)
  | _, _, .dk h => .dk (e.get h)
theorem RnA.ex (e : Ex H H') : ∀ {vs : List V} {ds : List PyData}, RnA H vs ds → RnA H' vs ds
  | _, _, .nil => .nil
  | _, _, .cons h k => .cons (Rn.ex e h) (RnA.ex e k)
end
theorem Rn.listAt {x : V} {ds : List PyData} (h : Rn H x (.list ds)) : ∃ a xs, x = .ref a ∧ H a = some (.lst xs) ∧ RnA H xs ds := by
  cases h with
  | lst h k => exact ⟨_, _, rfl, h, k⟩
theorem Rn.tupAt {x : V} {ds : List PyData} (h : Rn H x (.tuple ds)) : ∃ a xs, x = .ref a ∧ H a = some (.tup xs) ∧ RnA H xs ds := by
  cases h with
  | tup h k => exact ⟨_, _, rfl, h, k⟩
theorem RnA.len : ∀ {xs : List V} {ds : List PyData}, RnA H xs ds → xs.length = ds.length
  | _, _, .nil => rfl
  | _, _, .cons _ k => congrArg (· + 1) k.len
theorem rnA_map {α : Type} {val : α → V} {enc : α → PyData} : ∀ {xs : List α}, (∀ x ∈ xs, Rn H (val x) (enc x)) → RnA H (xs.map val) (xs.map enc)
  | [], _ => .nil
  | x :: xs, h => .cons (h x List.mem_cons_self) (rnA_map fun y hy => h y (List.mem_cons_of_mem _ hy))
theorem TP.rn1 {z : ZP} (h : H z.1 = some (tupO z.2)) : Rn H (zV z) (encQ z.2) := .tup h (.cons (.int _) (.cons (.int _) .nil))
theorem TP.rn {zs : List ZP} (h : TP H zs) : RnA H (zs.map zV) (zs.map fun z => encQ z.2) := rnA_map fun z hz => TP.rn1 (h z hz)
theorem TP.rnL {zs : List ZP} {a : Addr} (h : TP H zs) (ha : H a = some (.lst (zs.map zV))) : Rn H (.ref a) (.list (zs.map fun z => encQ z.2)) := .lst ha h.rn
end
mutual
/-- how many things data holds -/
def szD : PyData → Nat
  | .list ds => 1 + szA ds
  | .tuple ds => 1 + szA ds
  | .dict _ => 1
  | _ => 1
def szA : List PyData → Nat
  | [] => 0
  | d :: ds => szD d + szA ds
end
end Zb
namespace Zb
open PySem PySem.Spec PyProof.Rows L2
mutual
/-- numbers of few figures, texts that are shown by few signs, no dict but the empty one -/
def okD : PyData → Bool
  | .none => true
  | .bool _ => true
  | .int i => decide (i.natAbs < 1000000)
  | .str x => decide ((reprText x).length ≤ 14)
  | .list ds => okA ds
  | .tuple ds => okA ds
  | .dict kvs => kvs.isEmpty
def okA : List PyData → Bool
  | [] => true
  | d :: ds => okD d && okA ds
end
/-- data that may be handed round: d is v, small, with no dict but itself -/
structure Sd (H : Hp) (v : V) (d : PyData) : Prop where
  rn : Rn H v d
  hd : d.hasDict = true → d = .dict []
  ok : okD d = true
  sz : szD d ≤ 999999
  dp : d.depth ≤ 59
theorem Sd.ex {H H' : Hp} {v : V} {d : PyData} (h : Sd H v d) (e : Ex H H') : Sd H' v d := ⟨h.rn.ex e, h.hd, h.ok, h.sz, h.dp⟩
/-- v is small data of n things, k deep -/
def Sm (H : Hp) (v : V) (n k : Nat) : Prop := ∃ d, Rn H v d ∧ d.hasDict = false ∧ okD d = true ∧ szD d ≤ n ∧ d.depth ≤ k
section
variable {H H' : Hp} {v : V} {n k m : Nat}
theorem Sm.up {n' k' : Nat} (h : Sm H v n k) (h1 : n ≤ n') (h2 : k ≤ k') : Sm H v n' k' := by
  obtain ⟨d, a, b, c, e, f⟩ := h
  exact ⟨d, a, b, c, by omega, by omega⟩
theorem Sm.ex (h : Sm H v n k) (e : Ex H H') : Sm H' v n k := by
  obtain ⟨d, a, b⟩ := h
  exact ⟨d, a.ex e, b⟩
theorem Sm.sd (h : Sm H v n k) (h1 : n ≤ 999999) (h2 : k ≤ 59) : ∃ d, Sd H v d := by
  obtain ⟨d, a, b, c, e, f⟩ := h
  exact ⟨d, a, (fun z => by rw [b] at z; cases z), c, by omega, by omega⟩
theorem Sm.non : Sm H .non 1 0 := ⟨_, .non, rfl, rfl, by simp [szD], by simp [PyData.depth]⟩
theorem Sm.bl (b : Bool) : Sm H (.bl b) 1 0 := ⟨_, .bl b, rfl, rfl, by simp [szD], by simp [PyData.depth]⟩
theorem Sm.int {i : Int} (h : i.natAbs < 1000000) : Sm H (.int i) 1 0 := ⟨_, .int i, rfl, by simpa only [okD, decide_eq_true_eq] using h, by simp [szD], by simp [PyData.depth]⟩
theorem Sm.str {x : Str} (h : (reprText x).length ≤ 14) : Sm H (.str x) 1 0 := ⟨_, .str x, rfl, by simpa only [okD, decide_eq_true_eq] using h, by simp [szD], by simp [PyData.depth]⟩
theorem Sm.all : ∀ {xs : List V}, (∀ x ∈ xs, Sm H x n k) → ∃ ds, RnA H xs ds ∧ PyData.hasDictAll ds = false ∧ okA ds = true ∧ szA ds ≤ xs.length * n ∧ PyData.depthAll ds ≤ k
  | [], _ => ⟨[], .nil, rfl, rfl, by simp [szA], by simp [PyData.depthAll]⟩
  | x :: xs, h => by
    obtain ⟨ds, a, b, c, e, f⟩ := Sm.all (xs := xs) fun y hy => h y (List.mem_cons_of_mem _ hy)
    obtain ⟨d, a1, b1, c1, e1, f1⟩ := h x List.mem_cons_self
    refine ⟨d :: ds, .cons a1 a, by simp [PyData.hasDictAll, b, b1], by simp [okA, c, c1], ?_, ?_⟩
    · simp only [szA, List.length_cons, Nat.succ_mul]; omega
    · simp only [PyData.depthAll]; omega
theorem Sm.lst {a : Addr} {xs : List V} (h : H a = some (.lst xs)) (hx : ∀ x ∈ xs, Sm H x n k) (hm : xs.length ≤ m) : Sm H (.ref a) (1 + m * n) (k + 1) := by
  obtain ⟨ds, h1, h2, h3, h4, h5⟩ := Sm.all hx
  refine ⟨.list ds, .lst h h1, by simpa only [PyData.hasDict] using h2, by simpa only [okD] using h3, ?_, by simp only [PyData.depth]; omega⟩
  have := Nat.mul_le_mul_right n hm
  simp only [szD]; omega
theorem Sm.tup {a : Addr} {xs : List V} (h : H a = some (.tup xs)) (hx : ∀ x ∈ xs, Sm H x n k) (hm : xs.length ≤ m) : Sm H (.ref a) (1 + m * n) (k + 1) := by
  obtain ⟨ds, h1, h2, h3, h4, h5⟩ := Sm.all hx
  refine ⟨.tuple ds, .tup h h1, by simpa only [PyData.hasDict] using h2, by simpa only [okD] using h3, ?_, by simp only [PyData.depth]; omega⟩
  have := Nat.mul_le_mul_right n hm
  simp only [szD]; omega
theorem Sd.dk {a : Addr} (h : H a = some (.dK [])) : Sd H (.ref a) (.dict []) := ⟨.dk h, fun _ => rfl, rfl, by simp [szD], by simp [PyData.depth, PyData.depthKv]⟩
theorem Sm.mem {xs : List V} (h : ∀ x ∈ xs, Sm H x n k) (hv : v ∈ xs) : Sm H v n k := h v hv
theorem Sm.cons {xs : List V} (h : Sm H v n k) (t : ∀ x ∈ xs, Sm H x n k) : ∀ x ∈ v :: xs, Sm H x n k := fun x hx => by
  rcases List.mem_cons.mp hx with e | e
  · rw [e]; exact h
  · exact t x e
theorem Sm.nil : ∀ x ∈ ([] : List V), Sm H x n k := fun _ h => nomatch h
theorem Sm.app {xs ys : List V} (h : ∀ x ∈ xs, Sm H x n k) (t : ∀ x ∈ ys, Sm H x n k) : ∀ x ∈ xs ++ ys, Sm H x n k := fun x hx => by
  rcases List.mem_append.mp hx with e | e
  · exact h x e
  · exact t x e
theorem Sm.upA {xs : List V} {n' k' : Nat} (h : ∀ x ∈ xs, Sm H x n k) (h1 : n ≤ n') (h2 : k ≤ k') : ∀ x ∈ xs, Sm H x n' k' := fun x hx => (h x hx).up h1 h2
variable {K : PySem.W.Frag} {Q : VK}
end
def cutL {α : Type} (xs : List α) (lo hi : Option Int) : List α := (xs.drop (HT.sIx xs.length 0 lo)).take (HT.sIx xs.length xs.length hi - HT.sIx xs.length 0 lo)
theorem cutV_map {α : Type} (f : α → V) (xs : List α) (lo hi : Option Int) : cutV (xs.map f) lo hi = (cutL xs lo hi).map f := by
  unfold cutV cutL
  rw [List.map_take, List.map_drop, List.length_map]
theorem cutL_sub {α : Type} (xs : List α) (lo hi : Option Int) : (cutL xs lo hi).Sublist xs := (List.take_sublist _ _).trans (List.drop_sublist _ _)
theorem cutL_len {α : Type} (xs : List α) (lo hi : Option Int) : (cutL xs lo hi).length ≤ xs.length := (cutL_sub xs lo hi).length_le
theorem cutV_mem {xs : List V} {lo hi : Option Int} {x : V} (h : x ∈ cutV xs lo hi) : x ∈ xs := by
  have h2 := cutV_map id xs lo hi
  rw [List.map_id, List.map_id] at h2
  rw [h2] at h
  exact (cutL_sub xs lo hi).subset h
abbrev HZ := Addr × List ZP
abbrev hV (g : HZ) : V := .ref g.1
/-- a few small pairs, each as its tuple -/
structure SP (H : Hp) (zs : List ZP) : Prop where
  tp : TP H zs
  few : zs.length ≤ 2305
  small : ∀ z ∈ zs, z.2.1 ≤ 1000 ∧ z.2.2 ≤ 1000
def HP (H : Hp) (gs : List HZ) : Prop := ∀ g ∈ gs, H g.1 = some (.lst (g.2.map zV)) ∧ SP H g.2
section
variable {H H' : Hp} {gs : List HZ} {zs ys : List ZP}
theorem SP.ex (h : SP H zs) (e : Ex H H') : SP H' zs := ⟨h.tp.ex e, h.few, h.small⟩
theorem SP.frp {p : Addr} (h : SP H zs) (hp : Purse H p) (e : FrP p H H') : SP H' zs := ⟨h.tp.frp hp e, h.few, h.small⟩
theorem SP.sub (h : SP H zs) (e : ys.Sublist zs) : SP H ys := ⟨h.tp.sub fun z hz => e.subset hz, Nat.le_trans e.length_le h.few, fun z hz => h.small z (e.subset hz)⟩
theorem SP.perm (h : SP H zs) (e : ys.Perm zs) : SP H ys := ⟨h.tp.perm e, by rw [e.length_eq]; exact h.few, fun z hz => h.small z (e.mem_iff.mp hz)⟩
theorem SP.up {D : Addr} {xs : List V} {u : HO} (h : SP H zs) (hD : H D = some (.lst xs)) : SP (upd H D u) zs := ⟨h.tp.up hD, h.few, h.small⟩
theorem HP.ex (h : HP H gs) (e : Ex H H') : HP H' gs := fun g hg => ⟨e.get (h g hg).1, (h g hg).2.ex e⟩
theorem HP.frp {p : Addr} (h : HP H gs) (hp : Purse H p) (e : FrP p H H') : HP H' gs := fun g hg => ⟨e.get (zs_ne_purse (h g hg).1 hp) (h g hg).1, (h g hg).2.frp hp e⟩
theorem HP.sub {fs : List HZ} (h : HP H gs) (e : ∀ g ∈ fs, g ∈ gs) : HP H fs := fun g hg => h g (e g hg)
/-- one of the lists changes -/
theorem HP.set {g : HZ} {i : Nat} (h : HP H gs) (nd : (gs.map (·.1)).Nodup) (hg : gs[i]? = some g) (hz : SP H zs) : HP (upd H g.1 (.lst (zs.map zV))) (gs.set i (g.1, zs)) := by
  have hgm := List.mem_of_getElem? hg
  have h1 := (h g hgm).1
  intro f hf
  obtain ⟨j, hj⟩ := List.getElem?_of_mem hf
  have hi : i < gs.length := (List.getElem?_eq_some_iff.mp hg).1
  by_cases e : j = i
  · subst e
    rw [List.getElem?_set_self hi] at hj
    cases hj
    exact ⟨upd_same, hz.up h1⟩
  · rw [List.getElem?_set_ne (Ne.symm e)] at hj
    have hfm := List.mem_of_getElem? hj
    have ne : f.1 ≠ g.1 := fun z => e (nd_ix (x := f.1) nd (by rw [List.getElem?_map, hj]; rfl) (by rw [List.getElem?_map, hg]; exact congrArg some z.symm))
    exact ⟨by rw [upd_ne ne]; exact (h f hfm).1, (h f hfm).2.up h1⟩
def encH (g : HZ) : PyData := .list (g.2.map fun z => encQ z.2)
theorem HP.rn {a : Addr} (h : HP H gs) (ha : H a = some (.lst (gs.map hV))) : Rn H (.ref a) (.list (gs.map encH)) := .lst ha (rnA_map fun g hg => (h g hg).2.tp.rnL (h g hg).1)
theorem HP.rp {a : Addr} (h : HP H gs) (ha : H a = some (.lst (gs.map hV))) : Rp H (.ref a) (.list (gs.map encH)) := .lst (lst_of ha) (rpA_map fun g hg => (h g hg).2.tp.rpL (h g hg).1)
theorem encH_depth (g : HZ) : (encH g).depth ≤ 3 := by
  have : PyData.depthAll (g.2.map fun z => encQ z.2) ≤ 2 := depth_map fun z _ => encQ_depth z.2
  simp only [encH, PyData.depth]
  omega
theorem gs_depth (gs : List HZ) : (PyData.list (gs.map encH)).depth ≤ 4 := by
  have : PyData.depthAll (gs.map encH) ≤ 3 := depth_map fun g _ => encH_depth g
  simp only [PyData.depth]
  omega
theorem okA_of {ds : List PyData} (h : ∀ d ∈ ds, okD d = true) : okA ds = true := by
  induction ds with
  | nil => rfl
  | cons d ds ih => simp only [okA, h d List.mem_cons_self, ih fun x hx => h x (List.mem_cons_of_mem _ hx), Bool.and_self]
theorem szA_le {ds : List PyData} {n : Nat} (h : ∀ d ∈ ds, szD d ≤ n) : szA ds ≤ ds.length * n := by
  induction ds with
  | nil => simp [szA]
  | cons d ds ih =>
    have h1 := h d List.mem_cons_self
    have h2 := ih fun x hx => h x (List.mem_cons_of_mem _ hx)
    simp only [szA, List.length_cons, Nat.succ_mul]
    omega
theorem hasDictA_of {ds : List PyData} (h : ∀ d ∈ ds, d.hasDict = false) : PyData.hasDictAll ds = false := by
  induction ds with
  | nil => rfl
  | cons d ds ih => simp only [PyData.hasDictAll, h d List.mem_cons_self, ih fun x hx => h x (List.mem_cons_of_mem _ hx), Bool.or_self]
theorem HP.sd {a : Addr} (h : HP H gs) (ha : H a = some (.lst (gs.map hV))) (hl : gs.length ≤ 100) : Sd H (.ref a) (.list (gs.map encH)) := by
  refine ⟨h.rn ha, fun z => ?_, ?_, ?_, Nat.le_trans (gs_depth gs) (by decide)⟩
  · have : PyData.hasDictAll (gs.map encH) = false := hasDictA_of fun d hd => by
      obtain ⟨g, hg, rfl⟩ := List.mem_map.mp hd
      exact hasDictA_of fun d hd => by
        obtain ⟨z, hz, rfl⟩ := List.mem_map.mp hd
        rfl
    simp only [PyData.hasDict, this] at z
    cases z
  · refine okA_of fun d hd => ?_
    obtain ⟨g, hg, rfl⟩ := List.mem_map.mp hd
    refine okA_of fun d hd => ?_
    obtain ⟨z, hz, rfl⟩ := List.mem_map.mp hd
    have := (h g hg).2.small z hz
    simp only [encQ, okD, okA, Bool.and_true, Bool.and_eq_true, decide_eq_true_eq]
    omega
  · have h1 : szA (gs.map encH) ≤ (gs.map encH).length * 6916 := szA_le fun d hd => by
      obtain ⟨g, hg, rfl⟩ := List.mem_map.mp hd
      have h2 : szA (g.2.map fun z => encQ z.2) ≤ (g.2.map fun z => encQ z.2).length * 3 := szA_le fun d hd => by
        obtain ⟨z, hz, rfl⟩ := List.mem_map.mp hd
        simp [encQ, szD, szA]
      have h3 := (h g hg).2.few
      rw [List.length_map] at h2
      simp only [encH, szD]
      omega
    rw [List.length_map] at h1
    simp only [szD]
    omega
variable {K : PySem.W.Frag} {Q : VK}
end
theorem Sm.cut {H : Hp} {xs : List V} {n k : Nat} {lo hi : Option Int} (h : ∀ x ∈ xs, Sm H x n k) : ∀ x ∈ cutV xs lo hi, Sm H x n k := fun x hx => h x (cutV_mem hx)
/-- any small data -/
def SdE (H : Hp) (v : V) : Prop := ∃ d, Sd H v d
theorem SdE.of {H : Hp} {v : V} {n k : Nat} (h : Sm H v n k) (h1 : n ≤ 999999) (h2 : k ≤ 59) : SdE H v := h.sd h1 h2
theorem SdE.ex {H H' : Hp} {v : V} (h : SdE H v) (e : Ex H H') : SdE H' v := by
  obtain ⟨d, h⟩ := h
  exact ⟨d, h.ex e⟩
theorem allE_nil {P : V → Prop} : ∀ x ∈ ([] : List V), P x := fun _ h => nomatch h
theorem allE_cons {P : V → Prop} {y : V} {ys : List V} (h : P y) (k : ∀ x ∈ ys, P x) : ∀ x ∈ y :: ys, P x := fun x hx => by
  rcases List.mem_cons.mp hx with e | e
  · rw [e]; exact h
  · exact k x e
mutual
/-- a thing is one data -/
theorem Rn.det {H : Hp} : ∀ {v : V} {d d' : PyData}, Rn H v d → Rn H v d' → d = d'
  | _, _, _, .non, .non => rfl
  | _, _, _, .bl _, .bl _ => rfl
  | _, _, _, .int _, .int _ => rfl
  | _, _, _, .str _, .str _ => rfl
  | _, _, _, .lst h k, .lst h' k' => by
    rw [h] at h'
    cases h'
    rw [RnA.det k k']
  | _, _, _, .tup h k, .tup h' k' => by
    rw [h] at h'
    cases h'
    rw [RnA.det k k']
  | _, _, _, .dk _, .dk _ => rfl
  | _, _, _, .lst h _, .tup h' _ => by rw [h] at h'; cases h'
  | _, _, _, .lst h _, .dk h' => by rw [h] at h'; cases h'
  | _, _, _, .tup h _, .lst h' _ => by rw [h] at h'; cases h'
  | _, _, _, .tup h _, .dk h' => by rw [h] at h'; cases h'
  | _, _, _, .dk h, .lst h' _ => by rw [h] at h'; cases h'
  | _, _, _, .dk h, .tup h' _ => by rw [h] at h'; cases h'
theorem RnA.det {H : Hp} : ∀ {vs : List V} {ds ds' : List PyData}, RnA H vs ds → RnA H vs ds' → ds = ds'
  | _, _, _, .nil, .nil => rfl
  | _, _, _, .cons h k, .cons h' k' => by rw [Rn.det h h', RnA.det k k']
end
theorem SdE.sd {H : Hp} {v : V} {d : PyData} (h : SdE H v) (r : Rn H v d) : Sd H v d := by
  obtain ⟨d', h⟩ := h
  rw [r.det h.rn]
  exact h
def SmA (H : Hp) (xs : List V) (n k : Nat) : Prop := ∃ ds, RnA H xs ds ∧ PyData.hasDictAll ds = false ∧ okA ds = true ∧ szA ds ≤ n ∧ PyData.depthAll ds ≤ k
section
variable {H : Hp} {v : V} {xs ys : List V} {n m k : Nat}
theorem SmA.of (h : ∀ x ∈ xs, Sm H x n k) (hm : xs.length ≤ m) : SmA H xs (m * n) k := by
  obtain ⟨ds, a, b, c, d, e⟩ := Sm.all h
  exact ⟨ds, a, b, c, Nat.le_trans d (Nat.mul_le_mul_right n hm), e⟩
theorem SmA.up {n' k' : Nat} (h : SmA H xs n k) (h1 : n ≤ n') (h2 : k ≤ k') : SmA H xs n' k' := by
  obtain ⟨ds, a, b, c, d, e⟩ := h
  exact ⟨ds, a, b, c, by omega, by omega⟩
theorem SmA.nil : SmA H [] 0 k := ⟨[], .nil, rfl, rfl, by simp [szA], by simp [PyData.depthAll]⟩
theorem SmA.cons (h : Sm H v n k) (t : SmA H xs m k) : SmA H (v :: xs) (n + m) k := by
  obtain ⟨ds, a, b, c, d, e⟩ := t
  obtain ⟨x, a1, b1, c1, d1, e1⟩ := h
  refine ⟨x :: ds, .cons a1 a, by simp [PyData.hasDictAll, b, b1], by simp [okA, c, c1], ?_, ?_⟩
  · simp only [szA]; omega
  · simp only [PyData.depthAll]; omega
theorem SmA.app : ∀ {xs : List V} {n : Nat}, SmA H xs n k → SmA H ys m k → SmA H (xs ++ ys) (n + m) k
  | [], n, _, t => t.up (by omega) (Nat.le_refl _)
  | x :: xs, n, ⟨ds, a, b, c, d, e⟩, t => by
    cases a with
    | @cons _ _ d0 ds0 a1 a2 =>
      simp only [PyData.hasDictAll, Bool.or_eq_false_iff] at b
      simp only [okA, Bool.and_eq_true] at c
      simp only [szA] at d
      simp only [PyData.depthAll] at e
      have h := SmA.app (xs := xs) ⟨ds0, a2, b.2, c.2, Nat.le_refl _, by omega⟩ t
      exact (SmA.cons (n := szD d0) ⟨d0, a1, b.1, c.1, Nat.le_refl _, by omega⟩ h).up (by omega) (Nat.le_refl _)
theorem SmA.lst {a : Addr} (h : H a = some (.lst xs)) (t : SmA H xs n k) : Sm H (.ref a) (1 + n) (k + 1) := by
  obtain ⟨ds, h1, h2, h3, h4, h5⟩ := t
  exact ⟨.list ds, .lst h h1, by simpa only [PyData.hasDict] using h2, by simpa only [okD] using h3, by simp only [szD]; omega, by simp only [PyData.depth]; omega⟩
theorem SmA.tup {a : Addr} (h : H a = some (.tup xs)) (t : SmA H xs n k) : Sm H (.ref a) (1 + n) (k + 1) := by
  obtain ⟨ds, h1, h2, h3, h4, h5⟩ := t
  exact ⟨.tuple ds, .tup h h1, by simpa only [PyData.hasDict] using h2, by simpa only [okD] using h3, by simp only [szD]; omega, by simp only [PyData.depth]; omega⟩
theorem ObjsAt.mem {ts : List Addr} {os : List HO} (h : ObjsAt H ts os) {a : Addr} (ha : a ∈ ts) : ∃ o ∈ os, H a = some o := by
  obtain ⟨j, hj⟩ := List.getElem?_of_mem ha
  have hl := h.len
  have hjl := (List.getElem?_eq_some_iff.mp hj).1
  obtain ⟨o, ho⟩ : ∃ o, os[j]? = some o := ⟨os[j]'(by omega), List.getElem?_eq_getElem _⟩
  exact ⟨o, List.mem_of_getElem? ho, h.at j a o hj ho⟩
theorem SmA.cut {lo hi : Option Int} (h : ∀ x ∈ xs, Sm H x n k) (hm : xs.length ≤ m) : SmA H (cutV xs lo hi) (m * n) k := SmA.of (Sm.cut h) (Nat.le_trans (cutV_length _ _ _) hm)
end
theorem Ex.comp {M : Addr → Prop} {H0 H H' : Hp} (e0 : Ex H0 H) (e : Fr M H H') (n : ∀ b, M b → H0 b = none) : Ex H0 H' := fun b o _ q => e b o (fun m => by rw [n b m] at q; cases q) (e0 b o (fun z => z) q)
end Zb
namespace Zb
open PySem PySem.Spec PyProof.Rows L2
mutual
theorem Rq.ex {H H' : Hp} (e : Ex H H') : ∀ {v : V} {d : PyData}, Rq H v d → Rq H' v d
  | _, _, .non => .non
  | _, _, .bl b => .bl b
  | _, _, .int i => .int i
  | _, _, .str x => .str x
  | _, _, .lst h k => .lst (lstAt_ex e h) (RqA.ex e k)
  | _, _, .tup h k => .tup (tupAt_ex e h) (RqA.ex e k)
  | _, _, .dk h k => .dk (e.get h) (RqA.ex e k)
theorem RqA.ex {H H' : Hp} (e : Ex H H') : ∀ {vs : List V} {ds : List PyData}, RqA H vs ds → RqA H' vs ds
  | _, _, .nil => .nil
  | _, _, .cons h k => .cons (Rq.ex e h) (RqA.ex e k)
end
/-- v is d, and is shown by n signs at most, k deep -/
structure Sh (H : Hp) (v : V) (d : PyData) (n k : Nat) : Prop where
  rq : Rq H v d
  sw : d.showable = true
  dp : d.depth ≤ k
  sz : d.shown.length ≤ n
section
variable {H H' : Hp} {v : V} {d : PyData} {n k : Nat} {Q : VK}
theorem Sh.ex (h : Sh H v d n k) (e : Ex H H') : Sh H' v d n k := ⟨h.rq.ex e, h.sw, h.dp, h.sz⟩
theorem Sh.up {n' k' : Nat} (h : Sh H v d n k) (h1 : n ≤ n') (h2 : k ≤ k') : Sh H v d n' k' := ⟨h.rq, h.sw, by have := h.dp; omega, by have := h.sz; omega⟩
theorem Sh.non : Sh H .non .none 4 0 := ⟨.non, rfl, by simp [PyData.depth], by decide⟩
theorem Sh.bl (b : Bool) : Sh H (.bl b) (.bool b) 5 0 := ⟨.bl b, rfl, by simp [PyData.depth], by cases b <;> decide⟩
theorem Sh.str {x : Str} (hx : ∀ c ∈ x.cps.toList, c < 16 ^ 8) : Sh H (.str x) (.str x) (10 * x.length + 2) 0 := ⟨.str x, rfl, by simp [PyData.depth], PySem.StrLaws.reprText_len x hx⟩
theorem Sh.int {i : Int} {m : Nat} (hm : 0 < m) (h : i.natAbs < 10 ^ m) (h2 : i.natAbs.log2 < 1920) : Sh H (.int i) (.int i) (m + 1) 0 := ⟨.int i, by simpa only [PyData.showable, decide_eq_true_eq] using h2, by simp [PyData.depth], by
  have e := int_text_length_le10 hm h
  have e2 : (Str.ofString (toString i)).length = (toString i).length := PySem.ofString_length _
  show (Str.ofString (toString i)).length ≤ _
  omega⟩
/-- rows of shown things -/
inductive ShA (H : Hp) (k : Nat) : List V → List PyData → Nat → Prop
  | nil : ShA H k [] [] 0
  | cons {v : V} {d : PyData} {n : Nat} {vs : List V} {ds : List PyData} {m : Nat} : Sh H v d n k → ShA H k vs ds m → ShA H k (v :: vs) (d :: ds) (n + 2 + m)
theorem ShA.all : ∀ {vs : List V} {ds : List PyData} {m : Nat}, ShA H k vs ds m → RqA H vs ds ∧ PyData.showableAll ds = true ∧ PyData.depthAll ds ≤ k ∧ ((PyData.shownAll ds).map (·.length)).sum + 2 * ds.length ≤ m
  | _, _, _, .nil => ⟨.nil, rfl, by simp [PyData.depthAll], by simp [PyData.shownAll]⟩
  | _, _, _, .cons h t => by
    obtain ⟨a, b, c, e⟩ := ShA.all t
    refine ⟨.cons h.rq a, by simp [PyData.showableAll, h.sw, b], ?_, ?_⟩
    · have := h.dp
      simp only [PyData.depthAll]; omega
    · have := h.sz
      simp only [PyData.shownAll, List.map_cons, List.sum_cons, List.length_cons]; omega
theorem ShA.lst {a : Addr} {xs : List V} {ds : List PyData} (h : H a = some (.lst xs)) (t : ShA H k xs ds n) : Sh H (.ref a) (.list ds) (n + 3) (k + 1) := by
  obtain ⟨r, s, dp, sz⟩ := t.all
  have h2 := listText_len_le (PyData.shownAll ds)
  have h3 := PyData.shownAll_length ds
  exact ⟨.lst (lst_of h) r, by simpa only [PyData.showable] using s, by simp only [PyData.depth]; omega, by simp only [PyData.shown]; omega⟩
theorem ShA.tup {a : Addr} {xs : List V} {ds : List PyData} (h : H a = some (.tup xs)) (t : ShA H k xs ds n) : Sh H (.ref a) (.tuple ds) (n + 3) (k + 1) := by
  obtain ⟨r, s, dp, sz⟩ := t.all
  have h2 := tupleText_len_le (PyData.shownAll ds)
  have h3 := PyData.shownAll_length ds
  exact ⟨.tup (tup_of h) r, by simpa only [PyData.showable] using s, by simp only [PyData.depth]; omega, by simp only [PyData.shown]; omega⟩
theorem ShA.map {α : Type} {val : α → V} {enc : α → PyData} {m : Nat} : ∀ {xs : List α}, (∀ x ∈ xs, Sh H (val x) (enc x) m k) → ShA H k (xs.map val) (xs.map enc) (xs.length * (m + 2))
  | [], _ => by rw [List.length_nil, Nat.zero_mul]; exact .nil
  | x :: xs, h => by
    have := ShA.cons (h x List.mem_cons_self) (ShA.map fun y hy => h y (List.mem_cons_of_mem _ hy))
    rw [List.length_cons, Nat.succ_mul]
    rwa [show xs.length * (m + 2) + (m + 2) = m + 2 + xs.length * (m + 2) by omega]
theorem Sh.dk0 {a : Addr} (h : H a = some (.dK [])) : Sh H (.ref a) (.dict []) 2 1 := ⟨.dk0 h, rfl, by simp [PyData.depth, PyData.depthKv], by decide +kernel⟩
end
def rIsXs (K : PySem.W.Frag) (a : Addr) (cls : Value) (d : Option Addr) : List V → Hp → VK → Prop := fun xs H Q => ∃ (tp : Addr) (cs : List V) (cvs : List Value) (b : Bool) (C dd : Addr) (fs : List (Str × V)), xs = [.ref a, .ref tp] ∧ H tp = some (.tup cs) ∧ (∀ us, Vals cs us → us = cvs) ∧ cls = .ref C ∧ XI K C ∧ d = some dd ∧ H dd = some (.xd fs) ∧ PySem.W.kitAny K (.ref C) cvs = some b ∧ Q (.bl b) H
section
variable {K : PySem.W.Frag} {H : Hp} {Q : VK}
theorem st_isXs2 {a C C1 C2 dd tp : Addr} {fs : List (Str × V)} {b1 b2 : Bool} (T : XI K C) (h1 : H dd = some (.xd fs)) (ht : H tp = some (.tup [.ref C1, .ref C2])) (e1 : PySem.W.kitOne K (.ref C) (.ref C1) = some b1) (e2 : PySem.W.kitOne K (.ref C) (.ref C2) = some b2) (h : Q (.bl (b1 || b2)) H) : rIsXs K a (.ref C) (some dd) [.ref a, .ref tp] H Q := by
  refine ⟨tp, _, [.ref C1, .ref C2], b1 || b2, C, dd, fs, rfl, ht, fun us r => ?_, rfl, T, rfl, h1, ?_, h⟩
  · cases r with
    | cons r1 rr =>
      cases rr with
      | cons r2 rr =>
        cases rr
        cases r1
        cases r2
        rfl
  · unfold PySem.W.kitAny
    rw [e1]
    cases b1 with
    | true => rfl
    | false =>
      show PySem.W.kitAny K _ [.ref C2] = _
      unfold PySem.W.kitAny
      rw [e2]
      cases b2 <;> rfl
end
theorem cutS_to_len (z : Str) (n : Nat) (h : n ≤ z.length) : (cutS z none (some (n : Int))).length = n := by
  show ((z.cps.toList.drop _).take _).toArray.size = _
  rw [HT.sIx_none, HT.sIx_nat, List.size_toArray, List.length_take, List.length_drop, Array.length_toList]
  show min (min n z.cps.size - 0) (z.cps.size - 0) = n
  have : z.cps.size = z.length := rfl
  omega
end Zb
namespace Zb
open PySem PySem.Spec PyProof.Rows L2
end Zb
namespace Zb
open PySem PySem.Spec PyProof.Rows L2
def gSl (to : TE) (tl th : TO) : TG := fun v σ H Q => to σ H fun o H1 => tl σ H1 fun l H2 => th σ H2 fun u H3 => ∃ (p q : Addr) (xs ys : List V) (a c : Int), o = .ref p ∧ v = .ref q ∧ l = some a ∧ u = some c ∧ H3 p = some (.lst xs) ∧ H3 q = some (.lst ys) ∧ p ≠ q ∧ 0 ≤ a ∧ a ≤ c ∧ c ≤ xs.length ∧ xs.length + ys.length ≤ 16777216 ∧ Q σ (upd H3 p (.lst (xs.take a.toNat ++ ys ++ xs.drop c.toNat)))
theorem st_gsl {to : TE} {tl th : TO} {v : V} {σ : L2.St} {H : Hp} {R : L2.St → Hp → Prop} (h : to σ H fun o H1 => tl σ H1 fun l H2 => th σ H2 fun u H3 => ∃ (p q : Addr) (xs ys : List V) (a c : Int), o = .ref p ∧ v = .ref q ∧ l = some a ∧ u = some c ∧ H3 p = some (.lst xs) ∧ H3 q = some (.lst ys) ∧ p ≠ q ∧ 0 ≤ a ∧ a ≤ c ∧ c ≤ xs.length ∧ xs.length + ys.length ≤ 16777216 ∧ R σ (upd H3 p (.lst (xs.take a.toNat ++ ys ++ xs.drop c.toNat)))) : gSl to tl th v σ H R := h
abbrev TRg := L2.St → Hp → (Int → Int → Int → Hp → Prop) → Prop
def PRgC (X : Cx) (e : Expr) (t : TRg) : Prop := ∀ (pins : List (Addr × Obj)) (s : Shared) (σ : L2.St) (H : Hp) (Q : Int → Int → Int → Hp → Prop), Inv X pins σ H s → t σ H Q →
  wpAny (model X.prog X.w) X.A (eval e X.env) (fun x s' => ∃ r a b c t u v H', x = .ref r ∧ IsRange s'.heap r a b c t u v ∧ Inv X pins σ H' s' ∧ Q a b c H') X.xe s
def tRgC (ta : TA) : TRg := fun σ H Q => ta σ H fun vs H1 => match vs with
  | [.int n] => Q 0 n 1 H1
  | [.int i, .int j] => Q i j 1 H1
  | [.int i, .int j, .int c] => c ≠ 0 ∧ c.natAbs < 1073741824 ∧ Q i j c H1
  | _ => False
section
variable {X : Cx}
theorem prgC {es : List Expr} {e : Expr} {ta : TA} {p pos : Pos} (hg : Gl X "range") (hm : X.mg "range" = none) (ha : PA X (e :: es) ta) (hs : starEach (e :: es) X.env = (false, eval e X.env) :: starEach es X.env := by rfl)
    (hpl : (backTo pos (starEach es X.env)).any (·.1) = false := by rfl) : PRgC X (.Call (.Name "range" p) (e :: es) [] pos) (tRgC ta) := by
  intro pins s σ H Q I h
  refine Call_ (ld_blt I hg hm boot_range (PyProof.Rows.callWith_type1 (thn (ha.run pos pins s σ H _ I h) fun us s1 ⟨vs, H1, I1, r1, q1⟩ => ?_) hs hpl))
  dsimp only at q1
  split at q1
  · obtain ⟨u, rfl, t, rfl⟩ := vals1 r1
    exact call_range_1 ⟨_, _, _, _, _, _, _, H1, rfl, IsRange.new _ _ _ _ _ _ _, I1.kept fun _ _ z => Heap.get?_push_of_some _ z, q1⟩
  · obtain ⟨u, w, rfl, ⟨t, rfl⟩, t', rfl⟩ := vals2 r1
    exact call_range_2 ⟨_, _, _, _, _, _, _, H1, rfl, IsRange.new _ _ _ _ _ _ _, I1.kept fun _ _ z => Heap.get?_push_of_some _ z, q1⟩
  · obtain ⟨c0, c1, q1⟩ := q1
    cases r1 with
    | cons r rr =>
      obtain ⟨u, w, rfl, ⟨t1, rfl⟩, t2, rfl⟩ := vals2 rr
      obtain ⟨t, rfl⟩ := r
      exact call_range_3 c0 ⟨_, _, _, _, _, _, _, H1, rfl, IsRange.new _ _ _ _ _ _ _, I1.kept fun _ _ z => Heap.get?_push_of_some _ z, q1⟩ (.inl (PyProof.noPylong_small c1))
  · exact q1.elim
def rgL (a c : Int) (n : Nat) : List Int := (List.range n).map fun i : Nat => a + (i : Int) * c
theorem vals_rgL {a c : Int} {n : Nat} {acc : Array Value} (h : ItemsOf (fun i v => ∃ t, v = .int (a + i * c) t) acc n) : Vals ((rgL a c n).map V.int) acc.toList := by
  have e : acc.toList.length = n := by rw [Array.length_toList]; exact h.1
  unfold rgL
  rw [← e, List.map_map]
  refine vals_of_get acc.toList _ fun j u hj => ?_
  obtain ⟨t, rfl⟩ := h.2 j u (by rw [← hj, Array.getElem?_toList])
  exact ⟨t, rfl⟩
def tListRg (t : TRg) : TE := fun σ H Q => t σ H fun a b c H1 => ∃ n : Nat, Builtin.Range.small a b c = true ∧ Builtin.Range.rangeSize a b c = n ∧ n ≤ 16777216 ∧ ∀ q, H1 q = none → Q (.ref q) (upd H1 q (.lst ((rgL a c n).map V.int)))
theorem pe_listRgC {e : Expr} {t : TRg} {p pos : Pos} (hc : X.calm = true) (hg : Gl X "list") (hm : X.mg "list" = none) (he : PRgC X e t) (na : starEach [e] X.env = (false, eval e X.env) :: starEach [] X.env := by rfl) : PE X (.Call (.Name "list" p) [e] [] pos) (tListRg t) := by
  refine ⟨fun pins s σ H Q I h => ?_⟩
  refine Call_ (ld_blt I hg hm boot_list (PyProof.Rows.callWith_type1 (args_cons (thn (he pins s σ H _ I h) fun x s1 ⟨r, a, b, c, t, u, v, H1, ex, hr, I1, n, o1, o2, o3, q⟩ => args_nil ?_) na) na))
  subst ex
  refine call_list_range (n := n) (I1.ok.hd hc) hr o1 o2 o3 fun h' tk acc c' hk e' hi => ?_
  have hl : ((rgL a c n).map V.int).length ≤ sizeLine := by rw [List.length_map, rgL, List.length_map, List.length_range, sl16]; exact o3
  refine ⟨.ref s1.heap.objs.size, _, I1.laid (t' := tk) hk (Nat.le_refl _) (show ObjOk X.prog X.w _ h' _ (.lst _) from ⟨hl, acc.toList, c', vals_rgL hi, ?_⟩), rfl, q _ (I1.hok.fresh (Nat.le_refl _))⟩
  rw [Array.toArray_toList]
  exact e'
end
section
variable {σ : L2.St} {H : Hp} {Q : VK} {K : PySem.W.Frag}
def RgP (Q : VK) (a b c : Int) (H1 : Hp) : Prop := ∃ n : Nat, Builtin.Range.small a b c = true ∧ Builtin.Range.rangeSize a b c = n ∧ n ≤ 16777216 ∧ ∀ q, H1 q = none → Q (.ref q) (upd H1 q (.lst ((rgL a c n).map V.int)))
theorem st_listRg {t : TRg} (h : t σ H (RgP Q)) : tListRg t σ H Q := h
def RgQ (P : Int → Int → Int → Hp → Prop) (vs : List V) (H1 : Hp) : Prop := match vs with
  | [.int n] => P 0 n 1 H1
  | [.int i, .int j] => P i j 1 H1
  | [.int i, .int j, .int c] => c ≠ 0 ∧ c.natAbs < 1073741824 ∧ P i j c H1
  | _ => False
theorem st_rgC {ta : TA} {P : Int → Int → Int → Hp → Prop} (h : ta σ H (RgQ P)) : tRgC ta σ H P := h
theorem st_rg1 {n : Int} {P : Int → Int → Int → Hp → Prop} (h : P 0 n 1 H) : RgQ P [.int n] H := h
theorem st_rg2 {i j : Int} {P : Int → Int → Int → Hp → Prop} (h : P i j 1 H) : RgQ P [.int i, .int j] H := h
theorem st_rg3 {i j : Int} {P : Int → Int → Int → Hp → Prop} (h : P i j (-1) H) : RgQ P [.int i, .int j, .int (-1)] H := ⟨by decide, by decide, h⟩
theorem st_rgUp {a b : Int} (hz : -1000000 ≤ a ∧ a ≤ 1000000 ∧ -1000000 ≤ b ∧ b ≤ 1000000) (h : ∀ q H', H q = none → Ex H H' → H' q = some (.lst ((rgL a 1 (b - a).toNat).map V.int)) → Q (.ref q) H') : RgP Q a b 1 H :=
  ⟨(b - a).toNat, small_one (by omega) (by omega) (by omega) (by omega), rangeSize_nat a b, by omega, fun q hq => h q _ hq (Fr.new hq) upd_same⟩
theorem st_rgDown {a b : Int} (hz : -1000000 ≤ a ∧ a ≤ 1000000 ∧ -1000000 ≤ b ∧ b ≤ 1000000) (h : ∀ q H', H q = none → Ex H H' → H' q = some (.lst ((rgL a (-1) (a - b).toNat).map V.int)) → Q (.ref q) H') : RgP Q a b (-1) H :=
  ⟨(a - b).toNat, PySem.W.small_down (by omega) (by omega) (by omega) (by omega), PySem.W.rangeSize_downNat a b, by omega, fun q hq => h q _ hq (Fr.new hq) upd_same⟩
theorem rgL_up (n : Nat) : rgL 0 1 n = (List.range n).map fun i : Nat => (i : Int) := by
  unfold rgL
  exact List.map_congr_left fun i _ => by omega
end
def iSeq (K : PySem.W.Frag) (tl : TE) : TI := fun σ H R => tl σ H fun x H1 => ∃ a xs, x = .ref a ∧ seqAt H1 a = some xs ∧ ∀ (J : It) (S : Hp → Prop), Runs J xs.length S (fun i x H H' => H' = H ∧ xs[i]? = some x) → (∀ H', H' a = H1 a → S H') → R J H1
/-- enumerate of a list or a tuple -/
def iEnQ (K : PySem.W.Frag) (ta : TA) : TI := fun σ H R => ta σ H fun vs H1 => ∃ a xs, vs = [.ref a] ∧ seqAt H1 a = some xs ∧ ∀ (J : It) (S : Hp → Prop), Runs J xs.length S (fun i x H H' => ∃ T v, x = .ref T ∧ H T = none ∧ Ex H H' ∧ H' T = some (.tup [.int (i : Nat), v]) ∧ xs[i]? = some v) → (∀ H', H' a = H1 a → S H') → R J H1
section
variable {σ : L2.St} {H : Hp} {K : PySem.W.Frag}
theorem st_iSeq {tl : TE} {R : It → Hp → Prop} (h : tl σ H fun x H1 => ∃ a xs, x = .ref a ∧ seqAt H1 a = some xs ∧ ∀ (J : It) (S : Hp → Prop), Runs J xs.length S (fun i x H H' => H' = H ∧ xs[i]? = some x) → (∀ H', H' a = H1 a → S H') → R J H1) : iSeq K tl σ H R := h
theorem st_iEnQ {ta : TA} {R : It → Hp → Prop} (h : ta σ H fun vs H1 => ∃ a xs, vs = [.ref a] ∧ seqAt H1 a = some xs ∧ ∀ (J : It) (S : Hp → Prop), Runs J xs.length S (fun i x H H' => ∃ T v, x = .ref T ∧ H T = none ∧ Ex H H' ∧ H' T = some (.tup [.int (i : Nat), v]) ∧ xs[i]? = some v) → (∀ H', H' a = H1 a → S H') → R J H1) : iEnQ K ta σ H R := h
end
theorem Rn.seq {H : Hp} {x : V} {d : PyData} (h : Rn H x d) (hd : (isListD d || isTupD d) = true) : ∃ a xs ds, x = .ref a ∧ seqAt H a = some xs ∧ RnA H xs ds ∧ (d = .list ds ∨ d = .tuple ds) := by
  cases h with
  | lst h k => exact ⟨_, _, _, rfl, seq_l h, k, .inl rfl⟩
  | tup h k => exact ⟨_, _, _, rfl, seq_t h, k, .inr rfl⟩
  | _ => cases hd
def rDivW : R2 := fun x y H Q => match x, y with
  | .int i, .int j => 0 < j ∧ j < 1267650600228229401496703205376 ∧ Q (.int (i / j)) H
  | _, _ => False
theorem st_divW {H : Hp} {Q : VK} {i j : Int} (hc : 0 < j ∧ j < 1267650600228229401496703205376) (h : Q (.int (i / j)) H) : rDivW (.int i) (.int j) H Q := ⟨hc.1, hc.2, h⟩
end Zb
namespace Zb
open PySem PySem.Spec PyProof.Rows L2
/-- tuples of like things: the very same ones, or data that are alike -/
inductive Lk (H : Hp) : V → V → Prop
  | same (a : Addr) : Lk H (.ref a) (.ref a)
  | dat {x y : V} {d e : PyData} : Rp H x d → Rp H y e → min d.depth e.depth ≤ 60 → PyData.eqv d e = true → Lk H x y
section
variable {K : PySem.W.Frag} {H : Hp} {Q : VK}
theorem Lk.str (z : Str) : Lk H (.str z) (.str z) := .dat (.str z) (.str z) (by simp [PyData.depth]) (by rw [eqv_str]; exact decide_eq_true rfl)
theorem Lk.bl (z : Bool) : Lk H (.bl z) (.bl z) := .dat (.bl z) (.bl z) (by simp [PyData.depth]) (by cases z <;> rfl)
theorem Lk.int (z : Int) : Lk H (.int z) (.int z) := .dat (.int z) (.int z) (by simp [PyData.depth]) (by rw [eqv_int]; exact decide_eq_true rfl)
theorem st_dinU {ty td : TE} {σ : L2.St} (h : ty σ H fun y H1 => td σ H1 fun x H2 => ∃ a o, x = .ref a ∧ DGet H2 a y o ∧ Q (.bl o.isSome) H2) : tDIn ty td σ H Q := h
theorem st_dninU {ty td : TE} {σ : L2.St} (h : ty σ H fun y H1 => td σ H1 fun x H2 => ∃ a o, x = .ref a ∧ DGet H2 a y o ∧ Q (.bl (!o.isSome)) H2) : tDNotIn ty td σ H Q := h
theorem st_dputU {td ty tv : TE} {D : Ends} {σ : L2.St} (h : tv σ H fun v H1 => td σ H1 fun x H2 => ty σ H2 fun y H3 => ∃ a H4, x = .ref a ∧ DPut H3 a y v H4 ∧ D.nx σ H4) : sDPut td ty tv D σ H := h
theorem st_dputT {a b : Addr} {kvs : List (List Key × V)} {k : List Key} {v : V} {P : Hp → Prop} (h1 : H a = some (.dT kvs)) (h2 : H b = some (.tup (k.map kV))) (hl : kvs.length < 1000000) (h : P (upd H a (.dT (putK kvs k v)))) : ∃ a' H4, V.ref a = .ref a' ∧ DPut H a' (.ref b) v H4 ∧ P H4 := ⟨a, _, rfl, DPut.t h1 h2 (by rw [sl16]; omega), h⟩
theorem st_dnewT {σ : L2.St} (h : ∀ p H', H p = none → Ex H H' → H' p = some (.dT []) → Q (.ref p) H') : tDNewT σ H Q := fun p hp => h p _ hp (Fr.new hp) upd_same
theorem st_dinB {a b : Addr} {kvs : List (List Key × V)} {k : List Key} {P : Bool → Prop} (h1 : H a = some (.dT kvs)) (h2 : H b = some (.tup (k.map kV))) (h : P (valV kvs k).isSome) : ∃ a' o, V.ref a = .ref a' ∧ DGet H a' (.ref b) o ∧ ∃ c, V.bl o.isSome = .bl c ∧ P c := ⟨a, _, rfl, DGet.t h1 h2, _, rfl, h⟩
theorem putK_newT {kvs : List (List Key × V)} {k : List Key} {v : V} (h : valV kvs k = none) : putK kvs k v = kvs ++ [(k, v)] := by
  unfold putK
  rw [if_neg]
  rw [List.any_eq_true]
  rintro ⟨q, hq, e⟩
  unfold valV at h
  rw [Option.map_eq_none_iff, List.find?_eq_none] at h
  exact h q hq e
end
end Zb
namespace Zb
open PySem PySem.Spec PyProof.Rows L2
/-- a method of the class cls -/
structure Dm (K : PySem.W.Frag) (cls m qual : Str) (st : Stmt) (ps : List Str) (f : Addr) (fd : FuncData) : Prop where
  g : Meth K (clsA K cls) m f
  F : Fun K m qual st f fd
  b : Binds K fd ps []
theorem dm_mk {K : PySem.W.Frag} {cls m qual : Str} {st : Stmt} {ps : List Str} {f : Addr} {oc : Value} {od an : Option Addr} {osl : Array (Option Value)} {kV dc pm cd ct : Value}
    (a : PySem.W.findIn K (.ref (clsA K cls)) m = some (some (.ref f))) (i : PySem.W.isFn K (.ref f) = true) (l : K.lookup f = some ⟨oc, od, .func (PySem.W.fnOf m qual (defArgs st) (defBody st) (defScope st) .none kV dc pm an cd ct), osl⟩) (c : PySem.W.codeIn K cd qual = true) (k : PySem.W.keepIn K (.ref f) = true)
    (hb : ∀ (kV doc pm : Value) (an : Option Addr) (cdv ct : Value) (us : List Value), us.length = ps.length → bindArgs (PySem.W.fnOf m qual (defArgs st) (defBody st) (defScope st) .none kV doc pm an cdv ct) ⟨us, []⟩ = pure (ps.zip us)) :
    Dm K cls m qual st ps f (PySem.W.fnOf m qual (defArgs st) (defBody st) (defScope st) .none kV dc pm an cd ct) :=
  have F := fun_mk (st := st) l c k
  ⟨⟨a, i, k⟩, F, F.binds hb⟩
section
variable {X : Cx} {K : PySem.W.Frag} {e o value : Expr} {f : Str} {pos pos' : Pos} {ta tv : TE}
theorem pe_fldK (he : PE X e ta) (hb : attributeBase e f X.env (eval e X.env) = eval e X.env) (hK : X.K = K := by rfl) : PE X (.Attribute e f pos) (tFld K ta f) := by subst hK; exact pe_fld he hb
theorem ps_fldK (ha : PE X o ta) (hv : PE X value tv) (hs : swapsWith value (some (.Attribute o f pos')) pos.line X.env = pure false) (hK : X.K = K := by rfl) : PS X (.Assign [.Attribute o f pos'] value pos) (sFld K ta tv f) := by subst hK; exact ps_fld ha hv hs
end
section
variable {K : PySem.W.Frag} {σ : L2.St} {H : Hp} {Q : VK} {D : Ends} {C : Addr}
def FldP (K : PySem.W.Frag) (f : Str) (Q : VK) (x : V) (H1 : Hp) : Prop := ∃ a C dx fs v, x = .ref a ∧ H1 a = some (.ins C dx fs) ∧ Cls K C ∧ NoAttr K C f ∧ fs.lookup f = some v ∧ Q v H1
theorem st_fld {ta : TE} {f : Str} (h : ta σ H (FldP K f Q)) : tFld K ta f σ H Q := h
theorem st_fldP {f : Str} {a dx : Addr} {fs : List (Str × V)} {v : V} (h1 : H a = some (.ins C dx fs)) (c : Cls K C) (n : NoAttr K C f) (l : fs.lookup f = some v) (h : Q v H) : FldP K f Q (.ref a) H := ⟨a, C, dx, fs, v, rfl, h1, c, n, l, h⟩
def FldS (K : PySem.W.Frag) (f : Str) (y : V) (P : Hp → Prop) (x : V) (H2 : Hp) : Prop := ∃ a C dx fs, x = .ref a ∧ H2 a = some (.ins C dx fs) ∧ Cls K C ∧ NoAttr K C f ∧ fs.length < 1000 ∧ P (upd H2 a (.ins C dx (putF f y fs)))
theorem st_fldS {ta tv : TE} {f : Str} (h : tv σ H fun y H1 => ta σ H1 (FldS K f y (D.nx σ))) : sFld K ta tv f D σ H := h
theorem st_fldSP {f : Str} {y : V} {P : Hp → Prop} {a dx : Addr} {fs : List (Str × V)} (h1 : H a = some (.ins C dx fs)) (c : Cls K C) (n : NoAttr K C f) (l : fs.length < 1000) (h : P (upd H a (.ins C dx (putF f y fs)))) : FldS K f y P (.ref a) H := ⟨a, C, dx, fs, rfl, h1, c, n, l, h⟩
theorem putF_nil {f : Str} {y : V} : putF f y [] = [(f, y)] := rfl
theorem putF_ne {f g : Str} {y v : V} {r : List (Str × V)} (h : ¬ g = f) : putF f y ((g, v) :: r) = (g, v) :: putF f y r := by
  show (if g = f then _ else _) = _
  rw [if_neg h]
def MethP (C : Addr) (m : Str) (sp : Sp) (dvs : List V) (E : XK) (t : TA) (σ : L2.St) (Q : VK) (x : V) (H1 : Hp) : Prop := ∃ a dx fs, x = .ref a ∧ H1 a = some (.ins C dx fs) ∧ fs.lookup m = none ∧ t σ H1 fun vs H2 => sp (x :: (vs ++ dvs)) H2 Q E
theorem st_meth {m : Str} {sp : Sp} {dvs : List V} {E : XK} {ta : TE} {t : TA} (h : ta σ H (MethP C m sp dvs E t σ Q)) : tMeth C m sp dvs E ta t σ H Q := h
theorem st_methP {m : Str} {sp : Sp} {dvs : List V} {E : XK} {t : TA} {a dx : Addr} {fs : List (Str × V)} (h1 : H a = some (.ins C dx fs)) (l : fs.lookup m = none) (h : t σ H fun vs H2 => sp (.ref a :: (vs ++ dvs)) H2 Q E) : MethP C m sp dvs E t σ Q (.ref a) H := ⟨a, dx, fs, rfl, h1, l, h⟩
def MakeP (C : Addr) (sp : Sp) (dvs : List V) (E : XK) (Q : VK) (vs : List V) (H1 : Hp) : Prop := ∀ x dx, H1 x = none → H1 dx = none → dx ≠ x → sp (.ref x :: (vs ++ dvs)) (upd (upd H1 dx (.own x)) x (.ins C dx [])) (fun v H2 => v = .non ∧ Q (.ref x) H2) E
theorem st_make {sp : Sp} {dvs : List V} {E : XK} {t : TA} (h : t σ H (MakeP C sp dvs E Q)) : tMake C sp dvs E t σ H Q := h
theorem st_makeP {sp : Sp} {dvs : List V} {E : XK} {vs : List V} (h : ∀ x dx H', H x = none → Ex H H' → H' x = some (.ins C dx []) → sp (.ref x :: (vs ++ dvs)) H' (fun v H2 => v = .non ∧ Q (.ref x) H2) E) : MakeP C sp dvs E Q vs H := fun x dx nx nd ne =>
  h x dx _ nx ((Fr.new nd).trans (Fr.new (by rw [upd_ne (Ne.symm ne)]; exact nx))) upd_same
end
end Zb
namespace Zb
open PySem PySem.Spec PyProof.Rows L2
end Zb
namespace Zb
open PySem PySem.Spec PyProof.Rows L2
open Evl (tCut pss_cut)
/-- an exception of the class cls, its dict at d, kept at a -/
def XkO (a : Addr) (cls : Value) (d : Option Addr) : HO := .ext fun h => ∃ (oe : Obj) (vs : Array Value), h.get? a = some oe ∧ Zc cls d oe ∧ oe.data = .fields vs
def XkP (K : PySem.W.Frag) (n : Str) (Q : VK) : VK := fun x H1 => ∃ (a C dd : Addr) (fs : List (Str × V)) (v : V), x = .ref a ∧ H1 a = some (XkO a (.ref C) (some dd)) ∧ XI K C ∧ PySem.W.findIn K (.ref C) n = some none ∧ H1 dd = some (.xd fs) ∧ fs.lookup n = some v ∧ Q v H1
def tXk (K : PySem.W.Frag) (n : Str) (te : TE) : TE := fun σ H Q => te σ H (XkP K n Q)
section
variable {X : Cx} {K : PySem.W.Frag}
/-- isinstance(e, C), isinstance(e, (C1, ..)), e a kept exception -/
def rIsK (K : PySem.W.Frag) : List V → Hp → VK → Prop := fun xs H Q => ∃ (a : Addr) (c : V) (cv : Value) (b : Bool) (C dd : Addr) (fs : List (Str × V)), xs = [.ref a, c] ∧ H a = some (XkO a (.ref C) (some dd)) ∧ (∀ u, RelV c u → u = cv) ∧ XI K C ∧ H dd = some (.xd fs) ∧ PySem.W.kitOne K (.ref C) cv = some b ∧ Q (.bl b) H
def rIsKs (K : PySem.W.Frag) : List V → Hp → VK → Prop := fun xs H Q => ∃ (a tp : Addr) (cs : List V) (cvs : List Value) (b : Bool) (C dd : Addr) (fs : List (Str × V)), xs = [.ref a, .ref tp] ∧ H a = some (XkO a (.ref C) (some dd)) ∧ H tp = some (.tup cs) ∧ (∀ us, Vals cs us → us = cvs) ∧ XI K C ∧ H dd = some (.xd fs) ∧ PySem.W.kitAny K (.ref C) cvs = some b ∧ Q (.bl b) H
end
section
variable {K : PySem.W.Frag} {σ : L2.St} {H : Hp} {Q : VK}
theorem st_xk {n : Str} {te : TE} (h : te σ H (XkP K n Q)) : tXk K n te σ H Q := h
theorem st_xkP {a C dd : Addr} {n : Str} {fs : List (Str × V)} {v : V} (h0 : H a = some (XkO a (.ref C) (some dd))) (T : XI K C) (hno : PySem.W.findIn K (.ref C) n = some none) (h1 : H dd = some (.xd fs)) (h2 : fs.lookup n = some v) (h : Q v H) : XkP K n Q (.ref a) H := ⟨a, C, dd, fs, v, rfl, h0, T, hno, h1, h2, h⟩
theorem st_isK {a C C' dd : Addr} {fs : List (Str × V)} {b : Bool} (h0 : H a = some (XkO a (.ref C) (some dd))) (T : XI K C) (h1 : H dd = some (.xd fs)) (e : PySem.W.kitOne K (.ref C) (.ref C') = some b) (h : Q (.bl b) H) : rIsK K [.ref a, .ref C'] H Q :=
  ⟨a, .ref C', .ref C', b, C, dd, fs, rfl, h0, fun u r => by cases r; rfl, T, h1, e, h⟩
theorem st_isKT {a C dd : Addr} {fs : List (Str × V)} {n : String} {b : Bool} (h0 : H a = some (XkO a (.ref C) (some dd))) (T : XI K C) (h1 : H dd = some (.xd fs)) (e : PySem.W.kitOne K (.ref C) (.type n) = some b) (h : Q (.bl b) H) : rIsK K [.ref a, .ty n] H Q :=
  ⟨a, .ty n, .type n, b, C, dd, fs, rfl, h0, fun u r => by cases r; rfl, T, h1, e, h⟩
/-- of no class among these -/
inductive KitN (K : PySem.W.Frag) (C : Addr) : List V → Prop
  | nil : KitN K C []
  | cons {D : Addr} {l : List V} : PySem.W.kitOne K (.ref C) (.ref D) = some false → KitN K C l → KitN K C (.ref D :: l)
theorem KitN.any {C : Addr} : ∀ {l : List V}, KitN K C l → ∃ cvs : List Value, (∀ us, Vals l us → us = cvs) ∧ PySem.W.kitAny K (.ref C) cvs = some false
  | _, .nil => ⟨[], fun us r => by cases r; rfl, rfl⟩
  | _, .cons (D := D) h t => by
    obtain ⟨cvs, h1, h2⟩ := t.any
    refine ⟨.ref D :: cvs, fun us r => ?_, ?_⟩
    · cases r with
      | cons r1 rr =>
        cases r1
        rw [h1 _ rr]
    · unfold PySem.W.kitAny
      rw [h]
      exact h2
theorem st_isKs {a C dd tp : Addr} {cs : List V} {fs : List (Str × V)} (h0 : H a = some (XkO a (.ref C) (some dd))) (T : XI K C) (h1 : H dd = some (.xd fs)) (ht : H tp = some (.tup cs)) (k : KitN K C cs) (h : Q (.bl false) H) : rIsKs K [.ref a, .ref tp] H Q := by
  obtain ⟨cvs, k1, k2⟩ := k.any
  exact ⟨a, tp, cs, cvs, false, C, dd, fs, rfl, h0, ht, k1, T, h1, k2, h⟩
end
end Zb
namespace Zb
open PySem PySem.Spec PyProof.Rows L2
open Evl (tCut pss_cut)
def rRv : V → Hp → VK → Prop := fun x H Q => ∃ a xs, x = .ref a ∧ ((lstAt H a = some xs ∧ ∀ q, H q = none → Q (.ref q) (upd H q (.lst xs.reverse))) ∨ (tupAt H a = some xs ∧ ∀ q, H q = none → Q (.ref q) (upd H q (.tup xs.reverse))))
def tRv (te ts : TE) : TE := fun σ H Q => te σ H fun x H1 => ts σ H1 fun s H4 => s = .int (-1) ∧ rRv x H4 Q
section
variable {K : PySem.W.Frag} {σ : L2.St} {H : Hp} {Q : VK}
def RvP (Q : VK) (x s : V) (H4 : Hp) : Prop := s = .int (-1) ∧ rRv x H4 Q
theorem st_rv {te ts : TE} (h : te σ H fun x H1 => ts σ H1 fun s H4 => RvP Q x s H4) : tRv te ts σ H Q := h
theorem st_rvQ {a : Addr} {xs : List V} (h1 : seqAt H a = some xs) (h : ∀ q H', H q = none → Ex H H' → seqAt H' q = some xs.reverse → Q (.ref q) H') : RvP Q (.ref a) (.int (-1)) H :=
  ⟨rfl, a, xs, rfl, (seqAt_cases h1).elim (fun z => .inl ⟨z, fun q hq => h q _ hq (Fr.new hq) (seq_l upd_same)⟩) fun z => .inr ⟨z, fun q hq => h q _ hq (Fr.new hq) (seq_t upd_same)⟩⟩
end
end Zb
namespace SrtO
open PySem PyProof.Rows Srt
section
variable {prog : Program} {w : World} {A : Around} {E : Value → Shared → Prop} {s : Shared}
theorem collect_tup {l : Addr} {vs : List Value} {Q : List Value → Shared → Prop} (hl : IsTup s.heap l vs.toArray)
    (h : Q vs { s with heap := (s.heap.push (seqObj "list" #[] 0)).update s.heap.objs.size (Obj.mapSeq (· ++ vs.toArray)) }) (hsz : vs.length ≤ sizeLine) :
    wpAny (model prog w) A (collect (.ref l)) Q E s := by
  obtain ⟨o, ho, hc, n, hd⟩ := id hl
  unfold collect
  refine wpAny_bind (wpAny_runValue (codeAny_builtin entry_proto_collect' ?_))
  show wpAny _ _ (do again (.builtin "list.__iadd__" ⟨[← newList [], .ref l], []⟩)) _ _ s
  refine wpAny_bind (wpAny_newList (wpAny_pure ⟨Code.quiet_builtin _ (by decide +kernel), codeAny_builtin entry_list_iadd' ?_⟩))
  show wpAny _ _ (Builtin.List.listExtendWith (.ref s.heap.objs.size) (.ref l) (.ref s.heap.objs.size)) _ _ { s with heap := s.heap.push (seqObj "list" #[] 0) }
  unfold Builtin.List.listExtendWith
  have ho' : (s.heap.push (seqObj "list" #[] 0)).get? l = some o := Heap.get?_push_of_some _ ho
  refine wpAny_bind (wpAny_typeOf (T := "tuple") ⟨o, ho', hc⟩ ?_)
  have ht : (Value.type "tuple" == Value.type "tuple") = true := by rfl
  rw [if_pos (by rw [ht]; simp)]
  refine wpAny_bind (listItems_at ho' hd ?_)
  refine wpAny_bind (listItems_at (xs := #[]) (n := 0) (Heap.get?_push_size _ rfl) rfl ?_)
  rw [if_neg (by simp)]
  refine wpAny_bind (listUpdate_at (xs := #[]) (n := 0) (Heap.get?_push_size _ rfl) rfl ?_ (Nat.zero_le _) (by show (#[] ++ vs.toArray).size ≤ sizeLine + 1; simp only [Array.size_append, List.size_toArray, List.length_nil]; omega))
  refine wpAny_pure ?_
  show wpAny (model prog w) A (do
      let o ← load s.heap.objs.size
      match o.data with
      | .seq xs _ => pure xs.toList
      | _ => unsupported "internal:collect") Q E { s with heap := (s.heap.push (seqObj "list" #[] 0)).update s.heap.objs.size (Obj.mapSeq (· ++ vs.toArray)) }
  refine wpAny_bind (wpAny_load (get?_update_seq (Heap.get?_push_size _ rfl) _) ?_)
  show wpAny _ _ (pure ((#[] : Array Value) ++ vs.toArray).toList) Q E _
  rw [show ((#[] : Array Value) ++ vs.toArray).toList = vs by simp]
  exact wpAny_pure h
theorem sorted_ordT {l : Addr} {vs : List Value} {ltv : Value → Value → Bool} {Q : Value → Shared → Prop} (O : Swo ltv) (hl : IsTup s.heap l vs.toArray) (hz : vs.length ≤ sizeLine)
    (hS : 2 ≤ vs.length → ∀ (h₁ : Heap) (a : Addr), h₁.get? a = some (seqObj "list" vs.toArray 0) → (∀ b o, s.heap.get? b = some o → b ≠ a ∧ h₁.get? b = some o) → SortableO prog w A.in1.in1 { s with heap := h₁ } a vs ltv)
    (h : ∀ out : List Value, Srtd ltv out → Stb ltv out vs → Q (.ref (s.heap.objs.size + 1)) { s with heap := sortedAll s.heap vs out.toArray }) :
    wpAny (model prog w) A (call (.builtin "sorted") [.ref l]) Q E s := by
  refine Calls.call_function_entry kind_sorted plain_sorted entry_sorted (args_sorted1 _) ?_
  unfold Builtin.«sorted»
  refine wpAny_bind (m := checkCount "sorted" 1 1 _) (wpAny_pure ?_)
  refine wpAny_bind (collect_tup hl ?_ hz)
  refine wpAny_bind (wpAny_newList ?_ hz)
  have hsz : ((s.heap.push (seqObj "list" #[] 0)).update s.heap.objs.size (Obj.mapSeq (· ++ vs.toArray))).objs.size = s.heap.objs.size + 1 := by
    rw [Heap.size_update, size_push']
  have hoL : (((s.heap.push (seqObj "list" #[] 0)).update s.heap.objs.size (Obj.mapSeq (· ++ vs.toArray))).push (seqObj "list" vs.toArray 0)).get? (s.heap.objs.size + 1) = some (seqObj "list" vs.toArray 0) := by
    rw [← hsz]; exact Heap.get?_push_size _ rfl
  have keep : ∀ b o, s.heap.get? b = some o → b ≠ s.heap.objs.size + 1 ∧ (((s.heap.push (seqObj "list" #[] 0)).update s.heap.objs.size (Obj.mapSeq (· ++ vs.toArray))).push (seqObj "list" vs.toArray 0)).get? b = some o := fun b o q => by
    have hlt : b < s.heap.objs.size := Heap.lt_size q
    refine ⟨Nat.ne_of_lt (Nat.lt_succ_of_lt hlt), Heap.get?_push_of_some _ ?_⟩
    rw [Heap.get?_update_ne _ _ _ _ (Nat.ne_of_lt hlt)]
    exact Heap.get?_push_of_some _ q
  show wpAny _ _ _ _ _ { s with heap := ((s.heap.push (seqObj "list" #[] 0)).update s.heap.objs.size (Obj.mapSeq (· ++ vs.toArray))).push (seqObj "list" vs.toArray 0) }
  rw [hsz]
  refine wpAny_bind (wpAny_holding (wpAny_call_entry slot_list_sort ⟨_, hoL, rfl⟩ entry_list_sort (list_sort_ord O hoL hz (fun h2 => hS h2 _ _ hoL keep) fun out hs hb => ⟨_, rfl, ?_⟩) (args_list_sort _)))
  exact wpAny_pure ⟨_, rfl, h out hs hb⟩
end
end SrtO
namespace Zb
open PySem PySem.Spec PyProof.Rows L2
/-- sorted of a list or a tuple of ints -/
def rSortedQ : List V → Hp → VK → Prop := fun vs H Q => ∃ (a : Addr) (ns : List Int), vs = [V.ref a] ∧ seqAt H a = some (ns.map V.int) ∧
  ∀ (ns' : List Int) (p : Addr), ns'.Perm ns → ns'.Pairwise (· ≤ ·) → H p = none → Q (.ref p) (upd H p (.lst (ns'.map V.int)))
theorem c_sortQ {X : Cx} : CallR X (.builtin "sorted") rSortedQ := by
  intro pins s σ H vs us Q I r h
  obtain ⟨a, ns, rfl, hs, q⟩ := h
  rcases seqAt_cases hs with hs | hs
  · exact cr_sortedI pins s σ H _ us Q I r ⟨a, ns, rfl, lstAt_sq hs, q⟩
  · obtain ⟨its, rv, hl, hz⟩ := I.tuple (tupAt_sq hs)
    rw [Vals.ref1 r]
    have hi := rv.ints
    refine SrtO.sorted_ordT SrtO.swo_int hl (by rw [← rv.length]; exact hz) (fun h2 h₁ a' _ _ => SrtO.ints_sortable hi h2) fun out h1 h2 => ?_
    obtain ⟨k1, k2, k3⟩ := SrtO.ints_out hi h1 h2
    obtain ⟨ep, he'⟩ := PyProof.Rows.sortedAll_at s.heap its out.toArray
    have hlen : ((out.map SrtO.iv).map V.int).length ≤ sizeLine := by
      rw [List.length_map, k2.length_eq]
      rw [List.length_map] at hz
      exact hz
    exact ⟨.ref _, upd H (s.heap.objs.size + 1) (.lst ((out.map SrtO.iv).map V.int)), I.laid (t' := s.toks) (fun _ _ => PyProof.Rows.sortedAll_old) (Nat.le_succ _) ⟨hlen, out, ep, vals_of_ints k1, he'⟩, rfl, q _ _ k2 k3 (I.hok.fresh (Nat.le_succ _))⟩
theorem st_sortQ {H : Hp} {Q : VK} {p : Addr} {ns : List Int} (h1 : seqAt H p = some (ns.map V.int)) (h : ∀ (ns' : List Int) (q : Addr) (H' : Hp), ns'.Perm ns → ns'.Pairwise (· ≤ ·) → H q = none → Ex H H' → H' q = some (.lst (ns'.map V.int)) → Q (.ref q) H') : rSortedQ [.ref p] H Q :=
  ⟨p, ns, rfl, h1, fun ns' q k1 k2 hq => h ns' q _ k1 k2 hq (Fr.new hq) upd_same⟩
end Zb
namespace Zb
open PySem PySem.Spec PyProof.Rows L2
/-- x += a text -/
def rIpS : R2 := fun x y H Q => ∃ a b : Str, x = .str a ∧ y = .str b ∧ a.length + b.length ≤ 16777216 ∧ Q (.str (a ++ b)) H
theorem ip_addS {X : Cx} : PIp X .Add rIpS := by
  intro pins s σ H x y v u Q I r1 r2 h
  obtain ⟨a, b, rfl, rfl, hz, q⟩ := h
  exact iop_add_str pins s σ H _ _ v u Q I r1 r2 ⟨a, b, rfl, rfl, by rw [sl16]; exact hz, q⟩
section
variable {σ : L2.St} {H : Hp} {Q : VK} {D : Ends}
theorem st_augS {i : Nat} {te : TE} {z : Str} (hx : σ[i]? = some (some (.str z))) (h : te σ H (fun y H1 => rIpS (.str z) y H1 fun z H2 => D.nx (σ.set i (some z)) H2)) : tAug i te rIpS D σ H := ⟨_, hx, h⟩
theorem st_ipS {x y : Str} (hz : x.length + y.length ≤ 16777216) (h : Q (.str (x ++ y)) H) : rIpS (.str x) (.str y) H Q := ⟨x, y, rfl, rfl, hz, h⟩
end
end Zb
namespace Zb
open PySem PySem.Spec PyProof.Rows L2
end Zb
namespace Zb
open PySem PySem.Spec PyProof.Rows L2
section
variable {X : Cx} {CX : CXT} {k : Nat} {f C : Addr} {fd : FuncData} {ps : List Str} {sp : Sp} {E : L2.St → XK} {x m : Str} {p pos apos : Pos} {e o : Expr} {es : List Expr} {ta : TE} {t : TA}
def tMethS (C : Addr) (m : Str) (sp : Sp) (E : L2.St → XK) (ta : TE) (t : TA) : TE := fun σ H Q => ta σ H (MethP C m sp [] (E σ) t σ Q)
def tMakeS (C : Addr) (sp : Sp) (E : L2.St → XK) (t : TA) : TE := fun σ H Q => t σ H (MakeP C sp [] (E σ) Q)
end
section
variable {σ : L2.St} {H : Hp} {Q : VK} {C : Addr} {sp : Sp} {W : WX}
theorem st_methS {m : Str} {ta : TE} {t : TA} (h : ta σ H (MethP C m sp [] (WE W σ) t σ Q)) : tMethS C m sp (WE W) ta t σ H Q := h
theorem st_makeS {t : TA} (h : t σ H (MakeP C sp [] (WE W σ) Q)) : tMakeS C sp (WE W) t σ H Q := h
end
end Zb
namespace Zb
open PySem PySem.Spec PyProof.Rows L2 SrtO
def IsTri (h : Heap) (v : Value) (k : Int × Int × Int) : Prop := ∃ a o t u r n, v = .ref a ∧ h.get? a = some o ∧ o.cls = .type "tuple" ∧ o.data = .seq #[.int k.1 t, .int k.2.1 u, .int k.2.2 r] n
theorem IsTri.keeps {h h' : Heap} {v : Value} {k : Int × Int × Int} (p : IsTri h v k) (kk : ∀ b o, h.get? b = some o → o.cls = .type "tuple" → h'.get? b = some o) : IsTri h' v k := by
  obtain ⟨a, o, t, u, r, n, e, ho, hc, hd⟩ := p
  exact ⟨a, o, t, u, r, n, e, kk _ _ ho hc, hc, hd⟩
def tri3 (q : Int × Int × Int) : HO := .tup [.int q.1, .int q.2.1, .int q.2.2]
abbrev ZT := Addr × (Int × Int × Int)
def T3 (H : Hp) (zs : List ZT) : Prop := ∀ z ∈ zs, H z.1 = some (tri3 z.2)
section
variable {H H' : Hp} {zs ys : List ZT}
theorem T3.ex (h : T3 H zs) (e : Ex H H') : T3 H' zs := fun z hz => e.get (h z hz)
theorem T3.up {D : Addr} {xs : List V} {u : HO} (h : T3 H zs) (hD : H D = some (.lst xs)) : T3 (upd H D u) zs := fun z hz => by
  rw [upd_ne fun e => by have := h z hz; rw [e, hD] at this; cases this]
  exact h z hz
theorem T3.app (h : T3 H zs) (k : T3 H ys) : T3 H (zs ++ ys) := fun z hz => (List.mem_append.mp hz).elim (h z) (k z)
theorem T3.cons {z : ZT} (h : H z.1 = some (tri3 z.2)) (k : T3 H ys) : T3 H (z :: ys) := fun y hy => by
  rcases List.mem_cons.mp hy with rfl | hy
  · exact h
  · exact k y hy
theorem T3.perm (h : T3 H zs) (e : ys.Perm zs) : T3 H ys := fun z hz => h z (e.mem_iff.mp hz)
end
def rMin3 : List V → Hp → VK → Prop := fun vs H Q => match vs with
  | [.int i, .int j, .int k] => Q (.int (min (min i j) k)) H
  | _ => False
theorem st_min3 {i j k : Int} {H : Hp} {Q : VK} (h : Q (.int (min (min i j) k)) H) : Zb.rMin3 [.int i, .int j, .int k] H Q := h
end Zb
namespace Zb
open PySem PySem.Spec PyProof.Rows L2
section
variable {X : Cx} {CX : CXT} {k : Nat} {f : Addr} {fd : FuncData} {ps : List Str} {sp : Sp} {E : XK} {e o : Expr} {es : List Expr} {ta : TE} {t : TA} {p1 p2 pos apos : Pos} {nm m : Str}
def MethD (CS : Addr → Prop) (m : Str) (sp : Addr → Sp) (E : XK) (t : TA) (σ : L2.St) (Q : VK) (x : V) (H1 : Hp) : Prop := ∃ a C dx fs, x = .ref a ∧ H1 a = some (.ins C dx fs) ∧ CS C ∧ fs.lookup m = none ∧ t σ H1 fun vs H2 => sp C (x :: vs) H2 Q E
def tMethD (CS : Addr → Prop) (m : Str) (sp : Addr → Sp) (E : XK) (ta : TE) (t : TA) : TE := fun σ H Q => ta σ H (MethD CS m sp E t σ Q)
variable {CS : Addr → Prop} {spD : Addr → Sp}
end
section
variable {σ : L2.St} {H : Hp} {Q : VK} {CS : Addr → Prop} {m : Str} {sp : Addr → Sp} {E : XK}
theorem st_methD {ta : TE} {t : TA} (h : ta σ H (MethD CS m sp E t σ Q)) : tMethD CS m sp E ta t σ H Q := h
end
end Zb
namespace Zb
open PySem PySem.Spec PyProof.Rows L2
section
variable {K : PySem.W.Frag} {H : Hp} {Q : VK}
theorem st_dget {td ty : TE} {σ : L2.St} (h : td σ H fun x H1 => ty σ H1 fun y H2 => ∃ a v, x = .ref a ∧ DGet H2 a y (some v) ∧ Q v H2) : tDGet td ty σ H Q := h
end
end Zb
namespace Zb
open PySem PySem.Spec PyProof.Rows L2
def gvEq : V → Value → Bool
  | .int i, .int j _ => i == j
  | .str x, .str y _ => x == y
  | _, _ => false
theorem gvEq_rel {v : V} {u : Value} (h : gvEq v u = true) : RelV v u := by
  cases v <;> cases u <;> simp only [gvEq, Bool.false_eq_true, beq_iff_eq] at h
  · subst h; exact ⟨_, rfl⟩
  · subst h; exact ⟨_, rfl⟩
def gdAll : List DictEntry → List (Str × V) → Bool
  | [], [] => true
  | e :: es, p :: ps => (match e.key with | .str x _ => x == p.1 | _ => false) && (gvEq p.2 e.val && gdAll es ps)
  | _, _ => false
def valS (kvs : List (Str × V)) (x : Str) : Option V := (kvs.find? fun p => p.1 == x).map (·.2)
theorem gd_find {x : Str} : ∀ {es : List DictEntry} {kvs : List (Str × V)}, gdAll es kvs = true → RelO (valS kvs x) ((es.find? fun e => Value.isStrOf x e.key).map (·.val))
  | [], [], _ => trivial
  | [], _ :: _, h => by cases h
  | _ :: _, [], h => by cases h
  | e :: es, p :: ps, h => by
    unfold gdAll at h
    rw [Bool.and_eq_true, Bool.and_eq_true] at h
    obtain ⟨h1, h2, h3⟩ := h
    obtain ⟨k, t, hk⟩ : ∃ k t, e.key = .str k t := by
      cases q : e.key <;> rw [q] at h1 <;> first | exact ⟨_, _, rfl⟩ | cases h1
    rw [hk] at h1
    have h1 : (k == p.1) = true := h1
    unfold valS
    rw [List.find?_cons, List.find?_cons, hk]
    have e1 : Value.isStrOf x (.str k t) = (p.1 == x) := by
      rw [beq_iff_eq.mp h1]
      unfold Value.isStrOf
      by_cases c : p.1 = x
      · simp [c]
      · have c' : x ≠ p.1 := fun z => c z.symm
        simp [c, c']
    rw [e1]
    cases (p.1 == x) with
    | true => exact gvEq_rel h2
    | false => exact gd_find h3
/-- the dict at a, as the top has written it -/
structure GDat (w : World) (K : PySem.W.Frag) (a : Addr) (kvs : List (Str × V)) : Prop where
  lo : (a == sysModules) = false
  ex : ∃ es n, K.lookup a = some ⟨.type "dict", none, .dict es n, #[]⟩ ∧ PySem.W.KeysLit w.params es.toList ∧ gdAll es.toList kvs = true
section
variable {X : Cx} {pins : List (Addr × Obj)} {σ : L2.St} {H : Hp} {s : Shared} {a : Addr} {kvs : List (Str × V)}
theorem GDat.map (g : GDat X.w X.K a kvs) (I : Inv X pins σ H s) : ∃ f, s.heap.MapOf (PySem.strKind X.prog X.w) a f ∧ ∀ x, RelO (valS kvs x) (f x) := by
  obtain ⟨es, n, h1, h2, h3⟩ := g.ex
  refine ⟨_, PySem.W.mapOf_K I.kIn h1 h2, fun x => ?_⟩
  obtain ⟨l⟩ := es
  have := gd_find (x := x) h3
  unfold PySem.findBy
  rw [List.find?_toArray]
  exact this
end
def tGGet1 (w : World) (K : PySem.W.Frag) (td ty : TE) : TE := fun σ H Q => td σ H fun x H1 => ∃ a kvs, x = .ref a ∧ GDat w K a kvs ∧ ty σ H1 fun y H2 => ∃ k, y = .str k ∧ Q ((valS kvs k).getD .non) H2
def tGGet2 (w : World) (K : PySem.W.Frag) (td ty tx : TE) : TE := fun σ H Q => td σ H fun x H1 => ∃ a kvs, x = .ref a ∧ GDat w K a kvs ∧ ty σ H1 fun y H2 => tx σ H2 fun z H3 => ∃ k, y = .str k ∧ Q ((valS kvs k).getD z) H3
def tGItem (w : World) (K : PySem.W.Frag) (td ty : TE) : TE := fun σ H Q => td σ H fun x H1 => ∃ a kvs, x = .ref a ∧ GDat w K a kvs ∧ ty σ H1 fun y H2 => ∃ k v, y = .str k ∧ valS kvs k = some v ∧ Q v H2
section
variable {w : World} {K : PySem.W.Frag} {σ : L2.St} {H : Hp} {Q : VK} {td ty tx : TE}
theorem st_gget1 (h : td σ H fun x H1 => ∃ a kvs, x = .ref a ∧ GDat w K a kvs ∧ ty σ H1 fun y H2 => ∃ k, y = .str k ∧ Q ((valS kvs k).getD .non) H2) : tGGet1 w K td ty σ H Q := h
theorem st_gget2 (h : td σ H fun x H1 => ∃ a kvs, x = .ref a ∧ GDat w K a kvs ∧ ty σ H1 fun y H2 => tx σ H2 fun z H3 => ∃ k, y = .str k ∧ Q ((valS kvs k).getD z) H3) : tGGet2 w K td ty tx σ H Q := h
theorem st_gitem (h : td σ H fun x H1 => ∃ a kvs, x = .ref a ∧ GDat w K a kvs ∧ ty σ H1 fun y H2 => ∃ k v, y = .str k ∧ valS kvs k = some v ∧ Q v H2) : tGItem w K td ty σ H Q := h
theorem st_gdat {a : Addr} {kvs : List (Str × V)} {P : List (Str × V) → Prop} (g : GDat w K a kvs) (h : P kvs) : ∃ a' kvs', V.ref a = .ref a' ∧ GDat w K a' kvs' ∧ P kvs' := ⟨a, kvs, rfl, g, h⟩
theorem st_gkey {k : Str} {P : Str → Prop} (h : P k) : ∃ k', V.str k = .str k' ∧ P k' := ⟨k, rfl, h⟩
end
theorem st_isXsN {K : PySem.W.Frag} {H : Hp} {Q : VK} {a C dd tp : Addr} {cs : List V} {fs : List (Str × V)} (T : XI K C) (h1 : H dd = some (.xd fs)) (ht : H tp = some (.tup cs)) (k : KitN K C cs) (h : Q (.bl false) H) : rIsXs K a (.ref C) (some dd) [.ref a, .ref tp] H Q := by
  obtain ⟨cvs, k1, k2⟩ := k.any
  exact ⟨tp, cs, cvs, false, C, dd, fs, rfl, ht, k1, rfl, T, rfl, h1, k2, h⟩
def rUpper : V → List V → Hp → VK → Prop := fun x xs H Q => ∃ z, x = .str z ∧ xs = [] ∧ z.length ≤ 5592405 ∧ Q (.str (Txt.upper z)) H
theorem st_upper {z : Str} {H : Hp} {Q : VK} (hz : z.length ≤ 5592405) (h : Q (.str (Txt.upper z)) H) : rUpper (.str z) [] H Q := ⟨z, rfl, rfl, hz, h⟩
end Zb
namespace Zb
open PySem PySem.Spec PyProof.Rows L2
end Zb
namespace Zb
open PySem PySem.Spec PyProof.Rows L2 PySem.W
def tLk : List (R2 × TE) → V → L2.St → Hp → VK → Prop
  | [], _, _, _, _ => False
  | [(r, tb)], x, σ, H, Q => tb σ H fun y H1 => r x y H1 Q
  | (r, tb) :: p :: rest, x, σ, H, Q => tb σ H fun y H1 => r x y H1 fun z H2 => ∃ k, z = .bl k ∧ if k = true then tLk (p :: rest) y σ H2 Q else Q (.bl false) H2
def tChN (ta : TE) (l : List (R2 × TE)) : TE := fun σ H Q => ta σ H fun x H1 => tLk l x σ H1 Q
section
variable {σ : L2.St} {H : Hp} {Q : VK} {x : V} {r : R2} {tb ta : TE} {p : R2 × TE} {l : List (R2 × TE)}
theorem st_chN (h : ta σ H fun x H1 => tLk l x σ H1 Q) : tChN ta l σ H Q := h
theorem st_lk (h : tb σ H fun y H1 => r x y H1 fun z H2 => ∃ k, z = .bl k ∧ if k = true then tLk (p :: l) y σ H2 Q else Q (.bl false) H2) : tLk ((r, tb) :: p :: l) x σ H Q := h
theorem st_lk1 (h : tb σ H fun y H1 => r x y H1 Q) : tLk [(r, tb)] x σ H Q := h
end
section
variable {K : PySem.W.Frag} {σ : L2.St} {H : Hp} {D : Ends} {ta tv : TE} {rd : V → V → Hp → VK → Prop} {f : Str}
def AugP (K : PySem.W.Frag) (tv : TE) (rd : V → V → Hp → VK → Prop) (f : Str) (D : Ends) (σ : L2.St) (x : V) (H1 : Hp) : Prop := ∃ a C dx fs v, x = .ref a ∧ H1 a = some (.ins C dx fs) ∧ Cls K C ∧ NoAttr K C f ∧ fs.lookup f = some v ∧ tv σ H1 fun y H2 => rd v y H2 fun z H3 => ∃ dx' fs', H3 a = some (.ins C dx' fs') ∧ fs'.length < 1000 ∧ D.nx σ (upd H3 a (.ins C dx' (putF f z fs')))
theorem st_aug (h : ta σ H (AugP K tv rd f D σ)) : sFldAug K ta tv rd f D σ H := h
theorem st_augP {a C dx : Addr} {fs : List (Str × V)} {v : V} (h1 : H a = some (.ins C dx fs)) (c : Cls K C) (n : NoAttr K C f) (l : fs.lookup f = some v) (h : tv σ H fun y H2 => rd v y H2 fun z H3 => ∃ dx' fs', H3 a = some (.ins C dx' fs') ∧ fs'.length < 1000 ∧ D.nx σ (upd H3 a (.ins C dx' (putF f z fs')))) : AugP K tv rd f D σ (.ref a) H := ⟨a, C, dx, fs, v, rfl, h1, c, n, l, h⟩
theorem st_inAdd {i j : Int} {Q : VK} (h : Q (.int (i + j)) H) : L2.rAdd (.int i) (.int j) H Q := ⟨i, j, rfl, rfl, h⟩
theorem st_augE {a C dx : Addr} {fs : List (Str × V)} {g : List (Str × V) → List (Str × V)} {P : Hp → Prop} (h1 : H a = some (.ins C dx fs)) (hl : fs.length < 1000) (h : P (upd H a (.ins C dx (g fs)))) : ∃ dx' fs', H a = some (.ins C dx' fs') ∧ fs'.length < 1000 ∧ P (upd H a (.ins C dx' (g fs'))) := ⟨dx, fs, h1, hl, h⟩
end
end Zb
namespace Zb
open PySem PySem.Spec PyProof.Rows L2 PySem.W
def DSetT (a : Addr) (y z : V) (Q : VK) (H : Hp) : Prop := ∃ (kvs : List (List Key × V)) (k : List Key) (b : Addr), H a = some (.dT kvs) ∧ y = .ref b ∧ H b = some (.tup (k.map kV)) ∧ kvs.length < sizeLine ∧ (∀ v, valV kvs k = some v → Q v H) ∧ (valV kvs k = none → Q z (upd H a (.dT (putK kvs k z))))
def tDSetT (td ty tx : TE) : TE := fun σ H Q => td σ H fun x H1 => ∃ a, x = .ref a ∧ IsD H1 a ∧ ty σ H1 fun y H2 => tx σ H2 fun z H3 => DSetT a y z Q H3
section
variable {X : Cx} {pins : List (Addr × Obj)} {σ : L2.St} {H : Hp} {s : Shared} {a b : Addr} {r : Value} {d : V} {k : List Key} {A : Around} {E : Value → Shared → Prop}
theorem d_setT {kvs : List (List Key × V)} {Q : Value → Shared → Prop} (hu : A.units + 1 < cLine) (I : Inv X pins σ H s) (e : H a = some (.dT kvs)) (eb : H b = some (.tup (k.map kV))) (rd : RelV d r) (hl : kvs.length < sizeLine)
    (g1 : ∀ v, valV kvs k = some v → ∀ (u : Value) (t : Shared), Inv X pins σ H t → RelV v u → Q u t) (g2 : valV kvs k = none → ∀ (u : Value) (t : Shared), Inv X pins σ (upd H a (.dT (putK kvs k d))) t → RelV d u → Q u t) :
    wpAny (model X.prog X.w) A (call (.builtin "dict.setdefault") [.ref a, .ref b, r]) Q E s := by
  obtain ⟨z, hd, xs, rel, dd⟩ := dt_of I.hok e
  have len : xs.length ≤ sizeLine := by rw [← Paired.length rel]; exact z
  refine call_setdefault_heap (hsz := len) (tupleKind_room_in1 hu) (key_of I.hok eb) hd dd (fun p hp => ?_) fun hn h' dd' hs => ?_
  · have q := rel.val k
    rw [hp] at q
    cases q0 : valV kvs k with
    | none => rw [q0] at q; exact (show False from q).elim
    | some v => rw [q0] at q; exact g1 v q0 _ _ (I.tok _) q
  · have q := rel.val k
    rw [hn] at q
    cases q0 : valV kvs k with
    | some v => rw [q0] at q; exact (show False from q).elim
    | none =>
      have l2 : (putK kvs k d).length ≤ sizeLine := by have := length_putK kvs k d; omega
      obtain ⟨ob, es, ep, c1, c2, c3, c4, _, c5⟩ := dd'
      refine g2 q0 _ _ (d_write I (by rw [e]; exact True.intro) hs ⟨ob, c1⟩ ⟨l2, hd, _, (rel.put k eb rd).keeps fun c ys ec => ?_, ob, es, ep, c1, c2, c3, c4, c5⟩) rd
      refine (upd_ne fun zz => ?_).trans ec
      rw [zz, e] at ec
      cases ec
end
section
variable {X : Cx} {o e f : Expr} {td ty tx : TE} {apos cpos : Pos}
theorem pe_dsetT (hu : X.A.units + 1 < cLine) (ho : PE X o td) (he : PE X e ty) (hf : PE X f tx) (m : M2 X o "setdefault" apos e f cpos) : PE X (.Call (.Attribute o "setdefault" apos) [e, f] [] cpos) (tDSetT td ty tx) := by
  constructor
  intro pins s σ H Q I h
  refine wpAny_Call_method m.base m.few m.line PySem.F.plainAttrs_dict PySem.F.slot_dict_setdefault PySem.F.type_dict_setdefault (thn (ho.run pins s σ H _ I h) ?_)
  rintro u s1 ⟨x, H1, I1, rx, a, rfl, d, q1⟩
  obtain rfl : u = Value.ref a := rx
  obtain ⟨t1, t2, _⟩ := isD_at I1 d
  refine ⟨t1, t2, ?_⟩
  rw [m.trees]
  refine Calls.callWith_builtin rfl (Calls.evalArgs_plain (Calls.spliced_cons (thn (he.run pins s1 σ H1 _ I1 q1) ?_)))
  rintro iv s2 ⟨y, H2, I2, ry, q2⟩
  refine Calls.spliced_cons (thn (hf.run pins s2 σ H2 _ I2 q2) ?_)
  rintro fv s3 ⟨z, H3, I3, rz, kvs, k, b, ea, rfl, eb, hl, q3, q4⟩
  obtain rfl : iv = Value.ref b := ry
  exact Calls.spliced_nil (d_setT hu I3 ea eb rz hl (fun v hv w4 s4 I4 rw4 => ⟨v, _, I4, rw4, q3 v hv⟩) fun hn w4 s4 I4 rw4 => ⟨z, _, I4, rw4, q4 hn⟩)
end
def rListT : List V → Hp → VK → Prop := fun xs H Q => ∃ d kvs, xs = [V.ref d] ∧ Rd H d (.dT kvs) ∧ ∀ p bs, H p = none → IsKeys H kvs bs → Q (.ref p) (upd H p (.lst (bs.map V.ref)))
theorem c_listT {X : Cx} (hc : X.calm = true) : CallR X (.type "list") rListT := call_list_dT hc
section
variable {K : PySem.W.Frag} {H : Hp} {Q : VK} {σ : L2.St}
theorem st_dsetTU {td ty tx : TE} (h : td σ H fun x H1 => ∃ a, x = .ref a ∧ IsD H1 a ∧ ty σ H1 fun y H2 => tx σ H2 fun z H3 => DSetT a y z Q H3) : tDSetT td ty tx σ H Q := h
theorem st_isDT {a : Addr} {kvs : List (List Key × V)} {P : Addr → Prop} (h1 : H a = some (.dT kvs)) (h : P a) : ∃ b, V.ref a = .ref b ∧ IsD H b ∧ P b := ⟨a, rfl, .inr ⟨kvs, .inl h1⟩, h⟩
theorem st_dsetT {a b : Addr} {z : V} {kvs : List (List Key × V)} (k : List Key) (h1 : H a = some (.dT kvs)) (hb : H b = some (.tup (k.map kV))) (hl : kvs.length < 16777216) (h2 : ∀ v, valV kvs k = some v → Q v H) (h3 : valV kvs k = none → Q z (upd H a (.dT (putK kvs k z)))) : DSetT a (.ref b) z Q H := ⟨kvs, k, b, h1, rfl, hb, by rw [sl16]; exact hl, h2, h3⟩
theorem st_dget2T {a b : Addr} {k : List Key} {z : V} {kvs : List (List Key × V)} (h1 : H a = some (.dT kvs)) (hb : H b = some (.tup (k.map kV))) (h : Q ((valV kvs k).getD z) H) : DGet2P a (.ref b) z Q H := ⟨_, DGet.t h1 hb, h⟩
theorem st_listT {d : Addr} {kvs : List (List Key × V)} (h1 : H d = some (.dT kvs)) (h : ∀ p bs H', H p = none → IsKeys H kvs bs → Ex H H' → H' p = some (.lst (bs.map V.ref)) → Q (.ref p) H') : rListT [.ref d] H Q :=
  ⟨d, kvs, rfl, .inl h1, fun p bs hp hk => h p bs _ hp hk (Fr.new hp) upd_same⟩
end
end Zb
namespace Zb
open PySem PySem.Spec PyProof.Rows L2 LamX NdefX
open Evl (tCut pss_cut)
/-- a lambda: its words, what it captured, its code object -/
structure LF where
  qual : Str
  params : Arguments
  body : Expr
  scope : Scope
  cl : List (Str × Addr)
  c : Addr
abbrev LF.nf (F : LF) : NF := ⟨"<lambda>", F.qual, F.params, [], F.scope, F.cl, F.c⟩
abbrev LF.fd (F : LF) (pm ctv : Value) : FuncData := PySem.W.kla_fn "<lambda>" F.qual F.params F.body F.scope F.cl pm (.ref F.c) ctv
def LamO (f : Addr) (F : LF) : HO := .ext fun h => ∃ (od : Option Addr) (sl : Array (Option Value)) (pm ctv : Value), h.get? f = some (⟨.type "function", od, .func (F.fd pm ctv), sl⟩ : Obj)
theorem lamO_at {P : Program} {w : World} {H : Hp} {h : Heap} {f : Addr} {F : LF} (hok : HOk P w H h) (e : H f = some (LamO f F)) : ∃ (od : Option Addr) (sl : Array (Option Value)) (pm ctv : Value), h.get? f = some (⟨.type "function", od, .func (F.fd pm ctv), sl⟩ : Obj) := (hok f _ e).1
/-- all but the tables stay -/
abbrev ExT (H H' : Hp) : Prop := LamX.ExtN H H'
/-- a heap without its tables -/
def noT (H : Hp) : Hp := fun b => match H b with
  | some (.tbl _) => none
  | x => x
theorem noT_get {H : Hp} {a : Addr} {o : HO} (h : H a = some o) (n : ∀ ps, o ≠ .tbl ps) : noT H a = some o := by
  unfold noT
  rw [h]
  cases o <;> first | rfl | exact absurd rfl (n _)
theorem noT_of {H : Hp} {a : Addr} {o : HO} (h : noT H a = some o) : H a = some o ∧ ∀ ps, o ≠ .tbl ps := by
  unfold noT at h
  split at h
  · cases h
  · rename_i x hx
    exact ⟨h, fun ps z => hx ps (h.trans (by rw [z]))⟩
theorem noT_ex (H : Hp) : Ex (noT H) H := fun b o _ h => (noT_of h).1
theorem ExT.ex {H H' : Hp} (e : ExT H H') : Ex (noT H) H' := fun b o _ h => e b o (noT_of h).1 (noT_of h).2
theorem ExT.of {H H' : Hp} (e : Ex H H') : ExT H H' := fun b o h _ => e b o (fun z => z) h
theorem ExT.nn {H H' : Hp} (e : ExT H H') : Ex (noT H) (noT H') := fun b o _ h => noT_get (e b o (noT_of h).1 (noT_of h).2) (noT_of h).2
theorem noT_mono {H H' : Hp} (e : Ex H H') : Ex (noT H) (noT H') := (ExT.of e).nn
theorem ExT.get {H H' : Hp} {a : Addr} {o : HO} (e : ExT H H') (h : H a = some o) (n : ∀ ps, o ≠ .tbl ps := by intro _ z; cases z) : H' a = some o := e a o h n
section
variable {X : Cx} {pins : List (Addr × Obj)} {σ : L2.St} {H : Hp} {s : Shared}
theorem inv_lam {F : LF} {o : Obj} {t' : Nat} {pm ctv : Value} (I : Inv X pins σ H s) (ho : o = { cls := .type "function", data := .func (F.fd pm ctv) }) :
    Inv X pins σ (upd H s.heap.objs.size (LamO s.heap.objs.size F)) { s with heap := s.heap.push o, toks := t' } := by
  subst ho
  have e : (s.heap.push ({ cls := .type "function", data := .func (F.fd pm ctv) } : Obj)).get? s.heap.objs.size = some { cls := .type "function", data := .func (F.fd pm ctv) } := Heap.get?_push_size _ rfl
  exact I.laid (a := s.heap.objs.size) (fun b u q => Heap.get?_push_of_some _ q) (Nat.le_refl _) ⟨⟨_, _, pm, ctv, e⟩, ⟨_, e⟩, fun h1 h2 ⟨od, sl, p, t, z⟩ st => ⟨od, sl, p, t, st _ z⟩⟩
/-- the tables, when one of them has grown by a code object -/
theorem tabs_more {T : List (Addr × Str)} {P c' : Addr} {q : Str} {pos : Pos} {ps : Array Value} (hT : Tabs T H) (hu : ∀ p ∈ T, p.1 = P → p.2 = q) (hP : H P = some (.tbl ps)) (ht : TriplesOk ps.toList) (ha : ∀ (pos : Pos) (cv : Value), codeAmong pos ps.toList = some cv → ∃ c, cv = .ref c ∧ H c = some (CodeO c q)) (nC : H c' = none) :
    Tabs T (upd (upd H P (.tbl (ps ++ #[rawInt pos.line, rawInt pos.col, .ref c']))) c' (CodeO c' q)) ∧ ExT H (upd (upd H P (.tbl (ps ++ #[rawInt pos.line, rawInt pos.col, .ref c']))) c' (CodeO c' q)) := by
  have hE : ExT H (upd (upd H P (.tbl (ps ++ #[rawInt pos.line, rawInt pos.col, .ref c']))) c' (CodeO c' q)) := fun b o e n => by
    have n1 : b ≠ c' := ne_of_none e nC
    have n2 : b ≠ P := fun z => by
      subst z
      rw [hP] at e
      exact n ps (Option.some.inj e).symm
    rw [upd_ne n1, upd_ne n2]
    exact e
  have eL : (ps ++ #[rawInt pos.line, rawInt pos.col, .ref c']).toList = ps.toList ++ [rawInt pos.line, rawInt pos.col, .ref c'] := by simp
  refine ⟨fun p hp => ?_, hE⟩
  by_cases hb : p.1 = P
  · have hq := hu p hp hb
    rw [hb, hq]
    refine ⟨_, (upd_ne (ne_of_none hP nC)).trans upd_same, ?_, fun p' cv h => ?_⟩
    · rw [eL]
      exact PySem.TriplesOk_snoc _ _ _ _ ht
    · rw [eL] at h
      rcases among_app _ ht h with z | z
      · obtain ⟨c0, e1, e2⟩ := ha p' cv z
        exact ⟨c0, e1, hE _ _ e2 codeO_ne⟩
      · exact ⟨c', z, upd_same⟩
  · obtain ⟨ps', a1, a2, a3⟩ := hT p hp
    refine ⟨ps', (upd_ne (ne_of_none a1 nC)).trans ((upd_ne hb).trans a1), a2, fun p' cv h => ?_⟩
    obtain ⟨c0, e1, e2⟩ := a3 p' cv h
    exact ⟨c0, e1, hE _ _ e2 codeO_ne⟩
theorem lam_new {T : List (Addr × Str)} {c P : Addr} {params : Arguments} {body : Expr} {scope : Scope} {pos : Pos} {E : Value → Shared → Prop} {Q : Value → Shared → Prop} (I : Inv X pins σ H s) (TB : TabB X.base X.mg c P) (hcode : X.env.code = .ref c)
    (hm : (P, X.env.qual ++ "<lambda>") ∈ T) (hu : ∀ p ∈ T, p.1 = P → p.2 = X.env.qual ++ "<lambda>") (hT : Tabs T H) (hdef : defaultsOf params X.env = ([], [])) (hfree : ∀ y ∈ scope.names, y.2 = .free → ∃ c, X.env.cells.lookup y.1 = some c)
    (h : ∀ (f c' : Addr) (H1 : Hp) (s' : Shared), Inv X pins σ H1 s' → ExT H H1 → (∀ b, H1 b = none → H b = none) → Tabs T H1 → H f = none → H1 f = some (LamO f ⟨X.env.qual ++ "<lambda>", params, body, scope, cloFrom X.env.cells scope.names [], c'⟩) → H1 c' = some (CodeO c' (X.env.qual ++ "<lambda>")) → Q (.ref f) s') :
    wpAny (model X.prog X.w) X.A (eval (.Lambda params body scope pos) X.env) Q E s := by
  obtain ⟨ps, hP, ht, ha⟩ := hT _ hm
  have bP := TB.bm.keeps I.bk
  have hP' := I.hok P _ hP
  have un : ∀ {b a : Addr} {G : Hp} {o : HO}, upd G a o b = none → G b = none := fun e => upd_free e
  refine PySem.W.kla_eval hdef ?_
  cases hc : codeAmong pos ps.toList with
  | none =>
    refine PySem.W.kla_makeFunction (closure_ok hfree) I.ok.glob (I.mod.glob.keeps I.bk) hcode (TB.code.keeps I.bk) hP' ht hc TB.gP bP ?_
    intro c' ctv h' tk hx hge hlt hrec htb
    obtain ⟨c2, oc, vs, t, e2, hoc, hd, hv⟩ := hrec
    cases e2
    have nC := I.hok.fresh hge
    obtain ⟨T1, hE⟩ := tabs_more (pos := pos) hT hu hP ht ha nC
    have I1 := inv_table (t' := tk) (more := #[rawInt pos.line, rawInt pos.col, .ref c']) (h' := h') I hP (fun b o n e => hx b o n e) htb hge ⟨oc, vs, t, hoc, hd, hv⟩
    have I2 := inv_lam (F := ⟨X.env.qual ++ "<lambda>", params, body, scope, cloFrom X.env.cells scope.names [], c'⟩) (t' := tk) (pm := (X.mg "__name__").getD .none) (ctv := ctv) I1 rfl
    have nF := I1.hok.fresh (Nat.le_refl h'.objs.size)
    have keepF : ∀ b o, upd (upd H P (.tbl (ps ++ #[rawInt pos.line, rawInt pos.col, .ref c']))) c' (CodeO c' (X.env.qual ++ "<lambda>")) b = some o → b ≠ h'.objs.size := fun b o e => ne_of_none e nF
    refine h h'.objs.size c' _ _ I2 (fun b o e n => ?_) (fun b e => un (un (un e))) (T1.ext fun b o e => ?_) (un (un nF)) upd_same ?_
    · have e1 := hE b o e n
      rw [upd_ne (keepF b o e1)]
      exact e1
    · rw [upd_ne (keepF b o e)]
      exact e
    · rw [upd_ne (keepF c' _ upd_same)]
      exact upd_same
  | some cv =>
    obtain ⟨c', e, hco⟩ := ha pos cv hc
    subst e
    refine PySem.W.kla_makeFunctionHit (closure_ok hfree) I.ok.glob (I.mod.glob.keeps I.bk) hcode (TB.code.keeps I.bk) hP' ht hc bP ?_
    intro ctv h' tk hx hsz
    have I1 : Inv X pins σ H { s with heap := h', toks := tk } := I.kept hx
    have nF := I1.hok.fresh (Nat.le_refl h'.objs.size)
    have I2 := inv_lam (F := ⟨X.env.qual ++ "<lambda>", params, body, scope, cloFrom X.env.cells scope.names [], c'⟩) (t' := tk) (pm := (X.mg "__name__").getD .none) (ctv := ctv) I1 rfl
    have keepF : ∀ b o, H b = some o → b ≠ h'.objs.size := fun b o e => ne_of_none e nF
    refine h h'.objs.size c' _ _ I2 (fun b o e _ => ?_) (fun b e => un e) (hT.ext fun b o e => ?_) nF upd_same ?_
    · rw [upd_ne (keepF b o e)]
      exact e
    · rw [upd_ne (keepF b o e)]
      exact e
    · rw [upd_ne (keepF c' _ hco)]
      exact hco
end
/-- the reading of a lambda as a value -/
def tLamb (T : List (Addr × Str)) (mk : Addr → LF) : TE := fun σ H Q => Tabs T H ∧ ∀ (f c' : Addr) (H1 : Hp), ExT H H1 → (∀ b, H1 b = none → H b = none) → Tabs T H1 → H f = none → H1 f = some (LamO f (mk c')) → H1 c' = some (CodeO c' (mk c').qual) → Q (.ref f) H1
section
variable {X : Cx}
theorem pe_lamb {T : List (Addr × Str)} {c P : Addr} {params : Arguments} {body : Expr} {scope : Scope} {pos : Pos} (TB : TabB X.base X.mg c P) (hcode : X.env.code = .ref c) (hm : (P, X.env.qual ++ "<lambda>") ∈ T) (hu : ∀ p ∈ T, p.1 = P → p.2 = X.env.qual ++ "<lambda>")
    (hdef : defaultsOf params X.env = ([], [])) (hfree : ∀ y ∈ scope.names, y.2 = .free → X.env.scope.names.lookup y.1 = some .cell ∨ X.env.scope.names.lookup y.1 = some .free) :
    PE X (.Lambda params body scope pos) (tLamb T fun c' => ⟨X.env.qual ++ "<lambda>", params, body, scope, cloFrom X.env.cells scope.names [], c'⟩) := by
  refine ⟨fun pins s σ H Q I h => ?_⟩
  obtain ⟨hT, h⟩ := h
  refine lam_new I TB hcode hm hu hT hdef (fun y hy e => (hfree y hy e).elim (fun z => I.ok.has _ (.inl z)) fun z => I.ok.has _ (.inr z)) ?_
  intro f c' H1 s' I1 eN nn T1 f0 f1 c1
  exact ⟨.ref f, H1, I1, rfl, h f c' H1 eN nn T1 f0 f1 c1⟩
end
structure LOk (P : Program) (w : World) (K : PySem.W.Frag) (mg : Str → Option Value) (base : Heap) (k : Nat) (f : Addr) (F : LF) (ps fr : List Str) (sp : List (Option V) → List V → Hp → VK → Prop) : Prop where
  len : ∀ ws vs H Q, sp ws vs H Q → vs.length = ps.length
  run : ∀ (A : Around) (outer : List Env) (s : Shared) (H : Hp) (us : List Value) (vs : List V) (ws : List (Option V)) (Q : VK), Room k A → Env0 P w K mg base A outer s H → H f = some (LamO f F) → H F.c = some (CodeO F.c F.qual) →
    CellsAt F.cl fr ws s.heap H → Vals vs us → sp ws vs H Q → codeAny (model P w) A (.call (.ref f) ⟨us, []⟩) (CR CX0 outer P w H s Q E0) s
section
variable {P : Program} {w : World} {K : PySem.W.Frag} {mg : Str → Option Value} {base : Heap} {N ps fr : List Str} {F : LF} {f : Addr} {k : Nat} {sp : List (Option V) → List V → Hp → VK → Prop}
/-- .. by its body -/
theorem lok_of (S : NScope N ps fr F.scope) (hb : ∀ (pm ctv : Value) (us : List Value), us.length = ps.length → bindArgs (F.fd pm ctv) ⟨us, []⟩ = pure (ps.zip us)) (len : ∀ ws vs H Q, sp ws vs H Q → vs.length = ps.length)
    (hbody : ∀ (A : Around) (outer : List Env) (s : Shared) (H : Hp) (vs : List V) (ws : List (Option V)) (Q : VK), Room k (A.deeper (envF F.nf f s.heap.objs.size)) → sp ws vs H Q →
      ∃ t, PE (ncx CX0 P w K mg base N F.nf f A outer s H E0) F.body t ∧ t (startF N vs ws) H Q) : LOk P w K mg base (k + 1) f F ps fr sp := by
  refine ⟨len, fun A outer s H us vs ws Q hr e0 hf hc C r hsp => ?_⟩
  have hl := len _ _ _ _ hsp
  have lim : s.heap.NoLimit := e0.mod.nolimit.keeps fun b o e => (e0.bs b o e).1
  obtain ⟨od, sl, pm, ctv, ho⟩ := lamO_at e0.hok hf
  refine PySem.W.kla_callFunE hr.depth ho rfl S.co S.gen rfl (codeO_at e0.hok hc) ?_
  rw [hb pm ctv us (by rw [← r.length]; exact hl)]
  refine wpAny_pure (wpAny_newFunctionEnv S.nocell (fun ⟨n, _⟩ hy => S.par n (List.of_mem_zip hy).1) ?_ S.kind)
  intro h₁ hns hsb
  refine ⟨lim.fresh _ hsb, ?_⟩
  show codeAny _ _ (.expr F.body (envF F.nf f s.heap.objs.size)) _ _
  obtain ⟨t, ht, hq⟩ := hbody A outer s H vs ws Q (hr.deeper _) hsp
  have kp : ∀ b o, s.heap.get? b = some o → h₁.get? b = some o := fun b o e => hsb.extBut b o (Nat.ne_of_lt (Heap.lt_size e)) (Heap.get?_push_of_some _ e)
  have I : Inv (ncx CX0 P w K mg base N F.nf f A outer s H E0) [] (startF N vs ws) H { s with heap := h₁, toks := s.toks + (ps.zip us).length } := inv_startN (F := F.nf) S hr.hd e0 hl r C hns kp
  refine PySem.W.kla_codeExpr (wpAny_mono (ht.run [] _ (startF N vs ws) H Q I hq) (fun v s' hs => ?_) fun e s' hs => hs)
  obtain ⟨x, H', J, rv, q⟩ := hs
  exact ⟨x, H', J.os, J.bare, J.base, J.hok, rv, q⟩
end
section
variable {X : Cx} {pins : List (Addr × Obj)} {σ : L2.St} {H : Hp} {s : Shared} {cl : List (Str × Addr)} {fr : List Str} {ws : List (Option V)}
/-- captured cells that stood at the entry stand -/
theorem cells_later (C : CellsAt cl fr ws X.s_0.heap X.H_0) (hex : X.ex = []) (I : Inv X pins σ H s) : CellsAt cl fr ws s.heap H := by
  have nx : ∀ b, b ∉ X.ex := fun b z => by rw [hex] at z; cases z
  have kp : ∀ y c, cl.lookup y = some c → ∀ v, X.s_0.heap.IsCell c v → s.heap.IsCell c v := fun y c e v ⟨o, ho, hd⟩ => by
    obtain ⟨sl, q⟩ := I.base.any ho (C.all y c e).1 (nx c)
    exact ⟨_, q, hd⟩
  refine ⟨C.len, fun y c e => ?_, C.inj, fun i y e => ?_⟩
  · obtain ⟨n, v, z⟩ := C.all y c e
    have z' := kp y c e v z
    obtain ⟨o, ho, _⟩ := z
    exact ⟨I.base.free c o ho n (nx c), v, z'⟩
  · obtain ⟨c, hc, hv⟩ := C.has i y e
    refine ⟨c, hc, fun v ev => ?_⟩
    obtain ⟨u, r, z⟩ := hv v ev
    exact ⟨u, r, kp y c hc _ z⟩
theorem lam_fn {f : Addr} {F : LF} (I : Inv X pins σ H s) (e : H f = some (LamO f F)) : PySem.W.FnAt f s.heap := by
  obtain ⟨od, sl, pm, ctv, ho⟩ := lamO_at I.hok e
  exact ⟨_, od, _, sl, ho⟩
end
/-- x(..), x a name that holds a lambda: tl, what it does -/
def tCb (f : Addr) (F : LF) (i : Nat) (tl : List V → Hp → VK → Prop) (t : TA) : TE := fun σ H Q => σ[i]? = some (some (.ref f)) ∧ H f = some (LamO f F) ∧ t σ H fun vs H1 => H1 f = some (LamO f F) ∧ H1 F.c = some (CodeO F.c F.qual) ∧ tl vs H1 Q
/-- in X calls of the lambda may be read so -/
def CbAt (X : Cx) (f : Addr) (F : LF) (tl : List V → Hp → VK → Prop) : Prop := ∀ {i : Nat} {x : Str} {e : Expr} {es : List Expr} {t : TA} {p pos : Pos}, X.N[i]? = some x → Vis X.env.scope x → PA X (e :: es) t → (x == ("__debug__" : Str)) = false → (x == ("__classdict__" : Str)) = false →
  starEach (e :: es) X.env = (false, eval e X.env) :: starEach es X.env → (backTo pos (starEach es X.env)).any (·.1) = false → PE X (.Call (.Name x p) (e :: es) [] pos) (tCb f F i tl t)
theorem cbAt_of {X : Cx} {k j : Nat} {f : Addr} {F : LF} {ps fr : List Str} {ws : List (Option V)} {sp : List (Option V) → List V → Hp → VK → Prop} (L : LOk X.prog X.w X.K X.mg X.base k f F ps fr sp) (C : CellsAt F.cl fr ws X.s_0.heap X.H_0) (hex : X.ex = []) (hr : Room j X.A) (hk : k ≤ j) : CbAt X f F (sp ws) := by
  intro i x e es t p pos hN hv ha hd hcd he hpl
  refine ⟨fun pins s σ H Q I h => ?_⟩
  obtain ⟨hs, hf, ht⟩ := h
  refine wpAny_Call_Name_kw (thn ((pe_var (pos := p) hN hv hd hcd).run pins s σ H (fun v H1 => v = .ref f ∧ H1 = H) I ⟨.ref f, hs, rfl, rfl⟩) fun u s1 ⟨v, H1, I1, r1, ev, eH⟩ => ?_)
  subst ev
  subst eH
  obtain rfl : u = Value.ref f := r1
  refine PySem.W.callWith_F (first := []) (lam_fn I1 hf) (thn (ha.run pos pins s1 σ _ _ I1 ht) fun us s2 ⟨vs, H2, I2, r, h1, h2, q⟩ => ⟨lam_fn I2 h1, ?_⟩) he hpl
  show wpAny _ _ (call (.ref f) us) _ _ _
  refine wpAny_call (codeAny_mono (L.run X.A X.stack s2 H2 us vs ws _ (hr.mono hk) I2.env0 h1 h2 (cells_later C hex I2) r q) fun r' s' hq => ?_)
  cases r' with
  | error e => exact (show False from hq).elim
  | ok fl =>
    cases fl with
    | ret u => exact I2.after hq
    | next => exact False.elim hq
    | brk => exact False.elim hq
    | cont => exact False.elim hq
structure FnCb (P : Program) (w : World) (K : PySem.W.Frag) (mg : Str → Option Value) (base : Heap) (k j : Nat) (f : Addr) (fd : FuncData) (ps : List Str) (spc : Addr → LF → (List V → Hp → VK → Prop) → Sp) : Prop where
  len : ∀ fl F tl vs H Q E, spc fl F tl vs H Q E → vs.length = ps.length
  run : ∀ (A : Around) (outer : List Env) (s : Shared) (H : Hp) (us : List Value) (vs : List V) (Q : VK) (E : XK) (fl : Addr) (F : LF) (pl fr : List Str) (spl : List (Option V) → List V → Hp → VK → Prop) (ws : List (Option V)), Room k A → Env0 P w K mg base A outer s H → BindsTo s fd ⟨us, []⟩ (ps.zip us) → Vals vs us →
    LOk P w K mg base j fl F pl fr spl → CellsAt F.cl fr ws s.heap H → spc fl F (spl ws) vs H Q E → codeAny (model P w) A (.call (.ref f) ⟨us, []⟩) (CR CX0 outer P w H s Q E) s
section
variable {P : Program} {w : World} {K : PySem.W.Frag} {mg : Str → Option Value} {base : Heap}
theorem okCb {x qual : Str} {st : Stmt} {f : Addr} {fd : FuncData} {N ps : List Str} {k j : Nat} {spc : Addr → LF → (List V → Hp → VK → Prop) → Sp} (F : Fun K x qual st f fd) (S : FnScope N ps (defScope st)) (hj : j ≤ k) (len : ∀ fl F tl vs H Q E, spc fl F tl vs H Q E → vs.length = ps.length)
    (hbody : ∀ (cdv : Value) (A : Around) (outer : List Env) (s : Shared) (H : Hp) (vs : List V) (Q : VK) (E : XK) (fl : Addr) (G : LF) (tl : List V → Hp → VK → Prop), Room k (A.deeper (envOfC qual (defScope st) s.heap.objs.size f cdv)) → CbAt (cxOf CX0 P w K mg base N qual (defScope st) f cdv A outer s H E).nox fl G tl → spc fl G tl vs H Q E →
      ∃ t, PSs (cxOf CX0 P w K mg base N qual (defScope st) f cdv A outer s H E).nox (defBody st) t ∧ t { nx := fun _ H' => Q .non H', rt := Q } (L2.start N vs) H) : FnCb P w K mg base (k + 1) j f fd ps spc := by
  obtain ⟨oc, od, kV, doc, pm, an, cdv, ct, osl, rfl, lk, hcd⟩ := F.ex
  refine ⟨len, fun A outer s H us vs Q E fl G pl fr spl ws hr e0 hb r L C hsp => ?_⟩
  have hl := len _ _ _ _ _ _ _ hsp
  refine LamX.run_ofS (N := N) (ps := ps) lk hcd S hr e0 hb r hl fun hr' => ?_
  obtain ⟨t, h, q⟩ := hbody cdv A outer s H vs Q E fl G (spl ws) hr' (cbAt_of L C rfl hr' hj) hsp
  exact ⟨t, h.nox, q⟩
end
/-- a call that hands on a lambda which the caller has made: mk, its words; js: the slots of what it captured -/
def tCallCb (mk : Addr → LF) (js : List Nat) (spl : Addr → Addr → List (Option V) → List V → Hp → VK → Prop) (spc : Addr → LF → (List V → Hp → VK → Prop) → Sp) (t : TA) : TE := fun σ H Q => t σ H fun vs H1 => ∃ fl c', spc fl (mk c') (spl fl c' (js.map (slotAt σ))) vs H1 Q E0
section
variable {X : Cx} {k j i : Nat} {f : Addr} {fd : FuncData} {ps pl fr : List Str} {mk : Addr → LF} {cl : List (Str × Addr)} {js : List Nat} {spl : Addr → Addr → List (Option V) → List V → Hp → VK → Prop} {spc : Addr → LF → (List V → Hp → VK → Prop) → Sp} {x : Str} {t : TA} {e : Expr} {es : List Expr} {p pos : Pos}
theorem pe_callCb (F : FnCb X.prog X.w X.K X.mg X.base k j f fd ps spc) (Lk : ∀ fl c', LOk X.prog X.w X.K X.mg X.base j fl (mk c') pl fr (spl fl c')) (hcl : ∀ c', (mk c').cl = cl) (cp : X.Ok → Caps X cl fr js) (hr : Room k X.A) (gl : Gl X x) (hm : X.mg x = some (.ref f)) (hk : PySem.W.keepIn X.K (.ref f) = true) (hb : Binds X.K fd ps [])
    (ha : PA X (e :: es) t) (hdb : (x == ("__debug__" : Str)) = false := by decide) (he : starEach (e :: es) X.env = (false, eval e X.env) :: starEach es X.env := by rfl) (hpl : (backTo pos (starEach es X.env)).any (·.1) = false := by rfl) : PE X (.Call (.Name x p) (e :: es) [] pos) (tCallCb mk js spl spc t) := by
  refine ⟨fun pins s σ H Q I h => ?_⟩
  refine wpAny_Call_Name_kw (ld_glob I gl hm ?_ hdb)
  refine PySem.W.callWith_K (h₀ := X.base) I.ok.mod.kin hk (thn (ha.run pos pins s σ H _ I h) fun us s2 ⟨vs, H2, I2, r, fl, c', q⟩ => ⟨I2.kIn, ?_⟩) he hpl
  have hl := F.len _ _ _ _ _ _ _ q
  have C := cells_of I2 (cp I2.ok)
  rw [← hcl c'] at C
  have hbt : BindsTo s2 fd ⟨us, []⟩ (ps.zip us) := by
    have := hb s2 us I2.kIn (by rw [List.append_nil, ← r.length]; exact hl)
    rwa [List.append_nil] at this
  show wpAny _ _ (call (.ref f) us) _ _ _
  refine wpAny_call (codeAny_mono (F.run X.A X.stack s2 H2 us vs Q E0 fl (mk c') pl fr _ _ hr I2.env0 hbt r (Lk fl c') C q) fun r' s' hq => ?_)
  cases r' with
  | error e => exact (show False from hq).elim
  | ok fl =>
    cases fl with
    | ret u => exact I2.after hq
    | next => exact False.elim hq
    | brk => exact False.elim hq
    | cont => exact False.elim hq
end
structure FunC (K : PySem.W.Frag) (x qual : Str) (st : Stmt) (f : Addr) (fd : FuncData) (c : Addr) : Prop where
  ex : ∃ (oc : Value) (od : Option Addr) (kV doc pm : Value) (an : Option Addr) (ct : Value) (osl : Array (Option Value)),
    fd = PySem.W.fnOf x qual (defArgs st) (defBody st) (defScope st) .none kV doc pm an (.ref c) ct ∧ K.lookup f = some ⟨oc, od, .func fd, osl⟩ ∧ PySem.W.codeIn K (.ref c) qual = true
section
variable {P : Program} {w : World} {K : PySem.W.Frag} {mg : Str → Option Value} {base : Heap}
theorem FunC.ok {x qual : Str} {st : Stmt} {f c : Addr} {fd : FuncData} {N ps : List Str} {k : Nat} {sp : Sp} (F : FunC K x qual st f fd c) (S : FnScope N ps (defScope st)) (len : ∀ vs H Q E, sp vs H Q E → vs.length = ps.length)
    (hbody : ∀ (A : Around) (outer : List Env) (s : Shared) (H : Hp) (vs : List V) (Q : VK) (E : XK), Room k (A.deeper (envOfC qual (defScope st) s.heap.objs.size f (.ref c))) → sp vs H Q E →
      ∃ t, PSs (cxOf CX0 P w K mg base N qual (defScope st) f (.ref c) A outer s H E).nox (defBody st) t ∧ t { nx := fun _ H' => Q .non H', rt := Q } (L2.start N vs) H) : FnOk P w K mg base CX0 (k + 1) f fd ps sp := by
  obtain ⟨oc, od, kV, doc, pm, an, ct, osl, rfl, lk, hcd⟩ := F.ex
  refine fn_of lk hcd S len fun A outer s H vs Q E hr hsp => ?_
  obtain ⟨t, h, q⟩ := hbody A outer s H vs Q E hr hsp
  exact ⟨t, h.nox, q⟩
theorem FunC.okX {x qual : Str} {st : Stmt} {f c : Addr} {fd : FuncData} {N ps : List Str} {k : Nat} {sp : Sp} (F : FunC K x qual st f fd c) (S : FnScope N ps (defScope st)) (len : ∀ vs H Q E, sp vs H Q E → vs.length = ps.length)
    (hbody : ∀ (A : Around) (outer : List Env) (s : Shared) (H : Hp) (vs : List V) (Q : VK) (E : XK), Room k (A.deeper (envOfC qual (defScope st) s.heap.objs.size f (.ref c))) → sp vs H Q E →
      ∃ t, PSs (cxOf (L2.CX P w) P w K mg base N qual (defScope st) f (.ref c) A outer s H E) (defBody st) t ∧ t { nx := fun _ H' => Q .non H', rt := Q } (L2.start N vs) H) : FnOk P w K mg base (L2.CX P w) (k + 1) f fd ps sp := by
  obtain ⟨oc, od, kV, doc, pm, an, ct, osl, rfl, lk, hcd⟩ := F.ex
  exact fn_of lk hcd S len fun A outer s H vs Q E hr hsp => hbody A outer s H vs Q E hr hsp
end
section
variable {σ : L2.St} {H : Hp} {Q : VK}
theorem st_lamb {T : List (Addr × Str)} {mk : Addr → LF} (hT : Tabs T H) (h : ∀ (f c' : Addr) (H1 : Hp), ExT H H1 → (∀ b, H1 b = none → H b = none) → Tabs T H1 → H f = none → H1 f = some (LamO f (mk c')) → H1 c' = some (CodeO c' (mk c').qual) → Q (.ref f) H1) : tLamb T mk σ H Q := ⟨hT, h⟩
def CbP (f : Addr) (F : LF) (tl : List V → Hp → VK → Prop) (Q : VK) (vs : List V) (H1 : Hp) : Prop := H1 f = some (LamO f F) ∧ H1 F.c = some (CodeO F.c F.qual) ∧ tl vs H1 Q
theorem st_cbk {f : Addr} {F : LF} {i : Nat} {tl : List V → Hp → VK → Prop} {t : TA} (h1 : σ[i]? = some (some (.ref f))) (h2 : H f = some (LamO f F)) (h : t σ H (CbP f F tl Q)) : tCb f F i tl t σ H Q := ⟨h1, h2, h⟩
theorem st_cbP {f : Addr} {F : LF} {tl : List V → Hp → VK → Prop} {vs : List V} (h1 : H f = some (LamO f F)) (h2 : H F.c = some (CodeO F.c F.qual)) (h : tl vs H Q) : CbP f F tl Q vs H := ⟨h1, h2, h⟩
end
end Zb
namespace Zb
open PySem PySem.Spec PyProof.Rows L2 LamX NdefX
section
variable {P : Program} {w : World} {K : PySem.W.Frag} {mg : Str → Option Value} {base : Heap} {N ps fr : List Str} {F : LF} {f : Addr} {k : Nat} {t : TE}
/-- a lambda's promise is its body's reading -/
theorem lok_t (S : NScope N ps fr F.scope) (hb : ∀ (pm ctv : Value) (us : List Value), us.length = ps.length → bindArgs (F.fd pm ctv) ⟨us, []⟩ = pure (ps.zip us))
    (hbody : ∀ (A : Around) (outer : List Env) (s : Shared) (H : Hp), Room k (A.deeper (envF F.nf f s.heap.objs.size)) → PE (ncx CX0 P w K mg base N F.nf f A outer s H E0) F.body t) : LOk P w K mg base (k + 1) f F ps fr (fun ws vs H Q => vs.length = ps.length ∧ t (startF N vs ws) H Q) :=
  lok_of S hb (fun _ _ _ _ h => h.1) fun A outer s H vs ws Q hr h => ⟨t, hbody A outer s H hr, h.2⟩
end
def asgE : Stmt → Expr
  | .Assign _ e _ => e
  | .Return (some e) _ => e
  | _ => .Constant .none 0 ⟨0, 0, 0, 0⟩
def bodyS (st : Stmt) (i : Nat) : Stmt := (defBody st).getD i (.Pass ⟨0, 0, 0, 0⟩)
def lamA : Expr → Arguments
  | .Lambda a _ _ _ => a
  | _ => { posonlyargs := [], args := [], vararg := none, kwonlyargs := [], kw_defaults := [], kwarg := none, defaults := [] }
def lamB : Expr → Expr
  | .Lambda _ b _ _ => b
  | e => e
def lamSc : Expr → Scope
  | .Lambda _ _ s _ => s
  | _ => { kind := .function, names := [], isGenerator := false, isCoroutine := false }
section
variable {σ : L2.St} {H : Hp} {Q : VK}
def CbC (mk : Addr → LF) (js : List Nat) (spl : Addr → Addr → List (Option V) → List V → Hp → VK → Prop) (spc : Addr → LF → (List V → Hp → VK → Prop) → Sp) (σ : L2.St) (Q : VK) (vs : List V) (H1 : Hp) : Prop := ∃ fl c', spc fl (mk c') (spl fl c' (js.map (slotAt σ))) vs H1 Q E0
theorem st_callCb {mk : Addr → LF} {js : List Nat} {spl : Addr → Addr → List (Option V) → List V → Hp → VK → Prop} {spc : Addr → LF → (List V → Hp → VK → Prop) → Sp} {t : TA} (h : t σ H (CbC mk js spl spc σ Q)) : tCallCb mk js spl spc t σ H Q := h
end
end Zb
namespace Zb
open PySem PySem.Spec PyProof.Rows L2
end Zb
set_option Elab.async false
set_option linter.all false
set_option maxRecDepth 100000
set_option maxHeartbeats 4000000
namespace My
open PySem PySem.Spec PyProof.Rows L2 Zb LamX NdefX
open Evl (tCut pss_cut)
def top (i : Nat) : Stmt := PySem.Challenge.pw_panethread_k33_whole_no_two_cross_twice.main.body.getD i (.Pass ⟨0, 0, 0, 0⟩)
abbrev s_is_whole : Stmt := top 8
abbrev N_is_whole : List Str := ["thing"]
theorem sc_is_whole : FnScope N_is_whole ["thing"] (defScope s_is_whole) := ⟨rfl, rfl, rfl, by decide +kernel, rfl, by decide +kernel, by decide +kernel⟩
abbrev s_is_within : Stmt := top 9
abbrev N_is_within : List Str := ["thing", "low", "high"]
theorem sc_is_within : FnScope N_is_within ["thing", "low", "high"] (defScope s_is_within) := ⟨rfl, rfl, rfl, by decide +kernel, rfl, by decide +kernel, by decide +kernel⟩
abbrev s_is_row : Stmt := top 10
abbrev N_is_row : List Str := ["thing", "sign"]
theorem sc_is_row : FnScope N_is_row ["thing"] (defScope s_is_row) := ⟨rfl, rfl, rfl, by decide +kernel, rfl, by decide +kernel, by decide +kernel⟩
abbrev s_need_row : Stmt := top 11
abbrev N_need_row : List Str := ["row"]
theorem sc_need_row : FnScope N_need_row ["row"] (defScope s_need_row) := ⟨rfl, rfl, rfl, by decide +kernel, rfl, by decide +kernel, by decide +kernel⟩
abbrev s_need_rows : Stmt := top 12
abbrev N_need_rows : List Str := ["side", "top"]
theorem sc_need_rows : FnScope N_need_rows ["side", "top"] (defScope s_need_rows) := ⟨rfl, rfl, rfl, by decide +kernel, rfl, by decide +kernel, by decide +kernel⟩
abbrev s_led : Stmt := top 14
abbrev N_led : List Str := ["many", "far", "crosses", "downs", "rights", "meetings", "signs", "row", "across", "met", "told", "column", "above", "goals", "goal", "line"]
theorem sc_led : FnScope N_led ["many", "far", "crosses"] (defScope s_led) := ⟨rfl, rfl, rfl, by decide +kernel, rfl, by decide +kernel, by decide +kernel⟩
abbrev s__law_at : Stmt := top 17
abbrev N__law_at : List Str := ["_law_script", "_law_k"]
theorem sc__law_at : FnScope N__law_at ["_law_script", "_law_k"] (defScope s__law_at) := ⟨rfl, rfl, rfl, by decide +kernel, rfl, by decide +kernel, by decide +kernel⟩
abbrev s__law_mix : Stmt := top 18
abbrev N__law_mix : List Str := ["_law_cell", "_law_k", "_law_one", "_law_two_here"]
theorem sc__law_mix : FnScope N__law_mix ["_law_cell", "_law_k"] (defScope s__law_mix) := ⟨rfl, rfl, rfl, by decide +kernel, rfl, by decide +kernel, by decide +kernel⟩
abbrev s__law_put : Stmt := top 19
abbrev N__law_put : List Str := ["_law_row", "_law_cell", "_law_cap", "_law_wide", "_law_shift", "_law_signs", "_law_new", "_law_many", "_law_k", "_law_at_here"]
theorem sc__law_put : FnScope N__law_put ["_law_row", "_law_cell", "_law_cap", "_law_wide", "_law_shift"] (defScope s__law_put) := ⟨rfl, rfl, rfl, by decide +kernel, rfl, by decide +kernel, by decide +kernel⟩
abbrev s__law_two : Stmt := top 20
abbrev N__law_two : List Str := ["_law_script", "_law_cap", "_law_wide", "_law_shift", "_law_rows", "_law_cell"]
theorem sc__law_two : FnScope N__law_two ["_law_script", "_law_cap"] (defScope s__law_two) := ⟨rfl, rfl, rfl, by decide +kernel, rfl, by decide +kernel, by decide +kernel⟩
abbrev s__law_pair : Stmt := top 21
abbrev N__law_pair : List Str := ["_law_found", "_law_due", "_law_k"]
theorem sc__law_pair : FnScope N__law_pair ["_law_found", "_law_due"] (defScope s__law_pair) := ⟨rfl, rfl, rfl, by decide +kernel, rfl, by decide +kernel, by decide +kernel⟩
abbrev s__law_pairs : Stmt := top 22
abbrev N__law_pairs : List Str := ["_law_found", "_law_due", "_law_k"]
theorem sc__law_pairs : FnScope N__law_pairs ["_law_found", "_law_due"] (defScope s__law_pairs) := ⟨rfl, rfl, rfl, by decide +kernel, rfl, by decide +kernel, by decide +kernel⟩
abbrev s__law_forms : Stmt := top 23
abbrev N__law_forms : List Str := ["_law_lines", "_law_cells", "_law_many", "_law_far", "_law_text", "_law_line", "_law_sign"]
theorem sc__law_forms : FnScope N__law_forms ["_law_lines", "_law_cells", "_law_many", "_law_far"] (defScope s__law_forms) := ⟨rfl, rfl, rfl, by decide +kernel, rfl, by decide +kernel, by decide +kernel⟩
abbrev s__law_way : Stmt := top 24
abbrev N__law_way : List Str := ["_law_cells", "_law_many", "_law_far", "_law_line", "_law_i", "_law_j", "_law_level", "_law_way_here"]
theorem sc__law_way : FnScope N__law_way ["_law_cells", "_law_many", "_law_far", "_law_line"] (defScope s__law_way) := ⟨rfl, rfl, rfl, by decide +kernel, rfl, by decide +kernel, by decide +kernel⟩
abbrev s_Board_way : Stmt := inClass (top 15) 6
abbrev N_Board_way : List Str := ["self", "line", "many", "row", "column", "level", "found"]
theorem sc_Board_way : FnScope N_Board_way ["self", "line"] (defScope s_Board_way) := ⟨rfl, rfl, rfl, by decide +kernel, rfl, by decide +kernel, by decide +kernel⟩
abbrev s_Board_meets : Stmt := inClass (top 15) 7
abbrev N_Board_meets : List Str := ["self", "line", "other", "along", "known", "cell"]
theorem sc_Board_meets : FnScope N_Board_meets ["self", "line", "other"] (defScope s_Board_meets) := ⟨rfl, rfl, rfl, by decide +kernel, rfl, by decide +kernel, by decide +kernel⟩
abbrev s_Board_crossed_at : Stmt := inClass (top 15) 8
abbrev N_Board_crossed_at : List Str := ["self", "line", "other", "row", "column"]
theorem sc_Board_crossed_at : FnScope N_Board_crossed_at ["self", "line", "other"] (defScope s_Board_crossed_at) := ⟨rfl, rfl, rfl, by decide +kernel, rfl, by decide +kernel, by decide +kernel⟩
abbrev s__law_apart : Stmt := top 25
abbrev N__law_apart : List Str := ["_law_board", "_law_side", "_law_top", "_law_cells", "_law_lines", "_law_met_here", "_law_a", "_law_b", "_law_both", "_law_crossed", "_law_i", "_law_j", "_law_unlike", "_law_found", "_law_there"]
theorem sc__law_apart : FnScope N__law_apart ["_law_board", "_law_side", "_law_top", "_law_cells", "_law_lines", "_law_met_here", "_law_a", "_law_b"] (defScope s__law_apart) := ⟨rfl, rfl, rfl, by decide +kernel, rfl, by decide +kernel, by decide +kernel⟩
abbrev s__law_met : Stmt := top 26
abbrev N__law_met : List Str := ["_law_ways", "_law_many", "_law_far", "_law_there", "_law_line", "_law_cell", "_law_met_here", "_law_i", "_law_j", "_law_lines"]
theorem sc__law_met : FnScope N__law_met ["_law_ways", "_law_many", "_law_far"] (defScope s__law_met) := ⟨rfl, rfl, rfl, by decide +kernel, rfl, by decide +kernel, by decide +kernel⟩
abbrev s_Board_cells : Stmt := inClass (top 15) 4
abbrev N_Board_cells : List Str := ["self"]
theorem sc_Board_cells : FnScope N_Board_cells ["self"] (defScope s_Board_cells) := ⟨rfl, rfl, rfl, by decide +kernel, rfl, by decide +kernel, by decide +kernel⟩
abbrev s_Board_init : Stmt := inClass (top 15) 0
abbrev N_Board_init : List Str := ["self", "side", "top", "rule", "meetings", "signs", "goals"]
theorem sc_Board_init : FnScope N_Board_init ["self", "side", "top"] (defScope s_Board_init) := ⟨rfl, rfl, rfl, by decide +kernel, rfl, by decide +kernel, by decide +kernel⟩
abbrev s_Board_lines : Stmt := inClass (top 15) 3
abbrev N_Board_lines : List Str := ["self"]
theorem sc_Board_lines : FnScope N_Board_lines ["self"] (defScope s_Board_lines) := ⟨rfl, rfl, rfl, by decide +kernel, rfl, by decide +kernel, by decide +kernel⟩
abbrev s_law : Stmt := top 27
abbrev N_law : List Str := ["_law_script", "_law_pick", "_law_side", "_law_top", "_law_many", "_law_far", "_law_board", "_law_cells", "_law_lines", "_law_ways", "_law_line", "_law_way_here", "_law_end", "_law_met_here", "_law_pairs_here", "_law_k", "_law_pair_here", "_law_crossed", "_law_told", "_law_b", "_law_a", "_law_cell"]
theorem sc_law : FnScope N_law ["_law_script"] (defScope s_law) := ⟨rfl, rfl, rfl, by decide +kernel, rfl, by decide +kernel, by decide +kernel⟩
local macro_rules | `(tactic| walk_at "hp") => `(tactic| first
  | assumption
  | exact upd_same
  | (refine upd_old (by assumption) ?_; walk_at "hp")
  | (refine Ex.get (by assumption) ?_; walk_at "hp")
  | (refine Fr.get (by assumption) (by assumption) ?_; walk_at "hp"))
local macro_rules | `(tactic| walk_at "kn") => `(tactic| first
  | exact KitN.nil
  | (refine KitN.cons ?_ ?_; (walk_at "ki"); (walk_at "kn")))
local macro_rules | `(tactic| walk_at "pu") => `(tactic| first
  | assumption
  | (refine Purse.ex ?_ (by assumption); walk_at "pu"))
local macro_rules | `(tactic| walk_at "fr") => `(tactic| first
  | exact Fr.refl _
  | assumption
  | exact Fr.ex (by assumption)
  | (refine Fr.trans ?_ (by assumption); walk_at "fr")
  | (refine Fr.trans ?_ (Fr.ex (by assumption)); walk_at "fr"))
local macro_rules | `(tactic| walk_at "sd") => `(tactic| first
  | omega
  | (simp only [tx_length, List.length_append, List.length_cons, List.length_nil, List.length_map, List.length_take, List.length_drop]; omega)
  | assumption
  | exact rfl
  | decide)
local macro_rules | `(tactic| walk_at "nw") => `(tactic| (intro q H' hq he hv; (try (have hne := Purse.ne (by assumption) hq; have hpu := Purse.ex (by assumption) he))))
local macro_rules | `(tactic| walk_at "sm") => `(tactic| first
  | exact Sm.nil
  | assumption
  | (refine Sm.app ?_ ?_ <;> walk_at "sm")
  | (refine Sm.cons ?_ ?_ <;> walk_at "sm")
  | exact Sm.up Sm.non (Nat.le_of_ble_eq_true rfl) (Nat.le_of_ble_eq_true rfl)
  | exact Sm.up (Sm.bl _) (Nat.le_of_ble_eq_true rfl) (Nat.le_of_ble_eq_true rfl)
  | exact Sm.up (Sm.int (by omega)) (Nat.le_of_ble_eq_true rfl) (Nat.le_of_ble_eq_true rfl)
  | exact Sm.up (Sm.str (by decide +kernel)) (Nat.le_of_ble_eq_true rfl) (Nat.le_of_ble_eq_true rfl)
  | (refine Sm.up (Sm.tup (n := 1) (k := 1) (by walk_at "hp") ?_ (Nat.le_refl _)) (Nat.le_of_ble_eq_true rfl) (Nat.le_of_ble_eq_true rfl); walk_at "sm")
  | (refine Sm.up (Sm.lst (n := 1) (k := 1) (by walk_at "hp") ?_ (Nat.le_refl _)) (Nat.le_of_ble_eq_true rfl) (Nat.le_of_ble_eq_true rfl); walk_at "sm"))
local macro_rules | `(tactic| walk_at "ln") => `(tactic| first | omega | (simp only [List.length_append, List.length_cons, List.length_nil, List.length_map, List.length_singleton]; omega))
local macro_rules | `(tactic| walk_at "sn") => `(tactic| first
  | exact Sm.nil
  | assumption
  | exact Sm.upA (by assumption) (Nat.le_of_ble_eq_true rfl) (Nat.le_of_ble_eq_true rfl)
  | exact Sm.up (by assumption) (Nat.le_of_ble_eq_true rfl) (Nat.le_of_ble_eq_true rfl)
  | (refine Sm.app ?_ ?_ <;> walk_at "sn")
  | (refine Sm.cons ?_ ?_ <;> walk_at "sn")
  | (refine Sm.cut ?_ ; walk_at "sn")
  | walk_at "sm"
  | (refine Sm.up (Sm.lst (n := 100) (k := 3) (by walk_at "hp") ?_ (Nat.le_refl _)) (Nat.le_of_ble_eq_true rfl) (Nat.le_of_ble_eq_true rfl); walk_at "sn")
  | (refine Sm.up (Sm.lst (n := 4) (k := 2) (m := 4612) (by walk_at "hp") ?_ (by walk_at "ln")) (Nat.le_of_ble_eq_true rfl) (Nat.le_of_ble_eq_true rfl); walk_at "sn")
  | (refine Sm.up (Sm.tup (n := 4) (k := 2) (m := 4612) (by walk_at "hp") ?_ (by walk_at "ln")) (Nat.le_of_ble_eq_true rfl) (Nat.le_of_ble_eq_true rfl); walk_at "sn"))
local macro_rules | `(tactic| walk_at "sg") => `(tactic| first
  | exact allE_nil
  | (refine allE_cons ?_ ?_ <;> walk_at "sg")
  | exact ⟨_, Sd.dk (by walk_at "hp")⟩
  | (refine SdE.of (n := 1) (k := 1) ?_ (by decide) (by decide); walk_at "sm")
  | (refine SdE.of (Sm.lst (n := 18500) (k := 5) (m := 50) (by walk_at "hp") ?_ (by walk_at "ln")) (by decide) (by decide); walk_at "sn")
  | (refine SdE.of (Sm.tup (n := 18500) (k := 5) (m := 50) (by walk_at "hp") ?_ (by walk_at "ln")) (by decide) (by decide); walk_at "sn"))
local macro_rules | `(tactic| walk_at "s") => `(tactic| first
  | ((with_reducible refine' st_var ?a0 ?_); (case a0 => exact rfl))
  | ((with_reducible refine' st_isR1 ?a0 ?_); (case a0 => constructor <;> walk_at "sd"))
  | ((with_reducible refine' st_isR2 ?a0 ?_); (case a0 => refine ⟨?_, ?_, ?_, ?_⟩ <;> walk_at "sd"))
  | ((with_reducible refine' st_c ?_))
  | ((with_reducible refine' st_op ?_))
  | ((with_reducible refine' st_seq ?_))
  | ((with_reducible refine' st_asg ?_))
  | ((with_reducible refine' st_name ?_))
  | ((with_reducible refine' st_cons ?_))
  | ((with_reducible refine' st_nil ?_))
  | ((with_reducible refine' st_call ?_))
  | ((with_reducible refine' st_cb ?_))
  | ((with_reducible refine' st_ret ?_))
  | ((with_reducible refine' st_drop ?_))
  | ((with_reducible refine' st_ifS ?_))
  | ((with_reducible refine' st_test ?_))
  | ((with_reducible refine' st_B ?_))
  | ((with_reducible refine' st_isb ?_))
  | ((with_reducible refine' st_and ?_))
  | ((with_reducible refine' st_or ?_))
  | ((with_reducible refine' st_not ?_))
  | ((with_reducible refine' st_andV ?_))
  | ((with_reducible refine' st_orV ?_))
  | ((with_reducible refine' st_notV ?_))
  | ((with_reducible refine' st_if ?_))
  | ((with_reducible refine' st_lst ?_))
  | ((with_reducible refine' st_tup ?_))
  | ((with_reducible refine' st_sl ?_))
  | ((with_reducible refine' st_part ?_))
  | ((with_reducible refine' st_nopart ?_))
  | ((with_reducible refine' st_isi ?_))
  | ((with_reducible refine' st_sub ?_))
  | ((with_reducible refine' st_next ?_))
  | ((with_reducible refine' st_un ?_))
  | ((with_reducible refine' st_rU ?_))
  | ((with_reducible refine' st_augI ?a0 ?_); (case a0 => exact rfl))
  | ((with_reducible refine' st_ipI ?_))
  | ((with_reducible refine' st_par ?_))
  | ((with_reducible refine' st_par2 ?_))
  | ((with_reducible refine' st_addI ?_))
  | ((with_reducible refine' st_subI ?_))
  | ((with_reducible refine' st_cmpI ?_))
  | ((with_reducible refine' st_eqI ?_))
  | ((with_reducible refine' st_neI ?_))
  | ((with_reducible refine' st_eqS ?_))
  | ((with_reducible refine' st_neS ?_))
  | ((with_reducible refine' st_eqB ?_))
  | ((with_reducible refine' st_neB ?_))
  | ((with_reducible refine' st_max2 ?_))
  | ((with_reducible refine' st_min2 ?_))
  | ((with_reducible refine' st_min3 ?_))
  | ((with_reducible refine' st_brk ?_))
  | ((with_reducible refine' st_cont ?_))
  | ((with_reducible refine' st_retN ?_))
  | ((with_reducible refine' st_new ?a0 ?_); (case a0 => exact Nat.le_of_ble_eq_true rfl); walk_at "nw")
  | ((with_reducible refine' st_modI ?a0 ?_); (case a0 => walk_at "sd"))
  | ((with_reducible refine' st_divI ?a0 ?_); (case a0 => constructor <;> walk_at "sd"))
  | ((with_reducible refine' st_mulI ?a0 ?_); (case a0 => walk_at "sd"))
  | ((with_reducible refine' st_powI ?a0 ?_); (case a0 => refine ⟨?_, ?_, ?_⟩ <;> decide))
  | ((with_reducible refine' st_addS ?a0 ?_); (case a0 => walk_at "sd"))
  | ((with_reducible refine' st_ixL ?a0 ?a1 ?_); (case a0 => walk_at "hp"); (case a1 => exact rfl))
  | ((with_reducible refine' st_ixT ?a0 ?a1 ?_); (case a0 => walk_at "hp"); (case a1 => exact rfl))
  | ((with_reducible refine' st_lenL ?a0 ?_); (case a0 => walk_at "hp"))
  | ((with_reducible refine' st_lenT ?a0 ?_); (case a0 => walk_at "hp"))
  | ((with_reducible refine' st_lenS ?a0 ?_); (case a0 => walk_at "sd"))
  | ((with_reducible refine' st_slS ?a0 ?_); (case a0 => walk_at "sd"))
  | ((with_reducible refine' st_slL (lst_of ?a0) ?_); (case a0 => walk_at "hp"); walk_at "nw")
  | ((with_reducible refine' st_addL ?a0 ?a1 ?a2 ?_); (case a0 => walk_at "hp"); (case a1 => walk_at "hp"); (case a2 => walk_at "sd"); walk_at "nw")
  | ((with_reducible refine' st_setL ?a0 ?a1 ?_); (case a0 => walk_at "hp"); (case a1 => exact rfl))
  | ((with_reducible refine' st_yes ?_))
  | ((with_reducible refine' st_isI ?a0 ?_); (case a0 => first | exact kit_ii | exact kit_ib | exact kit_il | exact kit_is | exact kit_it | decide +kernel))
  | ((with_reducible refine' st_isL ?a0 ?a1 ?_); (case a0 => walk_at "hp"); (case a1 => first | exact kit_ll | exact kit_lt | decide +kernel))
  | ((with_reducible refine' st_isT ?a0 ?a1 ?_); (case a0 => walk_at "hp"); (case a1 => first | exact kit_tt | exact kit_tl | decide +kernel))
  | ((with_reducible refine' st_isS' ?a0 ?_); (case a0 => first | exact kit_ss | decide +kernel))
  | ((with_reducible refine' st_isB ?a0 ?_); (case a0 => first | exact kit_bb | exact kit_bi | decide +kernel))
  | ((with_reducible refine' st_clear ?a0 ?_); (case a0 => walk_at "hp"))
  | ((with_reducible refine' st_gtup ?a0 ?a1 ?_); (case a0 => walk_at "hp"); (case a1 => exact rfl))
  | ((with_reducible refine' st_glst ?a0 ?a1 ?_); (case a0 => walk_at "hp"); (case a1 => exact rfl))
  | ((with_reducible refine' st_gcons ?_))
  | ((with_reducible refine' st_gnil ?_))
  | ((with_reducible refine' st_iEnS ?_))
  | ((with_reducible refine' st_isEnS ?_))
  | ((with_reducible refine' st_mulL ?a0 ?a1 ?a2 ?a3 ?_); (case a0 => walk_at "hp"); (case a1 => walk_at "sd"); (case a2 => walk_at "sd"); (case a3 => walk_at "sd"); walk_at "nw")
  | ((with_reducible refine' st_isBool ?_))
  | ((with_reducible refine' st_pair ?_))
  | ((with_reducible refine' st_pairs0 ?_))
  | ((with_reducible refine' st_disp ?_); walk_at "nw")
  | ((with_reducible refine' st_listS ?a0 ?_); (case a0 => walk_at "sd"); walk_at "nw")
  | ((with_reducible refine' st_tupS ?a0 ?_); (case a0 => walk_at "sd"); walk_at "nw")
  | ((with_reducible refine' st_listQ (seq_l ?a0) ?_); (case a0 => walk_at "hp"); walk_at "nw")
  | ((with_reducible refine' st_tupL (lst_of ?a0) ?_); (case a0 => walk_at "hp"); walk_at "nw")
  | ((with_reducible refine' st_for ?_))
  | ((with_reducible refine' st_lc ?_))
  | ((with_reducible refine' st_iStr ?_))
  | ((with_reducible refine' st_isStr ?_))
  | ((with_reducible refine' st_iList ?_))
  | ((with_reducible refine' st_isList (lst_of ?a0) ?_); (case a0 => walk_at "hp"))
  | ((with_reducible refine' st_iTup ?_))
  | ((with_reducible refine' st_isTup (tup_of ?a0) ?_); (case a0 => walk_at "hp"))
  | ((with_reducible refine' st_iR1 ?_))
  | ((with_reducible refine' st_iR2 ?_))
  | ((with_reducible refine' st_iEn ?_))
  | ((with_reducible refine' st_isEn (lst_of ?a0) ?_); (case a0 => walk_at "hp"))
  | ((with_reducible refine' st_iZp ?_))
  | ((with_reducible refine' st_isZp (lst_of ?a0) (lst_of ?a1) ?_); (case a0 => walk_at "hp"); (case a1 => walk_at "hp"))
  | ((with_reducible refine' st_inC ?_))
  | ((with_reducible refine' st_ninC ?_))
  | ((with_reducible refine' st_m1 ?_))
  | ((with_reducible refine' st_isS ?_))
  | ((with_reducible refine' st_bm ?_))
  | ((with_reducible refine' st_bm0 ?_))
  | ((with_reducible refine' st_tyL ?a0 ?_); (case a0 => walk_at "hp"))
  | ((with_reducible refine' st_isN ?_))
  | ((with_reducible refine' st_notN ?_))
  | ((with_reducible refine' st_intB ?_))
  | ((with_reducible refine' st_intI ?_))
  | ((with_reducible refine' st_iR3 ?_))
  | ((with_reducible refine' st_dget2 ?_))
  | ((with_reducible refine' st_dsetTU ?_))
  | ((with_reducible refine' st_isDT ?a0 ?_); (case a0 => walk_at "hp"))
  | ((with_reducible refine' st_dsetd ?_))
  | ((with_reducible refine' st_dnew ?_))
  | ((with_reducible refine' st_dnewP ?_); walk_at "nw")
  | ((with_reducible refine' st_isD ?a0 ?_); (case a0 => walk_at "hp"))
  | ((with_reducible refine' st_isB2 ?_))
  | ((with_reducible refine' st_notB2 ?_))
  | ((with_reducible refine' st_chain ?_))
  | ((with_reducible refine' st_tru ?_))
  | ((with_reducible refine' st_chN ?_))
  | ((with_reducible refine' st_aug ?_))
  | ((with_reducible refine' st_augP ?a0 ?a1 ?a2 ?a3 ?_); (case a0 => walk_at "hp"); (case a1 => walk_at "cl"); (case a2 => walk_at "na"); (case a3 => exact rfl))
  | ((with_reducible refine' st_inAdd ?_))
  | ((with_reducible refine' st_augE ?a0 ?a1 ?_); (case a0 => walk_at "hp"); (case a1 => exact Nat.le_of_ble_eq_true rfl))
  | ((with_reducible refine' st_lk ?_))
  | ((with_reducible refine' st_lk1 ?_))
  | ((with_reducible refine' st_truB ?_))
  | ((with_reducible refine' st_truI ?_))
  | ((with_reducible refine' st_while ?_))
  | ((with_reducible refine' st_st3 ?_))
  | ((with_reducible refine' st_revS ?a0 ?_); (case a0 => walk_at "sd"))
  | ((with_reducible refine' st_evS ?a0 ?_); (case a0 => walk_at "sd"))
  | ((with_reducible refine' st_odS ?a0 ?_); (case a0 => walk_at "sd"))
  | ((with_reducible refine' st_raise ?_))
  | ((with_reducible refine' st_mk1 ?a0 ?a1 ?_); (case a0 => walk_at "xo"); (case a1 => walk_at "nf"); walk_at "nw")
  | ((with_reducible refine' st_mk2 ?a0 ?a1 ?a2 ?_); (case a0 => walk_at "xo"); (case a1 => walk_at "nf"); (case a2 => walk_at "nf"); walk_at "nw")
  | ((with_reducible refine' st_try ?_))
  | ((with_reducible refine' st_callS ?_))
  | ((with_reducible refine' st_hYn ?a0 ?_); (case a0 => walk_at "ex"); intro ax hax)
  | ((with_reducible refine' st_hY0 ?a0 ?_); (case a0 => walk_at "ex"); intro ax hax)
  | ((with_reducible refine' st_hN ?a0 ?_); (case a0 => walk_at "ex"))
  | ((with_reducible refine' st_xe ?_))
  | ((with_reducible refine' st_xeP ?a0 ?a1 ?a2 ?a3 ?_); (case a0 => walk_at "xi"); (case a1 => walk_at "nf"); (case a2 => walk_at "hp"); (case a3 => exact rfl))
  | ((with_reducible refine' st_isX ?a0 ?a1 ?a2 ?_); (case a0 => walk_at "xi"); (case a1 => walk_at "hp"); (case a2 => walk_at "ki"))
  | ((with_reducible refine' st_isXT ?a0 ?a1 ?a2 ?_); (case a0 => walk_at "xi"); (case a1 => walk_at "hp"); (case a2 => walk_at "ki"))
  | ((with_reducible refine' st_isXs2 ?a0 ?a1 ?a2 ?a3 ?a4 ?_); (case a0 => walk_at "xi"); (case a1 => walk_at "hp"); (case a2 => walk_at "hp"); (case a3 => walk_at "ki"); (case a4 => walk_at "ki"))
  | ((with_reducible refine' st_isXsN ?a0 ?a1 ?a2 ?a3 ?_); (case a0 => walk_at "xi"); (case a1 => walk_at "hp"); (case a2 => walk_at "hp"); (case a3 => walk_at "kn"))
  | ((with_reducible refine' st_listRg ?_))
  | ((with_reducible refine' st_rgC ?_))
  | ((with_reducible refine' st_rg1 ?_))
  | ((with_reducible refine' st_rg2 ?_))
  | ((with_reducible refine' st_rg3 ?_))
  | ((with_reducible refine' st_rgUp ?a0 ?_); (case a0 => refine ⟨?_, ?_, ?_, ?_⟩ <;> walk_at "sd"); walk_at "nw")
  | ((with_reducible refine' st_rgDown ?a0 ?_); (case a0 => refine ⟨?_, ?_, ?_, ?_⟩ <;> walk_at "sd"); walk_at "nw")
  | ((with_reducible refine' st_divW ?a0 ?_); (case a0 => constructor <;> walk_at "sd"))
  | ((with_reducible refine' st_iSeq ?_))
  | ((with_reducible refine' st_iEnQ ?_))
  | ((with_reducible refine' st_gsl ?_))
  | ((with_reducible refine' st_augS ?a0 ?_); (case a0 => exact rfl))
  | ((with_reducible refine' st_ipS ?a0 ?_); (case a0 => walk_at "sd"))
  | ((with_reducible refine' st_rv ?_))
  | ((with_reducible refine' st_rvQ ?a0 ?_); (case a0 => first | walk_at "hp" | exact seq_l (by walk_at "hp") | exact seq_t (by walk_at "hp")); walk_at "nw")
  | ((with_reducible refine' st_xk ?_))
  | ((with_reducible refine' st_xkP ?a0 ?a1 ?a2 ?a3 ?a4 ?_); (case a0 => walk_at "hp"); (case a1 => walk_at "xi"); (case a2 => walk_at "nf"); (case a3 => walk_at "hp"); (case a4 => exact rfl))
  | ((with_reducible refine' st_isK ?a0 ?a1 ?a2 ?a3 ?_); (case a0 => walk_at "hp"); (case a1 => walk_at "xi"); (case a2 => walk_at "hp"); (case a3 => walk_at "ki"))
  | ((with_reducible refine' st_isKT ?a0 ?a1 ?a2 ?a3 ?_); (case a0 => walk_at "hp"); (case a1 => walk_at "xi"); (case a2 => walk_at "hp"); (case a3 => walk_at "ki"))
  | ((with_reducible refine' st_isKs ?a0 ?a1 ?a2 ?a3 ?a4 ?_); (case a0 => walk_at "hp"); (case a1 => walk_at "xi"); (case a2 => walk_at "hp"); (case a3 => walk_at "hp"); (case a4 => walk_at "kn"))
  | ((with_reducible refine' st_fld ?_))
  | ((with_reducible refine' st_fldP ?a0 ?a1 ?a2 ?a3 ?_); (case a0 => walk_at "hp"); (case a1 => walk_at "cl"); (case a2 => walk_at "na"); (case a3 => exact rfl))
  | ((with_reducible refine' st_fldS ?_))
  | ((with_reducible refine' st_fldSP ?a0 ?a1 ?a2 ?a3 ?_); (case a0 => walk_at "hp"); (case a1 => walk_at "cl"); (case a2 => walk_at "na"); (case a3 => exact Nat.le_of_ble_eq_true rfl))
  | ((with_reducible refine' st_meth ?_))
  | ((with_reducible refine' st_methP ?a0 ?a1 ?_); (case a0 => walk_at "hp"); (case a1 => exact rfl))
  | ((with_reducible refine' st_make ?_))
  | ((with_reducible refine' st_methS ?_))
  | ((with_reducible refine' st_methD ?_))
  | ((with_reducible refine' st_makeS ?_))
  | ((with_reducible refine' st_dnewT ?_); walk_at "nw")
  | ((with_reducible refine' st_dputU ?_))
  | ((with_reducible refine' st_dget ?_))
  | ((with_reducible refine' st_gget1 ?_))
  | ((with_reducible refine' st_gget2 ?_))
  | ((with_reducible refine' st_gitem ?_))
  | ((with_reducible refine' st_gdat ?a0 ?_); (case a0 => walk_at "gd"))
  | ((with_reducible refine' st_gkey ?_))
  | ((with_reducible refine' st_upper ?a0 ?_); (case a0 => walk_at "sd"))
  | ((with_reducible refine' st_dinU ?_))
  | ((with_reducible refine' st_dninU ?_))
  | ((with_reducible refine' st_T ?a0 ?_); (case a0 => exact rfl))
  | ((with_reducible refine' st_F ?a0 ?_); (case a0 => exact rfl)))
local macro_rules | `(tactic| walk_at "go") => `(tactic| repeat walk_at "s")
local macro_rules | `(tactic| walk_at "s") => `(tactic| first
  | ((with_reducible refine' st_callCb ?_))
  | ((with_reducible refine' st_cbk ?a0 ?a1 ?_); (case a0 => exact rfl); (case a1 => walk_at "hp"))
  | ((with_reducible refine' st_cbP ?a0 ?a1 ?_); (case a0 => walk_at "hp"); (case a1 => walk_at "hp")))
def tabsL (tc : Nat → Addr × Addr) : List (Addr × Str) := [((tc 0).2, ("Board.__init__" : Str) ++ ".<locals>." ++ "<lambda>")]
abbrev L_Board_init : Expr := asgE (bodyS s_Board_init 3)
abbrev q_Board_init : Str := ("Board.__init__" : Str) ++ ".<locals>." ++ "<lambda>"
theorem ndf_Board_init : ndefB (defScope s_Board_init) (lamSc L_Board_init) ["side", "top"] = true := by decide +kernel
theorem nsc_Board_init : nscB ["row", "column", "across", "above", "side", "top"] ["row", "column", "across", "above"] ["side", "top"] (lamSc L_Board_init) = true := by decide +kernel
abbrev si_NoPlace : Stmt := inClass (top 4) 0
theorem sci_NoPlace : FnScope ["self", "found"] ["self", "found"] (defScope si_NoPlace) := ⟨rfl, rfl, rfl, by decide +kernel, rfl, by decide +kernel, by decide +kernel⟩
abbrev si_NoRow : Stmt := inClass (top 3) 0
theorem sci_NoRow : FnScope ["self", "found"] ["self", "found"] (defScope si_NoRow) := ⟨rfl, rfl, rfl, by decide +kernel, rfl, by decide +kernel, by decide +kernel⟩
/-- what the top has written -/
structure Tx (K : PySem.W.Frag) (mg : Str → Option Value) (ad : Nat → Addr) (fd : Nat → FuncData) (tk : Nat → Tok) (base : Heap) (tc : Nat → Addr × Addr) : Prop where
  d_is_whole : Df K mg "is_whole" s_is_whole ["thing"] (ad 0) (fd 0)
  d_is_within : Df K mg "is_within" s_is_within ["thing", "low", "high"] (ad 1) (fd 1)
  d_is_row : Df K mg "is_row" s_is_row ["thing"] (ad 2) (fd 2)
  d_need_row : Df K mg "need_row" s_need_row ["row"] (ad 3) (fd 3)
  d_need_rows : Df K mg "need_rows" s_need_rows ["side", "top"] (ad 4) (fd 4)
  d_led : Df K mg "led" s_led ["many", "far", "crosses"] (ad 5) (fd 5)
  d__law_at : Df K mg "_law_at" s__law_at ["_law_script", "_law_k"] (ad 6) (fd 6)
  d__law_mix : Df K mg "_law_mix" s__law_mix ["_law_cell", "_law_k"] (ad 7) (fd 7)
  d__law_put : Df K mg "_law_put" s__law_put ["_law_row", "_law_cell", "_law_cap", "_law_wide", "_law_shift"] (ad 8) (fd 8)
  d__law_two : Df K mg "_law_two" s__law_two ["_law_script", "_law_cap"] (ad 9) (fd 9)
  d__law_pair : Df K mg "_law_pair" s__law_pair ["_law_found", "_law_due"] (ad 10) (fd 10)
  d__law_pairs : Df K mg "_law_pairs" s__law_pairs ["_law_found", "_law_due"] (ad 11) (fd 11)
  d__law_forms : Df K mg "_law_forms" s__law_forms ["_law_lines", "_law_cells", "_law_many", "_law_far"] (ad 12) (fd 12)
  d__law_way : Df K mg "_law_way" s__law_way ["_law_cells", "_law_many", "_law_far", "_law_line"] (ad 13) (fd 13)
  d_Board_way : Dm K "Board" "way" "Board.way" s_Board_way ["self", "line"] (ad 14) (fd 14)
  d_Board_meets : Dm K "Board" "meets" "Board.meets" s_Board_meets ["self", "line", "other"] (ad 15) (fd 15)
  d_Board_crossed_at : Dm K "Board" "crossed_at" "Board.crossed_at" s_Board_crossed_at ["self", "line", "other"] (ad 16) (fd 16)
  d__law_apart : Df K mg "_law_apart" s__law_apart ["_law_board", "_law_side", "_law_top", "_law_cells", "_law_lines", "_law_met_here", "_law_a", "_law_b"] (ad 17) (fd 17)
  d__law_met : Df K mg "_law_met" s__law_met ["_law_ways", "_law_many", "_law_far"] (ad 18) (fd 18)
  d_Board_cells : Dm K "Board" "cells" "Board.cells" s_Board_cells ["self"] (ad 19) (fd 19)
  d_Board_init : Dm K "Board" "__init__" "Board.__init__" s_Board_init ["self", "side", "top"] (ad 20) (fd 20)
  fc_Board_init : FunC K "__init__" "Board.__init__" s_Board_init (ad 20) (fd 20) (tc 0).1
  tb_Board_init : TabB base mg (tc 0).1 (tc 0).2
  d_Board_lines : Dm K "Board" "lines" "Board.lines" s_Board_lines ["self"] (ad 21) (fd 21)
  d_law : Df K mg "law" s_law ["_law_script"] (ad 22) (fd 22)
  c_MOST_SIGNS : mg "MOST_SIGNS" = some (.int 48 (tk 0))
  c_LETTERS : mg "LETTERS" = some (.str "abcdefghijklmnopqrstuvwxyz" (tk 1))
  b_isinstance : mg "isinstance" = none
  b_int : mg "int" = none
  b_bool : mg "bool" = none
  b_all : mg "all" = none
  b_str : mg "str" = none
  b_len : mg "len" = none
  b_list : mg "list" = none
  b_range : mg "range" = none
  b_enumerate : mg "enumerate" = none
  b_tuple : mg "tuple" = none
  b_sorted : mg "sorted" = none
  b_max : mg "max" = none
  b_min : mg "min" = none
  g_NoRow : mg "NoRow" = some (.ref (clsA K "NoRow"))
  o_NoRow : OexC K (clsA K "NoRow")
  n_NoRow_found : PySem.W.findIn K (.ref (clsA K "NoRow")) "found" = some none
  i_NoRow : IniF K "NoRow" "NoRow.__init__" si_NoRow ["self", "found"]
  g_NoPlace : mg "NoPlace" = some (.ref (clsA K "NoPlace"))
  o_NoPlace : OexC K (clsA K "NoPlace")
  n_NoPlace_found : PySem.W.findIn K (.ref (clsA K "NoPlace")) "found" = some none
  i_NoPlace : IniF K "NoPlace" "NoPlace.__init__" si_NoPlace ["self", "found"]
  bi_PaneError : BI K mg "PaneError"
  mg_Board : mg "Board" = some (.ref (clsA K "Board"))
  cl_Board : Cls K (clsA K "Board")
  na_Board_left_row : NoAttr K (clsA K "Board") "left_row"
  na_Board_upper_row : NoAttr K (clsA K "Board") "upper_row"
  na_Board_meetings : NoAttr K (clsA K "Board") "meetings"
  na_Board_signs : NoAttr K (clsA K "Board") "signs"
  na_Board_goals : NoAttr K (clsA K "Board") "goals"
  m_Board : Mk K (clsA K "Board") (ad 20)
local macro_rules | `(tactic| walk_at "ex") => `(tactic| first
  | assumption)
local macro_rules | `(tactic| walk_at "ki") => `(tactic| first
  | assumption)
local macro_rules | `(tactic| walk_at "xi") => `(tactic| first
  | assumption)
local macro_rules | `(tactic| walk_at "xo") => `(tactic| first
  | exact Tx.o_NoRow (by assumption)
  | exact Tx.o_NoPlace (by assumption))
local macro_rules | `(tactic| walk_at "nf") => `(tactic| first
  | exact Tx.n_NoRow_found (by assumption)
  | exact Tx.n_NoPlace_found (by assumption))
local macro_rules | `(tactic| walk_at "cl") => `(tactic| first
  | exact Tx.cl_Board (by assumption))
local macro_rules | `(tactic| walk_at "na") => `(tactic| first
  | exact Tx.na_Board_left_row (by assumption)
  | exact Tx.na_Board_upper_row (by assumption)
  | exact Tx.na_Board_meetings (by assumption)
  | exact Tx.na_Board_signs (by assumption)
  | exact Tx.na_Board_goals (by assumption))
section
variable {P : Program} {w : World} {K : PySem.W.Frag} {mg : Str → Option Value} {base : Heap} {ad : Nat → Addr} {fd : Nat → FuncData} {tk : Nat → Tok} {tc : Nat → Addr × Addr}
theorem tabs_m_Board_init : ((tc 0).2, q_Board_init) ∈ tabsL tc := by
  unfold tabsL
  simp
theorem tabs_u_Board_init (T : Tx K mg ad fd tk base tc) : ∀ p ∈ tabsL tc, p.1 = (tc 0).2 → p.2 = q_Board_init := by
  intro p hp e
  simp only [tabsL, List.mem_cons, List.not_mem_nil, or_false] at hp
  rcases hp with rfl
  all_goals first
  | rfl
theorem ex_NoRow (T : Tx K mg ad fd tk base tc) : EX P w K mg base "NoRow" ["self", "found"] (spI1 K "found") := by
  obtain ⟨f, fd, i1, i2, F, b⟩ := T.i_NoRow.ex
  refine ⟨T.g_NoRow, T.o_NoRow, f, fd, i1, i2, F.ok sci_NoRow (fun vs H Q E h => ?_) (fun cdv A outer s H vs Q E hr h => ?_), b⟩
  · obtain ⟨a, C, y0, rfl, _⟩ := h
    rfl
  · obtain ⟨a, C, y0, rfl, hO, hn0, ha, k⟩ := h
    refine ⟨_, (pss_cons (ps_expr (pe_oinit T.bi_PaneError rfl (pa_cons (pv 0) (pa_cons pe_str pa_nil))))
      (pss_one (ps_ost (pv 0) (pv 1)))), ?_⟩
    exact ini1_go hO hn0 ha k
theorem ex_NoPlace (T : Tx K mg ad fd tk base tc) : EX P w K mg base "NoPlace" ["self", "found"] (spI1 K "found") := by
  obtain ⟨f, fd, i1, i2, F, b⟩ := T.i_NoPlace.ex
  refine ⟨T.g_NoPlace, T.o_NoPlace, f, fd, i1, i2, F.ok sci_NoPlace (fun vs H Q E h => ?_) (fun cdv A outer s H vs Q E hr h => ?_), b⟩
  · obtain ⟨a, C, y0, rfl, _⟩ := h
    rfl
  · obtain ⟨a, C, y0, rfl, hO, hn0, ha, k⟩ := h
    refine ⟨_, (pss_cons (ps_expr (pe_oinit T.bi_PaneError rfl (pa_cons (pv 0) (pa_cons pe_str pa_nil))))
      (pss_one (ps_ost (pv 0) (pv 1)))), ?_⟩
    exact ini1_go hO hn0 ha k
def isWholeV : V → Bool
  | .int _ => true
  | _ => false
def sp_is_whole : Sp := fun vs H Q _ => ∃ x, vs = [x] ∧ Ty H x ∧ Q (.bl (isWholeV x)) H
theorem ok_is_whole (T : Tx K mg ad fd tk base tc) : FnOk P w K mg base CX0 1 (ad 0) (fd 0) ["thing"] sp_is_whole := by
  refine T.d_is_whole.F.ok sc_is_whole (fun vs H Q E h => ?_) (fun cdv A outer s H vs Q E hr h => ?_)
  · obtain ⟨x, rfl, _⟩ := h
    rfl
  · obtain ⟨x, rfl, ht, k⟩ := h
    refine ⟨_, (pss_one (ps_ret (pe_and (pe_callB c_is (by rfl) T.b_isinstance (by decide +kernel) (pa_cons (pv 0) (pa_cons (pe_bltn (v := .ty "int") rfl T.b_int (by decide +kernel) rfl) pa_nil))) (pe_one (pe_not (pe_callB c_is (by rfl) T.b_isinstance (by decide +kernel) (pa_cons (pv 0) (pa_cons (pe_bltn (v := .ty "bool") rfl T.b_bool (by decide +kernel) rfl) pa_nil)))))))), ?_⟩
    walk_at "go"
    refine st_isIntT ht ?_
    walk_at "go"
    cases x with
    | int i =>
      refine st_T rfl ?_
      walk_at "go"
      exact k
    | bl b =>
      refine st_T rfl ?_
      walk_at "go"
      exact k
    | _ =>
      refine st_F rfl ?_
      walk_at "go"
      exact k
def withinV (x : V) (lo hi : Int) : Bool := match x with
  | .int i => decide (lo ≤ i ∧ i ≤ hi)
  | _ => false
def sp_is_within : Sp := fun vs H Q _ => ∃ (x : V) (lo hi : Int), vs = [x, .int lo, .int hi] ∧ Ty H x ∧ Q (.bl (withinV x lo hi)) H
theorem ok_is_within (T : Tx K mg ad fd tk base tc) : FnOk P w K mg base CX0 2 (ad 1) (fd 1) ["thing", "low", "high"] sp_is_within := by
  refine T.d_is_within.F.ok sc_is_within (fun vs H Q E h => ?_) (fun cdv A outer s H vs Q E hr h => ?_)
  · obtain ⟨x, lo, hi, rfl, _⟩ := h
    rfl
  · obtain ⟨x, lo, hi, rfl, ht, k⟩ := h
    refine ⟨_, (pss_one (ps_ret (pe_and (pe_call (ok_is_whole T) (hr.mono (by decide)) rfl T.d_is_whole.g T.d_is_whole.F.kp T.d_is_whole.b .nil pass0 (pa_cons (pv 0) pa_nil)) (pe_one (pe_chain o_le o_le (pv 1) (pv 0) (pv 2)))))), ?_⟩
    walk_at "go"
    refine ⟨x, rfl, ht, ?_⟩
    cases x with
    | int i =>
      walk_at "go"
      refine st_br2 (fun c => ?_) (fun c => ?_)
      · walk_at "go"
        have e : withinV (.int i) lo hi = decide (i ≤ hi) := by
          unfold withinV
          simp [c]
        rw [e] at k
        exact k
      · have e : withinV (.int i) lo hi = false := by
          unfold withinV
          simp [c]
        rw [e] at k
        exact k
    | _ =>
      walk_at "go"
      exact k
def rowSign (c : Nat) : Bool := decide (97 ≤ c ∧ c ≤ 122) || decide (c = 46)
def isRow : V → Bool
  | .str z => decide (z.length ≤ 48) && z.cps.toList.all rowSign
  | _ => false
theorem letters_eq : ("abcdefghijklmnopqrstuvwxyz" : Str).cps.toList = List.range' 97 26 := by decide +kernel
theorem letters_mem (c : Nat) : (c ∈ ("abcdefghijklmnopqrstuvwxyz" : Str).cps.toList) ↔ (97 ≤ c ∧ c ≤ 122) := by
  rw [letters_eq, List.mem_range'_1]
  omega
theorem point_eq : ("." : Str) = tx [46] := by decide +kernel
def sp_is_row : Sp := fun vs H Q _ => ∃ v, vs = [v] ∧ Ty H v ∧ (∀ z, v = .str z → z.length ≤ 16777216) ∧ ∀ H', Ex H H' → Q (.bl (isRow v)) H'
theorem ok_is_row (T : Tx K mg ad fd tk base tc) : FnOk P w K mg base CX0 1 (ad 2) (fd 2) ["thing"] sp_is_row := by
  refine T.d_is_row.F.ok sc_is_row (fun vs H Q E h => ?_) (fun cdv A outer s H vs Q E hr h => ?_)
  · obtain ⟨v, rfl, _⟩ := h
    rfl
  · obtain ⟨v, rfl, ht, hz, k⟩ := h
    refine ⟨_, (pss_cons (ps_if (PW.pt (pw_or (pt_not (pt_val (pe_callB c_is (by rfl) T.b_isinstance (by decide +kernel) (pa_cons (pv 0) (pa_cons (pe_bltn (v := .ty "str") rfl T.b_str (by decide +kernel) rfl) pa_nil))))) (pw_or1 (pt_cmpR o_gt (pe_callB (c_len (K := K)) (by rfl) T.b_len (by decide +kernel) (pa_cons (pv 0) pa_nil)) (pe_glob (v := .int 48) rfl T.c_MOST_SIGNS ⟨_, rfl⟩) (nomark _))))) (pss_one (ps_ret pe_bl)) pss_nil)
      (pss_one (ps_ret (pe_callB (c_all rfl) (by rfl) T.b_all (by decide +kernel) (pa_cons (pe_lc (own := [("sign", 1)]) (g := gName 1) rfl sc_is_row.nd (pi_str (pv 0)) (blkOk_by (own := [("sign", 1)]) (N := N_is_row) (sc := defScope s_is_row) (by decide +kernel)) (fun _ _ _ _ _ => pg_name (i := 1) sc_is_row.nd rfl (Or.inl rfl)) (fun _ _ _ _ _ => pts_nil) (fun _ _ _ _ _ => (pe_or (pe_cmpR (o_in hr.units) (pv 1) (pe_glob (v := .str "abcdefghijklmnopqrstuvwxyz") rfl T.c_LETTERS ⟨_, rfl⟩) rfl) (pe_one (pe_cmpR (o_eq hr.units) (pv 1) pe_str (nomark _)))))) pa_nil))))), ?_⟩
    walk_at "go"
    refine st_isStrT ht ?_
    walk_at "go"
    cases v with
    | str z =>
      have hz' := hz z rfl
      refine st_F rfl ?_
      walk_at "go"
      refine st_br2 (fun c => ?_) (fun c => ?_)
      · walk_at "go"
        have e : isRow (.str z) = false := by
          show (decide (z.length ≤ 48) && _) = false
          rw [decide_eq_false (by omega)]
          rfl
        have k' := k _ (Fr.refl H)
        rw [e] at k'
        exact k'
      · walk_at "go"
        refine lc_pure (rv_str z) (fun _ _ => trivial) (by show z.cps.toList.length < _; simp only [Array.length_toList]; have : z.cps.size = z.length := rfl; omega) (fun _ => true) (fun c => .bl (rowSign c)) ?_ ?_
        · intro c' H' hc e B A h1 h2
          refine ⟨rfl, ?_⟩
          have h1' := h1 rfl _ (Fr.refl _)
          walk_at "go"
          refine st_br2 (fun m => ?_) (fun m => ?_)
          · rw [letters_mem] at m
            have e1 : rowSign c' = true := by
              unfold rowSign
              rw [decide_eq_true m]
              rfl
            rw [e1] at h1'
            exact h1'
          · rw [letters_mem] at m
            walk_at "go"
            have e1 : rowSign c' = decide (tx [c'] = ".") := by
              unfold rowSign
              rw [decide_eq_false m, point_eq, Bool.false_or]
              simp [tx_inj]
            rw [e1] at h1'
            exact h1'
        · intro D H' hD e hd
          walk_at "go"
          refine st_all (bs := z.cps.toList.map rowSign) hd (by rw [List.filter_eq_self.mpr (fun _ _ => rfl), List.map_map]; rfl) ?_
          have e1 : isRow (.str z) = (z.cps.toList.map rowSign).all id := by
            show (decide (z.length ≤ 48) && _) = _
            rw [decide_eq_true (by omega), Bool.true_and, List.all_map]
            rfl
          have k' := k _ e
          rw [e1] at k'
          exact k'
    | _ =>
      refine st_T rfl ?_
      walk_at "go"
      exact k _ (Fr.refl H)
/-- a text that is a row -/
def RowS (z : Str) : Prop := isRow (.str z) = true
theorem RowS.len {z : Str} (h : RowS z) : z.length ≤ 48 := by
  have h : (decide (z.length ≤ 48) && z.cps.toList.all rowSign) = true := h
  rw [Bool.and_eq_true] at h
  exact of_decide_eq_true h.1
theorem rowS_of_true {x : V} (h : isRow x = true) : ∃ s, x = .str s ∧ RowS s := by
  cases x with
  | str s => exact ⟨s, rfl, h⟩
  | _ => cases h
/-- a row, or refused -/
def Row1 (K : PySem.W.Frag) (E : XK) (H : Hp) (x : V) (k : Str → Prop) : Prop := (∃ s, x = .str s ∧ RowS s ∧ k s) ∨ (Thg H x ∧ isRow x = false ∧ RaR K E H "NoRow" "found" x)
theorem Row1.imp {K : PySem.W.Frag} {E : XK} {H : Hp} {x : V} {k k' : Str → Prop} (h : Row1 K E H x k) (f : ∀ s, x = .str s → RowS s → k s → k' s) : Row1 K E H x k' := by
  rcases h with ⟨s, e, hs, h⟩ | h
  · exact .inl ⟨s, e, hs, f s e hs h⟩
  · exact .inr h
def sp_need_row (K : PySem.W.Frag) : Sp := fun vs H Q E => ∃ x, vs = [x] ∧ Row1 K E H x fun _ => ∀ H', Ex H H' → Q .non H'
theorem ok_need_row (T : Tx K mg ad fd tk base tc) : FnOk P w K mg base (L2.CX P w) 3 (ad 3) (fd 3) ["row"] (sp_need_row K) := by
  refine T.d_need_row.F.okX sc_need_row (fun vs H Q E h => ?_) (fun cdv A outer s H vs Q E hr h => ?_)
  · obtain ⟨x, rfl, _⟩ := h
    rfl
  · obtain ⟨x, rfl, k⟩ := h
    refine ⟨_, (pss_one (ps_if (pt_not (pt_val (pe_call (ok_is_row T) (hr.mono (by decide)) rfl T.d_is_row.g T.d_is_row.F.kp T.d_is_row.b .nil pass0 (pa_cons (pv 0) pa_nil)))) (pss_one (ps_raiseG rfl (ex_NoRow T) (hr.mono (by decide)) (takes_of rfl rfl rfl rfl) rfl (pa_cons (pv 0) pa_nil))) pss_nil)), ?_⟩
    walk_at "go"
    rcases k with ⟨s, rfl, hs, k⟩ | ⟨ht, hb, k⟩
    · have hs' := hs.len
      refine ⟨.str s, rfl, ty_str _, fun z' e => by cases e; omega, fun H1 e1 => ?_⟩
      rw [show isRow (.str s) = true from hs]
      walk_at "go"
      exact k _ e1
    · refine ⟨x, rfl, ht.1, ht.2, fun H1 e1 => ?_⟩
      rw [hb]
      walk_at "go"
      rename_i d H2 hd e2 hv
      exact k d H2 (Ex.free e1 hd) (e1.trans e2) hv
/-- two rows, or the first that is none is refused -/
def Rows2 (K : PySem.W.Frag) (E : XK) (H : Hp) (x y : V) (k : Str → Str → Prop) : Prop := (∃ s t, x = .str s ∧ y = .str t ∧ RowS s ∧ RowS t ∧ k s t) ∨
  (Thg H x ∧ Thg H y ∧ ((isRow x = false ∧ RaR K E H "NoRow" "found" x) ∨ (isRow x = true ∧ isRow y = false ∧ RaR K E H "NoRow" "found" y)))
theorem Rows2.imp {K : PySem.W.Frag} {E : XK} {H : Hp} {x y : V} {k k' : Str → Str → Prop} (h : Rows2 K E H x y k) (f : ∀ s t, x = .str s → y = .str t → RowS s → RowS t → k s t → k' s t) : Rows2 K E H x y k' := by
  rcases h with ⟨s, t, e1, e2, hs, ht, h⟩ | h
  · exact .inl ⟨s, t, e1, e2, hs, ht, f s t e1 e2 hs ht h⟩
  · exact .inr h
def sp_need_rows (K : PySem.W.Frag) : Sp := fun vs H Q E => ∃ x y, vs = [x, y] ∧ Rows2 K E H x y fun _ _ => ∀ H', Ex H H' → Q .non H'
theorem ok_need_rows (T : Tx K mg ad fd tk base tc) : FnOk P w K mg base (L2.CX P w) 4 (ad 4) (fd 4) ["side", "top"] (sp_need_rows K) := by
  refine T.d_need_rows.F.okX sc_need_rows (fun vs H Q E h => ?_) (fun cdv A outer s H vs Q E hr h => ?_)
  · obtain ⟨x, y, rfl, _⟩ := h
    rfl
  · obtain ⟨x, y, rfl, k⟩ := h
    refine ⟨_, (pss_cons (ps_expr (pe_call (ok_need_row T) (hr.mono (by decide)) rfl T.d_need_row.g T.d_need_row.F.kp T.d_need_row.b .nil (passes_call (takes_of rfl rfl rfl rfl) (fun _ _ _ _ h => h)) (pa_cons (pv 0) pa_nil)))
      (pss_one (ps_expr (pe_call (ok_need_row T) (hr.mono (by decide)) rfl T.d_need_row.g T.d_need_row.F.kp T.d_need_row.b .nil (passes_call (takes_of rfl rfl rfl rfl) (fun _ _ _ _ h => h)) (pa_cons (pv 1) pa_nil))))), ?_⟩
    walk_at "go"
    rcases k with ⟨s, t, rfl, rfl, hs, ht, k⟩ | ⟨h1, h2, ⟨hb, k⟩ | ⟨ha, hb, k⟩⟩
    · refine ⟨.str s, rfl, .inl ⟨s, rfl, hs, fun H1 e1 => ?_⟩⟩
      walk_at "go"
      refine ⟨.str t, rfl, .inl ⟨t, rfl, ht, fun H2 e2 => ?_⟩⟩
      walk_at "go"
      exact k _ (e1.trans e2)
    · exact ⟨x, rfl, .inr ⟨h1, hb, k⟩⟩
    · obtain ⟨s, rfl, hs⟩ := rowS_of_true ha
      refine ⟨.str s, rfl, .inl ⟨s, rfl, hs, fun H1 e1 => ?_⟩⟩
      walk_at "go"
      exact ⟨y, rfl, .inr ⟨h2.ex e1, hb, k.ex e1⟩⟩
/-- an item, nought behind the end -/
def gT (e : List Nat) (i : Nat) : Nat := e.getD i 0
theorem gT_at {e : List Nat} {i : Nat} (h : i < e.length) : gT e i = e[i] := by
  unfold gT
  rw [List.getD_eq_getElem?_getD, List.getElem?_eq_getElem h]
  rfl
theorem gT_some {e : List Nat} {i : Nat} (h : i < e.length) : e[i]? = some (gT e i) := by rw [gT_at h]; exact List.getElem?_eq_getElem h
theorem gT_of {e : List Nat} {i v : Nat} (h : e[i]? = some v) : gT e i = v := by unfold gT; rw [List.getD_eq_getElem?_getD, h]; rfl
theorem gT_ext {a b : List Nat} (hl : a.length = b.length) (h : ∀ i, i < a.length → gT a i = gT b i) : a = b := by
  refine List.ext_getElem hl fun i h1 h2 => ?_
  have := h i h1
  rwa [gT_at h1, gT_at h2] at this
theorem gT_map {f : Nat → Nat} {n i : Nat} (h : i < n) : gT ((List.range n).map f) i = f i := by
  refine gT_of ?_
  rw [List.getElem?_map, List.getElem?_range h]
  rfl
theorem gT_range {n i : Nat} (h : i < n) : gT (List.range n) i = i := gT_of (by rw [List.getElem?_range h])
/-- a turning -/
structure IsT (l : List Nat) : Prop where
  nd : l.Nodup
  lt : ∀ x ∈ l, x < l.length
theorem IsT.g_lt {l : List Nat} (h : IsT l) {i : Nat} (hi : i < l.length) : gT l i < l.length := h.lt _ (by rw [gT_at hi]; exact List.getElem_mem hi)
theorem IsT.mem {l : List Nat} (h : IsT l) {v : Nat} (hv : v < l.length) : v ∈ l := by
  refine Decidable.byContradiction fun hn => ?_
  have h1 : l ⊆ (List.range l.length).erase v := fun x hx => by
    refine (List.mem_erase_of_ne (fun e => hn (by rw [← e]; exact hx))).mpr ?_
    exact List.mem_range.mpr (h.lt x hx)
  have h2 := h.nd.length_le_of_subset h1
  rw [List.length_erase_of_mem (List.mem_range.mpr hv), List.length_range] at h2
  omega
theorem IsT.perm {l : List Nat} (h : IsT l) : l.Perm (List.range l.length) := by
  rw [List.perm_iff_count]
  intro a
  have one : ∀ {m : List Nat}, m.Nodup → a ∈ m → m.count a = 1 := fun {m} h1 h2 => by
    have h3 := List.nodup_iff_count.mp h1 a
    have h4 := List.count_pos_iff.mpr h2
    omega
  by_cases ha : a < l.length
  · rw [one h.nd (h.mem ha), one List.nodup_range (List.mem_range.mpr ha)]
  · rw [List.count_eq_zero_of_not_mem fun q => ha (h.lt a q), List.count_eq_zero_of_not_mem fun q => ha (List.mem_range.mp q)]
theorem isT_range (n : Nat) : IsT (List.range n) := ⟨List.nodup_range, fun x hx => by rw [List.length_range]; exact List.mem_range.mp hx⟩
theorem IsT.of_perm {l m : List Nat} (h : IsT m) (p : l.Perm m) : IsT l := ⟨p.nodup_iff.mpr h.nd, fun x hx => by rw [p.length_eq]; exact h.lt x (p.mem_iff.mp hx)⟩
theorem IsT.of_perm_range {l : List Nat} {n : Nat} (p : l.Perm (List.range n)) : IsT l := (isT_range n).of_perm p
theorem IsT.idx_lt {l : List Nat} (h : IsT l) {v : Nat} (hv : v < l.length) : l.idxOf v < l.length := List.idxOf_lt_length_iff.mpr (h.mem hv)
theorem IsT.g_idx {l : List Nat} (h : IsT l) {v : Nat} (hv : v < l.length) : gT l (l.idxOf v) = v := by
  rw [gT_at (h.idx_lt hv)]
  exact List.getElem_idxOf _
theorem IsT.idx_g {l : List Nat} (h : IsT l) {i : Nat} (hi : i < l.length) : l.idxOf (gT l i) = i := by
  rw [gT_at hi]
  exact h.nd.idxOf_getElem i hi
theorem IsT.inj {l : List Nat} (h : IsT l) {i j : Nat} (hi : i < l.length) (hj : j < l.length) (e : gT l i = gT l j) : i = j := by
  rw [← h.idx_g hi, ← h.idx_g hj, e]
/-- the opposite turning -/
def invT (l : List Nat) : List Nat := (List.range l.length).map fun v => l.idxOf v
theorem invT_len (l : List Nat) : (invT l).length = l.length := by rw [invT, List.length_map, List.length_range]
theorem invT_g {l : List Nat} {v : Nat} (h : v < l.length) : gT (invT l) v = l.idxOf v := gT_map h
theorem isT_of_g {l : List Nat} (h1 : ∀ i, i < l.length → gT l i < l.length) (h2 : ∀ i j, i < l.length → j < l.length → gT l i = gT l j → i = j) : IsT l := by
  refine ⟨?_, fun x hx => ?_⟩
  · rw [List.nodup_iff_pairwise_ne, List.pairwise_iff_getElem]
    intro i j hi hj hij e
    have := h2 i j hi hj (by rw [gT_at hi, gT_at hj]; exact e)
    omega
  · obtain ⟨i, hi, e⟩ := List.getElem_of_mem hx
    have := h1 i hi
    rwa [gT_at hi, e] at this
theorem IsT.inv {l : List Nat} (h : IsT l) : IsT (invT l) := by
  refine isT_of_g (fun i hi => ?_) fun i j hi hj e => ?_
  · rw [invT_len] at hi ⊢
    rw [invT_g hi]
    exact h.idx_lt hi
  · rw [invT_len] at hi hj
    rw [invT_g hi, invT_g hj] at e
    rw [← h.g_idx hi, ← h.g_idx hj, e]
theorem IsT.inv_g {l : List Nat} (h : IsT l) {i : Nat} (hi : i < l.length) : gT (invT l) (gT l i) = i := by rw [invT_g (h.g_lt hi), h.idx_g hi]
/-- two neighbours exchanged -/
def swapAt (e : List Nat) (s : Nat) : List Nat := e.take s ++ [gT e (s + 1), gT e s] ++ e.drop (s + 2)
theorem swapAt_len {e : List Nat} {s : Nat} (h : s + 1 < e.length) : (swapAt e s).length = e.length := by
  unfold swapAt
  rw [List.length_append, List.length_append, List.length_take, List.length_drop]
  simp only [List.length_cons, List.length_nil]
  omega
/-- words of swaps -/
def OkW (n : Nat) (w : List Nat) : Prop := ∀ s ∈ w, s + 1 < n
theorem OkW.cons {n s : Nat} {w : List Nat} (h : OkW n (s :: w)) : s + 1 < n ∧ OkW n w := ⟨h s List.mem_cons_self, fun t ht => h t (List.mem_cons_of_mem _ ht)⟩
def swapsT (e : List Nat) (w : List Nat) : List Nat := w.foldl swapAt e
def Down : List Nat → List Nat → Prop
  | _, [] => True
  | e, s :: w => s + 1 < e.length ∧ gT e (s + 1) < gT e s ∧ Down (swapAt e s) w
def Up : List Nat → List Nat → Prop
  | _, [] => True
  | e, s :: w => s + 1 < e.length ∧ gT e s < gT e (s + 1) ∧ Up (swapAt e s) w
theorem Down.ok : ∀ {w e : List Nat}, Down e w → OkW e.length w
  | [], _, _, s, hs => by cases hs
  | t :: w, e, ⟨h1, _, h3⟩, s, hs => by
    rcases List.mem_cons.mp hs with q | q
    · rw [q]; exact h1
    · have := h3.ok s q
      rwa [swapAt_len h1] at this
theorem Up.ok : ∀ {w e : List Nat}, Up e w → OkW e.length w
  | [], _, _, s, hs => by cases hs
  | t :: w, e, ⟨h1, _, h3⟩, s, hs => by
    rcases List.mem_cons.mp hs with q | q
    · rw [q]; exact h1
    · have := h3.ok s q
      rwa [swapAt_len h1] at this
theorem Down.app : ∀ {v w e : List Nat}, Down e v → Down (swapsT e v) w → Down e (v ++ w)
  | [], _, _, _, h => h
  | s :: v, w, e, ⟨h1, h2, h3⟩, h => ⟨h1, h2, h3.app h⟩
theorem Up.app : ∀ {v w e : List Nat}, Up e v → Up (swapsT e v) w → Up e (v ++ w)
  | [], _, _, _, h => h
  | s :: v, w, e, ⟨h1, h2, h3⟩, h => ⟨h1, h2, h3.app h⟩
/-- how these stand -/
def nV (x : Nat) : V := .int (x : Nat)
def encN (x : Nat) : PyData := .int (x : Nat)
def TurnD (d : PyData) : Prop := ∃ l : List Nat, (d = .list (l.map encN) ∨ d = .tuple (l.map encN)) ∧ IsT l ∧ l.length ≤ 96
/-- lists that stand for functions on the first n places -/
theorem fn_at {f : Nat → V} {n p : Nat} (h : p < n) : atI ((List.range n).map f) (p : Nat) = some (f p) := at_mapN (List.getElem?_range h)
theorem fn_set {f : Nat → V} {n p : Nat} {v : V} : ((List.range n).map f).set p v = (List.range n).map fun e => if e = p then v else f e := by
  refine List.ext_getElem? fun i => ?_
  rw [List.getElem?_set, List.getElem?_map, List.getElem?_map, List.length_map, List.length_range]
  by_cases h : i < n
  · rw [List.getElem?_range h]
    by_cases e : p = i
    · subst e
      rw [if_pos rfl, if_pos h]
      simp
    · rw [if_neg e]
      simp [Ne.symm e]
  · rw [List.getElem?_eq_none (by rw [List.length_range]; omega)]
    by_cases e : p = i
    · subst e
      rw [if_pos rfl, if_neg h]
      rfl
    · rw [if_neg e]
      rfl
theorem fn_ix {f : Nat → V} {n p : Nat} (h : p < n) : ixN ((List.range n).map f).length (p : Nat) = some p := Evl.ixN_nat (by rw [List.length_map, List.length_range]; exact h)
theorem fn_congr {f g : Nat → V} {n : Nat} (h : ∀ e, e < n → f e = g e) : (List.range n).map f = (List.range n).map g := List.map_congr_left fun e he => h e (List.mem_range.mp he)
theorem TurnD.seq {H : Hp} {x : V} {d : PyData} {l : List Nat} (hx : Rn H x d) (hd : d = .list (l.map encN) ∨ d = .tuple (l.map encN)) : ∃ a, x = .ref a ∧ seqAt H a = some (l.map nV) := by
  have : ∀ (xs : List V) (l : List Nat), RnA H xs (l.map encN) → xs = l.map nV := by
    intro xs l
    induction l generalizing xs with
    | nil => intro h; cases h; rfl
    | cons v l ih =>
      intro h
      cases h with
      | cons h1 h2 =>
        rw [List.map_cons, ← ih _ h2]
        congr 1
        unfold encN at h1
        cases h1
        rfl
  rcases hd with rfl | rfl
  · obtain ⟨a, xs, rfl, h1, h2⟩ := hx.listAt
    exact ⟨a, rfl, by rw [seq_l h1, this _ _ h2]⟩
  · obtain ⟨a, xs, rfl, h1, h2⟩ := hx.tupAt
    exact ⟨a, rfl, by rw [seq_t h1, this _ _ h2]⟩
theorem nV_at {l : List Nat} {i : Nat} {v : V} (h : (l.map nV)[i]? = some v) : i < l.length ∧ v = nV (gT l i) := by
  rw [List.getElem?_map] at h
  cases q : l[i]? with
  | none => rw [q] at h; cases h
  | some x =>
    rw [q] at h
    refine ⟨(List.getElem?_eq_some_iff.mp q).1, ?_⟩
    rw [gT_of q]
    exact (Option.some.inj h).symm
theorem at_nV {l : List Nat} {i : Nat} (h : i < l.length) : atI (l.map nV) (i : Int) = some (nV (gT l i)) := at_mapN (gT_some h)
theorem gT_set {l : List Nat} {j v i : Nat} (hj : j < l.length) : gT (l.set j v) i = if i = j then v else gT l i := by
  unfold gT
  rw [List.getD_eq_getElem?_getD, List.getElem?_set, List.getD_eq_getElem?_getD]
  by_cases h : j = i
  · subst h
    rw [if_pos rfl, if_pos rfl, if_pos hj]
    rfl
  · rw [if_neg h, if_neg (fun e => h e.symm)]
/-- the least of so many -/
def IsMin (n : Nat) (f : Nat → Nat) (v : Nat) : Prop := (∃ k, k ≤ n ∧ f k = v) ∧ ∀ k, k ≤ n → v ≤ f k
theorem IsMin.congr {n : Nat} {f g : Nat → Nat} {v : Nat} (h : IsMin n f v) (e : ∀ k, k ≤ n → f k = g k) : IsMin n g v := by
  obtain ⟨⟨a, ha, h1⟩, h2⟩ := h
  exact ⟨⟨a, ha, by rw [← e a ha]; exact h1⟩, fun k hk => by rw [← e k hk]; exact h2 k hk⟩
theorem rnL {H : Hp} {p : Addr} {xs : List Nat} (h : H p = some (.lst (xs.map nV))) : Rn H (.ref p) (.list (xs.map encN)) := .lst h (rnA_map fun _ _ => .int _)
/-- lines that are led over a board by a rule: the number that goes right, ahead of a column -/
def ledX (r : Nat → Nat → Nat → Nat → Bool) (D : Nat → Nat) (i x0 : Nat) : Nat → Nat
  | 0 => x0
  | j + 1 => if r i j (ledX r D i x0 j) (D j) = true then ledX r D i x0 j else D j
/-- the numbers that go down, ahead of a row -/
def ledD (r : Nat → Nat → Nat → Nat → Bool) (m : Nat) : Nat → Nat → Nat
  | 0, j => m + j
  | i + 1, j => if r i j (ledX r (ledD r m i) i (m - 1 - i) j) (ledD r m i j) = true then ledD r m i j else ledX r (ledD r m i) i (m - 1 - i) j
def ledA (r : Nat → Nat → Nat → Nat → Bool) (m i j : Nat) : Nat := ledX r (ledD r m i) i (m - 1 - i) j
def ledS (r : Nat → Nat → Nat → Nat → Bool) (m i j : Nat) : Bool := r i j (ledA r m i j) (ledD r m i j)
theorem ledA_0 (r : Nat → Nat → Nat → Nat → Bool) (m i : Nat) : ledA r m i 0 = m - 1 - i := rfl
theorem ledA_s (r : Nat → Nat → Nat → Nat → Bool) (m i j : Nat) : ledA r m i (j + 1) = if ledS r m i j = true then ledA r m i j else ledD r m i j := rfl
theorem ledD_0 (r : Nat → Nat → Nat → Nat → Bool) (m j : Nat) : ledD r m 0 j = m + j := rfl
theorem ledD_s (r : Nat → Nat → Nat → Nat → Bool) (m i j : Nat) : ledD r m (i + 1) j = if ledS r m i j = true then ledD r m i j else ledA r m i j := rfl
/-- which line comes to each end -/
def ledE (r : Nat → Nat → Nat → Nat → Bool) (m n : Nat) : List Nat := (List.range n).map (ledD r m m) ++ ((List.range m).map fun i => ledA r m i n).reverse
theorem ledE_len (r : Nat → Nat → Nat → Nat → Bool) (m n : Nat) : (ledE r m n).length = m + n := by simp [ledE]; omega
theorem led_row (r : Nat → Nat → Nat → Nat → Bool) (m i : Nat) : ∀ j : Nat, ((List.range j).map (ledD r m (i + 1)) ++ [ledA r m i j]).Perm ((m - 1 - i) :: (List.range j).map (ledD r m i))
  | 0 => .refl _
  | j + 1 => by
    have ih := led_row r m i j
    rw [List.range_succ, List.map_append, List.map_append, List.append_assoc, ledA_s]
    show ((List.range j).map (ledD r m (i + 1)) ++ ([ledD r m (i + 1) j] ++ [if ledS r m i j = true then ledA r m i j else ledD r m i j])).Perm ((m - 1 - i) :: ((List.range j).map (ledD r m i) ++ [ledD r m i j]))
    have sw : ([ledD r m (i + 1) j] ++ [if ledS r m i j = true then ledA r m i j else ledD r m i j]).Perm ([ledA r m i j] ++ [ledD r m i j]) := by
      rw [ledD_s]
      by_cases h : ledS r m i j = true
      · rw [if_pos h, if_pos h]
        exact List.perm_append_comm
      · rw [if_neg h, if_neg h]
    refine (sw.append_left _).trans ?_
    rw [← List.append_assoc, ← List.cons_append]
    exact ih.append_right _
theorem led_perm (r : Nat → Nat → Nat → Nat → Bool) (m n : Nat) : ∀ i : Nat, i ≤ m → ((List.range n).map (ledD r m i) ++ ((List.range i).map fun i => ledA r m i n) ++ List.range (m - i)).Perm (List.range (m + n))
  | 0, _ => by
    rw [List.range_zero, List.map_nil, List.append_nil, Nat.sub_zero, List.range_add]
    exact List.perm_append_comm
  | i + 1, hi => by
    refine List.Perm.trans ?_ (led_perm r m n i (by omega))
    have h1 := led_row r m i n
    rw [List.range_succ, List.map_append]
    have h2 : List.range (m - i) = List.range (m - (i + 1)) ++ [m - 1 - i] := by
      rw [show m - i = (m - (i + 1)) + 1 by omega, List.range_succ, show m - (i + 1) = m - 1 - i by omega]
    rw [h2]
    have e1 : ((List.range n).map (ledD r m (i + 1)) ++ ((List.range i).map (fun i => ledA r m i n) ++ [ledA r m i n]) ++ List.range (m - (i + 1))).Perm (((List.range n).map (ledD r m (i + 1)) ++ [ledA r m i n]) ++ ((List.range i).map (fun i => ledA r m i n) ++ List.range (m - (i + 1)))) := by
      rw [List.append_assoc, List.append_assoc, List.append_assoc]
      refine List.Perm.append_left _ ?_
      rw [← List.append_assoc, ← List.append_assoc]
      exact List.Perm.append_right _ List.perm_append_comm
    have e2 : ((List.range n).map (ledD r m i) ++ (List.range i).map (fun i => ledA r m i n) ++ (List.range (m - (i + 1)) ++ [m - 1 - i])).Perm (((m - 1 - i) :: (List.range n).map (ledD r m i)) ++ ((List.range i).map (fun i => ledA r m i n) ++ List.range (m - (i + 1)))) := by
      rw [← List.append_assoc, List.cons_append, List.append_assoc ((List.range n).map _)]
      exact List.perm_append_singleton _ _
    exact e1.trans ((h1.append_right _).trans e2.symm)
theorem ledE_T (r : Nat → Nat → Nat → Nat → Bool) (m n : Nat) : IsT (ledE r m n) := by
  have h := led_perm r m n m (Nat.le_refl _)
  rw [Nat.sub_self, List.range_zero, List.append_nil] at h
  refine IsT.of_perm_range (n := m + n) (List.Perm.trans ?_ h)
  unfold ledE
  exact List.Perm.append_left _ (List.reverse_perm _)
theorem ledE_lt {r : Nat → Nat → Nat → Nat → Bool} {m n i j : Nat} (hi : i ≤ m) (hj : j < n) : ledD r m i j < m + n := by
  have h := led_perm r m n i hi
  exact List.mem_range.mp (h.mem_iff.mp (List.mem_append_left _ (List.mem_append_left _ (List.mem_map.mpr ⟨j, List.mem_range.mpr hj, rfl⟩))))
/-- the signs of a row of cells -/
def sgT (r : Nat → Nat → Nat → Nat → Bool) (m n i : Nat) : Str := tx ((List.range n).map fun j => if ledS r m i j = true then 120 else 111)
structure LedAt (H : Hp) (me sg go : Addr) (r : Nat → Nat → Nat → Nat → Bool) (m n : Nat) : Prop where
  go : H go = some (.lst ((invT (ledE r m n)).map nV))
  sg : H sg = some (.lst ((List.range m).map fun i => V.str (sgT r m n i)))
  me : ∃ rs : List Addr, H me = some (.lst (rs.map V.ref)) ∧ rs.length = m ∧ ∀ i row, rs[i]? = some row → ∃ zs : List ZP, H row = some (.lst (zs.map zV)) ∧ TP H zs ∧ zs.map (·.2) = (List.range n).map fun j => (ledA r m i j, ledD r m i j)
theorem LedAt.ex {H H' : Hp} {me sg go : Addr} {r : Nat → Nat → Nat → Nat → Bool} {m n : Nat} (h : LedAt H me sg go r m n) (e : Ex H H') : LedAt H' me sg go r m n := by
  obtain ⟨rs, h1, h2, h3⟩ := h.me
  refine ⟨e.get h.go, e.get h.sg, rs, e.get h1, h2, fun i row hr => ?_⟩
  obtain ⟨zs, a, b, c⟩ := h3 i row hr
  exact ⟨zs, e.get a, b.ex e, c⟩
/-- what is told of the lambda that decides -/
def RuleOk (tl : List V → Hp → VK → Prop) (H : Hp) (r : Nat → Nat → Nat → Nat → Bool) (m n : Nat) : Prop := ∀ (i j a b : Nat) (H' : Hp) (Q : VK), i < m → j < n → a < m + n → b < m + n → Ex H H' → Q (.bl (r i j a b)) H' → tl [.int (i : Nat), .int (j : Nat), .int (a : Nat), .int (b : Nat)] H' Q
theorem ledA_lt {r : Nat → Nat → Nat → Nat → Bool} {m n i j : Nat} (hi : i < m) (hj : j ≤ n) : ledA r m i j < m + n := by
  have h := led_row r m i j
  have h1 : ledA r m i j ∈ (m - 1 - i) :: (List.range j).map (ledD r m i) := h.mem_iff.mp (List.mem_append_right _ (List.mem_singleton.mpr rfl))
  rcases List.mem_cons.mp h1 with e | e
  · omega
  · obtain ⟨c, hc, e⟩ := List.mem_map.mp e
    have := List.mem_range.mp hc
    have := ledE_lt (r := r) (m := m) (n := n) (i := i) (j := c) (by omega) (by omega)
    omega
/-- the rows of meetings, as far as they are led -/
def MeOk (H : Hp) (r : Nat → Nat → Nat → Nat → Bool) (m n i : Nat) (rs : List Addr) : Prop := rs.length = i ∧ ∀ k row, rs[k]? = some row → ∃ zs : List ZP, H row = some (.lst (zs.map zV)) ∧ TP H zs ∧ zs.map (·.2) = (List.range n).map fun j => (ledA r m k j, ledD r m k j)
theorem MeOk.fr {M : Addr → Prop} {H H' : Hp} {r : Nat → Nat → Nat → Nat → Bool} {m n i : Nat} {rs : List Addr} (h : MeOk H r m n i rs) (e : Fr M H H') (h1 : ∀ row ∈ rs, ¬ M row) (h2 : ∀ b q, H b = some (tupO q) → ¬ M b) : MeOk H' r m n i rs := ⟨h.1, fun k row hk => by
  obtain ⟨zs, a, b, c⟩ := h.2 k row hk
  exact ⟨zs, e.get (h1 _ (List.mem_of_getElem? hk)) a, fun z hz => e.get (h2 _ _ (b z hz)) (b z hz), c⟩⟩
theorem MeOk.snoc {H : Hp} {r : Nat → Nat → Nat → Nat → Bool} {m n i : Nat} {rs : List Addr} {row : Addr} {zs : List ZP} (h : MeOk H r m n i rs) (a : H row = some (.lst (zs.map zV))) (b : TP H zs) (c : zs.map (·.2) = (List.range n).map fun j => (ledA r m i j, ledD r m i j)) : MeOk H r m n (i + 1) (rs ++ [row]) := ⟨by rw [List.length_append, h.1]; rfl, fun k q hk => by
  by_cases hk1 : k < rs.length
  · rw [List.getElem?_append_left hk1] at hk
    exact h.2 k q hk
  · rw [List.getElem?_append_right (by omega)] at hk
    have : k = rs.length := by
      have := (List.getElem?_eq_some_iff.mp hk).1
      simp at this
      omega
    subst this
    rw [Nat.sub_self] at hk
    cases hk
    rw [h.1]
    exact ⟨zs, a, b, c⟩⟩
theorem tup_nlst {H : Hp} {a b : Addr} {q : Nat × Nat} {xs : List V} (h : H a = some (tupO q)) (k : H b = some (.lst xs)) : a ≠ b := fun e => by
  rw [e, k] at h
  cases h
theorem rgL_nVm (m n : Nat) : (rgL (m : Int) 1 n).map V.int = (List.range n).map fun j => nV (m + j) := by
  unfold rgL
  rw [List.map_map]
  refine List.map_congr_left fun j _ => ?_
  show V.int ((m : Int) + (j : Int) * 1) = V.int ((m + j : Nat) : Int)
  congr 1
  omega
theorem rep0 (n : Nat) : (List.replicate n [V.int 0]).flatten = (List.replicate n 0).map nV := by
  induction n with
  | zero => rfl
  | succ n ih => rw [List.replicate_succ, List.flatten_cons, ih, List.replicate_succ]; rfl
def sp_led (fl : Addr) (G : LF) (tl : List V → Hp → VK → Prop) : Sp := fun vs H Q _ => ∃ (m n : Nat), vs = [.int (m : Nat), .int (n : Nat), .ref fl] ∧ H fl = some (LamO fl G) ∧ H G.c = some (CodeO G.c G.qual) ∧ m ≤ 48 ∧ n ≤ 48 ∧ ∃ r, RuleOk tl H r m n ∧ ∀ t me sg go H', Ex H H' → H t = none → H' t = some (.tup [.ref me, .ref sg, .ref go]) → LedAt H' me sg go r m n → Q (.ref t) H'
theorem ok_led (T : Tx K mg ad fd tk base tc) : FnCb P w K mg base  2 1 (ad 5) (fd 5) ["many", "far", "crosses"] sp_led := by
  refine okCb T.d_led.F sc_led (by decide) (fun fl G tl vs H Q E h => ?_) (fun cdv A outer s H vs Q E fl G tl hr hcb h => ?_)
  · obtain ⟨m, n, rfl, _⟩ := h
    rfl
  · obtain ⟨m, n, rfl, hl, hc, hm, hn, r, hr2, k⟩ := h
    refine ⟨_, (pss_cons (ps_set (i := 3) sc_led.nd rfl (Or.inl rfl) (pe_listRgC rfl (by rfl) T.b_list (prgC (by rfl) T.b_range (pa_cons (pv 0) (pa_cons (pe_op o_add (pv 0) (pv 1)) pa_nil)))))
      (pss_cons (ps_set (i := 4) sc_led.nd rfl (Or.inl rfl) (pe_lst pa_nil))
      (pss_cons (ps_set (i := 5) sc_led.nd rfl (Or.inl rfl) (pe_lst pa_nil))
      (pss_cons (ps_set (i := 6) sc_led.nd rfl (Or.inl rfl) (pe_lst pa_nil))
      (pss_cons (ps_for PassesOwn.never rfl (pi_range1 rfl T.b_range (pa_cons (pv 0) pa_nil)) (pg_name (i := 7) sc_led.nd rfl (Or.inl rfl)) (pss_cons (ps_set (i := 8) sc_led.nd rfl (Or.inl rfl) (pe_op o_sub (pe_op o_sub (pv 0) pe_int) (pv 7)))
      (pss_cons (ps_set (i := 9) sc_led.nd rfl (Or.inl rfl) (pe_lst pa_nil))
      (pss_cons (ps_set (i := 10) sc_led.nd rfl (Or.inl rfl) pe_str)
      (pss_cons (ps_for PassesOwn.never rfl (pi_range1 rfl T.b_range (pa_cons (pv 1) pa_nil)) (pg_name (i := 11) sc_led.nd rfl (Or.inl rfl)) (pss_cons (ps_set (i := 12) sc_led.nd rfl (Or.inl rfl) (pe_ix (i_ix (K := K)) (pv 3) (pv 11) (fun _ _ => rfl)))
      (pss_cons (ps_expr (pe_bm PySem.F.plainAttrs_list PySem.F.slot_list_append PySem.F.type_list_append mt_append (pv 9) (pa_cons (pe_tup (pa_cons (pv 8) (pa_cons (pv 12) pa_nil))) pa_nil)))
      (pss_one (ps_if (pt_val (@hcb 2 _ _ _ _ _ _ rfl (Or.inl rfl) (pa_cons (pv 7) (pa_cons (pv 11) (pa_cons (pv 8) (pa_cons (pv 12) pa_nil)))) (by decide) (by decide) rfl rfl)) (pss_one (ps_aug (i := 10) sc_led.nd rfl (Or.inl rfl) pe_str ip_addS)) (pss_cons (ps_aug (i := 10) sc_led.nd rfl (Or.inl rfl) pe_str ip_addS)
      (pss_cons (ps_asg (pv 8) (pg_sub (pv 3) (pv 11) set_list))
      (pss_one (ps_set (i := 8) sc_led.nd rfl (Or.inl rfl) (pv 12))))))))))
      (pss_cons (ps_expr (pe_bm PySem.F.plainAttrs_list PySem.F.slot_list_append PySem.F.type_list_append mt_append (pv 5) (pa_cons (pv 9) pa_nil)))
      (pss_cons (ps_expr (pe_bm PySem.F.plainAttrs_list PySem.F.slot_list_append PySem.F.type_list_append mt_append (pv 6) (pa_cons (pv 10) pa_nil)))
      (pss_one (ps_expr (pe_bm PySem.F.plainAttrs_list PySem.F.slot_list_append PySem.F.type_list_append mt_append (pv 4) (pa_cons (pv 8) pa_nil)))))))))))
      (pss_cons (ps_set (i := 13) sc_led.nd rfl (Or.inl rfl) (pe_op o_mul (pe_lst (pa_cons pe_int pa_nil)) (pe_op o_add (pv 0) (pv 1))))
      (pss_cons (ps_for PassesOwn.never rfl (pi_enum rfl T.b_enumerate (pa_cons (pe_op o_add (pv 3) (pe_slice3 (pv 4) po_none po_none (pe_un un_neg pe_int) (K := K))) pa_nil)) (pg_tup rfl (pgs_cons (pg_name (i := 14) sc_led.nd rfl (Or.inl rfl)) (pgs_cons (pg_name (i := 15) sc_led.nd rfl (Or.inl rfl)) pgs_nil))) (pss_one (ps_asg (pv 14) (pg_sub (pv 13) (pv 15) set_list))))
      (pss_one (ps_ret (pe_tup (pa_cons (pv 5) (pa_cons (pv 6) (pa_cons (pv 13) pa_nil))))))))))))), ?_⟩
    walk_at "go"
    rename_i d G1 n1 e1 v1 ri G2 n2 e2 v2 me G3 n3 e3 v3 sg G4 n4 e4 v4
    rw [show ((m : Int) + (n : Int) - (m : Int)).toNat = n by omega, rgL_nVm] at v1
    have n02 := Ex.free e1 n2
    have n03 := Ex.free (e1.trans e2) n3
    have n04 := Ex.free ((e1.trans e2).trans e3) n4
    have d1 := (e2.trans (e3.trans e4)).get v1
    have d2 := (e3.trans e4).get v2
    have d3 := e4.get v3
    have e04 := (e1.trans e2).trans (e3.trans e4)
    have q12 : d ≠ ri := ne_of_none v1 n2
    have q13 : d ≠ me := ne_of_none (e2.get v1) n3
    have q14 : d ≠ sg := ne_of_none ((e2.trans e3).get v1) n4
    have q23 : ri ≠ me := ne_of_none v2 n3
    have q24 : ri ≠ sg := ne_of_none (e3.get v2) n4
    have q34 : me ≠ sg := ne_of_none v3 n4
    have q21 := q12.symm
    have q31 := q13.symm
    have q41 := q14.symm
    have q32 := q23.symm
    have q42 := q24.symm
    have q43 := q34.symm
    clear e1 e2 e3 e4 v1 v2 v3
    rw [Int.toNat_natCast]
    refine for_runs (runs_range 0 m) (fun i σ H' => Ex H H' ∧ H' d = some (.lst ((List.range n).map fun j => nV (ledD r m i j))) ∧ H' ri = some (.lst ((List.range i).map fun i => nV (ledA r m i n))) ∧ H' sg = some (.lst ((List.range i).map fun i => V.str (sgT r m n i))) ∧ (∃ rs : List Addr, H' me = some (.lst (rs.map V.ref)) ∧ MeOk H' r m n i rs ∧ ∀ row ∈ rs, row ≠ d ∧ row ≠ ri ∧ row ≠ me ∧ row ≠ sg) ∧ ∃ a7 a8 a9 a10 a11 a12 a13 a14 a15, σ = [some (.int (m : Nat)), some (.int (n : Nat)), some (.ref fl), some (.ref d), some (.ref ri), some (.ref me), some (.ref sg), a7, a8, a9, a10, a11, a12, a13, a14, a15]) ⟨e04, d1, d2, v4, ⟨[], d3, ⟨rfl, fun k row h => by cases h⟩, fun _ h => by cases h⟩, _, _, _, _, _, _, _, _, _, rfl⟩ (fun _ _ _ _ _ => trivial) ?_ ?_
    · rintro i x σ H5 H5' hi ⟨e5, b1, b2, b3, ⟨rs, b4, b5, b6⟩, a7, a8, a9, a10, a11, a12, a13, a14, a15, rfl⟩ ⟨rfl, rfl⟩
      walk_at "go"
      rename_i mt H6 n6 e6 v6
      have c1 := e6.get b1
      have c2 := e6.get b2
      have c3 := e6.get b3
      have c4 := e6.get b4
      have c5 : MeOk H6 r m n i rs := b5.fr (Fr.ex (M := fun _ => False) e6) (fun _ _ z => z) (fun _ _ _ z => z)
      have e06 := e5.trans e6
      have nm := Ex.free e5 n6
      have m1 : mt ≠ d := (ne_of_none b1 n6).symm
      have m2 : mt ≠ ri := (ne_of_none b2 n6).symm
      have m3 : mt ≠ me := (ne_of_none b4 n6).symm
      have m4 : mt ≠ sg := (ne_of_none b3 n6).symm
      have w1 := m1.symm
      have w2 := m2.symm
      have w3 := m3.symm
      have w4 := m4.symm
      have rm : ∀ row ∈ rs, row ≠ mt := fun row hr z => by
        obtain ⟨k, hk⟩ := List.getElem?_of_mem hr
        obtain ⟨zs, q, _⟩ := b5.2 k row hk
        exact ne_of_none q n6 z
      clear b1 b2 b3 b4 b5 e5 e6
      have ea : (m : Int) - 1 - (0 + (i : Int)) = ((ledA r m i 0 : Nat) : Int) := by rw [ledA_0]; omega
      rw [Int.toNat_natCast, ea, Int.zero_add, show (Str.ofString "") = tx [] from tx_nil]
      have c1' : H6 d = some (.lst ((List.range n).map fun c => nV (if c < 0 then ledD r m (i + 1) c else ledD r m i c))) := c1
      refine for_runs (runs_range 0 n) (fun j σ H' => Ex H H' ∧ H' d = some (.lst ((List.range n).map fun c => nV (if c < j then ledD r m (i + 1) c else ledD r m i c))) ∧ H' ri = some (.lst ((List.range i).map fun i => nV (ledA r m i n))) ∧ H' sg = some (.lst ((List.range i).map fun i => V.str (sgT r m n i))) ∧ H' me = some (.lst (rs.map V.ref)) ∧ MeOk H' r m n i rs ∧ (∃ zs : List ZP, H' mt = some (.lst (zs.map zV)) ∧ TP H' zs ∧ zs.map (·.2) = (List.range j).map fun j => (ledA r m i j, ledD r m i j)) ∧ ∃ a11 a12 a13 a14 a15, σ = [some (.int (m : Nat)), some (.int (n : Nat)), some (.ref fl), some (.ref d), some (.ref ri), some (.ref me), some (.ref sg), some (.int (i : Nat)), some (.int (ledA r m i j : Nat)), some (.ref mt), some (.str (tx ((List.range j).map fun j => if ledS r m i j = true then 120 else 111))), a11, a12, a13, a14, a15]) ⟨e06, c1', c2, c3, c4, c5, ⟨[], v6, (fun _ h => (by cases h)), rfl⟩, _, _, _, _, _, rfl⟩ (fun _ _ _ _ _ => trivial) ?_ ?_
      · rintro j x σ G G' hj ⟨e7, c1, c2, c3, c4, c5, ⟨zs, y1, y2, y3⟩, a11, a12, a13, a14, a15, rfl⟩ ⟨rfl, rfl⟩
        have g1 : atI ((List.range n).map fun c => nV (if c < j then ledD r m (i + 1) c else ledD r m i c)) (0 + (j : Int)) = some (nV (ledD r m i j)) := by
          rw [Int.zero_add, fn_at (f := fun c => nV (if c < j then ledD r m (i + 1) c else ledD r m i c)) hj, if_neg (Nat.lt_irrefl _)]
        walk_at "go"
        refine st_ixL c1 g1 ?_
        walk_at "go"
        rename_i T H7 n7 e8 v7
        have lz : zs.length = j := by have := congrArg List.length y3; simpa using this
        have k1 : (upd H7 mt (.lst (zs.map zV ++ [V.ref T]))) d = _ := (upd_ne w1).trans (e8.get c1)
        have k2 : (upd H7 mt (.lst (zs.map zV ++ [V.ref T]))) ri = _ := (upd_ne w2).trans (e8.get c2)
        have k3 : (upd H7 mt (.lst (zs.map zV ++ [V.ref T]))) sg = _ := (upd_ne w4).trans (e8.get c3)
        have k4 : (upd H7 mt (.lst (zs.map zV ++ [V.ref T]))) me = _ := (upd_ne w3).trans (e8.get c4)
        have y1' := e8.get y1
        have c5' : MeOk H7 r m n i rs := c5.fr (Fr.ex (M := fun _ => False) e8) (fun _ _ z => z) (fun _ _ _ z => z)
        have tp : TP H7 (zs ++ [(T, (ledA r m i j, ledD r m i j))]) := (y2.ex e8).app (TP.cons (z := (T, (ledA r m i j, ledD r m i j))) v7 fun _ h => (by cases h))
        refine st_app y1' (by rw [List.length_map, lz]; omega) ?_
        have k5 : MeOk (upd H7 mt (.lst (zs.map zV ++ [V.ref T]))) r m n i rs := c5'.fr (M := fun b => b = mt) FrP.at rm fun b q h => tup_nlst h y1'
        have tp2 : TP (upd H7 mt (.lst (zs.map zV ++ [V.ref T]))) _ := tp.up y1'
        have k6 : upd H7 mt (.lst (zs.map zV ++ [V.ref T])) mt = some (.lst ((zs ++ [(T, (ledA r m i j, ledD r m i j))]).map zV)) := by rw [upd_same, List.map_append]; rfl
        have k7 : Ex H (upd H7 mt (.lst (zs.map zV ++ [V.ref T]))) := (e7.trans e8).mut nm
        have k8 : (zs ++ [(T, (ledA r m i j, ledD r m i j))]).map (·.2) = (List.range (j + 1)).map fun j => (ledA r m i j, ledD r m i j) := by rw [List.map_append, y3, List.range_succ, List.map_append]; rfl
        generalize upd H7 mt (.lst (zs.map zV ++ [V.ref T])) = H8 at k1 k2 k3 k4 k5 k6 k7 tp2 ⊢
        clear c1 c2 c3 c4 c5 c5' y1 y1' y2 e7 e8 v7 tp e06 g1
        rw [Int.zero_add]
        walk_at "go"
        refine hr2 i j _ _ H8 _ hi hj (ledA_lt hi (by omega)) (ledE_lt (by omega) hj) k7 ?_
        rw [show r i j (ledA r m i j) (ledD r m i j) = ledS r m i j from rfl]
        have ew : (List.range n).map (fun c => nV (if c < j + 1 then ledD r m (i + 1) c else ledD r m i c)) = ((List.range n).map fun c => nV (if c < j then ledD r m (i + 1) c else ledD r m i c)).set j (nV (ledD r m (i + 1) j)) := by
          rw [fn_set]
          refine fn_congr fun c hc => ?_
          by_cases z : c = j
          · subst z
            rw [if_pos rfl, if_pos (by omega)]
          · rw [if_neg z]
            by_cases u : c < j
            · rw [if_pos u, if_pos (by omega)]
            · rw [if_neg u, if_neg (by omega)]
        have et : ∀ z : Nat, z = (if ledS r m i j = true then 120 else 111) → tx ((List.range j).map fun j => if ledS r m i j = true then 120 else 111) ++ tx [z] = tx ((List.range (j + 1)).map fun j => if ledS r m i j = true then 120 else 111) := fun z hz => by
          rw [tx_append, List.range_succ, List.map_append, hz]
          rfl
        cases hh : ledS r m i j with
        | true =>
          refine ⟨true, rfl, ?_⟩
          rw [if_pos rfl]
          walk_at "go"
          refine st_ipS (by rw [tx_length, List.length_map, List.length_range]; show j + 1 ≤ 16777216; omega) ?_
          have ea2 : ledA r m i (j + 1) = ledA r m i j := by rw [ledA_s, if_pos hh]
          rw [show Str.ofString "x" = tx [120] from by decide +kernel, et 120 (by rw [if_pos hh]), ea2]
          refine ⟨k7, ?_, k2, k3, k4, k5, ⟨_, k6, tp2, k8⟩, _, _, _, _, _, rfl⟩
          · rw [ew, k1, ledD_s, if_pos hh]
            congr 1
            rw [fn_set]
            exact congrArg HO.lst (fn_congr fun c hc => (by
              by_cases z : c = j
              · rw [if_pos z, if_neg (by omega), z]
              · rw [if_neg z]))
        | false =>
          have hx : ixN ((List.range n).map fun c => nV (if c < j then ledD r m (i + 1) c else ledD r m i c)).length (j : Nat) = some j := fn_ix hj
          refine ⟨false, rfl, ?_⟩
          rw [if_neg (by decide)]
          walk_at "go"
          refine st_ipS (by rw [tx_length, List.length_map, List.length_range]; show j + 1 ≤ 16777216; omega) ?_
          walk_at "go"
          refine st_setL k1 hx ?_
          walk_at "go"
          have ea2 : ledA r m i (j + 1) = ledD r m i j := by rw [ledA_s, if_neg (by rw [hh]; decide)]
          rw [show Str.ofString "o" = tx [111] from by decide +kernel, et 111 (by rw [if_neg (by rw [hh]; decide)]), ea2]
          have tf : ∀ b q, H8 b = some (tupO q) → ¬ b = d := fun b q h => tup_nlst h k1
          have fp : ∀ o, FrP d H8 (upd H8 d o) := fun _ => FrP.at
          refine ⟨k7.mut n1, ?_, (upd_ne q21).trans k2, (upd_ne q41).trans k3, (upd_ne q31).trans k4, k5.fr (fp _) (fun row hr => (b6 row hr).1) tf, ⟨_, (upd_ne m1).trans k6, fun z hz => (fp _).get (tf _ _ (tp2 z hz)) (tp2 z hz), k8⟩, _, _, _, _, _, rfl⟩
          · rw [upd_same, ew, ledD_s, if_neg (by rw [hh]; decide)]
            rfl
      · rintro σ G ⟨e7, c1, c2, c3, c4, c5, ⟨zs, y1, y2, y3⟩, a11, a12, a13, a14, a15, rfl⟩
        have c1'' : G d = some (.lst ((List.range n).map fun c => nV (ledD r m (i + 1) c))) := by
          rw [c1]
          congr 2
          exact fn_congr fun c hc => by rw [if_pos hc]
        clear c1 c1'
        walk_at "go"
        refine st_app c4 (by rw [List.length_map, c5.1]; omega) ?_
        have x3 : (upd G me (.lst (rs.map V.ref ++ [V.ref mt]))) sg = _ := (upd_ne q43).trans c3
        walk_at "go"
        refine st_app x3 (by rw [List.length_map, List.length_range]; omega) ?_
        have x2 : (upd (upd G me (.lst (rs.map V.ref ++ [V.ref mt]))) sg (.lst (((List.range i).map fun i => V.str (sgT r m n i)) ++ [V.str (tx ((List.range n).map fun j => if ledS r m i j = true then 120 else 111))]))) ri = _ := (upd_ne q24).trans ((upd_ne q23).trans c2)
        walk_at "go"
        refine st_app x2 (by rw [List.length_map, List.length_range]; omega) ?_
        have fr : Fr (fun b => b = me ∨ b = sg ∨ b = ri) G (upd (upd (upd G me (.lst (rs.map V.ref ++ [V.ref mt]))) sg (.lst (((List.range i).map fun i => V.str (sgT r m n i)) ++ [V.str (tx ((List.range n).map fun j => if ledS r m i j = true then 120 else 111))]))) ri (.lst (((List.range i).map fun i => nV (ledA r m i n)) ++ [V.int (ledA r m i n : Nat)]))) := ((Fr.at (.inl rfl)).trans (Fr.at (.inr (.inl rfl)))).trans (Fr.at (.inr (.inr rfl)))
        have nl : ∀ b q, G b = some (tupO q) → ¬ (b = me ∨ b = sg ∨ b = ri) := fun b q h z => by
          rcases z with z | z | z
          · exact tup_nlst h c4 z
          · exact tup_nlst h c3 z
          · exact tup_nlst h c2 z
        have nr : ∀ row ∈ rs, ¬ (row = me ∨ row = sg ∨ row = ri) := fun row hr z => by
          obtain ⟨h1, h2, h3, h4⟩ := b6 row hr
          rcases z with z | z | z
          · exact h3 z
          · exact h4 z
          · exact h2 z
        have nm' : ¬ (mt = me ∨ mt = sg ∨ mt = ri) := fun z => by
          rcases z with z | z | z
          · exact m3 z
          · exact m4 z
          · exact m2 z
        refine ⟨((e7.mut n03).mut n04).mut n02, (upd_ne q12).trans ((upd_ne q14).trans ((upd_ne q13).trans c1'')), ?_, ?_, ⟨rs ++ [mt], ?_, (c5.fr fr nr nl).snoc (fr.get nm' y1) (fun z hz => fr.get (nl _ _ (y2 z hz)) (y2 z hz)) y3, ?_⟩, _, _, _, _, _, _, _, _, _, rfl⟩
        · rw [upd_same, List.range_succ, List.map_append]; rfl
        · rw [upd_ne q42, upd_same, List.range_succ, List.map_append]; rfl
        · rw [upd_ne q32, upd_ne q34, upd_same, List.map_append]; rfl
        · intro row hr
          rcases List.mem_append.mp hr with z | z
          · exact b6 row z
          · rw [List.mem_singleton.mp z]
            exact ⟨m1, m2, m3, m4⟩
    · rintro σ G ⟨e7, b1, b2, b3, ⟨rs, b4, b5, b6⟩, a7, a8, a9, a10, a11, a12, a13, a14, a15, rfl⟩
      walk_at "go"
      rename_i p1 G5 n5 e5 v5 go G6 n6 e6 v6
      rw [show ((m : Int) + (n : Int)).toNat = m + n by omega, rep0] at v6
      have e56 := e5.trans e6
      refine st_revL (lstAt_sq (lst_of (e56.get b2))) fun q7 G7 n7 e7' v7 => ?_
      refine st_addL ((e56.trans e7').get b1) v7 (by rw [List.length_reverse, List.length_map, List.length_range, List.length_map, List.length_range]; omega) fun q8 G8 n8 e8 v8 => ?_
      have v8' : G8 q8 = some (.lst ((ledE r m n).map nV)) := by
        rw [v8]
        unfold ledE
        rw [List.map_append, List.map_map, List.map_reverse, List.map_map]
        rfl
      walk_at "go"
      have e0 : Ex H G8 := ((e7.trans e56).trans e7').trans e8
      have v6' := (e7'.trans e8).get v6
      have n0 : H go = none := Ex.free (e7.trans e5) n6
      have hq : q8 ≠ go := (ne_of_none (e7'.get v6) n8).symm
      have le := ledE_len r m n
      have hT := ledE_T r m n
      have B1 : G8 sg = _ := ((e56.trans e7').trans e8).get b3
      have B2 : G8 me = _ := ((e56.trans e7').trans e8).get b4
      have B3 : MeOk G8 r m n m rs := b5.fr (Fr.ex (M := fun _ => False) ((e56.trans e7').trans e8)) (fun _ _ z => z) (fun _ _ _ z => z)
      have B4 : go ≠ sg := (ne_of_none (e5.get b3) n6).symm
      have B5 : go ≠ me := (ne_of_none (e5.get b4) n6).symm
      have B6 : ∀ row ∈ rs, row ≠ go := fun row hr => (by
        obtain ⟨k, hk⟩ := List.getElem?_of_mem hr
        obtain ⟨zs, q, _⟩ := b5.2 k row hk
        exact ne_of_none (e5.get q) n6)
      clear e56 e7 e7' e8 e5 e6 b1 b2 b3 b4 b5 v5 v6 v7 v8
      refine for_runs (runs_enum _ q8 _) (fun i σ H' => FrP go G8 H' ∧ (∃ rs : List Nat, rs.length = m + n ∧ (∀ j, j < i → gT rs (gT (ledE r m n) j) = j) ∧ H' go = some (.lst (rs.map nV))) ∧ ∃ y z, σ = [some (.int (m : Nat)), some (.int (n : Nat)), some (.ref fl), some (.ref d), some (.ref ri), some (.ref me), some (.ref sg), a7, a8, a9, a10, a11, a12, some (.ref go), y, z]) ⟨Fr.refl _, ⟨_, List.length_replicate, fun j h => absurd h (Nat.not_lt_zero _), v6'⟩, _, _, rfl⟩ (fun i σ H' _ h => lst_of (h.1.get hq v8')) ?_ ?_
      · rintro i x σ H4 H5 hi ⟨f4, ⟨ws, h1, h2, h3⟩, y, z, rfl⟩ ⟨T, v, rfl, nT, eT, vT, hv⟩
        obtain ⟨hil, rfl⟩ := nV_at hv
        have h3' := eT.get h3
        walk_at "go"
        have hlt := hT.g_lt hil
        have hxl : ixN (List.map nV ws).length (((gT (ledE r m n) i : Nat) : Nat) : Int) = some (gT (ledE r m n) i) := by
          rw [List.length_map]
          exact Evl.ixN_nat (by omega)
        refine st_setL h3' hxl ?_
        refine ⟨(f4.trans (Fr.ex eT)).trans FrP.at, ⟨ws.set (gT (ledE r m n) i) i, by rw [List.length_set]; exact h1, fun j hj => ?_, ?_⟩, _, _, rfl⟩
        · rw [gT_set (by omega)]
          by_cases q : gT (ledE r m n) j = gT (ledE r m n) i
          · have : j = i := hT.inj (by omega) hil q
            subst this
            rw [if_pos rfl]
          · rw [if_neg q]
            refine h2 j ?_
            have : j ≠ i := fun e => q (by rw [e])
            omega
        · rw [upd_same, List.map_set]
          rfl
      · rintro σ H4 ⟨f4, ⟨ws, h1, h2, h3⟩, y, z, rfl⟩
        have this : ws = invT (ledE r m n) := gT_ext (by rw [invT_len, h1, le]) fun v hv => by
          rw [h1] at hv
          rw [invT_g (by omega)]
          have := h2 ((ledE r m n).idxOf v) (by rw [List.length_map]; exact hT.idx_lt (by omega))
          rwa [hT.g_idx (by omega)] at this
        subst this
        have eF := Ex.comp (M := fun b => b = go) e0 f4 fun b hb => by rw [hb]; exact n0
        walk_at "go"
        rename_i t G9 n9 e9 v9
        refine k t me sg go G9 (eF.trans e9) (Ex.free eF n9) v9 ?_
        refine LedAt.ex ⟨h3, f4.get (fun z => B4 z.symm) B1, rs, f4.get (fun z => B5 z.symm) B2, B3.1, fun i row hr => ?_⟩ e9
        obtain ⟨zs, z1, z2, z3⟩ := B3.2 i row hr
        refine ⟨zs, f4.get (B6 _ (List.mem_of_getElem? hr)) z1, fun z hz => ?_, z3⟩
        exact f4.get (tup_nlst (z2 z hz) v6') (z2 z hz)
def sp__law_at (K : PySem.W.Frag) : Sp := fun vs H Q _ => ∃ (a : Addr) (ns : List Int) (j : Int), vs = [.ref a, .int j] ∧ SqL K H a (ns.map V.int) ∧ (0 ≤ j ∧ j < 1000000) ∧ ns.length ≤ 63 ∧ ∀ z : Int, Q (.int z) H
theorem ok__law_at (T : Tx K mg ad fd tk base tc) : FnOk P w K mg base CX0 1 (ad 6) (fd 6) ["_law_script", "_law_k"] (sp__law_at K) := by
  refine T.d__law_at.F.ok sc__law_at (fun vs H Q E h => ?_) (fun cdv A outer s H vs Q E hr h => ?_)
  · obtain ⟨a, ns, j, rfl, _⟩ := h
    rfl
  · obtain ⟨a, ns, j, rfl, hs, hj, hl, k⟩ := h
    refine ⟨_, (pss_cons (ps_if (pt_cmpR o_lt (pv 1) (pe_callB (c_len (K := K)) (by rfl) T.b_len (by decide +kernel) (pa_cons (pv 0) pa_nil)) (nomark _)) (pss_one (ps_ret (pe_ix (i_ix (K := K)) (pv 0) (pv 1) (fun _ _ => rfl)))) pss_nil)
      (pss_one (ps_ret pe_int))), ?_⟩
    walk_at "go"
    refine st_lenK hs ?_
    walk_at "go"
    refine st_br2 (fun c => ?_) (fun c => ?_)
    · walk_at "go"
      rw [List.length_map] at c
      obtain ⟨v, h2, h3⟩ := at_in (xs := ns.map V.int) hj.1 (by rw [List.length_map]; exact c)
      rw [List.getElem?_map] at h3
      cases q : ns[j.toNat]? with
      | none => rw [q] at h3; cases h3
      | some z =>
        rw [q] at h3
        cases h3
        exact st_ixK hs h2 (k z)
    · walk_at "go"
      exact k _
def sp__law_mix : Sp := fun vs H Q _ => ∃ c j : Int, vs = [.int c, .int j] ∧ ∀ z : Int, Q (.int z) H
theorem ok__law_mix (T : Tx K mg ad fd tk base tc) : FnOk P w K mg base CX0 1 (ad 7) (fd 7) ["_law_cell", "_law_k"] sp__law_mix := by
  refine T.d__law_mix.F.ok sc__law_mix (fun vs H Q E h => ?_) (fun cdv A outer s H vs Q E hr h => ?_)
  · obtain ⟨c, j, rfl, _⟩ := h
    rfl
  · obtain ⟨c, j, rfl, k⟩ := h
    refine ⟨_, (pss_cons (ps_set (i := 2) sc__law_mix.nd rfl (Or.inl rfl) (pe_op o_mod (pe_op o_mul (pe_op o_add (pe_op o_add (pe_op o_mod (pv 0) pe_int) (pe_op o_mul pe_int (pv 1))) pe_int) pe_int) pe_int))
      (pss_cons (ps_set (i := 3) sc__law_mix.nd rfl (Or.inl rfl) (pe_op o_mod (pe_op o_mul (pe_op o_add (pe_op o_mod (pv 2) pe_int) pe_int) (pe_op o_add (pe_op o_add (pe_op o_div (pv 2) pe_int) (pe_op o_mod (pe_op o_div (pv 0) pe_int) pe_int)) pe_int)) pe_int))
      (pss_one (ps_ret (pe_op o_div (pv 3) pe_int))))), ?_⟩
    walk_at "go"
    exact k _
/-- a text of signs, of at most n -/
def RG (z : Str) (n : Int) : Prop := (z.length : Int) ≤ n ∧ ∀ c ∈ z.cps.toList, rowSign c = true
theorem RG.row {z : Str} {n : Int} (h : RG z n) (hn : n ≤ 48) : RowS z := by
  show (decide (z.length ≤ 48) && z.cps.toList.all rowSign) = true
  rw [Bool.and_eq_true, decide_eq_true_eq, List.all_eq_true]
  exact ⟨by have := h.1; omega, h.2⟩
theorem RG.nil : RG (tx []) 0 := ⟨by decide, fun c h => by cases h⟩
theorem RG.one {c : Nat} (h : rowSign c = true) : RG (tx [c]) 1 := ⟨by rw [tx_length]; exact Int.le_refl _, fun d hd => by rw [tx_toList, List.mem_singleton] at hd; rw [hd]; exact h⟩
theorem RG.app {y z : Str} {m n : Int} (h : RG y m) (k : RG z n) : RG (y ++ z) (m + n) := ⟨by rw [Str.length_append]; have := h.1; have := k.1; omega, fun c hc => by
  have : (y ++ z).cps.toList = y.cps.toList ++ z.cps.toList := by
    show (y.cps ++ z.cps).toList = _
    simp
  rw [this] at hc
  exact (List.mem_append.mp hc).elim (h.2 c) (k.2 c)⟩
theorem RG.up {z : Str} {m n : Int} (h : RG z m) (e : m ≤ n) : RG z n := ⟨by have := h.1; omega, h.2⟩
theorem RG.cut {z : Str} {m : Int} {lo hi : Option Int} (h : RG z m) : RG (cutS z lo hi) m := ⟨by have := h.1; have := cutS_len z lo hi; omega, fun c hc => by
  have e : (cutS z lo hi).cps.toList = ((z.cps.toList.drop (HT.sIx z.length 0 lo)).take (HT.sIx z.length z.length hi - HT.sIx z.length 0 lo)) := by simp [cutS]
  rw [e] at hc
  exact h.2 c (List.mem_of_mem_drop (List.mem_of_mem_take hc))⟩
theorem RG.cap {z : Str} {m n : Int} (h : RG z m) (h0 : 0 ≤ n) : RG (cutS z none (some n)) n := ⟨by
  by_cases q : n ≤ (z.length : Int)
  · obtain ⟨k, rfl⟩ := Int.eq_ofNat_of_zero_le h0
    have := cutS_to_len z k (by omega)
    omega
  · have := cutS_len z none (some n)
    omega, h.cut.2⟩
theorem RG.len {z : Str} {n : Int} (h : RG z n) : (z.length : Int) ≤ n := h.1
theorem signs27 : ("abcdefghijklmnopqrstuvwxyz." : Str).cps.toList.all rowSign = true := by decide +kernel
theorem signs27_len : ("abcdefghijklmnopqrstuvwxyz." : Str).cps.toList.length = 27 := by decide +kernel
theorem at_27 {i : Int} (h0 : 0 ≤ i) (h1 : i < 27) : ∃ c, atI ("abcdefghijklmnopqrstuvwxyz." : Str).cps.toList i = some c ∧ rowSign c = true := by
  obtain ⟨v, h2, h3⟩ := at_in (xs := ("abcdefghijklmnopqrstuvwxyz." : Str).cps.toList) h0 (by rw [signs27_len]; exact h1)
  exact ⟨v, h2, List.all_eq_true.mp signs27 v (List.mem_of_getElem? h3)⟩
theorem sqL_to {K : PySem.W.Frag} {H H' : Hp} {a : Addr} {xs : List V} (h : SqL K H a xs) (e : Ex (noT H) H') : SqL K H' a xs := by
  rcases h with (h | ⟨o, h⟩) | h
  · exact .inl (.inl (e.get (noT_get h fun _ z => by cases z)))
  · exact .inl (.inr ⟨o, e.get (noT_get h fun _ z => by cases z)⟩)
  · exact .inr h
theorem sqL_ex {K : PySem.W.Frag} {H H' : Hp} {a : Addr} {xs : List V} (h : SqL K H a xs) (e : Ex H H') : SqL K H' a xs := sqL_to h ((noT_ex H).trans e)
def sp__law_put : Sp := fun vs H Q _ => ∃ (z : Str) (c n w d : Int), vs = [.str z, .int c, .int n, .int w, .int d] ∧ RG z n ∧ (0 ≤ n ∧ n ≤ 48) ∧ (1 ≤ w ∧ w ≤ 27) ∧ ∀ z', RG z' n → Q (.str z') H
theorem ok__law_put (T : Tx K mg ad fd tk base tc) : FnOk P w K mg base CX0 2 (ad 8) (fd 8) ["_law_row", "_law_cell", "_law_cap", "_law_wide", "_law_shift"] sp__law_put := by
  refine T.d__law_put.F.ok sc__law_put (fun vs H Q E h => ?_) (fun cdv A outer s H vs Q E hr h => ?_)
  · obtain ⟨z, c, n, w, d, rfl, _⟩ := h
    rfl
  · obtain ⟨z, c, n, w, d, rfl, hz, hn, hw, k⟩ := h
    refine ⟨_, (pss_cons (ps_set (i := 5) sc__law_put.nd rfl (Or.inl rfl) pe_str)
      (pss_cons (ps_set (i := 6) sc__law_put.nd rfl (Or.inl rfl) pe_str)
      (pss_cons (ps_if (pt_cmpR o_ge (pv 1) (pe_op o_pow pe_int pe_int) (nomark _)) (pss_cons (ps_set (i := 7) sc__law_put.nd rfl (Or.inl rfl) (pe_op o_mod (pv 1) (pe_op o_add (pv 2) pe_int)))
      (pss_cons (ps_set (i := 1) sc__law_put.nd rfl (Or.inl rfl) (pe_op o_div (pv 1) (pe_op o_add (pv 2) pe_int)))
      (pss_cons (ps_for PassesOwn.never rfl (pi_range1 rfl T.b_range (pa_cons (pv 7) pa_nil)) (pg_name (i := 8) sc__law_put.nd rfl (Or.inl rfl)) (pss_cons (ps_set (i := 6) sc__law_put.nd rfl (Or.inl rfl) (pe_op o_add (pv 6) (pe_ix (i_ix (K := K)) (pv 5) (pe_op o_mod (pe_op o_add (pv 4) (pe_op o_mul pe_int (pe_op o_mod (pv 1) (pv 3)))) pe_int) (fun _ _ => rfl))))
      (pss_one (ps_set (i := 1) sc__law_put.nd rfl (Or.inl rfl) (pe_op o_div (pv 1) (pv 3))))))
      (pss_one (ps_ret (pv 6)))))) pss_nil)
      (pss_cons (ps_set (i := 7) sc__law_put.nd rfl (Or.inl rfl) pe_int)
      (pss_cut (ps_if (pt_cmpR (o_eq hr.units) (pe_op o_mod (pv 1) pe_int) pe_int (nomark _)) (pss_one (ps_set (i := 7) sc__law_put.nd rfl (Or.inl rfl) (pe_op o_add pe_int (pe_op o_mod (pe_call (ok__law_mix T) (hr.mono (by decide)) rfl T.d__law_mix.g T.d__law_mix.F.kp T.d__law_mix.b .nil pass0 (pa_cons (pv 1) (pa_cons pe_int pa_nil))) pe_int)))) pss_nil)
      (pss_cons (ps_for PassesOwn.never rfl (pi_range1 rfl T.b_range (pa_cons (pv 7) pa_nil)) (pg_name (i := 8) sc__law_put.nd rfl (Or.inl rfl)) (pss_one (ps_set (i := 6) sc__law_put.nd rfl (Or.inl rfl) (pe_op o_add (pv 6) (pe_ix (i_ix (K := K)) (pv 5) (pe_op o_mod (pe_op o_add (pv 4) (pe_op o_mul pe_int (pe_op o_mod (pe_call (ok__law_mix T) (hr.mono (by decide)) rfl T.d__law_mix.g T.d__law_mix.F.kp T.d__law_mix.b .nil pass0 (pa_cons (pv 1) (pa_cons (pe_op o_add (pv 8) pe_int) pa_nil))) (pv 3)))) pe_int) (fun _ _ => rfl))))))
      (pss_cons (ps_set (i := 9) sc__law_put.nd rfl (Or.inl rfl) (pe_op o_mod (pe_call (ok__law_mix T) (hr.mono (by decide)) rfl T.d__law_mix.g T.d__law_mix.F.kp T.d__law_mix.b .nil pass0 (pa_cons (pv 1) (pa_cons pe_int pa_nil))) (pe_op o_add (pe_callB (c_len (K := K)) (by rfl) T.b_len (by decide +kernel) (pa_cons (pv 0) pa_nil)) pe_int)))
      (pss_one (ps_ret (pe_slice (s_sl (K := K)) (pe_op o_add (pe_op o_add (pe_slice (s_sl (K := K)) (pv 0) po_none (po_some (pv 9))) (pv 6)) (pe_slice (s_sl (K := K)) (pv 0) (po_some (pv 9)) po_none)) po_none (po_some (pv 2)))))))))))), ?_⟩
    have hzl := hz.1
    walk_at "go"
    refine st_br2 (fun c1 => ?_) (fun c1 => ?_)
    · have b0 := Int.emod_nonneg c (b := n + 1) (by omega)
      have b1 := Int.emod_lt_of_pos c (b := n + 1) (by omega)
      walk_at "go"
      rw [Zb.tx_nil]
      refine for_runs (runs_range 0 _) (fun i σ H' => H' = H ∧ ∃ z' c' a8 a9, RG z' i ∧ σ = [some (.str z), some (.int c'), some (.int n), some (.int w), some (.int d), some (.str "abcdefghijklmnopqrstuvwxyz."), some (.str z'), some (.int (c % (n + 1))), a8, a9]) ⟨rfl, _, _, _, _, RG.nil, rfl⟩ (fun _ _ _ _ _ => trivial) ?_ ?_
      · rintro i x σ H1 H2 hi ⟨rfl, z', c', a8, a9, r, rfl⟩ ⟨rfl, rfl⟩
        have := r.1
        walk_at "go"
        obtain ⟨e, e1, e2⟩ := at_27 (i := (d + 5 * (c' % w)) % 27) (Int.emod_nonneg _ (by decide)) (Int.emod_lt_of_pos _ (by decide))
        refine st_sign (by decide) e1 ?_
        walk_at "go"
        exact ⟨rfl, _, _, _, _, r.app (RG.one e2), rfl⟩
      · rintro σ H1 ⟨rfl, z', c', a8, a9, r, rfl⟩
        walk_at "go"
        exact k _ (r.up (by omega))
    · rw [Zb.tx_nil]
      refine ⟨fun σ H' => H' = H ∧ ∃ m a8 a9, (1 ≤ m ∧ m ≤ 12) ∧ σ = [some (.str z), some (.int c), some (.int n), some (.int w), some (.int d), some (.str "abcdefghijklmnopqrstuvwxyz."), some (.str (tx [])), some (.int m), a8, a9], ?_, ?_⟩
      · walk_at "go"
        refine st_br2 (fun c2 => ?_) (fun c2 => ?_)
        · walk_at "go"
          refine ⟨_, _, rfl, fun u => ?_⟩
          have b0 := Int.emod_nonneg u (b := 11) (by omega)
          have b1 := Int.emod_lt_of_pos u (b := 11) (by omega)
          walk_at "go"
          exact ⟨rfl, _, _, _, by omega, rfl⟩
        · walk_at "go"
          exact ⟨rfl, 1, _, _, by decide, rfl⟩
      · rintro σ H1 ⟨rfl, m, a8, a9, hm, rfl⟩
        walk_at "go"
        refine for_runs (runs_range 0 _) (fun i σ H' => H' = H1 ∧ ∃ z' a8 a9, RG z' i ∧ σ = [some (.str z), some (.int c), some (.int n), some (.int w), some (.int d), some (.str "abcdefghijklmnopqrstuvwxyz."), some (.str z'), some (.int m), a8, a9]) ⟨rfl, _, _, _, RG.nil, rfl⟩ (fun _ _ _ _ _ => trivial) ?_ ?_
        · rintro i x σ H2 H3 hi ⟨rfl, z', a8, a9, r, rfl⟩ ⟨rfl, rfl⟩
          have := r.1
          walk_at "go"
          refine ⟨_, _, rfl, fun u => ?_⟩
          walk_at "go"
          obtain ⟨e, e1, e2⟩ := at_27 (i := (d + 5 * (u % w)) % 27) (Int.emod_nonneg _ (by decide)) (Int.emod_lt_of_pos _ (by decide))
          refine st_sign (by decide) e1 ?_
          walk_at "go"
          exact ⟨rfl, _, _, _, r.app (RG.one e2), rfl⟩
        · rintro σ H2 ⟨rfl, z', a8, a9, r, rfl⟩
          have := r.1
          walk_at "go"
          refine ⟨_, _, rfl, fun u => ?_⟩
          walk_at "go"
          have r1 : RG (cutS z none (some (u % (↑z.length + 1)))) n := hz.cut
          have r2 : RG (cutS z (some (u % (↑z.length + 1))) none) n := hz.cut
          have l1 := (r1.app r).1
          have l2 := ((r1.app r).app r2).1
          refine st_addS (by rw [Str.length_append] at l1; omega) ?_
          walk_at "go"
          refine st_addS (by rw [Str.length_append] at l2; omega) ?_
          walk_at "go"
          have l3 : (cutS z none (some (u % (↑z.length + 1))) ++ z' ++ cutS z (some (u % (↑z.length + 1))) none).length ≤ 16777216 := by omega
          first
            | exact k _ (((r1.app r).app r2).cap hn.1)
            | exact st_slS l3 (k _ (((r1.app r).app r2).cap hn.1))
def sp__law_two (K : PySem.W.Frag) : Sp := fun vs H Q _ => ∃ (a : Addr) (ns : List Int) (n : Int), vs = [.ref a, .int n] ∧ SqL K H a (ns.map V.int) ∧ (0 ≤ n ∧ n ≤ 48) ∧ ns.length ≤ 63 ∧ ∀ q y z H', Ex H H' → H q = none → H' q = some (.lst [.str y, .str z]) → RG y n → RG z n → Q (.ref q) H'
theorem ok__law_two (T : Tx K mg ad fd tk base tc) : FnOk P w K mg base CX0 3 (ad 9) (fd 9) ["_law_script", "_law_cap"] (sp__law_two K) := by
  refine T.d__law_two.F.ok sc__law_two (fun vs H Q E h => ?_) (fun cdv A outer s H vs Q E hr h => ?_)
  · obtain ⟨a, ns, n, rfl, _⟩ := h
    rfl
  · obtain ⟨a, ns, n, rfl, hs, hn, hl, k⟩ := h
    refine ⟨_, (pss_cons (ps_set (i := 2) sc__law_two.nd rfl (Or.inl rfl) (pe_ix (i_ix (K := K)) (pe_lst (pa_cons pe_int (pa_cons pe_int (pa_cons pe_int (pa_cons pe_int (pa_cons pe_int (pa_cons pe_int pa_nil))))))) (pe_op o_mod (pe_call (ok__law_at T) (hr.mono (by decide)) rfl T.d__law_at.g T.d__law_at.F.kp T.d__law_at.b .nil pass0 (pa_cons (pv 0) (pa_cons pe_int pa_nil))) pe_int) (fun _ _ => rfl)))
      (pss_cons (ps_set (i := 3) sc__law_two.nd rfl (Or.inl rfl) (pe_op o_mod (pe_op o_div (pe_call (ok__law_at T) (hr.mono (by decide)) rfl T.d__law_at.g T.d__law_at.F.kp T.d__law_at.b .nil pass0 (pa_cons (pv 0) (pa_cons pe_int pa_nil))) pe_int) pe_int))
      (pss_cons (ps_set (i := 4) sc__law_two.nd rfl (Or.inl rfl) (pe_lst (pa_cons pe_str (pa_cons pe_str pa_nil))))
      (pss_cons (ps_for PassesOwn.never rfl (pi_list (pe_slice (s_sl (K := K)) (pv 0) (po_some pe_int) (po_some pe_int))) (pg_name (i := 5) sc__law_two.nd rfl (Or.inl rfl)) (pss_one (ps_asg (pe_call (ok__law_put T) (hr.mono (by decide)) rfl T.d__law_put.g T.d__law_put.F.kp T.d__law_put.b .nil pass0 (pa_cons (pe_ix (i_ix (K := K)) (pv 4) (pe_op o_mod (pv 5) pe_int) (fun _ _ => rfl)) (pa_cons (pe_op o_div (pv 5) pe_int) (pa_cons (pv 1) (pa_cons (pv 2) (pa_cons (pv 3) pa_nil)))))) (pg_sub (pv 4) (pe_op o_mod (pv 5) pe_int) set_list))))
      (pss_one (ps_ret (pv 4))))))), ?_⟩
    walk_at "go"
    rename_i q1 H1 n1 e1 v1
    refine ⟨a, ns, 0, rfl, sqL_ex hs e1, by decide, hl, fun c => ?_⟩
    walk_at "go"
    have b0 := Int.emod_nonneg c (b := 6) (by omega)
    have b1 := Int.emod_lt_of_pos c (b := 6) (by omega)
    refine st_ixI [2, 3, 1, 4, 6, 27] (by walk_at "hp") rfl b0 b1 (fun w _ hw => ?_)
    have hw : 1 ≤ w ∧ w ≤ 27 := by simp at hw; omega
    walk_at "go"
    refine ⟨a, ns, 0, rfl, sqL_ex hs e1, by decide, hl, fun c2 => ?_⟩
    walk_at "go"
    rename_i q H2 n2 e2 v2
    have e12 := e1.trans e2
    have nq : H q = none := Ex.free e1 n2
    rw [show Str.ofString "" = tx [] from Zb.tx_nil] at v2
    refine st_slK (sqL_ex hs e12) fun q3 H3 n3 e3 v3 => ?_
    rw [cutV_map] at v3
    have hcl := cutL_len ns (some 1) (some 63)
    generalize cutL ns (some 1) (some 63) = cells at v3 hcl
    have q3q : q3 ≠ q := (ne_of_none v2 n3).symm
    have w3 := e3.get v2
    have e13 := e12.trans e3
    walk_at "go"
    refine for_runs (rv_list K q3 cells V.int) (fun i σ H' => FrP q H3 H' ∧ (∃ y z, H' q = some (.lst [.str y, .str z]) ∧ RG y n ∧ RG z n) ∧ ∃ a5, σ = [some (.ref a), some (.int n), some (.int w), some (.int (c2 / 6 % 27)), some (.ref q), a5]) ⟨Fr.refl _, ⟨_, _, w3, RG.nil.up hn.1, RG.nil.up hn.1⟩, _, rfl⟩ (fun i σ H' _ h => lst_of (h.1.get q3q v3)) ?_ ?_
    · rintro i x σ H4 H5 hi ⟨f4, ⟨y, z, h1, h2, h3⟩, a5, rfl⟩ ⟨rfl, u, hu, rfl⟩
      walk_at "go"
      rcases (by omega : u % 2 = 0 ∨ u % 2 = 1) with hz | hz
      · rw [hz]
        refine st_ixL h1 (v := .str y) rfl ?_
        walk_at "go"
        refine ⟨y, _, n, w, _, rfl, h2, hn, hw, fun y' r => ?_⟩
        walk_at "go"
        rw [hz]
        refine st_setL h1 (j := 0) rfl ?_
        exact ⟨f4.trans FrP.at, ⟨y', z, upd_same, r, h3⟩, _, rfl⟩
      · rw [hz]
        refine st_ixL h1 (v := .str z) rfl ?_
        walk_at "go"
        refine ⟨z, _, n, w, _, rfl, h3, hn, hw, fun y' r => ?_⟩
        walk_at "go"
        rw [hz]
        refine st_setL h1 (j := 1) rfl ?_
        exact ⟨f4.trans FrP.at, ⟨y, y', upd_same, h2, r⟩, _, rfl⟩
    · rintro σ H4 ⟨f4, ⟨y, z, h1, h2, h3⟩, a5, rfl⟩
      walk_at "go"
      exact k q y z _ (Ex.comp (M := fun b => b = q) e13 f4 fun b hb => by rw [hb]; exact nq) nq h1 h2 h3
def sp__law_pair (K : PySem.W.Frag) : Sp := fun vs H Q _ => ∃ (W U : Addr) (q : Nat × Nat), vs = [.ref W, .ref U] ∧ H W = some (tupO q) ∧ H U = some (tupO q) ∧ Q (.bl true) H
theorem ok__law_pair (T : Tx K mg ad fd tk base tc) : FnOk P w K mg base CX0 1 (ad 10) (fd 10) ["_law_found", "_law_due"] (sp__law_pair K) := by
  refine T.d__law_pair.F.ok sc__law_pair (fun vs H Q E h => ?_) (fun cdv A outer s H vs Q E hr h => ?_)
  · obtain ⟨W, U, q, rfl, _⟩ := h
    rfl
  · obtain ⟨W, U, q, rfl, hW, hU, k⟩ := h
    refine ⟨_, (pss_cons (ps_if (PW.pt (pw_or (pt_not (pt_val (pe_callB c_is (by rfl) T.b_isinstance (by decide +kernel) (pa_cons (pv 0) (pa_cons (pe_bltn (v := .ty "tuple") rfl T.b_tuple (by decide +kernel) rfl) pa_nil))))) (pw_or1 (pt_cmpR (o_ne hr.units) (pe_callB (c_len (K := K)) (by rfl) T.b_len (by decide +kernel) (pa_cons (pv 0) pa_nil)) pe_int (nomark _))))) (pss_one (ps_ret pe_bl)) pss_nil)
      (pss_cons (ps_for PassesOwn.never rfl (pi_range1 rfl T.b_range (pa_cons pe_int pa_nil)) (pg_name (i := 2) sc__law_pair.nd rfl (Or.inl rfl)) (pss_one (ps_if (PW.pt (pw_or (pt_not (pt_val (pe_callB c_is (by rfl) T.b_isinstance (by decide +kernel) (pa_cons (pe_ix (i_ix (K := K)) (pv 0) (pv 2) (fun _ _ => rfl)) (pa_cons (pe_bltn (v := .ty "int") rfl T.b_int (by decide +kernel) rfl) pa_nil))))) (pw_or (pt_val (pe_callB c_is (by rfl) T.b_isinstance (by decide +kernel) (pa_cons (pe_ix (i_ix (K := K)) (pv 0) (pv 2) (fun _ _ => rfl)) (pa_cons (pe_bltn (v := .ty "bool") rfl T.b_bool (by decide +kernel) rfl) pa_nil)))) (pw_or1 (pt_cmpR (o_ne hr.units) (pe_ix (i_ix (K := K)) (pv 0) (pv 2) (fun _ _ => rfl)) (pe_ix (i_ix (K := K)) (pv 1) (pv 2) (fun _ _ => rfl)) (nomark _)))))) (pss_one (ps_ret pe_bl)) pss_nil)))
      (pss_one (ps_ret pe_bl)))), ?_⟩
    have hW' : H W = some (.tup [.int (q.1 : Nat), .int (q.2 : Nat)]) := hW
    have hU' : H U = some (.tup [.int (q.1 : Nat), .int (q.2 : Nat)]) := hU
    clear hW hU
    walk_at "go"
    refine for_runs (runs_range 0 2) (fun i σ H' => H' = H ∧ ∃ y, σ = [some (.ref W), some (.ref U), y]) ⟨rfl, _, rfl⟩ (fun _ _ _ _ _ => trivial) ?_ ?_
    · rintro i x σ H1 H2 hi ⟨rfl, y, rfl⟩ ⟨rfl, rfl⟩
      rcases (by omega : i = 0 ∨ i = 1) with rfl | rfl
      · walk_at "go"
        rw [if_neg (by simp)]
        walk_at "go"
        exact ⟨rfl, _, rfl⟩
      · walk_at "go"
        rw [if_neg (by simp)]
        walk_at "go"
        exact ⟨rfl, _, rfl⟩
    · rintro σ H1 ⟨rfl, y, rfl⟩
      walk_at "go"
      exact k
def sp__law_pairs (K : PySem.W.Frag) : Sp := fun vs H Q _ => ∃ (D G : Addr) (zs ys : List ZP), vs = [.ref D, .ref G] ∧ H D = some (.lst (zs.map zV)) ∧ H G = some (.lst (ys.map zV)) ∧ TP H zs ∧ TP H ys ∧ zs.map (·.2) = ys.map (·.2) ∧ zs.length ≤ 10000 ∧ Q (.bl true) H
theorem ok__law_pairs (T : Tx K mg ad fd tk base tc) : FnOk P w K mg base CX0 2 (ad 11) (fd 11) ["_law_found", "_law_due"] (sp__law_pairs K) := by
  refine T.d__law_pairs.F.ok sc__law_pairs (fun vs H Q E h => ?_) (fun cdv A outer s H vs Q E hr h => ?_)
  · obtain ⟨D, G, zs, ys, rfl, _⟩ := h
    rfl
  · obtain ⟨D, G, zs, ys, rfl, hD, hG, tz, ty, he, hl, k⟩ := h
    refine ⟨_, (pss_cons (ps_if (PW.pt (pw_or (pt_not (pt_val (pe_callB c_is (by rfl) T.b_isinstance (by decide +kernel) (pa_cons (pv 0) (pa_cons (pe_bltn (v := .ty "list") rfl T.b_list (by decide +kernel) rfl) pa_nil))))) (pw_or1 (pt_cmpR (o_ne hr.units) (pe_callB (c_len (K := K)) (by rfl) T.b_len (by decide +kernel) (pa_cons (pv 0) pa_nil)) (pe_callB (c_len (K := K)) (by rfl) T.b_len (by decide +kernel) (pa_cons (pv 1) pa_nil)) (nomark _))))) (pss_one (ps_ret pe_bl)) pss_nil)
      (pss_cons (ps_for PassesOwn.never rfl (pi_range1 rfl T.b_range (pa_cons (pe_callB (c_len (K := K)) (by rfl) T.b_len (by decide +kernel) (pa_cons (pv 1) pa_nil)) pa_nil)) (pg_name (i := 2) sc__law_pairs.nd rfl (Or.inl rfl)) (pss_one (ps_if (pt_not (pt_val (pe_call (ok__law_pair T) (hr.mono (by decide)) rfl T.d__law_pair.g T.d__law_pair.F.kp T.d__law_pair.b .nil pass0 (pa_cons (pe_ix (i_ix (K := K)) (pv 0) (pv 2) (fun _ _ => rfl)) (pa_cons (pe_ix (i_ix (K := K)) (pv 1) (pv 2) (fun _ _ => rfl)) pa_nil))))) (pss_one (ps_ret pe_bl)) pss_nil)))
      (pss_one (ps_ret pe_bl)))), ?_⟩
    have hl2 : ys.length = zs.length := by
      have := congrArg List.length he
      rw [List.length_map, List.length_map] at this
      exact this.symm
    walk_at "go"
    rw [if_neg (by rw [List.length_map, List.length_map, hl2]; simp)]
    walk_at "go"
    refine for_runs (runs_range 0 _) (fun i σ H' => H' = H ∧ ∃ y, σ = [some (.ref D), some (.ref G), y]) ⟨rfl, _, rfl⟩ (fun _ _ _ _ _ => trivial) ?_ ?_
    · rintro i x σ H1 H2 hi ⟨rfl, y, rfl⟩ ⟨rfl, rfl⟩
      rw [Int.zero_add]
      rw [List.length_map] at hi
      have g1 : zs[i]? = some (zs[i]'(by omega)) := List.getElem?_eq_getElem (by omega)
      have g2 : ys[i]? = some (ys[i]'(by omega)) := List.getElem?_eq_getElem (by omega)
      have g3 : (zs[i]'(by omega)).2 = (ys[i]'(by omega)).2 := by
        have := congrArg (fun l => l[i]?) he
        simp only [List.getElem?_map, g1, g2, Option.map_some] at this
        exact Option.some.inj this
      walk_at "go"
      refine st_ixL hD (at_mapN g1) ?_
      walk_at "go"
      refine st_ixL hG (at_mapN g2) ?_
      walk_at "go"
      refine ⟨_, _, (ys[i]'(by omega)).2, rfl, ?_, ty _ (List.mem_of_getElem? g2), ?_⟩
      · rw [← g3]
        exact tz _ (List.mem_of_getElem? g1)
      walk_at "go"
      exact ⟨rfl, _, rfl⟩
    · rintro σ H1 ⟨rfl, y, rfl⟩
      walk_at "go"
      exact k
def bR (s t : List Nat) (i j a b : Nat) : Bool := decide (s[i]? ≠ t[j]?) && decide (a < b)
/-- a board that is made -/
structure BrdAt (K : PySem.W.Frag) (H : Hp) (p : Addr) (s t : Str) : Prop where
  ex : ∃ dx me sg go, H p = some (.ins (clsA K "Board") dx [("left_row", .str s), ("upper_row", .str t), ("meetings", .ref me), ("signs", .ref sg), ("goals", .ref go)]) ∧ LedAt H me sg go (bR s.cps.toList t.cps.toList) s.length t.length
theorem BrdAt.to {K : PySem.W.Frag} {H H' : Hp} {p : Addr} {s t : Str} (h : BrdAt K H p s t) (e : Ex H H') : BrdAt K H' p s t := by
  obtain ⟨dx, me, sg, go, h1, h2⟩ := h.ex
  exact ⟨dx, me, sg, go, e.get h1, h2.ex e⟩
theorem tabs_fr {T : List (Addr × Str)} {H H' : Hp} {p C dx : Addr} {fs : List (Str × V)} (t : LamX.Tabs T H) (e : FrP p H H') (hp : H p = some (.ins C dx fs)) : LamX.Tabs T H' := fun q hq => by
  obtain ⟨ps, h1, h2, h3⟩ := t q hq
  refine ⟨ps, e.get (fun z => by rw [z, hp] at h1; cases h1) h1, h2, fun pos cv hc => ?_⟩
  obtain ⟨c, e1, e2⟩ := h3 pos cv hc
  exact ⟨c, e1, e.get (fun z => by rw [z, hp] at e2; unfold CodeO at e2; cases e2) e2⟩
theorem LedAt.frp {H H' : Hp} {p C dx : Addr} {fs : List (Str × V)} {me sg go : Addr} {r : Nat → Nat → Nat → Nat → Bool} {m n : Nat} (h : LedAt H me sg go r m n) (e : FrP p H H') (hp : H p = some (.ins C dx fs)) : LedAt H' me sg go r m n := by
  have nl : ∀ {b : Addr} {xs : List V}, H b = some (.lst xs) → ¬ b = p := fun h z => by rw [z, hp] at h; cases h
  have nt : ∀ {b : Addr} {xs : List V}, H b = some (.tup xs) → ¬ b = p := fun h z => by rw [z, hp] at h; cases h
  obtain ⟨rs, h1, h2, h3⟩ := h.me
  refine ⟨e.get (nl h.go) h.go, e.get (nl h.sg) h.sg, rs, e.get (nl h1) h1, h2, fun i row hr => ?_⟩
  obtain ⟨zs, a, b, c⟩ := h3 i row hr
  exact ⟨zs, e.get (nl a) a, fun z hz => e.get (nt (b z hz)) (b z hz), c⟩
theorem invT_one {m n : Nat} {r : Nat → Nat → Nat → Nat → Bool} : IsT (invT (ledE r m n)) := (ledE_T r m n).inv
/-- where each line ends -/
def brdL (s t : Str) : List Nat := invT (ledE (bR s.cps.toList t.cps.toList) s.length t.length)
theorem brdL_len (s t : Str) : (brdL s t).length = s.length + t.length := by unfold brdL; rw [invT_len, ledE_len]
theorem brdL_T (s t : Str) : IsT (brdL s t) := invT_one
/-- a new list of new lists, all of them apart -/
structure TabAt (H0 H : Hp) (p : Addr) (rs : List Addr) (row : Nat → List V) : Prop where
  new : H0 p = none
  at_ : H p = some (.lst (rs.map V.ref))
  non : p ∉ rs
  nd : rs.Nodup
  news : ∀ r ∈ rs, H0 r = none
  rows : ∀ k r, rs[k]? = some r → H r = some (.lst (row k))
theorem TabAt.ex {H0 H H' : Hp} {p : Addr} {rs : List Addr} {row : Nat → List V} (T : TabAt H0 H p rs row) (e : Ex H H') : TabAt H0 H' p rs row :=
  ⟨T.new, e.get T.at_, T.non, T.nd, T.news, fun k r h => e.get (T.rows k r h)⟩
/-- the signs of all cells -/
def brdC (s t : Str) : List Str := (List.range s.length).map fun i => sgT (bR s.cps.toList t.cps.toList) s.length t.length i
def sp_Board_init (K : PySem.W.Frag) (TL : List (Addr × Str)) : Sp := fun vs H Q E => ∃ (p dx : Addr) (x y : V), vs = [.ref p, x, y] ∧ H p = some (.ins (clsA K "Board") dx []) ∧ LamX.Tabs TL H ∧ Rows2 K E H x y fun s t => ∀ H', Fr (fun b => b = p) (noT H) H' → LamX.Tabs TL H' → BrdAt K H' p s t → Q .non H'
theorem LedAt.noT {H : Hp} {me sg go : Addr} {r : Nat → Nat → Nat → Nat → Bool} {m n : Nat} (h : LedAt H me sg go r m n) : LedAt (noT H) me sg go r m n := by
  obtain ⟨rs, h1, h2, h3⟩ := h.me
  have nl : ∀ {a : Addr} {xs : List V}, H a = some (.lst xs) → Zb.noT H a = some (.lst xs) := fun h => noT_get h fun _ z => (by cases z)
  refine ⟨nl h.go, nl h.sg, rs, nl h1, h2, fun i row hr => ?_⟩
  obtain ⟨zs, a, b, c⟩ := h3 i row hr
  exact ⟨zs, nl a, fun z hz => noT_get (b z hz) fun _ z => (by cases z), c⟩
theorem keepL {H H' : Hp} {a : Addr} {xs : List V} (h : H a = some (.lst xs)) (e : Ex (noT H) H') : H' a = some (.lst xs) := e.get (noT_get h fun _ z => (by cases z))
/-- a board is made -/
theorem mk_brd {K : PySem.W.Frag} {TL : List (Addr × Str)} {H : Hp} {Q : VK} {E : XK} {s t : Str} (hs : RowS s) (ht : RowS t) (hT : LamX.Tabs TL H) (k : ∀ p H', Ex (noT H) H' → H p = none → LamX.Tabs TL H' → BrdAt K H' p s t → Q (.ref p) H') : MakeP (clsA K "Board") (sp_Board_init K TL) [] E Q [.str s, .str t] H := by
  refine st_makeP fun p dx H1 np e1 v1 => ?_
  refine ⟨p, dx, _, _, rfl, v1, hT.ext fun b o h => e1.get h, .inl ⟨s, t, rfl, rfl, hs, ht, fun H2 f2 hT2 hB => ?_⟩⟩
  refine ⟨rfl, k p H2 ?_ np hT2 hB⟩
  exact Ex.comp (M := fun b => b = p) (noT_mono e1) f2 fun b hb => by
    rw [hb]
    unfold Zb.noT
    rw [np]
theorem BrdAt.on {K : PySem.W.Frag} {H H' : Hp} {p : Addr} {s t : Str} (h : BrdAt K H p s t) (e : Ex (noT H) H') : BrdAt K H' p s t := by
  obtain ⟨dx, me, sg, go, h1, h2⟩ := h.ex
  exact ⟨dx, me, sg, go, e.get (noT_get h1 fun _ z => by cases z), h2.noT.ex e⟩
theorem told_sorted {l : List Nat} {ns' : List Int} (hl : IsT l) (p : ns'.Perm (l.map fun (v : Nat) => (v : Int))) (h : ns'.Pairwise (· ≤ ·)) : ns' = (List.range l.length).map fun (v : Nat) => (v : Int) := by
  refine List.Perm.eq_of_pairwise (fun x y _ _ h k => Int.le_antisymm h k) h ?_ (p.trans (hl.perm.map _))
  rw [List.pairwise_map]
  exact List.pairwise_lt_range.imp fun h => by omega
def sp__law_forms : Sp := fun vs H Q _ => ∃ (L C : Addr) (s t : Str), vs = [.ref L, .ref C, .int (s.length : Nat), .int (t.length : Nat)] ∧ H L = some (.lst ((brdL s t).map nV)) ∧ H C = some (.lst ((brdC s t).map V.str)) ∧ s.length ≤ 48 ∧ t.length ≤ 48 ∧ ∀ H', Ex H H' → Q (.bl true) H'
theorem ok__law_forms (T : Tx K mg ad fd tk base tc) : FnOk P w K mg base CX0 1 (ad 12) (fd 12) ["_law_lines", "_law_cells", "_law_many", "_law_far"] sp__law_forms := by
  refine T.d__law_forms.F.ok sc__law_forms (fun vs H Q E h => ?_) (fun cdv A outer s H vs Q E hr h => ?_)
  · obtain ⟨L, C, s, t, rfl, _⟩ := h
    rfl
  · obtain ⟨L, C, s, t, rfl, hL, hC, hs, ht, k⟩ := h
    refine ⟨_, (pss_cons (ps_if (PW.pt (pw_or (pt_not (pt_val (pe_callB c_is (by rfl) T.b_isinstance (by decide +kernel) (pa_cons (pv 0) (pa_cons (pe_bltn (v := .ty "list") rfl T.b_list (by decide +kernel) rfl) pa_nil))))) (pw_or (pt_not (pt_val (pe_callB c_is (by rfl) T.b_isinstance (by decide +kernel) (pa_cons (pv 1) (pa_cons (pe_bltn (v := .ty "list") rfl T.b_list (by decide +kernel) rfl) pa_nil))))) (pw_or1 (pt_cmpR (o_ne hr.units) (pe_callB (c_len (K := K)) (by rfl) T.b_len (by decide +kernel) (pa_cons (pv 1) pa_nil)) (pv 2) (nomark _)))))) (pss_one (ps_ret pe_bl)) pss_nil)
      (pss_cons (ps_for PassesOwn.never rfl (pi_list (pv 1)) (pg_name (i := 4) sc__law_forms.nd rfl (Or.inl rfl)) (pss_one (ps_if (PW.pt (pw_or (pt_not (pt_val (pe_callB c_is (by rfl) T.b_isinstance (by decide +kernel) (pa_cons (pv 4) (pa_cons (pe_bltn (v := .ty "str") rfl T.b_str (by decide +kernel) rfl) pa_nil))))) (pw_or (pt_cmpR (o_ne hr.units) (pe_callB (c_len (K := K)) (by rfl) T.b_len (by decide +kernel) (pa_cons (pv 4) pa_nil)) (pv 3) (nomark _)) (pw_or1 (pt_not (pt_val (pe_callB (c_all rfl) (by rfl) T.b_all (by decide +kernel) (pa_cons (pe_lc (own := [("_law_sign", 6)]) (g := gName 6) rfl sc__law_forms.nd (pi_str (pv 4)) (blkOk_by (own := [("_law_sign", 6)]) (N := N__law_forms) (sc := defScope s__law_forms) (by decide +kernel)) (fun _ _ _ _ _ => pg_name (i := 6) sc__law_forms.nd rfl (Or.inl rfl)) (fun _ _ _ _ _ => pts_nil) (fun _ _ _ _ _ => (pe_cmpR (o_in hr.units) (pv 6) pe_str rfl))) pa_nil)))))))) (pss_one (ps_ret pe_bl)) pss_nil)))
      (pss_cons (ps_for PassesOwn.never rfl (pi_list (pv 0)) (pg_name (i := 5) sc__law_forms.nd rfl (Or.inl rfl)) (pss_one (ps_if (PW.pt (pw_or (pt_not (pt_val (pe_callB c_is (by rfl) T.b_isinstance (by decide +kernel) (pa_cons (pv 5) (pa_cons (pe_bltn (v := .ty "int") rfl T.b_int (by decide +kernel) rfl) pa_nil))))) (pw_or1 (pt_val (pe_callB c_is (by rfl) T.b_isinstance (by decide +kernel) (pa_cons (pv 5) (pa_cons (pe_bltn (v := .ty "bool") rfl T.b_bool (by decide +kernel) rfl) pa_nil))))))) (pss_one (ps_ret pe_bl)) pss_nil)))
      (pss_one (ps_ret (pe_cmpR (o_eq hr.units) (pe_callB c_sortQ (by rfl) T.b_sorted (by decide +kernel) (pa_cons (pv 0) pa_nil)) (pe_listRgC rfl (by rfl) T.b_list (prgC (by rfl) T.b_range (pa_cons (pe_op o_add (pv 2) (pv 3)) pa_nil))) (nomark _))))))), ?_⟩
    have hcl : (brdC s t).length = s.length := by simp [brdC]
    walk_at "go"
    refine st_F (by rw [List.length_map, hcl]; simp) ?_
    walk_at "go"
    refine for_runs (rv_list K C (brdC s t) V.str) (fun i σ H' => Ex H H' ∧ ∃ y4, σ = [some (.ref L), some (.ref C), some (.int (s.length : Nat)), some (.int (t.length : Nat)), y4, none, none]) ⟨Fr.refl _, _, rfl⟩ (fun i σ H' _ h => lst_of (h.1.get hC)) ?_ ?_
    · rintro i x σ H1 H2 hi ⟨e1, y4, rfl⟩ ⟨rfl, z, hz, rfl⟩
      obtain ⟨hzl, hzc⟩ : z.length = t.length ∧ ∀ c ∈ z.cps.toList, c = 120 ∨ c = 111 := by
        unfold brdC at hz
        obtain ⟨j, _, hj⟩ := List.mem_map.mp (List.mem_of_getElem? hz)
        rw [← hj]
        unfold sgT
        refine ⟨by rw [tx_length, List.length_map, List.length_range], fun c hc => ?_⟩
        rw [tx_toList] at hc
        obtain ⟨b, _, hb⟩ := List.mem_map.mp hc
        rw [← hb]
        split
        · exact .inl rfl
        · exact .inr rfl
      walk_at "go"
      refine st_F (by rw [hzl]; simp) ?_
      walk_at "go"
      refine lc_pure (rv_str z) (fun _ _ => trivial) (by show z.cps.toList.length < _; rw [Array.length_toList]; show z.length < _; omega) (fun _ => true) (fun c => .bl true) ?_ ?_
      · intro c' H' hc e B A h1 h2
        refine ⟨rfl, ?_⟩
        have h1' := h1 rfl _ (Fr.refl _)
        walk_at "go"
        have : decide (c' ∈ (Str.ofString "xo").cps.toList) = true := by
          rcases hzc c' hc with rfl | rfl <;> decide +kernel
        rw [this]
        exact h1'
      · intro D H' hD e hd
        walk_at "go"
        refine st_all (bs := z.cps.toList.map fun _ => true) hd (by rw [List.filter_eq_self.mpr (fun _ _ => rfl), List.map_map]; rfl) ?_
        walk_at "go"
        refine st_F (by rw [List.all_map]; simp) ?_
        walk_at "go"
        exact ⟨e1.trans e, _, rfl⟩
    · rintro σ H1 ⟨e1, y4, rfl⟩
      have hL1 := e1.get hL
      walk_at "go"
      refine for_runs (rv_list K L (brdL s t) nV) (fun i σ H' => H' = H1 ∧ ∃ y5, σ = [some (.ref L), some (.ref C), some (.int (s.length : Nat)), some (.int (t.length : Nat)), y4, y5, none]) ⟨rfl, _, rfl⟩ (fun i σ H' _ h => lst_of (by rw [h.1]; exact hL1)) ?_ ?_
      · rintro i x σ H2 H3 hi ⟨rfl, y5, rfl⟩ ⟨rfl, u, hu, rfl⟩
        rw [show nV u = V.int (u : Nat) from rfl]
        walk_at "go"
        exact ⟨rfl, _, rfl⟩
      · rintro σ H2 ⟨rfl, y5, rfl⟩
        have hD2 : seqAt H2 L = some (((brdL s t).map fun (v : Nat) => (v : Int)).map V.int) := by
          rw [seq_l hL1, List.map_map]
          rfl
        walk_at "go"
        refine st_sortQ hD2 fun ns' q H3 p1 p2 n2 e2 v2 => ?_
        walk_at "go"
        rename_i q4 H4 n4 e4 v4
        rw [show ((s.length : Nat) : Int) + (t.length : Nat) - 0 = ((s.length + t.length : Nat) : Int) by omega, Int.toNat_natCast, rgL_up] at v4
        have v3' := e4.get v2
        refine st_eqD (.lst (lst_of v3') (rpA_ints _)) (.lst (lst_of v4) (rpA_ints _)) (by
          have : PyData.depthAll (ns'.map PyData.int) ≤ 0 := depth_map fun z _ => by simp [PyData.depth]
          simp only [PyData.depth]
          omega) ?_
        rw [eqv_list eqv_int, decide_eq_true (by rw [told_sorted (brdL_T s t) p1 p2, brdL_len])]
        exact k _ (e1.trans (e2.trans e4))
/-- the lines at the cut ahead of the cell (i, j) -/
def cutB (r : Nat → Nat → Nat → Nat → Bool) (m n i j : Nat) : List Nat := ((List.range j).map (ledD r m (i + 1)) ++ [ledA r m i j]) ++ ((List.range (n - j)).map (fun c => ledD r m i (j + c)) ++ ((List.range i).map (fun i => ledA r m i n) ++ List.range (m - 1 - i)))
theorem cutB_perm (r : Nat → Nat → Nat → Nat → Bool) {m n i j : Nat} (hi : i < m) (hj : j ≤ n) : (cutB r m n i j).Perm (List.range (m + n)) := by
  refine List.Perm.trans ?_ (led_perm r m n i (by omega))
  unfold cutB
  refine ((led_row r m i j).append_right _).trans ?_
  have e1 : (List.range n).map (ledD r m i) = (List.range j).map (ledD r m i) ++ (List.range (n - j)).map (fun c => ledD r m i (j + c)) := by
    rw [show n = j + (n - j) by omega, List.range_add, List.map_append, List.map_map, Nat.add_sub_cancel_left]
    rfl
  have e2 : List.range (m - i) = List.range (m - 1 - i) ++ [m - 1 - i] := by rw [show m - i = (m - 1 - i) + 1 by omega, List.range_succ]
  rw [e1, e2]
  have h1 : ((m - 1 - i) :: (List.range j).map (ledD r m i) ++ ((List.range (n - j)).map (fun c => ledD r m i (j + c)) ++ ((List.range i).map (fun i => ledA r m i n) ++ List.range (m - 1 - i)))).Perm (((List.range j).map (ledD r m i) ++ ((List.range (n - j)).map (fun c => ledD r m i (j + c)) ++ ((List.range i).map (fun i => ledA r m i n) ++ List.range (m - 1 - i)))) ++ [m - 1 - i]) := by
    rw [List.cons_append]
    exact (List.perm_append_singleton _ _).symm
  refine h1.trans (.of_eq ?_)
  simp only [List.append_assoc]
theorem cutB_nodup (r : Nat → Nat → Nat → Nat → Bool) {m n i j : Nat} (hi : i < m) (hj : j ≤ n) : (cutB r m n i j).Nodup := (cutB_perm r hi hj).symm.nodup List.nodup_range
section
variable {r : Nat → Nat → Nat → Nat → Bool} {m n i j : Nat}
/-- a line that has left the row below is no more met in it -/
theorem cut_left (hi : i < m) (hj : j ≤ n) {c : Nat} (hc : c < j) : ledD r m (i + 1) c ≠ ledA r m i j ∧ (∀ d, j ≤ d → d < n → ledD r m (i + 1) c ≠ ledD r m i d) := by
  have h := cutB_nodup r hi hj
  unfold cutB at h
  obtain ⟨h1, h2, h3⟩ := List.nodup_append.mp h
  obtain ⟨_, _, h4⟩ := List.nodup_append.mp h1
  have mem : ledD r m (i + 1) c ∈ (List.range j).map (ledD r m (i + 1)) := List.mem_map.mpr ⟨c, List.mem_range.mpr hc, rfl⟩
  refine ⟨h4 _ mem _ (List.mem_singleton.mpr rfl), fun d hd hdn => ?_⟩
  exact h3 _ (List.mem_append_left _ mem) _ (List.mem_append_left _ (List.mem_map.mpr ⟨d - j, List.mem_range.mpr (by omega), by rw [show j + (d - j) = d by omega]⟩))
theorem cut_here (hi : i < m) (hj : j ≤ n) : ∀ d, j ≤ d → d < n → ledA r m i j ≠ ledD r m i d := by
  have h := cutB_nodup r hi hj
  unfold cutB at h
  obtain ⟨h1, h2, h3⟩ := List.nodup_append.mp h
  intro d hd hdn
  exact h3 _ (List.mem_append_right _ (List.mem_singleton.mpr rfl)) _ (List.mem_append_left _ (List.mem_map.mpr ⟨d - j, List.mem_range.mpr (by omega), by rw [show j + (d - j) = d by omega]⟩))
/-- a line that has left the board to the right is no more met -/
theorem cut_right (hi : i < m) (hj : j ≤ n) {k : Nat} (hk : k < i) : ledA r m k n ≠ ledA r m i j ∧ (∀ d, j ≤ d → d < n → ledA r m k n ≠ ledD r m i d) := by
  have h := cutB_nodup r hi hj
  unfold cutB at h
  obtain ⟨h1, h2, h3⟩ := List.nodup_append.mp h
  obtain ⟨_, _, h5⟩ := List.nodup_append.mp h2
  have mem : ledA r m k n ∈ (List.range i).map (fun i => ledA r m i n) ++ List.range (m - 1 - i) := List.mem_append_left _ (List.mem_map.mpr ⟨k, List.mem_range.mpr hk, rfl⟩)
  refine ⟨fun e => ?_, fun d hd hdn e => ?_⟩
  · exact h3 _ (List.mem_append_right _ (List.mem_singleton.mpr rfl)) _ (List.mem_append_right _ mem) e.symm
  · exact h5 _ (List.mem_map.mpr ⟨d - j, List.mem_range.mpr (by omega), by rw [show j + (d - j) = d by omega]⟩) _ mem e.symm
/-- a line that has not come in yet is not met -/
theorem cut_later (hi : i < m) (hj : j ≤ n) {l : Nat} (hl : l < m - 1 - i) : l ≠ ledA r m i j ∧ (∀ d, j ≤ d → d < n → l ≠ ledD r m i d) := by
  have h := cutB_nodup r hi hj
  unfold cutB at h
  obtain ⟨h1, h2, h3⟩ := List.nodup_append.mp h
  obtain ⟨_, _, h5⟩ := List.nodup_append.mp h2
  have mem : l ∈ (List.range i).map (fun i => ledA r m i n) ++ List.range (m - 1 - i) := List.mem_append_right _ (List.mem_range.mpr hl)
  refine ⟨fun e => ?_, fun d hd hdn e => ?_⟩
  · exact h3 _ (List.mem_append_right _ (List.mem_singleton.mpr rfl)) _ (List.mem_append_right _ mem) e.symm
  · exact h5 _ (List.mem_map.mpr ⟨d - j, List.mem_range.mpr (by omega), by rw [show j + (d - j) = d by omega]⟩) _ mem e.symm
theorem cut_cols (hi : i < m) {c d : Nat} (hc : c < d) (hd : d < n) : ledD r m i c ≠ ledD r m i d := by
  have h := cutB_nodup r hi (n := n) (j := c) (by omega)
  unfold cutB at h
  obtain ⟨_, h2, _⟩ := List.nodup_append.mp h
  obtain ⟨h4, _, _⟩ := List.nodup_append.mp h2
  have h3 := (List.pairwise_iff_getElem.mp h4) 0 (d - c) (by rw [List.length_map, List.length_range]; omega) (by rw [List.length_map, List.length_range]; omega) (by omega)
  rw [List.getElem_map, List.getElem_map, List.getElem_range, List.getElem_range, Nat.add_zero, show c + (d - c) = d by omega] at h3
  exact h3
end
/-- a line comes into a cell -/
def inC (r : Nat → Nat → Nat → Nat → Bool) (m l : Nat) (q : Nat × Nat) : Bool := decide (ledA r m q.1 q.2 = l ∨ ledD r m q.1 q.2 = l)
/-- all cells, row by row -/
def cellsB (m n : Nat) : List (Nat × Nat) := (List.range m).flatMap fun i => (List.range n).map fun j => (i, j)
theorem cellsB_s (m n : Nat) : cellsB (m + 1) n = cellsB m n ++ (List.range n).map fun j => (m, j) := by
  unfold cellsB
  rw [List.range_succ, List.flatMap_append]
  simp
def wayB (r : Nat → Nat → Nat → Nat → Bool) (m n l : Nat) : List (Nat × Nat) := (cellsB m n).filter (inC r m l)
/-- the cells ahead of a cell -/
def preB (m n i j : Nat) : List (Nat × Nat) := cellsB i n ++ if i < m then (List.range j).map fun c => (i, c) else []
section
variable {r : Nat → Nat → Nat → Nat → Bool} {m n l : Nat}
theorem inC_false {i j : Nat} (h1 : ledA r m i j ≠ l) (h2 : ledD r m i j ≠ l) : inC r m l (i, j) = false := decide_eq_false fun h => h.elim h1 h2
theorem row_none {i : Nat} {js : List Nat} (h : ∀ j ∈ js, inC r m l (i, j) = false) : (js.map fun j => (i, j)).filter (inC r m l) = [] := by
  rw [List.filter_eq_nil_iff]
  intro q hq
  obtain ⟨j, hj, rfl⟩ := List.mem_map.mp hq
  rw [h j hj]
  decide
theorem pre_right {i j : Nat} (hi : i < m) (h : inC r m l (i, j) = true) : (preB m n i (j + 1)).filter (inC r m l) = (preB m n i j).filter (inC r m l) ++ [(i, j)] := by
  unfold preB
  rw [if_pos hi, if_pos hi, List.range_succ, List.map_append, ← List.append_assoc, List.filter_append]
  congr 1
  rw [List.map_cons, List.map_nil, List.filter_cons_of_pos h, List.filter_nil]
theorem pre_end {i j : Nat} (hi : i < m) (hj : j ≤ n) (h : ∀ c, j ≤ c → c < n → inC r m l (i, c) = false) : (cellsB (i + 1) n).filter (inC r m l) = (preB m n i j).filter (inC r m l) := by
  unfold preB
  rw [if_pos hi, cellsB_s, List.filter_append, List.filter_append]
  congr 1
  rw [show n = j + (n - j) by omega, List.range_add, List.map_append, List.filter_append, List.map_map]
  have : ((List.range (n - j)).map ((fun c => (i, c)) ∘ fun c => j + c)).filter (inC r m l) = [] := by
    rw [List.filter_eq_nil_iff]
    intro q hq
    obtain ⟨c, hc, rfl⟩ := List.mem_map.mp hq
    have hc := List.mem_range.mp hc
    rw [show inC r m l (((fun c => (i, c)) ∘ fun c => j + c) c) = false from h (j + c) (by omega) (by omega)]
    decide
  rw [this, List.append_nil]
/-- on to the next row -/
theorem pre_down {i j : Nat} (hi : i < m) (hj : j < n) (h : inC r m l (i, j) = true) (hd : ledD r m (i + 1) j = l) : (preB m n (i + 1) j).filter (inC r m l) = (preB m n i j).filter (inC r m l) ++ [(i, j)] := by
  rw [← pre_right (n := n) hi h, ← pre_end (n := n) hi (j := j + 1) (by omega) fun c hc hcn => by
    obtain ⟨h1, h2⟩ := cut_left (r := r) (n := n) (m := m) hi (j := c) (by omega) (c := j) (by omega)
    rw [hd] at h1
    have h3 := h2 c (Nat.le_refl _) hcn
    rw [hd] at h3
    exact inC_false h1.symm h3.symm]
  unfold preB
  rw [List.filter_append]
  by_cases hm : i + 1 < m
  · rw [if_pos hm, row_none fun c hc => ?_, List.append_nil]
    have hc := List.mem_range.mp hc
    have h1 := cut_here (r := r) (n := n) (m := m) hm (j := c) (by omega) j (by omega) hj
    have h2 := cut_cols (r := r) (n := n) (m := m) hm hc hj
    rw [hd] at h1 h2
    exact inC_false h1 h2
  · rw [if_neg hm, List.filter_nil, List.append_nil]
theorem rows_later {i k : Nat} (hk : i + k ≤ m) (h : ∀ a c, i ≤ a → a < i + k → c < n → inC r m l (a, c) = false) : (cellsB (i + k) n).filter (inC r m l) = (cellsB i n).filter (inC r m l) := by
  induction k with
  | zero => rfl
  | succ k ih =>
    rw [← Nat.add_assoc, cellsB_s, List.filter_append, ih (by omega) fun a c h1 h2 h3 => h a c h1 (by omega) h3, row_none fun c hc => h (i + k) c (by omega) (by omega) (List.mem_range.mp hc), List.append_nil]
/-- out to the right -/
theorem pre_out {i : Nat} (hi : i < m) (ha : ledA r m i n = l) : (preB m n i n).filter (inC r m l) = wayB r m n l := by
  unfold wayB
  rw [← pre_end (n := n) hi (Nat.le_refl _) fun c h1 h2 => by omega]
  have := rows_later (r := r) (m := m) (n := n) (l := l) (i := i + 1) (k := m - (i + 1)) (by omega) fun a c h1 h2 h3 => by
    obtain ⟨e1, e2⟩ := cut_right (r := r) (n := n) (m := m) (i := a) (by omega) (j := c) (by omega) (k := i) (by omega)
    have e3 := e2 c (Nat.le_refl _) h3
    rw [ha] at e1 e3
    exact inC_false e1.symm e3.symm
  rw [show i + 1 + (m - (i + 1)) = m by omega] at this
  exact this.symm
/-- where a line comes in from the left -/
theorem pre_in {i : Nat} (hi : i < m) (hl : l = m - 1 - i) : (preB m n i 0).filter (inC r m l) = [] := by
  have h := rows_later (r := r) (m := m) (n := n) (l := l) (i := 0) (k := i) (by omega) fun a c h1 h2 h3 => by
    obtain ⟨e1, e2⟩ := cut_later (r := r) (n := n) (m := m) (i := a) (by omega) (j := c) (by omega) (l := l) (by omega)
    exact inC_false e1.symm (e2 c (Nat.le_refl _) h3).symm
  rw [Nat.zero_add] at h
  unfold preB
  rw [if_pos hi, List.range_zero, List.map_nil, List.append_nil, h]
  rfl
/-- .. from above -/
theorem pre_top {j : Nat} (hj : j < n) (hl : l = m + j) : (preB m n 0 j).filter (inC r m l) = [] := by
  unfold preB
  by_cases hm : 0 < m
  · rw [if_pos hm, List.filter_append, row_none fun c hc => ?_]
    · rfl
    · have hc := List.mem_range.mp hc
      have h1 := cut_here (r := r) (n := n) (m := m) hm (j := c) (by omega) j (by omega) hj
      rw [ledD_0] at h1
      refine inC_false (by rw [hl]; exact h1) ?_
      rw [ledD_0]
      omega
  · rw [if_neg hm]
    rfl
end
theorem preB_len {m n i j : Nat} (hi : i ≤ 48) (hj : j ≤ 48) (hn : n ≤ 48) : (preB m n i j).length ≤ 49 * 49 := by
  have h1 : ∀ i, (cellsB i n).length = i * n := fun i => by
    induction i with
    | zero => simp [cellsB]
    | succ i ih => rw [cellsB_s, List.length_append, ih, List.length_map, List.length_range, Nat.succ_mul]
  unfold preB
  rw [List.length_append, h1]
  have h2 : i * n ≤ 48 * 48 := Nat.mul_le_mul hi hn
  have h3 : (if i < m then (List.range j).map fun c => (i, c) else []).length ≤ 48 := by
    split
    · rw [List.length_map, List.length_range]; exact hj
    · exact Nat.zero_le _
  omega
/-- a line on its way -/
structure WayI (r : Nat → Nat → Nat → Nat → Bool) (m n l i j : Nat) (b : Bool) (qs : List (Nat × Nat)) : Prop where
  right : b = true → i < m ∧ j ≤ n ∧ ledA r m i j = l
  down : b = false → i ≤ m ∧ j < n ∧ ledD r m i j = l
  found : qs = (preB m n i j).filter (inC r m l)
structure WaysAt (H : Hp) (W : Addr) (ws : List Addr) (k : Nat) (f : Nat → List (Nat × Nat)) : Prop where
  at_ : H W = some (.lst (ws.map V.ref))
  len : ws.length = k
  nd : ws.Nodup
  nw : W ∉ ws
  rows : ∀ l row, ws[l]? = some row → ∃ zs : List ZP, H row = some (.lst (zs.map zV)) ∧ TP H zs ∧ zs.map (·.2) = f l
section
variable {H H' : Hp} {W : Addr} {ws : List Addr} {k : Nat} {f g : Nat → List (Nat × Nat)}
theorem WaysAt.ex (h : WaysAt H W ws k f) (e : Ex H H') : WaysAt H' W ws k f := ⟨e.get h.at_, h.len, h.nd, h.nw, fun l row hr => by
  obtain ⟨zs, a, b, c⟩ := h.rows l row hr
  exact ⟨zs, e.get a, b.ex e, c⟩⟩
theorem WaysAt.congr (h : WaysAt H W ws k f) (e : ∀ l, l < k → f l = g l) : WaysAt H W ws k g := ⟨h.at_, h.len, h.nd, h.nw, fun l row hr => by
  obtain ⟨zs, a, b, c⟩ := h.rows l row hr
  exact ⟨zs, a, b, c.trans (e l (by have := (List.getElem?_eq_some_iff.mp hr).1; rw [h.len] at this; exact this))⟩⟩
theorem WaysAt.not_new (h : WaysAt H W ws k f) {p : Addr} (hp : H p = none) : p ∉ ws := fun z => by
  obtain ⟨l, hl⟩ := List.getElem?_of_mem z
  obtain ⟨zs, a, _, _⟩ := h.rows l p hl
  rw [hp] at a
  cases a
theorem WaysAt.up (h : WaysAt H W ws k f) {D : Addr} {xs : List V} {u : HO} (hD : H D = some (.lst xs)) (h1 : D ≠ W) (h2 : D ∉ ws) : WaysAt (upd H D u) W ws k f := ⟨(upd_ne h1.symm).trans h.at_, h.len, h.nd, h.nw, fun l row hr => by
  obtain ⟨zs, a, b, c⟩ := h.rows l row hr
  exact ⟨zs, (upd_ne fun z => h2 (by rw [← z]; exact List.mem_of_getElem? hr)).trans a, b.up hD, c⟩⟩
theorem WaysAt.app (h : WaysAt H W ws k f) {a : Nat} {row T : Addr} {q : Nat × Nat} {zs : List ZP} (hr : ws[a]? = some row) (hz : H row = some (.lst (zs.map zV))) (tz : TP H zs) (hf : zs.map (·.2) = f a) (hT : H T = some (tupO q)) : WaysAt (upd H row (.lst (zs.map zV ++ [V.ref T]))) W ws k fun l => if l = a then f l ++ [q] else f l := ⟨(upd_ne fun z => h.nw (by rw [z]; exact List.mem_of_getElem? hr)).trans h.at_, h.len, h.nd, h.nw, fun l row' hr' => by
  by_cases e : l = a
  · subst e
    rw [hr] at hr'
    cases hr'
    refine ⟨zs ++ [(T, q)], by rw [upd_same, List.map_append]; rfl, (tz.app (TP.cons (z := (T, q)) hT fun _ h => (by cases h))).up hz, ?_⟩
    rw [if_pos rfl, List.map_append, hf]
    rfl
  · obtain ⟨ys, a1, a2, a3⟩ := h.rows l row' hr'
    refine ⟨ys, (upd_ne fun z => e (nd_ix h.nd hr' (by rw [z]; exact hr))).trans a1, a2.up hz, ?_⟩
    rw [if_neg e]
    exact a3⟩
end
theorem preB_s {m n i j : Nat} (hi : i < m) : preB m n i (j + 1) = preB m n i j ++ [(i, j)] := by
  unfold preB
  rw [if_pos hi, if_pos hi, List.range_succ, List.map_append, ← List.append_assoc]
  rfl
theorem preB_0 {m n i : Nat} : preB m n i 0 = cellsB i n := by
  unfold preB
  split
  · rw [List.range_zero, List.map_nil, List.append_nil]
  · rw [List.append_nil]
theorem preB_row {m n i : Nat} (hi : i < m) : preB m n i n = preB m n (i + 1) 0 := by
  rw [preB_0, cellsB_s]
  unfold preB
  rw [if_pos hi]
/-- what comes into a cell -/
def comeB (r : Nat → Nat → Nat → Nat → Bool) (m : Nat) (q : Nat × Nat) : Nat × Nat := (ledA r m q.1 q.2, ledD r m q.1 q.2)
/-- what is due of a board, all that the law reckons -/
structure DueAt (H : Hp) (p : Addr) (s t : Str) : Prop where
  ex : ∃ D G C W, H p = some (.tup [.ref D, .ref G, .ref C, .ref W]) ∧ H D = some (.lst ((brdL s t).map nV)) ∧ H G = some (.lst ((brdC s t).map V.str)) ∧
    (∃ zs : List ZP, H C = some (.lst (zs.map zV)) ∧ TP H zs ∧ zs.map (·.2) = (cellsB s.length t.length).map (comeB (bR s.cps.toList t.cps.toList) s.length)) ∧
    ∃ ws : List Addr, WaysAt H W ws (s.length + t.length) fun l => wayB (bR s.cps.toList t.cps.toList) s.length t.length l
theorem DueAt.to {H H' : Hp} {p : Addr} {s t : Str} (h : DueAt H p s t) (e : Ex H H') : DueAt H' p s t := by
  obtain ⟨D, G, C, W, h1, h2, h3, ⟨zs, h4, h5, h6⟩, ws, h7⟩ := h.ex
  exact ⟨D, G, C, W, e.get h1, e.get h2, e.get h3, ⟨zs, e.get h4, h5.ex e, h6⟩, ws, h7.ex e⟩
def kQ (z : Nat × Nat) : List Key := [.inl ((z.1 : Nat) : Int), .inl ((z.2 : Nat) : Int)]
theorem kQ_tup (z : Nat × Nat) : tupO z = .tup ((kQ z).map kV) := rfl
theorem kQ_inj {a b : Nat × Nat} (h : kQ a = kQ b) : a = b := by
  unfold kQ at h
  injection h with h1 h2
  injection h2 with h2 h3
  injection h1 with h1
  injection h2 with h2
  exact Prod.ext (Int.ofNat_inj.mp h1) (Int.ofNat_inj.mp h2)
theorem putK_few (c : List (List Key × V)) (k : List Key) (x : V) : (putK c k x).length ≤ c.length + 1 := by
  unfold putK
  split
  · rw [List.length_map]
    exact Nat.le_succ _
  · rw [List.length_append]
    exact Nat.le_refl _
theorem way_len {r : Nat → Nat → Nat → Nat → Bool} {m n l : Nat} (hm : m ≤ 48) (hn : n ≤ 48) : (wayB r m n l).length ≤ 2401 := by
  have h := preB_len (m := 0) (n := n) (i := m) (j := 0) hm (by omega) hn
  unfold preB at h
  rw [if_neg (by omega), List.append_nil] at h
  have := List.length_filter_le (inC r m l) (cellsB m n)
  unfold wayB
  omega
theorem way_mem {r : Nat → Nat → Nat → Nat → Bool} {m n l o : Nat} {q : Nat × Nat} (h : q ∈ wayB r m n l) : (q ∈ wayB r m n o) ↔ inC r m o q = true := by
  unfold wayB at *
  rw [List.mem_filter] at h ⊢
  exact ⟨fun k => k.2, fun k => ⟨h.1, k⟩⟩
/-- the cell in which two lines cross, if they do -/
def crsB (r : Nat → Nat → Nat → Nat → Bool) (m n l o : Nat) : Option (Nat × Nat) := ((wayB r m n l).filter (inC r m o)).find? fun q => decide (l ≠ o) && ledS r m q.1 q.2
theorem cellsB_mem {m n : Nat} {q : Nat × Nat} (h : q ∈ cellsB m n) : q.1 < m ∧ q.2 < n := by
  unfold cellsB at h
  obtain ⟨i, hi, hq⟩ := List.mem_flatMap.mp h
  obtain ⟨j, hj, rfl⟩ := List.mem_map.mp hq
  exact ⟨List.mem_range.mp hi, List.mem_range.mp hj⟩
theorem sg_at {r : Nat → Nat → Nat → Nat → Bool} {m n i j : Nat} (hj : j < n) : atI (sgT r m n i).cps.toList (j : Int) = some (if ledS r m i j = true then 120 else 111) := by
  unfold sgT
  rw [tx_toList]
  exact at_nat (by rw [List.getElem?_map, List.getElem?_range hj]; rfl)
section
variable {r : Nat → Nat → Nat → Nat → Bool} {m n i j : Nat}
def geoP (r : Nat → Nat → Nat → Nat → Bool) (m i j : Nat) : List Nat := List.range (m - 1 - i) ++ (List.range j).map (ledD r m (i + 1))
def geoR (r : Nat → Nat → Nat → Nat → Bool) (m n i j : Nat) : List Nat := (List.range (n - j)).map (fun c => ledD r m i (j + c)) ++ ((List.range i).map fun k => ledA r m k n).reverse
/-- the lines along the cut ahead of a cell, from below on the left to above on the right -/
def geoL (r : Nat → Nat → Nat → Nat → Bool) (m n i j : Nat) : List Nat := geoP r m i j ++ ledA r m i j :: geoR r m n i j
theorem geoL_perm : (geoL r m n i j).Perm (cutB r m n i j) := by
  rw [List.perm_iff_count]
  intro z
  unfold geoL geoP geoR cutB
  simp only [List.count_append, List.count_cons, List.count_reverse, List.count_nil]
  omega
theorem geoL_nodup (hi : i < m) (hj : j ≤ n) : (geoL r m n i j).Nodup := geoL_perm.nodup_iff.mpr (cutB_nodup r hi hj)
theorem geo_here (hj : j < n) : geoL r m n i j = geoP r m i j ++ ledA r m i j :: ledD r m i j :: geoR r m n i (j + 1) := by
  unfold geoL
  have : geoR r m n i j = ledD r m i j :: geoR r m n i (j + 1) := by
    unfold geoR
    rw [show n - j = (n - (j + 1)) + 1 by omega, List.range_succ_eq_map, List.map_cons, List.map_map, List.cons_append, Nat.add_zero]
    congr 2
    refine List.map_congr_left fun c _ => ?_
    show ledD r m i (j + (c + 1)) = ledD r m i (j + 1 + c)
    congr 1
    omega
  rw [this]
theorem geo_next : geoL r m n i (j + 1) = geoP r m i j ++ ledD r m (i + 1) j :: ledA r m i (j + 1) :: geoR r m n i (j + 1) := by
  unfold geoL geoP
  rw [List.range_succ, List.map_append]
  simp only [List.append_assoc, List.map_cons, List.map_nil, List.cons_append, List.nil_append]
theorem geo_row (hi : i + 1 < m) : geoL r m n i n = geoL r m n (i + 1) 0 := by
  unfold geoL geoP geoR
  rw [Nat.sub_self, List.range_zero, List.map_nil, List.map_nil, List.append_nil, List.nil_append, Nat.sub_zero, ledA_0, List.range_succ, List.map_append, List.reverse_append]
  rw [show m - 1 - i = (m - 1 - (i + 1)) + 1 by omega, List.range_succ]
  simp only [List.append_assoc, List.map_cons, List.map_nil, List.cons_append, List.nil_append, List.reverse_cons, List.reverse_nil, Nat.zero_add]
theorem geo_start (hm : 0 < m) : geoL r m n 0 0 = List.range (m + n) := by
  unfold geoL geoP geoR
  rw [ledA_0, Nat.sub_zero, Nat.sub_zero, List.range_zero, List.map_nil, List.map_nil, List.append_nil, List.reverse_nil, List.append_nil]
  have e : (List.range n).map (fun c => ledD r m 0 (0 + c)) = (List.range n).map (fun c => m + c) := List.map_congr_left fun c _ => by rw [ledD_0, Nat.zero_add]
  rw [e, List.range_add, show m = (m - 1) + 1 by omega, List.range_succ, List.append_assoc]
  rfl
theorem geo_end (hm : 0 < m) : geoL r m n (m - 1) n = ledE r m n := by
  unfold geoL geoP geoR ledE
  rw [Nat.sub_self, Nat.sub_self, List.range_zero, List.map_nil, List.nil_append, List.nil_append]
  rw [show (List.range m).map (fun i => ledA r m i n) = (List.range (m - 1)).map (fun i => ledA r m i n) ++ [ledA r m (m - 1) n] by
    conv => lhs; rw [show m = (m - 1) + 1 by omega, List.range_succ, List.map_append]
    rw [show m - 1 + 1 = m by omega]; rfl, List.reverse_append, show m - 1 + 1 = m by omega]
  rfl
/-- a stands ahead of b -/
def bef (l : List Nat) (a b : Nat) : Prop := l.idxOf a < l.idxOf b
theorem idx_mid {L R : List Nat} {x y v : Nat} : (L ++ x :: y :: R).idxOf v = if v ∈ L then L.idxOf v else if x = v then L.length else if y = v then L.length + 1 else L.length + 2 + R.idxOf v := by
  rw [List.idxOf_append]
  split
  · rfl
  · rw [List.idxOf_cons, List.idxOf_cons]
    by_cases h1 : x = v
    · rw [if_pos h1, show (x == v) = true from beq_iff_eq.mpr h1, cond_true]; omega
    · rw [if_neg h1, show (x == v) = false from beq_eq_false_iff_ne.mpr h1, cond_false]
      by_cases h2 : y = v
      · rw [if_pos h2, show (y == v) = true from beq_iff_eq.mpr h2, cond_true]; omega
      · rw [if_neg h2, show (y == v) = false from beq_eq_false_iff_ne.mpr h2, cond_false]; omega
theorem nd_mid {L R : List Nat} {x y : Nat} (h : (L ++ x :: y :: R).Nodup) : x ∉ L ∧ y ∉ L ∧ x ≠ y := by
  obtain ⟨_, h2, h3⟩ := List.nodup_append.mp h
  refine ⟨fun z => h3 x z x List.mem_cons_self rfl, fun z => h3 y z y (List.mem_cons_of_mem _ List.mem_cons_self) rfl, fun z => ?_⟩
  rw [z] at h2
  exact (List.nodup_cons.mp h2).1 List.mem_cons_self
theorem bef_mid {L R : List Nat} {x y : Nat} (h : (L ++ x :: y :: R).Nodup) : bef (L ++ x :: y :: R) x y ∧ ¬ bef (L ++ x :: y :: R) y x := by
  obtain ⟨h1, h2, h3⟩ := nd_mid h
  unfold bef
  rw [idx_mid, idx_mid, if_neg h1, if_neg h2, if_pos rfl, if_neg h3, if_pos rfl]
  omega
theorem bef_else {L R : List Nat} {x y a b : Nat} (h : (L ++ x :: y :: R).Nodup) (hn : ¬ ((a = x ∨ a = y) ∧ (b = x ∨ b = y))) : bef (L ++ y :: x :: R) a b ↔ bef (L ++ x :: y :: R) a b := by
  obtain ⟨h1, h2, h3⟩ := nd_mid h
  unfold bef
  rw [idx_mid, idx_mid, idx_mid, idx_mid]
  have la : a ∈ L → L.idxOf a < L.length := fun z => List.idxOf_lt_length_iff.mpr z
  have lb : b ∈ L → L.idxOf b < L.length := fun z => List.idxOf_lt_length_iff.mpr z
  by_cases a1 : a ∈ L <;> by_cases b1 : b ∈ L
  · simp only [if_pos a1, if_pos b1]
  · have := la a1
    simp only [if_pos a1, if_neg b1]
    split <;> split <;> (try split) <;> (try split) <;> omega
  · have := lb b1
    simp only [if_neg a1, if_pos b1]
    split <;> split <;> (try split) <;> (try split) <;> omega
  · simp only [if_neg a1, if_neg b1]
    by_cases c1 : x = a
    · have c2 : ¬ y = a := fun z => h3 (c1.trans z.symm)
      have c3 : ¬ x = b := fun z => hn ⟨.inl c1.symm, .inl z.symm⟩
      have c4 : ¬ y = b := fun z => hn ⟨.inl c1.symm, .inr z.symm⟩
      simp only [if_pos c1, if_neg c2, if_neg c3, if_neg c4]; omega
    · by_cases c2 : y = a
      · have c3 : ¬ x = b := fun z => hn ⟨.inr c2.symm, .inl z.symm⟩
        have c4 : ¬ y = b := fun z => hn ⟨.inr c2.symm, .inr z.symm⟩
        simp only [if_neg c1, if_pos c2, if_neg c3, if_neg c4]; omega
      · simp only [if_neg c1, if_neg c2]
        split <;> split <;> (try split) <;> (try split) <;> omega
/-- both lines come into a cell -/
def inB (r : Nat → Nat → Nat → Nat → Bool) (m a b : Nat) (q : Nat × Nat) : Bool := inC r m a q && inC r m b q
/-- they have met, ahead of a cell, where the signs are unlike -/
def metX (r : Nat → Nat → Nat → Nat → Bool) (u : Nat → Nat → Bool) (m n a b i j : Nat) : Bool := ((preB m n i j).filter (inB r m a b)).any fun q => u q.1 q.2
section
variable {u : Nat → Nat → Bool} {a b : Nat} (hr : ∀ i j x y, r i j x y = (u i j && decide (x < y))) (hab : a < b)
include hr hab
theorem meet_cell (hi : i < m) (hj : j < n) (inv : bef (geoL r m n i j) a b ↔ metX r u m n a b i j = false) (h : inB r m a b (i, j) = true) :
    (ledA r m i j = a ∧ ledD r m i j = b ∧ metX r u m n a b i j = false) ∨ (ledA r m i j = b ∧ ledD r m i j = a ∧ metX r u m n a b i j = true) := by
  unfold inB inC at h
  simp only [Bool.and_eq_true, decide_eq_true_eq] at h
  have nd := geoL_nodup (r := r) (n := n) hi (j := j) (by omega)
  rw [geo_here hj] at nd inv
  obtain ⟨b1, b2⟩ := bef_mid nd
  obtain ⟨_, _, hne⟩ := nd_mid nd
  obtain ⟨h1, h2⟩ := h
  rcases h1 with h1 | h1
  · have h3 : ledD r m i j = b := by
      rcases h2 with h2 | h2
      · omega
      · exact h2
    rw [h1, h3] at b1 inv
    exact .inl ⟨h1, h3, inv.mp b1⟩
  · have h3 : ledA r m i j = b := by
      rcases h2 with h2 | h2
      · exact h2
      · omega
    rw [h1, h3] at b2 inv
    refine .inr ⟨h3, h1, ?_⟩
    cases hx : metX r u m n a b i j with
    | true => rfl
    | false => exact absurd (inv.mpr hx) b2
/-- the sign of a cell in which both meet -/
theorem meet_sign (hi : i < m) (hj : j < n) (inv : bef (geoL r m n i j) a b ↔ metX r u m n a b i j = false) (h : inB r m a b (i, j) = true) : ledS r m i j = (u i j && !metX r u m n a b i j) := by
  unfold ledS
  rw [hr]
  rcases meet_cell hr hab hi hj inv h with ⟨h1, h2, h3⟩ | ⟨h1, h2, h3⟩
  · rw [h1, h2, h3, decide_eq_true hab]; rfl
  · rw [h1, h2, h3, decide_eq_false (by omega)]; simp
theorem meet_step (hi : i < m) (hj : j < n) (inv : bef (geoL r m n i j) a b ↔ metX r u m n a b i j = false) : bef (geoL r m n i (j + 1)) a b ↔ metX r u m n a b i (j + 1) = false := by
  have nd := geoL_nodup (r := r) (n := n) hi (j := j) (by omega)
  have nd2 := geoL_nodup (r := r) (n := n) hi (j := j + 1) (by omega)
  have hX : metX r u m n a b i (j + 1) = (metX r u m n a b i j || (inB r m a b (i, j) && u i j)) := by
    unfold metX
    rw [preB_s hi, List.filter_append, List.any_append]
    congr 1
    cases hb : inB r m a b (i, j) with
    | true => rw [List.filter_cons_of_pos hb, List.filter_nil]; simp
    | false => rw [List.filter_cons_of_neg (by rw [hb]; decide), List.filter_nil]; simp
  have hS := fun h => meet_sign hr hab hi hj inv h
  have hC := fun h => meet_cell hr hab hi hj inv h
  rw [geo_here hj] at nd inv
  rw [geo_next] at nd2 ⊢
  rw [hX, ledA_s, ledD_s]
  rw [ledA_s, ledD_s] at nd2
  cases hb : inB r m a b (i, j) with
  | false =>
    rw [Bool.false_and, Bool.or_false, ← inv]
    cases hs : ledS r m i j with
    | false =>
      rw [if_neg (by decide), if_neg (by decide)]
    | true =>
      rw [if_pos rfl, if_pos rfl]
      refine bef_else nd fun z => ?_
      unfold inB inC at hb
      rw [Bool.and_eq_false_iff, decide_eq_false_iff_not, decide_eq_false_iff_not] at hb
      obtain ⟨z1, z2⟩ := z
      rcases hb with h | h
      · exact h (by rcases z1 with z | z <;> simp [z])
      · exact h (by rcases z2 with z | z <;> simp [z])
  | true =>
    rw [Bool.true_and]
    rw [hS hb] at nd2 ⊢
    rcases hC hb with ⟨h1, h2, h3⟩ | ⟨h1, h2, h3⟩
    · rw [h1, h2, h3] at nd2 ⊢
      cases hu : u i j with
      | true =>
        rw [hu] at nd2
        rw [if_pos (by decide), if_pos (by decide)] at nd2 ⊢
        simpa using (bef_mid nd2).2
      | false =>
        rw [hu] at nd2
        rw [if_neg (by decide), if_neg (by decide)] at nd2 ⊢
        simpa using (bef_mid nd2).1
    · rw [h1, h2, h3] at nd2 ⊢
      rw [if_neg (by simp), if_neg (by simp)] at nd2 ⊢
      simpa using (bef_mid nd2).2
theorem meet_inv (hb : b < m + n) : ∀ i j : Nat, i < m → j ≤ n → (bef (geoL r m n i j) a b ↔ metX r u m n a b i j = false) := by
  have row : ∀ i, i < m → (bef (geoL r m n i 0) a b ↔ metX r u m n a b i 0 = false) → ∀ j, j ≤ n → (bef (geoL r m n i j) a b ↔ metX r u m n a b i j = false) := by
    intro i hi h0 j
    induction j with
    | zero => exact fun _ => h0
    | succ j ih => exact fun hj => meet_step hr hab hi (by omega) (ih (by omega))
  intro i
  induction i with
  | zero =>
    intro j hm hj
    refine row 0 hm ?_ j hj
    have e1 : ∀ v, v < m + n → (List.range (m + n)).idxOf v = v := fun v hv => by
      have := (isT_range (m + n)).idx_g (i := v) (by rw [List.length_range]; exact hv)
      rwa [gT_range hv] at this
    rw [geo_start hm]
    unfold bef metX
    rw [e1 a (by omega), e1 b hb, preB_0]
    simp [cellsB, hab]
  | succ i ih =>
    intro j hi hj
    refine row (i + 1) hi ?_ j hj
    rw [← geo_row hi]
    have := ih n (by omega) (Nat.le_refl _)
    unfold metX at this ⊢
    rwa [preB_row (by omega)] at this
end
/-- all cells in which both meet -/
def bothB (r : Nat → Nat → Nat → Nat → Bool) (m n a b : Nat) : List (Nat × Nat) := (cellsB m n).filter (inB r m a b)
theorem bothB_comm {a b : Nat} : bothB r m n a b = bothB r m n b a := by
  unfold bothB
  congr 1
  funext q
  unfold inB
  rw [Bool.and_comm]
theorem way_both {a b : Nat} : (wayB r m n a).filter (inC r m b) = bothB r m n a b := by
  unfold wayB bothB
  rw [List.filter_filter]
  congr 1
  funext q
  unfold inB
  rw [Bool.and_comm]
theorem cells_nodup (m n : Nat) : (cellsB m n).Nodup := by
  induction m with
  | zero => exact List.nodup_nil
  | succ m ih =>
    rw [cellsB_s, List.nodup_append]
    refine ⟨ih, nodup_map List.nodup_range fun x y h => (Prod.mk.inj h).2, fun x hx y hy e => ?_⟩
    obtain ⟨j, _, rfl⟩ := List.mem_map.mp hy
    have := (cellsB_mem hx).1
    rw [e] at this
    exact absurd this (Nat.lt_irrefl _)
theorem cells_split (hi : i < m) (hj : j < n) : ∃ rest, cellsB m n = preB m n i j ++ (i, j) :: rest := by
  have h1 : ∀ k, i + 1 + k ≤ m → ∃ s, cellsB (i + 1 + k) n = cellsB (i + 1) n ++ s := by
    intro k
    induction k with
    | zero => exact fun _ => ⟨[], (List.append_nil _).symm⟩
    | succ k ih =>
      intro hk
      obtain ⟨s, h⟩ := ih (by omega)
      exact ⟨s ++ (List.range n).map fun j => (i + 1 + k, j), by rw [← Nat.add_assoc, cellsB_s, h, List.append_assoc]⟩
  obtain ⟨s, h⟩ := h1 (m - (i + 1)) (by omega)
  rw [show i + 1 + (m - (i + 1)) = m by omega] at h
  refine ⟨(List.range (n - (j + 1))).map (fun c => (i, j + 1 + c)) ++ s, ?_⟩
  rw [h, cellsB_s]
  unfold preB
  rw [if_pos hi, show n = (j + 1) + (n - (j + 1)) by omega, List.range_add, List.range_succ, Nat.add_sub_cancel_left]
  simp only [List.map_append, List.map_map, List.append_assoc, List.map_cons, List.map_nil, List.cons_append, List.nil_append]
  rfl
theorem take_mid {α : Type} {l p s : List α} {q : α} {k : Nat} (nd : l.Nodup) (e : l = p ++ q :: s) (h : l[k]? = some q) : l.take k = p := by
  have h2 : l[p.length]? = some q := by rw [e, List.getElem?_append_right (Nat.le_refl _), Nat.sub_self]; rfl
  rw [nd_ix nd h h2, e, List.take_left']
  rfl
theorem both_sign {u : Nat → Nat → Bool} {a b : Nat} (hr : ∀ i j x y, r i j x y = (u i j && decide (x < y))) (hab : a < b) (hb : b < m + n) {k : Nat} {q : Nat × Nat} (h : (bothB r m n a b)[k]? = some q) :
    ledS r m q.1 q.2 = (u q.1 q.2 && !(((bothB r m n a b).take k).any fun q => u q.1 q.2)) := by
  obtain ⟨i, j⟩ := q
  have hm := List.mem_filter.mp (List.mem_of_getElem? h)
  obtain ⟨hi, hj⟩ := cellsB_mem hm.1
  obtain ⟨rest, e⟩ := cells_split hi hj
  have h2 : bothB r m n a b = (preB m n i j).filter (inB r m a b) ++ (i, j) :: rest.filter (inB r m a b) := by
    unfold bothB
    rw [e, List.filter_append, List.filter_cons_of_pos hm.2]
  rw [take_mid (l := bothB r m n a b) ((cells_nodup m n).filter _) h2 h]
  exact meet_sign hr hab hi hj (meet_inv hr hab hb i j hi (by omega)) hm.2
theorem both_end {u : Nat → Nat → Bool} {a b : Nat} (hr : ∀ i j x y, r i j x y = (u i j && decide (x < y))) (hab : a < b) (hb : b < m + n) : decide ((ledE r m n).idxOf b < (ledE r m n).idxOf a) = (bothB r m n a b).any fun q => u q.1 q.2 := by
  have hT := ledE_T r m n
  have hl := ledE_len r m n
  have hne : (ledE r m n).idxOf a ≠ (ledE r m n).idxOf b := fun z => by
    have h1 := hT.g_idx (v := a) (by rw [hl]; omega)
    rw [z, hT.g_idx (by rw [hl]; omega)] at h1
    omega
  by_cases hm : 0 < m
  · have h := meet_inv hr hab hb (m - 1) n (by omega) (Nat.le_refl _)
    rw [geo_end hm] at h
    unfold metX at h
    rw [preB_row (by omega), preB_0, show m - 1 + 1 = m by omega] at h
    unfold bef at h
    change _ ↔ ((bothB r m n a b).any fun q => u q.1 q.2) = false at h
    cases hx : (bothB r m n a b).any fun q => u q.1 q.2 with
    | true =>
      rw [hx] at h
      exact decide_eq_true (by have : ¬ _ := fun z => Bool.noConfusion (h.mp z); omega)
    | false =>
      rw [hx] at h
      exact decide_eq_false (by have := h.mpr rfl; omega)
  · obtain rfl : m = 0 := by omega
    have e1 : ledE r 0 n = List.range n := by
      unfold ledE
      rw [List.range_zero, List.map_nil, List.reverse_nil, List.append_nil]
      conv => rhs; rw [← List.map_id (List.range n)]
      exact List.map_congr_left fun j _ => by rw [ledD_0, Nat.zero_add]; rfl
    have e2 : ∀ v, v < n → (List.range n).idxOf v = v := fun v hv => by
      have := (isT_range n).idx_g (i := v) (by rw [List.length_range]; exact hv)
      rwa [gT_range hv] at this
    rw [e1, e2 a (by omega), e2 b (by omega)]
    simp [bothB, cellsB]
    omega
theorem ledE_D {c : Nat} (h : c < n) : gT (ledE r m n) c = ledD r m m c := by
  refine gT_of ?_
  unfold ledE
  rw [List.getElem?_append_left (by simpa using h), List.getElem?_map, List.getElem?_range h]
  rfl
theorem ledE_A (h : i < m) : gT (ledE r m n) (n + (m - 1 - i)) = ledA r m i n := by
  refine gT_of ?_
  unfold ledE
  rw [List.getElem?_append_right (by simp), List.length_map, List.length_range, Nat.add_sub_cancel_left, List.getElem?_reverse (by simp; omega), List.getElem?_map, List.length_map, List.length_range, List.getElem?_range (by omega), show m - 1 - (m - 1 - i) = i by omega]
  rfl
end
def sp__law_way : Sp := fun vs H Q _ => ∃ (C : Addr) (m n l : Nat) (r : Nat → Nat → Nat → Nat → Bool), vs = [.ref C, .int (m : Nat), .int (n : Nat), .int (l : Nat)] ∧ H C = some (.lst ((List.range m).map fun i => V.str (sgT r m n i))) ∧ m ≤ 48 ∧ n ≤ 48 ∧ l < m + n ∧ ∀ T D (zs : List ZP) H', Ex H H' → H D = none → H' D = some (.lst (zs.map zV)) → TP H' zs → zs.map (·.2) = wayB r m n l → H' T = some (.tup [.ref D, .int (gT (invT (ledE r m n)) l : Nat)]) → Q (.ref T) H'
theorem ok__law_way (T : Tx K mg ad fd tk base tc) : FnOk P w K mg base CX0 1 (ad 13) (fd 13) ["_law_cells", "_law_many", "_law_far", "_law_line"] sp__law_way := by
  refine T.d__law_way.F.ok sc__law_way (fun vs H Q E h => ?_) (fun cdv A outer s H vs Q E hr h => ?_)
  · obtain ⟨C, m, n, l, r, rfl, _⟩ := h
    rfl
  · obtain ⟨C, m, n, l, r, rfl, hC, hm, hn, hl, k⟩ := h
    refine ⟨_, (pss_cons (ps_set (i := 4) sc__law_way.nd rfl (Or.inl rfl) (pe_callB (c_max rfl) (by rfl) T.b_max (by decide +kernel) (pa_cons pe_int (pa_cons (pe_op o_sub (pe_op o_sub (pv 1) pe_int) (pv 3)) pa_nil))))
      (pss_cons (ps_set (i := 5) sc__law_way.nd rfl (Or.inl rfl) (pe_callB (c_max rfl) (by rfl) T.b_max (by decide +kernel) (pa_cons pe_int (pa_cons (pe_op o_sub (pv 3) (pv 1)) pa_nil))))
      (pss_cons (ps_set (i := 6) sc__law_way.nd rfl (Or.inl rfl) (pe_cmpR o_lt (pv 3) (pv 1) (nomark _)))
      (pss_cons (ps_set (i := 7) sc__law_way.nd rfl (Or.inl rfl) (pe_lst pa_nil))
      (pss_cons (ps_while PassesOwn.never (PW.pt (pw_and (pt_cmpR o_lt (pv 4) (pv 1) (nomark _)) (pw_and1 (pt_cmpR o_lt (pv 5) (pv 2) (nomark _))))) (pss_cons (ps_expr (pe_bm PySem.F.plainAttrs_list PySem.F.slot_list_append PySem.F.type_list_append mt_append (pv 7) (pa_cons (pe_tup (pa_cons (pv 4) (pa_cons (pv 5) pa_nil))) pa_nil)))
      (pss_cut (ps_if (pt_cmpR (o_eq hr.units) (pe_ix (i_ix (K := K)) (pe_ix (i_ix (K := K)) (pv 0) (pv 4) (fun _ _ => rfl)) (pv 5) (fun _ _ => rfl)) pe_str (nomark _)) (pss_one (ps_set (i := 6) sc__law_way.nd rfl (Or.inl rfl) (pe_not (pv 6)))) pss_nil)
      (pss_one (ps_if (pt_tru (pv 6) (by intro _; rfl) (K := K)) (pss_one (ps_set (i := 5) sc__law_way.nd rfl (Or.inl rfl) (pe_op o_add (pv 5) pe_int))) (pss_one (ps_set (i := 4) sc__law_way.nd rfl (Or.inl rfl) (pe_op o_add (pv 4) pe_int))))))))
      (pss_cons (ps_if (pt_cmpR (o_eq hr.units) (pv 4) (pv 1) (nomark _)) (pss_one (ps_ret (pe_tup (pa_cons (pv 7) (pa_cons (pv 5) pa_nil))))) pss_nil)
      (pss_one (ps_ret (pe_tup (pa_cons (pv 7) (pa_cons (pe_op o_sub (pe_op o_sub (pe_op o_add (pv 2) (pv 1)) pe_int) (pv 4)) pa_nil))))))))))), ?_⟩
    walk_at "go"
    rename_i D H1 nD e1 v1
    have h0 : ∃ (i j : Nat) (b : Bool), (if ((m : Int) - 1 - (l : Int) > 0) then (m : Int) - 1 - (l : Int) else 0) = (i : Int) ∧ (if ((l : Int) - (m : Int) > 0) then (l : Int) - (m : Int) else 0) = (j : Int) ∧ decide ((l : Int) < (m : Int)) = b ∧ WayI r m n l i j b [] := by
      by_cases q : l < m
      · refine ⟨m - 1 - l, 0, true, by split <;> omega, by split <;> omega, decide_eq_true (by omega), ?_⟩
        refine ⟨fun _ => ⟨by omega, Nat.zero_le _, by rw [ledA_0]; omega⟩, fun h => (by cases h), ?_⟩
        rw [pre_in (by omega) (by omega)]
      · refine ⟨0, l - m, false, by split <;> omega, by split <;> omega, decide_eq_false (by omega), ?_⟩
        refine ⟨fun h => (by cases h), fun _ => ⟨Nat.zero_le _, by omega, by rw [ledD_0]; omega⟩, ?_⟩
        rw [pre_top (by omega) (by omega)]
    obtain ⟨i0, j0, b0, q1, q2, q3, hI⟩ := h0
    rw [q1, q2, q3]
    refine while_inv (fun w σ H' => ∃ (i j : Nat) (b : Bool) (zs : List ZP), Ex H H' ∧ H' D = some (.lst (zs.map zV)) ∧ TP H' zs ∧ WayI r m n l i j b (zs.map (·.2)) ∧ w = (m - i) + (n - j) ∧ σ = [some (.ref C), some (.int (m : Nat)), some (.int (n : Nat)), some (.int (l : Nat)), some (.int (i : Nat)), some (.int (j : Nat)), some (.bl b), some (.ref D)]) ⟨_, i0, j0, b0, [], e1, v1, (fun _ h => (by cases h)), hI, rfl, rfl⟩ ?_
    rintro w σ H2 ⟨i, j, b, zs, e2, v2, tz, hW, hw, rfl⟩
    have hT := ledE_T r m n
    have hTl := ledE_len r m n
    walk_at "go"
    by_cases ci : i < m
    rotate_left
    · rw [if_neg (by simpa using ci)]
      refine wh_F rfl ?_
      have hbf : b = false := by
        cases b with
        | false => rfl
        | true => exact absurd (hW.right rfl).1 ci
      have him : i = m := by have := (hW.down hbf).1; omega
      subst him
      have hf := hW.found
      unfold preB at hf
      rw [if_neg (Nat.lt_irrefl _), List.append_nil] at hf
      walk_at "go"
      refine st_T (decide_eq_true rfl) ?_
      walk_at "go"
      rename_i Z H3 nZ e3 v3
      refine k Z D zs H3 (e2.trans e3) nD (e3.get v2) (tz.ex e3) hf ?_
      obtain ⟨_, w2, w3⟩ := hW.down hbf
      have := hT.inv_g (i := j) (by omega)
      rw [ledE_D w2, w3] at this
      rw [v3, this]
    rw [if_pos (by simpa using ci)]
    walk_at "go"
    by_cases cj : j < n
    rotate_left
    · rw [decide_eq_false (by omega)]
      refine wh_F rfl ?_
      have hbt : b = true := by
        cases b with
        | true => rfl
        | false => exact absurd (hW.down rfl).2.1 cj
      have hjn : j = n := by have := (hW.right hbt).2.1; omega
      subst hjn
      have hf := hW.found
      rw [pre_out ci (hW.right hbt).2.2] at hf
      walk_at "go"
      refine st_F (decide_eq_false (by omega)) ?_
      walk_at "go"
      rename_i Z H3 nZ e3 v3
      refine k Z D zs H3 (e2.trans e3) nD (e3.get v2) (tz.ex e3) hf ?_
      have w3 := (hW.right hbt).2.2
      have := hT.inv_g (i := j + (m - 1 - i)) (by omega)
      rw [ledE_A ci, w3] at this
      rw [v3, this, show ((j : Nat) : Int) + (m : Nat) - 1 - (i : Nat) = ((j + (m - 1 - i) : Nat) : Int) by omega]
    rw [decide_eq_true (by omega)]
    refine wh_T rfl ?_
    have hin : inC r m l (i, j) = true := by
      unfold inC
      rw [decide_eq_true_eq]
      cases b with
      | true => exact .inl (hW.right rfl).2.2
      | false => exact .inr (hW.down rfl).2.2
    have hzl : zs.length ≤ 10000 := by
      have hf := congrArg List.length hW.found
      rw [List.length_map] at hf
      have := List.length_filter_le (inC r m l) (preB m n i j)
      have h2 : (preB m n i j).length ≤ 49 * 49 := preB_len (by omega) (by omega) (by omega)
      omega
    walk_at "go"
    rename_i W H3 nW e3 vW
    have v3 := e3.get v2
    refine st_app v3 (by rw [List.length_map]; omega) ?_
    have tz3 : TP (upd H3 D (.lst (zs.map zV ++ [V.ref W]))) (zs ++ [(W, (i, j))]) := ((tz.ex e3).app (TP.cons (z := (W, (i, j))) vW fun _ h => (by cases h))).up v3
    have v4 : upd H3 D (.lst (zs.map zV ++ [V.ref W])) D = some (.lst ((zs ++ [(W, (i, j))]).map zV)) := by rw [upd_same, List.map_append]; rfl
    have e4 : Ex H (upd H3 D (.lst (zs.map zV ++ [V.ref W]))) := (e2.trans e3).mut nD
    have hf4 : (zs ++ [(W, (i, j))]).map (·.2) = (preB m n i j).filter (inC r m l) ++ [(i, j)] := by rw [List.map_append, hW.found]; rfl
    generalize upd H3 D (.lst (zs.map zV ++ [V.ref W])) = H4 at tz3 v4 e4 ⊢
    have hC4 := e4.get hC
    clear e2 e3 v2 tz v3 vW
    refine ⟨fun σ' H' => H' = H4 ∧ σ' = [some (.ref C), some (.int (m : Nat)), some (.int (n : Nat)), some (.int (l : Nat)), some (.int (i : Nat)), some (.int (j : Nat)), some (.bl (if ledS r m i j = true then b else !b)), some (.ref D)], ?_, ?_⟩
    · have gi : atI ((List.range m).map fun i => V.str (sgT r m n i)) (i : Int) = some (V.str (sgT r m n i)) := fn_at ci
      have gl : (sgT r m n i).length = n := by unfold sgT; rw [tx_length, List.length_map, List.length_range]
      walk_at "go"
      refine st_ixL hC4 gi ?_
      walk_at "go"
      refine st_sign (by omega) (sg_at cj) ?_
      rw [show (Str.ofString "o") = tx [111] from by decide +kernel]
      walk_at "go"
      cases hS : ledS r m i j with
      | true =>
        rw [if_neg (by rw [if_pos rfl, decide_eq_false (fun z => absurd (tx_inj.mp z) (by decide))]; decide)]
        walk_at "go"
        exact ⟨rfl, rfl⟩
      | false =>
        rw [if_pos (by rw [if_neg (by decide)]; exact decide_eq_true rfl)]
        walk_at "go"
        exact ⟨rfl, rfl⟩
    · rintro σ' H5 ⟨rfl, rfl⟩
      walk_at "go"
      cases hb' : (if ledS r m i j = true then b else !b) with
      | true =>
        rw [if_pos rfl]
        walk_at "go"
        refine ⟨(m - i) + (n - (j + 1)), by omega, i, j + 1, true, _, e4, v4, tz3, ⟨fun _ => ⟨ci, by omega, ?_⟩, fun h => (by cases h), ?_⟩, rfl, rfl⟩
        · rw [ledA_s]
          cases hS : ledS r m i j with
          | true =>
            rw [hS, if_pos rfl] at hb'
            rw [if_pos rfl]
            exact (hW.right hb').2.2
          | false =>
            rw [hS, if_neg (by decide)] at hb'
            rw [if_neg (by decide)]
            exact (hW.down (by simpa using hb')).2.2
        · rw [hf4, pre_right ci hin]
      | false =>
        rw [if_neg (by decide)]
        walk_at "go"
        have hd : ledD r m (i + 1) j = l := by
          rw [ledD_s]
          cases hS : ledS r m i j with
          | true =>
            rw [hS, if_pos rfl] at hb'
            rw [if_pos rfl]
            exact (hW.down hb').2.2
          | false =>
            rw [hS, if_neg (by decide)] at hb'
            rw [if_neg (by decide)]
            exact (hW.right (by simpa using hb')).2.2
        refine ⟨(m - (i + 1)) + (n - j), by omega, i + 1, j, false, _, e4, v4, tz3, ⟨fun h => (by cases h), fun _ => ⟨by omega, cj, hd⟩, ?_⟩, rfl, rfl⟩
        rw [hf4, pre_down ci cj hin hd]
def sp_Board_way (K : PySem.W.Frag) : Sp := fun vs H Q E => ∃ (p : Addr) (s t : Str) (x : V), vs = [.ref p, x] ∧ BrdAt K H p s t ∧ s.length ≤ 48 ∧ t.length ≤ 48 ∧ Ty H x ∧ (withinV x 0 ((s.length : Int) + (t.length : Int) - 1) = false → RaF K E H "NoPlace" [("found", x)]) ∧
  ∀ (l : Nat), x = .int (l : Nat) → l < s.length + t.length → ∀ D (zs : List ZP) H', Ex H H' → H D = none → H' D = some (.lst (zs.map zV)) → TP H' zs → zs.map (·.2) = wayB (bR s.cps.toList t.cps.toList) s.length t.length l → Q (.ref D) H'
theorem ok_Board_way (T : Tx K mg ad fd tk base tc) : FnOk P w K mg base (L2.CX P w) 3 (ad 14) (fd 14) ["self", "line"] (sp_Board_way K) := by
  refine T.d_Board_way.F.okX sc_Board_way (fun vs H Q E h => ?_) (fun cdv A outer s H vs Q E hr h => ?_)
  · obtain ⟨p, s, t, x, rfl, _⟩ := h
    rfl
  · obtain ⟨p, s, t, x, rfl, hp, hs, ht, hx, k0, k1⟩ := h
    refine ⟨_, (pss_cons (ps_if (pt_not (pt_val (pe_call (ok_is_within T) (hr.mono (by decide)) rfl T.d_is_within.g T.d_is_within.F.kp T.d_is_within.b .nil pass0 (pa_cons (pv 1) (pa_cons pe_int (pa_cons (pe_op o_sub (pe_callB (c_len (K := K)) (by rfl) T.b_len (by decide +kernel) (pa_cons (pe_fldK (K := K) (pv 0) rfl) pa_nil)) pe_int) pa_nil)))))) (pss_one (ps_raiseG rfl (ex_NoPlace T) (hr.mono (by decide)) (takes_of rfl rfl rfl rfl) rfl (pa_cons (pv 1) pa_nil))) pss_nil)
      (pss_cons (ps_set (i := 2) sc_Board_way.nd rfl (Or.inl rfl) (pe_callB (c_len (K := K)) (by rfl) T.b_len (by decide +kernel) (pa_cons (pe_fldK (K := K) (pv 0) rfl) pa_nil)))
      (pss_cons (ps_set (i := 3) sc_Board_way.nd rfl (Or.inl rfl) (pe_callB (c_max rfl) (by rfl) T.b_max (by decide +kernel) (pa_cons pe_int (pa_cons (pe_op o_sub (pe_op o_sub (pv 2) pe_int) (pv 1)) pa_nil))))
      (pss_cons (ps_set (i := 4) sc_Board_way.nd rfl (Or.inl rfl) (pe_callB (c_max rfl) (by rfl) T.b_max (by decide +kernel) (pa_cons pe_int (pa_cons (pe_op o_sub (pv 1) (pv 2)) pa_nil))))
      (pss_cons (ps_set (i := 5) sc_Board_way.nd rfl (Or.inl rfl) (pe_cmpR o_lt (pv 1) (pv 2) (nomark _)))
      (pss_cons (ps_set (i := 6) sc_Board_way.nd rfl (Or.inl rfl) (pe_lst pa_nil))
      (pss_cons (ps_while (passes_of rfl) (PW.pt (pw_and (pt_cmpR o_lt (pv 3) (pv 2) (nomark _)) (pw_and1 (pt_cmpR o_lt (pv 4) (pe_callB (c_len (K := K)) (by rfl) T.b_len (by decide +kernel) (pa_cons (pe_fldK (K := K) (pv 0) rfl) pa_nil)) (nomark _))))) (pss_cons (ps_expr (pe_bm PySem.F.plainAttrs_list PySem.F.slot_list_append PySem.F.type_list_append mt_append (pv 6) (pa_cons (pe_tup (pa_cons (pv 3) (pa_cons (pv 4) pa_nil))) pa_nil)))
      (pss_cut (ps_if (pt_cmpR (o_eq hr.units) (pe_ix (i_ix (K := K)) (pe_ix (i_ix (K := K)) (pe_fldK (K := K) (pv 0) rfl) (pv 3) (fun _ _ => rfl)) (pv 4) (fun _ _ => rfl)) pe_str (nomark _)) (pss_one (ps_set (i := 5) sc_Board_way.nd rfl (Or.inl rfl) (pe_not (pv 5)))) pss_nil)
      (pss_one (ps_if (pt_tru (pv 5) (by intro _; rfl) (K := K)) (pss_one (ps_aug (i := 4) sc_Board_way.nd rfl (Or.inl rfl) pe_int ip_add)) (pss_one (ps_aug (i := 3) sc_Board_way.nd rfl (Or.inl rfl) pe_int ip_add)))))))
      (pss_one (ps_ret (pv 6)))))))))), ?_⟩
    obtain ⟨dx, me, sg, go, g1, g2⟩ := hp.ex
    have g3 := g2.go
    have hgl : ((invT (ledE (bR s.cps.toList t.cps.toList) s.length t.length)).map nV).length = s.length + t.length := by rw [List.length_map, invT_len, ledE_len]
    walk_at "go"
    rw [hgl]
    rw [show (((s.length + t.length : Nat) : Int)) = (s.length : Int) + (t.length : Int) by omega]
    refine ⟨x, 0, _, rfl, hx, ?_⟩
    cases hb : withinV x 0 ((s.length : Int) + (t.length : Int) - 1) with
    | false =>
      have k3 := k0 hb
      walk_at "go"
      rename_i d2 H2 hd2 e2 hv2
      exact k3 d2 H2 hd2 e2 hv2
    | true =>
      obtain ⟨l, rfl, hl⟩ : ∃ l : Nat, x = .int (l : Nat) ∧ l < s.length + t.length := by
        cases x with
        | int i =>
          have h : decide ((0 : Int) ≤ i ∧ i ≤ (s.length : Int) + (t.length : Int) - 1) = true := hb
          rw [decide_eq_true_eq] at h
          refine ⟨i.toNat, ?_, by omega⟩
          rw [Int.toNat_of_nonneg h.1]
        | _ => cases hb
      have k2 := k1 l rfl hl
      clear k0 k1 hgl
      walk_at "go"
      rename_i D H1 nD e1 v1
      obtain ⟨m, hm⟩ : ∃ m, m = s.length := ⟨_, rfl⟩
      obtain ⟨n, hn⟩ : ∃ n, n = t.length := ⟨_, rfl⟩
      obtain ⟨r, hr'⟩ : ∃ r, r = bR s.cps.toList t.cps.toList := ⟨_, rfl⟩
      rw [← hm, ← hn, ← hr'] at g2 k2
      rw [← hm]
      have h0 : ∃ (i j : Nat) (b : Bool), (if ((m : Int) - 1 - (l : Int) > 0) then (m : Int) - 1 - (l : Int) else 0) = (i : Int) ∧ (if ((l : Int) - (m : Int) > 0) then (l : Int) - (m : Int) else 0) = (j : Int) ∧ decide ((l : Int) < (m : Int)) = b ∧ WayI r m n l i j b [] := by
        by_cases q : l < m
        · refine ⟨m - 1 - l, 0, true, by split <;> omega, by split <;> omega, decide_eq_true (by omega), ?_⟩
          refine ⟨fun _ => ⟨by omega, Nat.zero_le _, by rw [ledA_0]; omega⟩, fun h => (by cases h), ?_⟩
          rw [pre_in (by omega) (by omega)]
        · refine ⟨0, l - m, false, by split <;> omega, by split <;> omega, decide_eq_false (by omega), ?_⟩
          refine ⟨fun h => (by cases h), fun _ => ⟨Nat.zero_le _, by omega, by rw [ledD_0]; omega⟩, ?_⟩
          rw [pre_top (by omega) (by omega)]
      obtain ⟨i0, j0, b0, q1, q2, q3, hI⟩ := h0
      rw [q1, q2, q3]
      have g1' := e1.get g1
      refine while_inv (fun w σ H' => ∃ (i j : Nat) (b : Bool) (zs : List ZP), Ex H H' ∧ H' D = some (.lst (zs.map zV)) ∧ TP H' zs ∧ WayI r m n l i j b (zs.map (·.2)) ∧ w = (m - i) + (n - j) ∧ σ = [some (.ref p), some (.int (l : Nat)), some (.int (m : Nat)), some (.int (i : Nat)), some (.int (j : Nat)), some (.bl b), some (.ref D)]) ⟨_, i0, j0, b0, [], e1, v1, (fun _ h => (by cases h)), hI, rfl, rfl⟩ ?_
      rintro w σ H2 ⟨i, j, b, zs, e2, v2, tz, hW, hw, rfl⟩
      have gB := e2.get g1
      have g2' := g2.ex e2
      have gsg := g2'.sg
      walk_at "go"
      by_cases ci : i < m
      rotate_left
      · rw [if_neg (by simpa using ci)]
        refine wh_F rfl ?_
        have hbf : b = false := by
          cases b with
          | false => rfl
          | true => exact absurd (hW.right rfl).1 ci
        have him : i = m := by have := (hW.down hbf).1; omega
        subst him
        have hf := hW.found
        unfold preB at hf
        rw [if_neg (Nat.lt_irrefl _), List.append_nil] at hf
        walk_at "go"
        exact k2 D zs H2 e2 nD v2 tz hf
      rw [if_pos (by simpa using ci)]
      walk_at "go"
      rw [← hn]
      by_cases cj : j < n
      rotate_left
      · rw [decide_eq_false (by omega)]
        refine wh_F rfl ?_
        have hbt : b = true := by
          cases b with
          | true => rfl
          | false => exact absurd (hW.down rfl).2.1 cj
        have hjn : j = n := by have := (hW.right hbt).2.1; omega
        subst hjn
        have hf := hW.found
        rw [pre_out ci (hW.right hbt).2.2] at hf
        walk_at "go"
        exact k2 D zs H2 e2 nD v2 tz hf
      rw [decide_eq_true (by omega)]
      refine wh_T rfl ?_
      have hin : inC r m l (i, j) = true := by
        unfold inC
        rw [decide_eq_true_eq]
        cases b with
        | true => exact .inl (hW.right rfl).2.2
        | false => exact .inr (hW.down rfl).2.2
      have hzl : zs.length ≤ 10000 := by
        have hf := congrArg List.length hW.found
        rw [List.length_map] at hf
        have := List.length_filter_le (inC r m l) (preB m n i j)
        have h2 : (preB m n i j).length ≤ 49 * 49 := preB_len (by omega) (by omega) (by omega)
        omega
      walk_at "go"
      rename_i W H3 nW e3 vW
      have v3 := e3.get v2
      refine st_app v3 (by rw [List.length_map]; omega) ?_
      have tz3 : TP (upd H3 D (.lst (zs.map zV ++ [V.ref W]))) (zs ++ [(W, (i, j))]) := ((tz.ex e3).app (TP.cons (z := (W, (i, j))) vW fun _ h => (by cases h))).up v3
      have v4 : upd H3 D (.lst (zs.map zV ++ [V.ref W])) D = some (.lst ((zs ++ [(W, (i, j))]).map zV)) := by rw [upd_same, List.map_append]; rfl
      have e4 : Ex H (upd H3 D (.lst (zs.map zV ++ [V.ref W]))) := (e2.trans e3).mut nD
      have hf4 : (zs ++ [(W, (i, j))]).map (·.2) = (preB m n i j).filter (inC r m l) ++ [(i, j)] := by rw [List.map_append, hW.found]; rfl
      generalize upd H3 D (.lst (zs.map zV ++ [V.ref W])) = H4 at tz3 v4 e4 ⊢
      have gB4 := e4.get g1
      have gsg4 := (g2.ex e4).sg
      clear e2 e3 v2 tz gB g2' gsg v3 vW
      refine ⟨fun σ' H' => H' = H4 ∧ σ' = [some (.ref p), some (.int (l : Nat)), some (.int (m : Nat)), some (.int (i : Nat)), some (.int (j : Nat)), some (.bl (if ledS r m i j = true then b else !b)), some (.ref D)], ?_, ?_⟩
      · have gi : atI ((List.range m).map fun i => V.str (sgT r m n i)) (i : Int) = some (V.str (sgT r m n i)) := fn_at ci
        have gl : (sgT r m n i).length = n := by unfold sgT; rw [tx_length, List.length_map, List.length_range]
        have gj : atI (sgT r m n i).cps.toList (j : Int) = some (if ledS r m i j = true then 120 else 111) := by
          unfold sgT
          rw [tx_toList]
          exact at_nat (by rw [List.getElem?_map, List.getElem?_range cj]; rfl)
        walk_at "go"
        refine st_ixL gsg4 gi ?_
        walk_at "go"
        refine st_sign (by omega) gj ?_
        rw [show (Str.ofString "o") = tx [111] from by decide +kernel]
        walk_at "go"
        cases hS : ledS r m i j with
        | true =>
          rw [if_neg (by rw [if_pos rfl, decide_eq_false (fun z => absurd (tx_inj.mp z) (by decide))]; decide)]
          walk_at "go"
          exact ⟨rfl, rfl⟩
        | false =>
          rw [if_pos (by rw [if_neg (by decide)]; exact decide_eq_true rfl)]
          walk_at "go"
          exact ⟨rfl, rfl⟩
      · rintro σ' H5 ⟨rfl, rfl⟩
        walk_at "go"
        cases hb' : (if ledS r m i j = true then b else !b) with
        | true =>
          rw [if_pos rfl]
          walk_at "go"
          refine ⟨(m - i) + (n - (j + 1)), by omega, i, j + 1, true, _, e4, v4, tz3, ⟨fun _ => ⟨ci, by omega, ?_⟩, fun h => (by cases h), ?_⟩, rfl, rfl⟩
          · rw [ledA_s]
            cases hS : ledS r m i j with
            | true =>
              rw [hS, if_pos rfl] at hb'
              rw [if_pos rfl]
              exact (hW.right hb').2.2
            | false =>
              rw [hS, if_neg (by decide)] at hb'
              rw [if_neg (by decide)]
              exact (hW.down (by simpa using hb')).2.2
          · rw [hf4, pre_right ci hin]
        | false =>
          rw [if_neg (by decide)]
          walk_at "go"
          have hd : ledD r m (i + 1) j = l := by
            rw [ledD_s]
            cases hS : ledS r m i j with
            | true =>
              rw [hS, if_pos rfl] at hb'
              rw [if_pos rfl]
              exact (hW.down hb').2.2
            | false =>
              rw [hS, if_neg (by decide)] at hb'
              rw [if_neg (by decide)]
              exact (hW.right (by simpa using hb')).2.2
          refine ⟨(m - (i + 1)) + (n - j), by omega, i + 1, j, false, _, e4, v4, tz3, ⟨fun h => (by cases h), fun _ => ⟨by omega, cj, hd⟩, ?_⟩, rfl, rfl⟩
          rw [hf4, pre_down ci cj hin hd]
def sp_Board_meets (K : PySem.W.Frag) : Sp := fun vs H Q E => ∃ (p : Addr) (s t : Str) (x y : V), vs = [.ref p, x, y] ∧ BrdAt K H p s t ∧ s.length ≤ 48 ∧ t.length ≤ 48 ∧ Ty H x ∧ Ty H y ∧ (withinV x 0 ((s.length : Int) + (t.length : Int) - 1) = false → RaF K E H "NoPlace" [("found", x)]) ∧ (withinV x 0 ((s.length : Int) + (t.length : Int) - 1) = true → withinV y 0 ((s.length : Int) + (t.length : Int) - 1) = false → ∀ H', Ex H H' → RaF K E H' "NoPlace" [("found", y)]) ∧
  ∀ (l o : Nat), x = .int (l : Nat) → y = .int (o : Nat) → l < s.length + t.length → o < s.length + t.length → ∀ D (zs : List ZP) H', Ex H H' → H D = none → H' D = some (.lst (zs.map zV)) → TP H' zs → zs.map (·.2) = (wayB (bR s.cps.toList t.cps.toList) s.length t.length l).filter (inC (bR s.cps.toList t.cps.toList) s.length o) → Q (.ref D) H'
theorem ok_Board_meets (T : Tx K mg ad fd tk base tc) : FnOk P w K mg base (L2.CX P w) 4 (ad 15) (fd 15) ["self", "line", "other"] (sp_Board_meets K) := by
  refine T.d_Board_meets.F.okX sc_Board_meets (fun vs H Q E h => ?_) (fun cdv A outer s H vs Q E hr h => ?_)
  · obtain ⟨p, s, t, x, y, rfl, _⟩ := h
    rfl
  · obtain ⟨p, s, t, x, y, rfl, hp, hs, ht, hx, hy, k0, k1, k2⟩ := h
    refine ⟨_, (pss_cons (ps_set (i := 3) sc_Board_meets.nd rfl (Or.inl rfl) (pe_meth (pv 0) T.cl_Board T.d_Board_way.g (ok_Board_way T) (hr.mono (by decide)) T.d_Board_way.b .nil (passes_call (takes_of rfl rfl rfl rfl) (fun _ _ _ _ h => h)) (pa_cons (pv 1) pa_nil)))
      (pss_cons (ps_set (i := 4) sc_Board_meets.nd rfl (Or.inr rfl) pe_dnewT)
      (pss_cons (ps_for (passes_of rfl) rfl (pi_list (pe_meth (pv 0) T.cl_Board T.d_Board_way.g (ok_Board_way T) (hr.mono (by decide)) T.d_Board_way.b .nil (passes_call (takes_of rfl rfl rfl rfl) (fun _ _ _ _ h => h)) (pa_cons (pv 2) pa_nil))) (pg_name (i := 5) sc_Board_meets.nd rfl (Or.inl rfl)) (pss_one (ps_dput (hu_of hr) (pv 4) (pv 5) pe_bl rfl)))
      (pss_one (ps_ret (pe_lc (own := [("cell", 5)]) (g := gName 5) rfl sc_Board_meets.nd (pi_list (pv 3)) (blkOk_by (own := [("cell", 5)]) (N := N_Board_meets) (sc := defScope s_Board_meets) (by decide +kernel)) (fun _ _ _ _ _ => pg_name (i := 5) sc_Board_meets.nd rfl (Or.inl rfl)) (fun _ _ _ _ _ => pts_one (pt_cmp (pc_din (hu_of hr) (pv 5) (pv 4)))) (fun _ _ _ _ _ => (pv 5)))))))), ?_⟩
    obtain ⟨dx, me, sg, go, g1, g2⟩ := id hp.ex
    walk_at "go"
    refine ⟨p, s, t, x, rfl, hp, hs, ht, hx, k0, fun l hxl hl D zs H1 e1 nD v1 tz hz => ?_⟩
    have g1' := e1.get g1
    walk_at "go"
    rename_i kd H2 nk e2 vk
    have hwx : withinV x 0 ((s.length : Int) + (t.length : Int) - 1) = true := by
      rw [hxl]
      exact decide_eq_true (by omega)
    refine ⟨p, s, t, y, rfl, (hp.to e1).to e2, hs, ht, (hy.ex e1).ex e2, fun h => k1 hwx h H2 (e1.trans e2), fun o hyo ho D2 ws H3 e3 nD2 v3 tw hw => ?_⟩
    have k3 := k2 l o hxl hyo hl ho
    have vk3 := e3.get vk
    have nkH := Ex.free e1 nk
    have e03 := e1.trans (e2.trans e3)
    have v13 := (e2.trans e3).get v1
    have tz3 := tz.ex (e2.trans e3)
    have qk2 : D2 ≠ kd := (ne_of_none vk nD2).symm
    have qk1 : D ≠ kd := ne_of_none v1 nk
    clear k0 k1 k2 e1 e2 e3 v1 tz vk
    have lw : ws.length ≤ 2401 := by
      have h1 := congrArg List.length hw
      rw [List.length_map] at h1
      have h2 := way_len (r := bR s.cps.toList t.cps.toList) (l := o) hs ht
      omega
    have lz : zs.length ≤ 2401 := by
      have h1 := congrArg List.length hz
      rw [List.length_map] at h1
      have h2 := way_len (r := bR s.cps.toList t.cps.toList) (l := l) hs ht
      omega
    refine ⟨D2, rfl, ⟨_, lstAt_sq (lst_of v3)⟩, ?_⟩
    refine for_runs (rv_list K D2 ws zV) (fun i σ H' => (FrP kd H3 H' ∧ ∃ kvs : List (List Key × V), H' kd = some (.dT kvs) ∧ kvs.length ≤ i ∧ ∀ z : Nat × Nat, (valV kvs (kQ z)).isSome = true ↔ z ∈ (ws.take i).map (·.2)) ∧ ∃ y5, σ = [some (.ref p), some x, some y, some (.ref D), some (.ref kd), y5]) ⟨⟨Fr.refl _, [], vk3, Nat.zero_le _, fun z => by simp [valV]⟩, _, rfl⟩ (fun i σ H' _ h => lst_of (h.1.1.get qk2 v3)) ?_ ?_
    · rintro i x' σ H4 H5 hi ⟨⟨f4, kvs, d1, d2, d3⟩, y5, rfl⟩ ⟨rfl, z, hzi, rfl⟩
      have hzt := tw z (List.mem_of_getElem? hzi)
      have hzk : z.1 ≠ kd := fun e => by rw [e, vk3] at hzt; cases hzt
      have hzt' := f4.get hzk hzt
      rw [kQ_tup] at hzt'
      unfold zV
      walk_at "go"
      refine st_dputT d1 hzt' (by omega) ?_
      refine ⟨⟨f4.trans FrP.at, _, upd_same, ?_, fun w => ?_⟩, _, rfl⟩
      · have := putK_few kvs (kQ z.2) (V.bl true)
        omega
      · rw [valV_put, List.take_add_one, hzi, List.map_append, List.mem_append]
        by_cases e : kQ w = kQ z.2
        · rw [if_pos e, kQ_inj e]
          simp
        · rw [if_neg e, d3 w]
          have : w ≠ z.2 := fun h => e (by rw [h])
          simp [this]
    · rintro σ H4 ⟨⟨f4, kvs, d1, d2, d3⟩, y5, rfl⟩
      rw [List.take_length, hw] at d3
      have e04 : Ex H H4 := Ex.comp (M := fun b => b = kd) e03 f4 fun b hb => by rw [hb]; exact nkH
      have v14 := f4.get qk1 v13
      have tz4 : TP H4 zs := fun z hz' => f4.get (fun e => by have := tz3 z hz'; rw [e, vk3] at this; cases this) (tz3 z hz')
      walk_at "go"
      refine lc_pure (rv_list K D zs zV) (fun H' e => lst_of (e.get v14)) (by omega) (fun z => inC (bR s.cps.toList t.cps.toList) s.length o z.2) (fun z => zV z) ?_ ?_
      · intro z H' hz' e B A' b1 b2
        have hD' := e.get d1
        have hzt := (tz4.ex e) z hz'
        rw [kQ_tup] at hzt
        refine ⟨rfl, ?_⟩
        unfold zV
        walk_at "go"
        refine st_dinB hD' hzt ?_
        have hm : z.2 ∈ wayB (bR s.cps.toList t.cps.toList) s.length t.length l := by rw [← hz]; exact List.mem_map.mpr ⟨z, hz', rfl⟩
        have hiff := (d3 z.2).trans (way_mem (o := o) hm)
        cases hc : inC (bR s.cps.toList t.cps.toList) s.length o z.2 with
        | true =>
          rw [hiff.mpr hc]
          walk_at "go"
          exact b1 hc _ (Fr.refl _)
        | false =>
          have : (valV kvs (kQ z.2)).isSome = false := by
            cases hv : (valV kvs (kQ z.2)).isSome with
            | false => rfl
            | true => rw [hiff.mp hv] at hc; cases hc
          rw [this]
          walk_at "go"
          exact b2 hc _ (Fr.refl _)
      · intro D3 H5 nD3 e5 vD3
        walk_at "go"
        refine k3 D3 (zs.filter fun z => inC (bR s.cps.toList t.cps.toList) s.length o z.2) H5 (e04.trans e5) (Ex.free e04 nD3) vD3 ((tz4.ex e5).sub fun z hz' => (List.mem_filter.mp hz').1) ?_
        rw [← hz, List.filter_map]
        rfl
def sp_Board_crossed_at (K : PySem.W.Frag) : Sp := fun vs H Q E => ∃ (p : Addr) (s t : Str) (x y : V), vs = [.ref p, x, y] ∧ BrdAt K H p s t ∧ s.length ≤ 48 ∧ t.length ≤ 48 ∧ Ty H x ∧ Ty H y ∧ (withinV x 0 ((s.length : Int) + (t.length : Int) - 1) = false → RaF K E H "NoPlace" [("found", x)]) ∧ (withinV x 0 ((s.length : Int) + (t.length : Int) - 1) = true → withinV y 0 ((s.length : Int) + (t.length : Int) - 1) = false → ∀ H', Ex H H' → RaF K E H' "NoPlace" [("found", y)]) ∧
  (∀ (l o : Nat) H', x = .int (l : Nat) → y = .int (o : Nat) → l < s.length + t.length → o < s.length + t.length → Ex H H' → crsB (bR s.cps.toList t.cps.toList) s.length t.length l o = none → Q .non H') ∧
  (∀ (l o : Nat) q W H', x = .int (l : Nat) → y = .int (o : Nat) → l < s.length + t.length → o < s.length + t.length → Ex H H' → crsB (bR s.cps.toList t.cps.toList) s.length t.length l o = some q → H W = none → H' W = some (tupO q) → Q (.ref W) H')
theorem ok_Board_crossed_at (T : Tx K mg ad fd tk base tc) : FnOk P w K mg base (L2.CX P w) 5 (ad 16) (fd 16) ["self", "line", "other"] (sp_Board_crossed_at K) := by
  refine T.d_Board_crossed_at.F.okX sc_Board_crossed_at (fun vs H Q E h => ?_) (fun cdv A outer s H vs Q E hr h => ?_)
  · obtain ⟨p, s, t, x, y, rfl, _⟩ := h
    rfl
  · obtain ⟨p, s, t, x, y, rfl, hp, hs, ht, hx, hy, k0, k1, k2, k4⟩ := h
    refine ⟨_, (pss_cons (ps_for (passes_of rfl) rfl (pi_list (pe_meth (pv 0) T.cl_Board T.d_Board_meets.g (ok_Board_meets T) (hr.mono (by decide)) T.d_Board_meets.b .nil (passes_call (takes_of rfl rfl rfl rfl) (fun _ _ _ _ h => h)) (pa_cons (pv 1) (pa_cons (pv 2) pa_nil)))) (pg_tup rfl (pgs_cons (pg_name (i := 3) sc_Board_crossed_at.nd rfl (Or.inl rfl)) (pgs_cons (pg_name (i := 4) sc_Board_crossed_at.nd rfl (Or.inl rfl)) pgs_nil))) (pss_one (ps_if (PW.pt (pw_and (pt_cmpR (o_ne hr.units) (pv 1) (pv 2) (nomark _)) (pw_and1 (pt_cmpR (o_eq hr.units) (pe_ix (i_ix (K := K)) (pe_ix (i_ix (K := K)) (pe_fldK (K := K) (pv 0) rfl) (pv 3) (fun _ _ => rfl)) (pv 4) (fun _ _ => rfl)) pe_str (nomark _))))) (pss_one (ps_ret (pe_tup (pa_cons (pv 3) (pa_cons (pv 4) pa_nil))))) pss_nil)))
      (pss_one (ps_ret pe_non))), ?_⟩
    obtain ⟨dx, me, sg, go, g1, g2⟩ := id hp.ex
    walk_at "go"
    refine ⟨p, s, t, x, y, rfl, hp, hs, ht, hx, hy, k0, k1, fun l o hxl hyo hl ho D zs H1 e1 nD v1 tz hz => ?_⟩
    have k5 := fun H' => k2 l o H' hxl hyo hl ho
    have k6 := fun q W H' => k4 l o q W H' hxl hyo hl ho
    subst hxl hyo
    clear k0 k1 k2 k4
    refine ⟨D, rfl, ⟨_, lstAt_sq (lst_of v1)⟩, ?_⟩
    have g1' := e1.get g1
    have gsg := (g2.ex e1).sg
    obtain ⟨r, hr'⟩ : ∃ r, r = bR s.cps.toList t.cps.toList := ⟨_, rfl⟩
    rw [← hr'] at hz k5 k6 gsg
    refine for_runs (rv_list K D zs zV) (fun i σ H' => H' = H1 ∧ ((zs.take i).map (·.2)).find? (fun q => decide (l ≠ o) && ledS r s.length q.1 q.2) = none ∧ ∃ y3 y4, σ = [some (.ref p), some (.int (l : Nat)), some (.int (o : Nat)), y3, y4]) ⟨rfl, rfl, _, _, rfl⟩ (fun i σ H' _ h => lst_of (by rw [h.1]; exact v1)) ?_ ?_
    · rintro i x' σ H4 H5 hi ⟨rfl, hf, y3, y4, rfl⟩ ⟨rfl, z, hzi, rfl⟩
      have hzt : H5 z.1 = some (.tup [.int (z.2.1 : Nat), .int (z.2.2 : Nat)]) := tz z (List.mem_of_getElem? hzi)
      have hmem : z.2 ∈ (wayB r s.length t.length l).filter (inC r s.length o) := by rw [← hz]; exact List.mem_map.mpr ⟨z, List.mem_of_getElem? hzi, rfl⟩
      obtain ⟨hi1, hj1⟩ := cellsB_mem (List.mem_filter.mp (List.mem_filter.mp hmem).1).1
      have hstep : ((zs.take (i + 1)).map (·.2)).find? (fun q => decide (l ≠ o) && ledS r s.length q.1 q.2) = if (decide (l ≠ o) && ledS r s.length z.2.1 z.2.2) = true then some z.2 else none := by
        rw [List.take_add_one, hzi, List.map_append, List.find?_append, hf]
        rw [Option.none_or]
        show (List.find? _ [z.2]) = _
        cases hc : (decide (l ≠ o) && ledS r s.length z.2.1 z.2.2) with
        | true =>
          rw [List.find?_cons, hc]
          rfl
        | false =>
          rw [List.find?_cons, hc]
          rfl
      have gi : atI ((List.range s.length).map fun i => V.str (sgT r s.length t.length i)) ((z.2.1 : Nat) : Int) = some (V.str (sgT r s.length t.length z.2.1)) := fn_at hi1
      have gl : (sgT r s.length t.length z.2.1).length = t.length := by unfold sgT; rw [tx_length, List.length_map, List.length_range]
      rw [show (Str.ofString "x") = tx [120] from by decide +kernel]
      unfold zV
      walk_at "go"
      by_cases hlo : l = o
      · rw [if_neg (by simp [hlo])]
        walk_at "go"
        refine ⟨rfl, ?_, _, _, rfl⟩
        rw [hstep, if_neg (by simp [hlo])]
      · rw [if_pos (by simp; omega)]
        walk_at "go"
        refine st_ixL gsg gi ?_
        walk_at "go"
        refine st_sign (by omega) (sg_at hj1) ?_
        walk_at "go"
        cases hS : ledS r s.length z.2.1 z.2.2 with
        | true =>
          rw [if_pos (by rw [if_pos rfl]; exact decide_eq_true rfl)]
          walk_at "go"
          rename_i W H6 nW e6 vW
          refine k6 z.2 W H6 (e1.trans e6) ?_ (Ex.free e1 nW) vW
          unfold crsB
          rw [← hz, ← List.take_append_drop (i + 1) zs, List.map_append, List.find?_append, hstep, if_pos (by rw [hS, decide_eq_true hlo]; rfl)]
          rfl
        | false =>
          rw [if_neg (by rw [if_neg (by decide), decide_eq_false (fun z => absurd (tx_inj.mp z) (by decide))]; decide)]
          walk_at "go"
          refine ⟨rfl, ?_, _, _, rfl⟩
          rw [hstep, if_neg (by rw [hS]; simp)]
    · rintro σ H4 ⟨rfl, hf, y3, y4, rfl⟩
      rw [List.take_length, hz] at hf
      walk_at "go"
      exact k5 H4 e1 hf
structure DLs (H : Hp) (D : Addr) (kvs : List (List Key × V)) (val : Nat × Nat → List V) : Prop where
  at_ : H D = some (.dT kvs)
  no : ∀ q, valV kvs (kQ q) = none → val q = []
  yes : ∀ q v, valV kvs (kQ q) = some v → ∃ L, v = .ref L ∧ H L = some (.lst (val q))
  inj : ∀ q q' L, valV kvs (kQ q) = some (.ref L) → valV kvs (kQ q') = some (.ref L) → q = q'
section
variable {H H' : Hp} {D : Addr} {kvs : List (List Key × V)} {val : Nat × Nat → List V}
theorem DLs.ex (h : DLs H D kvs val) (e : Ex H H') : DLs H' D kvs val := ⟨e.get h.at_, h.no, fun q v hv => by
  obtain ⟨L, h1, h2⟩ := h.yes q v hv
  exact ⟨L, h1, e.get h2⟩, h.inj⟩
theorem DLs.congr {val' : Nat × Nat → List V} (h : DLs H D kvs val) (e : ∀ q, val q = val' q) : DLs H D kvs val' := by
  rw [← show val = val' from funext e]
  exact h
theorem DLs.hit (h : DLs H D kvs val) {q : Nat × Nat} {L : Addr} (hv : valV kvs (kQ q) = some (.ref L)) (x : V) : DLs (upd H L (.lst (val q ++ [x]))) D kvs fun q' => if q' = q then val q' ++ [x] else val q' := by
  obtain ⟨L', e1, e2⟩ := h.yes q _ hv
  cases e1
  refine ⟨?_, fun q' hq => ?_, fun q' v hq => ?_, h.inj⟩
  · refine (upd_ne fun z => ?_).trans h.at_
    rw [← z, h.at_] at e2
    cases e2
  · by_cases e : q' = q
    · rw [e, hv] at hq
      cases hq
    · simp only [if_neg e]
      exact h.no q' hq
  · obtain ⟨M, m1, m2⟩ := h.yes q' v hq
    refine ⟨M, m1, ?_⟩
    by_cases e : q' = q
    · rw [e, hv] at hq
      cases hq
      cases m1
      simp only [if_pos e]
      rw [upd_same, e]
    · simp only [if_neg e]
      refine (upd_ne fun z => e (h.inj q' q L ?_ hv)).trans m2
      rw [hq, m1, z]
theorem DLs.put (h : DLs H D kvs val) {q : Nat × Nat} {p : Addr} (hv : valV kvs (kQ q) = none) (hp : H p = some (.lst [])) (hn : ∀ q', valV kvs (kQ q') ≠ some (.ref p)) :
    DLs (upd H D (.dT (putK kvs (kQ q) (.ref p)))) D (putK kvs (kQ q) (.ref p)) val := by
  have ne : ∀ {b : Addr} {xs : List V}, H b = some (.lst xs) → b ≠ D := fun {b xs} hb z => by
    rw [z, h.at_] at hb
    cases hb
  refine ⟨upd_same, fun q' hq => ?_, fun q' v hq => ?_, fun q1 q2 L h1 h2 => ?_⟩
  · rw [valV_put] at hq
    by_cases e : kQ q' = kQ q
    · rw [if_pos e] at hq
      cases hq
    · rw [if_neg e] at hq
      exact h.no q' hq
  · rw [valV_put] at hq
    by_cases e : kQ q' = kQ q
    · rw [if_pos e] at hq
      cases hq
      have e2 := kQ_inj e
      subst e2
      refine ⟨p, rfl, (upd_ne (ne hp)).trans ?_⟩
      rw [h.no _ hv]
      exact hp
    · rw [if_neg e] at hq
      obtain ⟨M, m1, m2⟩ := h.yes q' v hq
      exact ⟨M, m1, (upd_ne (ne m2)).trans m2⟩
  · rw [valV_put] at h1 h2
    by_cases e1 : kQ q1 = kQ q
    · by_cases e2 : kQ q2 = kQ q
      · exact (kQ_inj e1).trans (kQ_inj e2).symm
      · rw [if_pos e1] at h1
        rw [if_neg e2] at h2
        cases h1
        exact absurd h2 (hn q2)
    · by_cases e2 : kQ q2 = kQ q
      · rw [if_neg e1] at h1
        rw [if_pos e2] at h2
        cases h2
        exact absurd h1 (hn q1)
      · rw [if_neg e1] at h1
        rw [if_neg e2] at h2
        exact h.inj _ _ _ h1 h2
theorem DLs.new (h : H D = some (.dT [])) : DLs H D [] fun _ => [] := ⟨h, fun _ _ => rfl, fun _ _ z => by simp [valV] at z, fun _ _ _ z => by simp [valV] at z⟩
end
/-- x.setdefault(key, []) -/
theorem dls_turn {H0 H H1 : Hp} {D p b : Addr} {kvs : List (List Key × V)} {val : Nat × Nat → List V} {Q : VK} (q : Nat × Nat) (h : DLs H D kvs val) (h0 : Ex H0 H) (n0 : H0 D = none) (nL : ∀ q L, valV kvs (kQ q) = some (.ref L) → H0 L = none)
    (np : H p = none) (e1 : Ex H H1) (vp : H1 p = some (.lst [])) (hb : H1 b = some (tupO q)) (hl : kvs.length < 1000000)
    (k : ∀ (L : Addr) (kvs' : List (List Key × V)) (H2 : Hp), DLs H2 D kvs' val → valV kvs' (kQ q) = some (.ref L) → Ex H0 H2 → (∀ q L, valV kvs' (kQ q) = some (.ref L) → H0 L = none) → kvs'.length ≤ kvs.length + 1 → (∀ kv ∈ kvs', kv ∈ kvs ∨ kv.1 = kQ q) → (∀ c, c ≠ D → H2 c = H1 c) → Q (.ref L) H2) :
    DSetT D (.ref b) (.ref p) Q H1 := by
  have h' := h.ex e1
  have np0 : H0 p = none := Ex.free h0 np
  have hn : ∀ q', valV kvs (kQ q') ≠ some (.ref p) := fun q' z => by
    obtain ⟨L, a1, a2⟩ := h.yes q' _ z
    cases a1
    rw [np] at a2
    cases a2
  refine st_dsetT (kQ q) h'.at_ hb (by omega) (fun v hv => ?_) fun hv => ?_
  · obtain ⟨L, rfl, h2⟩ := h'.yes q v hv
    exact k L kvs H1 h' hv (h0.trans e1) nL (Nat.le_succ _) (fun kv hk => .inl hk) fun c _ => rfl
  · refine k p _ _ (h'.put hv vp hn) (by rw [valV_put, if_pos rfl]) ((h0.trans e1).mut n0) (fun q' L' hv' => ?_) (putK_few _ _ _) (fun kv hk => ?_) fun c hc => upd_ne hc
    · rw [valV_put] at hv'
      by_cases e : kQ q' = kQ q
      · rw [if_pos e] at hv'
        cases hv'
        exact np0
      · rw [if_neg e] at hv'
        exact nL q' L' hv'
    · rw [putK_newT hv] at hk
      rcases List.mem_append.mp hk with z | z
      · exact .inl z
      · rw [List.mem_singleton.mp z]
        exact .inr rfl
/-- the two lines that come into a cell, in order -/
def mmC (r : Nat → Nat → Nat → Nat → Bool) (m : Nat) (c : Nat × Nat) : Nat × Nat := (min (ledA r m c.1 c.2) (ledD r m c.1 c.2), max (ledA r m c.1 c.2) (ledD r m c.1 c.2))
theorem filter_two {a d : Nat} (h : a ≠ d) : ∀ k : Nat, (List.range k).filter (fun l => decide (a = l ∨ d = l)) = (if min a d < k then [min a d] else []) ++ (if max a d < k then [max a d] else [])
  | 0 => by simp
  | k + 1 => by
    rw [List.range_succ, List.filter_append, filter_two h k]
    by_cases c : a = k ∨ d = k
    · rw [List.filter_cons_of_pos (by simpa using c), List.filter_nil]
      by_cases h1 : min a d = k
      · rw [if_neg (by omega), if_neg (by omega), if_pos (by omega), if_neg (by omega), h1]; rfl
      · rw [if_pos (by omega), if_neg (by omega), if_pos (by omega), if_pos (by omega), show max a d = k by omega]; rfl
    · rw [List.filter_cons_of_neg (by simpa using c), List.filter_nil, List.append_nil]
      by_cases h1 : min a d < k
      · rw [if_pos h1, if_pos (show min a d < k + 1 by omega)]
        by_cases h2 : max a d < k
        · rw [if_pos h2, if_pos (by omega)]
        · rw [if_neg h2, if_neg (by omega)]
      · rw [if_neg h1, if_neg (show ¬ min a d < k + 1 by omega), if_neg (by omega), if_neg (by omega)]
theorem lines_two {r : Nat → Nat → Nat → Nat → Bool} {m n : Nat} {c : Nat × Nat} (hi : c.1 < m) (hj : c.2 < n) : (List.range (m + n)).filter (fun l => inC r m l c) = [(mmC r m c).1, (mmC r m c).2] ∧ (mmC r m c).1 < (mmC r m c).2 ∧ (mmC r m c).2 < m + n := by
  have h1 := cut_here (r := r) (n := n) hi (j := c.2) (by omega) c.2 (Nat.le_refl _) hj
  have h2 := ledA_lt (r := r) (n := n) hi (j := c.2) (by omega)
  have h3 := ledE_lt (r := r) (m := m) (n := n) (i := c.1) (by omega) hj
  unfold inC mmC
  rw [filter_two h1, if_pos (by omega), if_pos (by omega)]
  exact ⟨rfl, by show min _ _ < max _ _; omega, by show max _ _ < _; omega⟩
theorem mm_both {r : Nat → Nat → Nat → Nat → Bool} {m n : Nat} {c q : Nat × Nat} (hi : c.1 < m) (hj : c.2 < n) (hq : q.1 < q.2) : decide (mmC r m c = q) = inB r m q.1 q.2 c := by
  have h1 := cut_here (r := r) (n := n) hi (j := c.2) (by omega) c.2 (Nat.le_refl _) hj
  unfold inB inC
  rw [← Bool.decide_and, decide_eq_decide]
  unfold mmC
  obtain ⟨q1, q2⟩ := q
  rw [Prod.mk.injEq]
  dsimp only at hq ⊢
  omega
/-- where each two lines meet -/
structure MetAt (H : Hp) (M : Addr) (kvs : List (List Key × V)) (zs : Nat × Nat → List ZP) (r : Nat → Nat → Nat → Nat → Bool) (m n : Nat) : Prop where
  dl : DLs H M kvs fun q => (zs q).map zV
  tp : ∀ q, TP H (zs q)
  sp : ∀ q : Nat × Nat, q.1 < q.2 → (zs q).map (·.2) = bothB r m n q.1 q.2
  keys : ∀ kv ∈ kvs, ∃ q : Nat × Nat, kv.1 = kQ q ∧ q.1 < q.2 ∧ q.2 < m + n
  len : kvs.length ≤ 2401
theorem MetAt.ex {H H' : Hp} {M : Addr} {kvs : List (List Key × V)} {zs : Nat × Nat → List ZP} {r : Nat → Nat → Nat → Nat → Bool} {m n : Nat} (h : MetAt H M kvs zs r m n) (e : Ex H H') : MetAt H' M kvs zs r m n := ⟨h.dl.ex e, fun q => (h.tp q).ex e, h.sp, h.keys, h.len⟩
theorem DLs.on {H H' : Hp} {D : Addr} {kvs : List (List Key × V)} {val : Nat × Nat → List V} (h : DLs H D kvs val) (e : Ex (noT H) H') : DLs H' D kvs val := ⟨e.get (noT_get h.at_ fun _ z => (by cases z)), h.no, fun q v hv => by
  obtain ⟨L, h1, h2⟩ := h.yes q v hv
  exact ⟨L, h1, e.get (noT_get h2 fun _ z => (by cases z))⟩, h.inj⟩
theorem MetAt.on {H H' : Hp} {M : Addr} {kvs : List (List Key × V)} {zs : Nat × Nat → List ZP} {r : Nat → Nat → Nat → Nat → Bool} {m n : Nat} (h : MetAt H M kvs zs r m n) (e : Ex (noT H) H') : MetAt H' M kvs zs r m n := ⟨h.dl.on e, fun q z hz => e.get (noT_get (h.tp q z hz) fun _ z => (by cases z)), h.sp, h.keys, h.len⟩
theorem paired_at {α β : Type} {F : α → β → Prop} : ∀ {l : List α} {l2 : List β}, Paired F l l2 → ∀ (j : Nat) (b : β), l2[j]? = some b → ∃ a, l[j]? = some a ∧ F a b
  | _, _, .nil, _, _, h => by simp at h
  | _, _, .cons h t, 0, b, e => by
    simp at e
    subst e
    exact ⟨_, rfl, h⟩
  | _, _, .cons h t, j + 1, b, e => by
    obtain ⟨a, h1, h2⟩ := paired_at t j b (by simpa using e)
    exact ⟨a, by simpa using h1, h2⟩
theorem valV_mem {κ : Type} [DecidableEq κ] {kvs : List (κ × V)} {kv : κ × V} (h : kv ∈ kvs) : ∃ v, valV kvs kv.1 = some v := by
  unfold valV
  cases e : kvs.find? fun x => decide (x.1 = kv.1) with
  | some x => exact ⟨x.2, rfl⟩
  | none =>
    have := List.find?_eq_none.mp e kv h
    simp at this
theorem find_same {α : Type} {S u : α → Bool} {L : List α} (h : ∀ (k : Nat) (q : α), L[k]? = some q → S q = (u q && !((L.take k).any u))) : L.find? S = L.find? u := by
  cases hu : L.find? u with
  | none =>
    rw [List.find?_eq_none] at hu ⊢
    intro q hq
    obtain ⟨k, hk⟩ := List.getElem?_of_mem hq
    rw [h k q hk, Bool.eq_false_iff.mpr (hu q hq)]
    simp
  | some q =>
    obtain ⟨h1, i, hi, h2, h3⟩ := List.find?_eq_some_iff_getElem.mp hu
    refine List.find?_eq_some_iff_getElem.mpr ⟨?_, i, hi, h2, fun j hj => ?_⟩
    · rw [h i q (by rw [List.getElem?_eq_getElem hi, h2]), h1]
      have : (L.take i).any u = false := by
        rw [List.any_eq_false]
        intro x hx
        obtain ⟨j, hj, rfl⟩ := List.getElem_of_mem hx
        rw [List.length_take] at hj
        rw [List.getElem_take]
        have := h3 j (by omega)
        simpa using this
      rw [this]
      rfl
    · rw [h j _ (List.getElem?_eq_getElem (by omega))]
      have := h3 j hj
      rw [Bool.not_eq_true'] at this
      rw [this]
      rfl
/-- where two lines cross, or nothing -/
def CrsV (H : Hp) (o : Option (Nat × Nat)) (v : V) : Prop := (o = none ∧ v = .non) ∨ ∃ q W, o = some q ∧ v = .ref W ∧ H W = some (tupO q)
theorem CrsV.ex {H H' : Hp} {o : Option (Nat × Nat)} {v : V} (h : CrsV H o v) (e : Ex H H') : CrsV H' o v := by
  rcases h with ⟨a, b⟩ | ⟨q, W, a, b, c⟩
  · exact .inl ⟨a, b⟩
  · exact .inr ⟨q, W, a, b, e.get c⟩
def sp__law_apart (K : PySem.W.Frag) : Sp := fun vs H Q _ => ∃ (p : Addr) (s t : Str) (C L M : Addr) (kvs : List (List Key × V)) (zs : Nat × Nat → List ZP) (a b : Nat), vs = [.ref p, .str s, .str t, .ref C, .ref L, .ref M, .int (a : Nat), .int (b : Nat)] ∧ BrdAt K H p s t ∧ s.length ≤ 48 ∧ t.length ≤ 48 ∧ H C = some (.lst ((brdC s t).map V.str)) ∧ H L = some (.lst ((brdL s t).map nV)) ∧ MetAt H M kvs zs (bR s.cps.toList t.cps.toList) s.length t.length ∧ a < b ∧ b < s.length + t.length ∧ ∀ H', Ex H H' → Q (.bl true) H'
theorem ok__law_apart (T : Tx K mg ad fd tk base tc) : FnOk P w K mg base CX0 6 (ad 17) (fd 17) ["_law_board", "_law_side", "_law_top", "_law_cells", "_law_lines", "_law_met_here", "_law_a", "_law_b"] (sp__law_apart K) := by
  refine T.d__law_apart.F.ok sc__law_apart (fun vs H Q E h => ?_) (fun cdv A outer s H vs Q E hr h => ?_)
  · obtain ⟨p, s, t, C, L, M, kvs, zs, a, b, rfl, _⟩ := h
    rfl
  · obtain ⟨p, s, t, C, L, M, kvs, zs, a, b, rfl, hp, hs, ht, hC, hL, hM, hab, hb, k⟩ := h
    refine ⟨_, (pss_cons (ps_set (i := 8) sc__law_apart.nd rfl (Or.inl rfl) (pe_dget2 (hu_of hr) (pv 5) (pe_tup (pa_cons (pv 6) (pa_cons (pv 7) pa_nil))) (pe_lst pa_nil) ⟨rfl, rfl, rfl, rfl⟩))
      (pss_cons (ps_set (i := 9) sc__law_apart.nd rfl (Or.inl rfl) pe_non)
      (pss_cons (ps_for PassesOwn.never rfl (pi_list (pv 8)) (pg_tup rfl (pgs_cons (pg_name (i := 10) sc__law_apart.nd rfl (Or.inl rfl)) (pgs_cons (pg_name (i := 11) sc__law_apart.nd rfl (Or.inl rfl)) pgs_nil))) (pss_cons (ps_set (i := 12) sc__law_apart.nd rfl (Or.inl rfl) (pe_cmpR (o_ne hr.units) (pe_ix (i_ix (K := K)) (pv 1) (pv 10) (fun _ _ => rfl)) (pe_ix (i_ix (K := K)) (pv 2) (pv 11) (fun _ _ => rfl)) (nomark _)))
      (pss_cons (ps_if (pt_cmpR (o_ne hr.units) (pe_cmpR (o_eq hr.units) (pe_ix (i_ix (K := K)) (pe_ix (i_ix (K := K)) (pv 3) (pv 10) (fun _ _ => rfl)) (pv 11) (fun _ _ => rfl)) pe_str (nomark _)) (pe_and (pv 12) (pe_one (pe_cmpR o_isN (pv 9) pe_non (nomark _)))) (nomark _)) (pss_one (ps_ret pe_bl)) pss_nil)
      (pss_one (ps_if (PW.pt (pw_and (pt_tru (pv 12) (by intro _; rfl) (K := K)) (pw_and1 (pt_cmpR o_isN (pv 9) pe_non (nomark _))))) (pss_one (ps_set (i := 9) sc__law_apart.nd rfl (Or.inl rfl) (pe_tup (pa_cons (pv 10) (pa_cons (pv 11) pa_nil))))) pss_nil)))))
      (pss_cons (ps_if (pt_cmpR (o_ne hr.units) (pe_cmpR o_gt (pe_ix (i_ix (K := K)) (pv 4) (pv 6) (fun _ _ => rfl)) (pe_ix (i_ix (K := K)) (pv 4) (pv 7) (fun _ _ => rfl)) (nomark _)) (pe_cmpR o_notN (pv 9) pe_non (nomark _)) (nomark _)) (pss_one (ps_ret pe_bl)) pss_nil)
      (pss_cut (ps_if (pt_cmpR (o_eq hr.units) (pe_op o_mod (pe_op o_div (pe_op o_add (pv 6) (pv 7)) pe_int) pe_int) pe_int (nomark _)) (pss_cons (ps_set (i := 13) sc__law_apart.nd rfl (Or.inl rfl) (pe_meth (pv 0) T.cl_Board T.d_Board_crossed_at.g (ok_Board_crossed_at T) (hr.mono (by decide)) T.d_Board_crossed_at.b .nil passL (pa_cons (pv 7) (pa_cons (pv 6) pa_nil))))
      (pss_one (ps_set (i := 14) sc__law_apart.nd rfl (Or.inl rfl) (pe_meth (pv 0) T.cl_Board T.d_Board_meets.g (ok_Board_meets T) (hr.mono (by decide)) T.d_Board_meets.b .nil passL (pa_cons (pv 6) (pa_cons (pv 7) pa_nil)))))) (pss_cons (ps_set (i := 14) sc__law_apart.nd rfl (Or.inl rfl) (pe_meth (pv 0) T.cl_Board T.d_Board_meets.g (ok_Board_meets T) (hr.mono (by decide)) T.d_Board_meets.b .nil passL (pa_cons (pv 7) (pa_cons (pv 6) pa_nil))))
      (pss_one (ps_set (i := 13) sc__law_apart.nd rfl (Or.inl rfl) (pe_meth (pv 0) T.cl_Board T.d_Board_crossed_at.g (ok_Board_crossed_at T) (hr.mono (by decide)) T.d_Board_crossed_at.b .nil passL (pa_cons (pv 6) (pa_cons (pv 7) pa_nil)))))))
      (pss_cons (ps_if (pt_not (pt_val (pe_call (ok__law_pairs T) (hr.mono (by decide)) rfl T.d__law_pairs.g T.d__law_pairs.F.kp T.d__law_pairs.b .nil pass0 (pa_cons (pv 14) (pa_cons (pv 8) pa_nil))))) (pss_one (ps_ret pe_bl)) pss_nil)
      (pss_cons (ps_if (pt_cmpR o_isN (pv 9) pe_non (nomark _)) (pss_one (ps_ret (pe_cmpR o_isN (pv 13) pe_non (nomark _)))) pss_nil)
      (pss_one (ps_ret (pe_call (ok__law_pair T) (hr.mono (by decide)) rfl T.d__law_pair.g T.d__law_pair.F.kp T.d__law_pair.b .nil pass0 (pa_cons (pv 13) (pa_cons (pv 9) pa_nil)))))))))))), ?_⟩
    have hMa := hM.dl.at_
    have hsl : s.cps.toList.length = s.length := Array.length_toList
    have htl : t.cps.toList.length = t.length := Array.length_toList
    obtain ⟨u, hu⟩ : ∃ u : Nat × Nat → Bool, u = fun q => decide (s.cps.toList[q.1]? ≠ t.cps.toList[q.2]?) := ⟨_, rfl⟩
    obtain ⟨m, hm⟩ : ∃ m, m = s.length := ⟨_, rfl⟩
    obtain ⟨n, hn⟩ : ∃ n, n = t.length := ⟨_, rfl⟩
    obtain ⟨r, hr2⟩ : ∃ r, r = bR s.cps.toList t.cps.toList := ⟨_, rfl⟩
    have hrr : ∀ i j x y, r i j x y = ((fun i j => u (i, j)) i j && decide (x < y)) := fun i j x y => by rw [hr2, hu]; rfl
    have sgn : ∀ k q, (bothB r m n a b)[k]? = some q → ledS r m q.1 q.2 = (u q && !(((bothB r m n a b).take k).any u)) := fun k q h => both_sign hrr hab (by omega) h
    have endd : decide ((ledE r m n).idxOf b < (ledE r m n).idxOf a) = (bothB r m n a b).any u := both_end hrr hab (by omega)
    have hblen : (brdL s t).length = m + n := by rw [brdL_len, hm, hn]
    have hbg : ∀ v, v < m + n → gT (brdL s t) v = (ledE r m n).idxOf v := fun v hv => by
      unfold brdL
      rw [← hr2, ← hm, ← hn, invT_g (by rw [ledE_len]; exact hv)]
    rw [← hr2, ← hm, ← hn] at hM
    walk_at "go"
    rename_i T1 H1 nT1 e1 vT1 E1 H2 nE1 e2 vE1
    have e02 := e1.trans e2
    have hM2 := hM.ex e02
    refine st_dget2T (k := kQ (a, b)) hM2.dl.at_ (e2.get vT1) ?_
    obtain ⟨B, hB1, hB2⟩ : ∃ B, (valV kvs (kQ (a, b))).getD (.ref E1) = .ref B ∧ H2 B = some (.lst ((zs (a, b)).map zV)) := by
      cases hv : valV kvs (kQ (a, b)) with
      | none => exact ⟨E1, rfl, by rw [hM2.dl.no _ hv]; exact vE1⟩
      | some v =>
        obtain ⟨B, a1, a2⟩ := hM2.dl.yes _ _ hv
        exact ⟨B, by rw [a1]; rfl, a2⟩
    rw [hB1]
    have hys := hM2.sp (a, b) hab
    have hyt := hM2.tp (a, b)
    generalize zs (a, b) = ys at hB2 hys hyt
    have hyl : ys.length ≤ 2401 := by
      have h1 := congrArg List.length hys
      rw [List.length_map] at h1
      have h2 := way_len (r := r) (m := m) (n := n) (l := a) (by omega) (by omega)
      have h3 := List.length_filter_le (inC r m b) (wayB r m n a)
      rw [way_both] at h3
      change ys.length = (bothB r m n a b).length at h1
      omega
    change ys.map (·.2) = bothB r m n a b at hys
    have hC2 := e02.get hC
    have hL2 := e02.get hL
    walk_at "go"
    refine for_runs (rv_list K B ys zV) (fun i σ H' => Ex H2 H' ∧ ∃ v9 y10 y11 y12, CrsV H' (((bothB r m n a b).take i).find? u) v9 ∧ σ = [some (.ref p), some (.str s), some (.str t), some (.ref C), some (.ref L), some (.ref M), some (.int (a : Nat)), some (.int (b : Nat)), some (.ref B), some v9, y10, y11, y12, none, none]) ⟨Fr.refl _, _, _, _, _, .inl ⟨rfl, rfl⟩, rfl⟩ (fun i σ H' _ h => lst_of (h.1.get hB2)) ?_ ?_
    · rintro i x σ H3 H4 hi ⟨e3, v9, y10, y11, y12, hv9, rfl⟩ ⟨rfl, z, hzi, rfl⟩
      have hzt : H4 z.1 = some (.tup [.int (z.2.1 : Nat), .int (z.2.2 : Nat)]) := (hyt.ex e3) z (List.mem_of_getElem? hzi)
      have hq : (bothB r m n a b)[i]? = some z.2 := by rw [← hys, List.getElem?_map, hzi]; rfl
      obtain ⟨hi1, hj1⟩ := cellsB_mem (List.mem_filter.mp (List.mem_of_getElem? hq)).1
      have hsg := sgn i z.2 hq
      have htk : ((bothB r m n a b).take (i + 1)).find? u = (((bothB r m n a b).take i).find? u).or (if u z.2 = true then some z.2 else none) := by
        rw [List.take_add_one, hq, List.find?_append]
        congr 1
        show List.find? u [z.2] = _
        rw [List.find?_cons, List.find?_nil]
        cases u z.2 <;> rfl
      have hC3 := e3.get hC2
      have g1 := List.getElem?_eq_getElem (l := s.cps.toList) (i := z.2.1) (by omega)
      have g2 := List.getElem?_eq_getElem (l := t.cps.toList) (i := z.2.2) (by omega)
      have gu : (!decide (tx [s.cps.toList[z.2.1]'(by omega)] = tx [t.cps.toList[z.2.2]'(by omega)])) = u z.2 := by
        rw [hu]
        dsimp only
        rw [g1, g2]
        simp [tx_inj]
      have gi : atI ((brdC s t).map V.str) ((z.2.1 : Nat) : Int) = some (V.str (sgT r m n z.2.1)) := by
        unfold brdC
        rw [List.map_map, ← hr2, ← hm, ← hn]
        exact fn_at hi1
      have gl : (sgT r m n z.2.1).length = n := by unfold sgT; rw [tx_length, List.length_map, List.length_range]
      have gS : decide (tx [if ledS r m z.2.1 z.2.2 = true then 120 else 111] = tx [120]) = ledS r m z.2.1 z.2.2 := by
        cases ledS r m z.2.1 z.2.2 with
        | true => exact decide_eq_true rfl
        | false => exact decide_eq_false fun z => absurd (tx_inj.mp z) (by decide)
      unfold zV
      walk_at "go"
      refine st_sign (by omega) (at_nat g1) ?_
      walk_at "go"
      refine st_sign (by omega) (at_nat g2) ?_
      rw [show (Str.ofString "x") = tx [120] from by decide +kernel]
      walk_at "go"
      rw [gu]
      refine st_ixL hC3 gi ?_
      walk_at "go"
      refine st_sign (by omega) (sg_at hj1) ?_
      walk_at "go"
      rw [gS, hsg]
      cases hux : u z.2 with
      | false =>
        rw [hux] at htk
        rw [if_neg (by decide), Option.or_none] at htk
        walk_at "go"
        try (refine st_F (by simp) ?_; walk_at "go")
        exact ⟨e3, v9, _, _, _, by rw [htk]; exact hv9, rfl⟩
      | true =>
        rw [hux, if_pos rfl] at htk
        rcases hv9 with ⟨c1, rfl⟩ | ⟨q, W, c1, rfl, c3⟩
        · have hany : ((bothB r m n a b).take i).any u = false := by
            rw [List.any_eq_false]
            exact fun x hx => List.find?_eq_none.mp c1 x hx
          rw [c1, Option.none_or] at htk
          walk_at "go"
          rw [hany]
          refine st_F (by decide) ?_
          walk_at "go"
          rename_i W H5 nW e5 vW
          exact ⟨e3.trans e5, _, _, _, _, .inr ⟨_, W, htk, rfl, vW⟩, rfl⟩
        · have hany : ((bothB r m n a b).take i).any u = true := by
            rw [List.any_eq_true]
            exact ⟨q, List.mem_of_find?_eq_some c1, List.find?_some c1⟩
          rw [c1, Option.some_or] at htk
          walk_at "go"
          rw [hany]
          refine st_F (by simp) ?_
          walk_at "go"
          exact ⟨e3, _, _, _, _, .inr ⟨q, W, htk, rfl, c3⟩, rfl⟩
    · rintro σ H3 ⟨e3, v9, y10, y11, y12, hv9, rfl⟩
      have hyl2 : ys.length = (bothB r m n a b).length := by rw [← hys, List.length_map]
      rw [hyl2, List.take_length] at hv9
      have hL3 := e3.get hL2
      have e03 := e02.trans e3
      have hp3 := hp.to e03
      have hcr : ∀ x y : Nat, (x = a ∧ y = b) ∨ (x = b ∧ y = a) → crsB r m n x y = (bothB r m n a b).find? u := fun x y h => by
        unfold crsB
        rw [way_both]
        have h2 : bothB r m n x y = bothB r m n a b := by
          rcases h with ⟨rfl, rfl⟩ | ⟨rfl, rfl⟩
          · rfl
          · exact bothB_comm
        have h3 : (fun q : Nat × Nat => decide (x ≠ y) && ledS r m q.1 q.2) = fun q => ledS r m q.1 q.2 := by
          funext q
          rw [decide_eq_true (by omega), Bool.true_and]
        rw [h2, h3]
        exact find_same sgn
      have hmt : ∀ x y : Nat, (x = a ∧ y = b) ∨ (x = b ∧ y = a) → (wayB r m n x).filter (inC r m y) = bothB r m n a b := fun x y h => by
        rw [way_both]
        rcases h with ⟨rfl, rfl⟩ | ⟨rfl, rfl⟩
        · rfl
        · exact bothB_comm
      have hE1 : decide (((gT (brdL s t) b : Nat) : Int) < ((gT (brdL s t) a : Nat) : Int)) = (bothB r m n a b).any u := by
        rw [← endd, hbg a (by omega), hbg b (by omega)]
        simp
      have hE2 : (!decide (v9 = V.non)) = (bothB r m n a b).any u := by
        rcases hv9 with ⟨c1, rfl⟩ | ⟨q, W, c1, rfl, c3⟩
        · have hany : (bothB r m n a b).any u = false := by
            rw [List.any_eq_false]
            exact fun x hx => List.find?_eq_none.mp c1 x hx
          rw [hany]
          simp
        · have hany : (bothB r m n a b).any u = true := by
            rw [List.any_eq_true]
            exact ⟨q, List.mem_of_find?_eq_some c1, List.find?_some c1⟩
          rw [hany]
          simp
      walk_at "go"
      refine st_ixL hL3 (at_nV (l := brdL s t) (i := a) (by omega)) ?_
      walk_at "go"
      refine st_ixL hL3 (at_nV (l := brdL s t) (i := b) (by omega)) ?_
      unfold nV
      walk_at "go"
      rw [hE1, hE2]
      refine st_F (by simp) ?_
      have wa : withinV (.int (a : Nat)) 0 ((s.length : Int) + (t.length : Int) - 1) = true := decide_eq_true (by omega)
      have wb : withinV (.int (b : Nat)) 0 ((s.length : Int) + (t.length : Int) - 1) = true := decide_eq_true (by omega)
      obtain ⟨dx, me, sg, go, gB, _⟩ := id hp3.ex
      walk_at "go"
      refine ⟨fun σ' H' => Ex H3 H' ∧ ∃ (vF : V) (D : Addr) (ws : List ZP), CrsV H' ((bothB r m n a b).find? u) vF ∧ H' D = some (.lst (ws.map zV)) ∧ TP H' ws ∧ ws.map (·.2) = bothB r m n a b ∧ σ' = [some (.ref p), some (.str s), some (.str t), some (.ref C), some (.ref L), some (.ref M), some (.int (a : Nat)), some (.int (b : Nat)), some (.ref B), some v9, y10, y11, y12, some vF, some (.ref D)], ?_, ?_⟩
      · walk_at "go"
        refine st_br2 (fun c => ?_) (fun c => ?_)
        · walk_at "go"
          refine ⟨p, s, t, .int (b : Nat), .int (a : Nat), rfl, hp3, hs, ht, ⟨_, rfl⟩, ⟨_, rfl⟩, fun h => absurd h (by rw [wb]; decide), fun _ h => absurd h (by rw [wa]; decide), fun l o H4 hl ho _ _ e4 hc => ?_, fun l o q W H4 hl ho _ _ e4 hc nW vW => ?_⟩
          all_goals
            obtain rfl : b = l := by have := V.int.inj hl; omega
            obtain rfl : a = o := by have := V.int.inj ho; omega
            rw [← hr2, ← hm, ← hn, hcr b a (.inr ⟨rfl, rfl⟩)] at hc
            walk_at "go"
            refine ⟨p, s, t, .int (a : Nat), .int (b : Nat), rfl, hp3.to e4, hs, ht, ⟨_, rfl⟩, ⟨_, rfl⟩, fun h => absurd h (by rw [wa]; decide), fun _ h => absurd h (by rw [wb]; decide), fun l o hl ho _ _ D ws H5 e5 nD vD tD hw => ?_⟩
            obtain rfl : a = l := by have := V.int.inj hl; omega
            obtain rfl : b = o := by have := V.int.inj ho; omega
            rw [← hr2, ← hm, ← hn, hmt a b (.inl ⟨rfl, rfl⟩)] at hw
            walk_at "go"
            first
            | exact ⟨e4.trans e5, _, D, ws, .inl ⟨hc, rfl⟩, vD, tD, hw, rfl⟩
            | exact ⟨e4.trans e5, _, D, ws, .inr ⟨_, _, hc, rfl, e5.get vW⟩, vD, tD, hw, rfl⟩
        · walk_at "go"
          refine ⟨p, s, t, .int (b : Nat), .int (a : Nat), rfl, hp3, hs, ht, ⟨_, rfl⟩, ⟨_, rfl⟩, fun h => absurd h (by rw [wb]; decide), fun _ h => absurd h (by rw [wa]; decide), fun l o hl ho _ _ D ws H4 e4 nD vD tD hw => ?_⟩
          obtain rfl : b = l := by have := V.int.inj hl; omega
          obtain rfl : a = o := by have := V.int.inj ho; omega
          rw [← hr2, ← hm, ← hn, hmt b a (.inr ⟨rfl, rfl⟩)] at hw
          walk_at "go"
          refine ⟨p, s, t, .int (a : Nat), .int (b : Nat), rfl, hp3.to e4, hs, ht, ⟨_, rfl⟩, ⟨_, rfl⟩, fun h => absurd h (by rw [wa]; decide), fun _ h => absurd h (by rw [wb]; decide), fun l o H5 hl ho _ _ e5 hc => ?_, fun l o q W H5 hl ho _ _ e5 hc nW vW => ?_⟩
          all_goals
            obtain rfl : a = l := by have := V.int.inj hl; omega
            obtain rfl : b = o := by have := V.int.inj ho; omega
            rw [← hr2, ← hm, ← hn, hcr a b (.inl ⟨rfl, rfl⟩)] at hc
            walk_at "go"
            first
            | exact ⟨e4.trans e5, _, D, ws, .inl ⟨hc, rfl⟩, e5.get vD, tD.ex e5, hw, rfl⟩
            | exact ⟨e4.trans e5, _, D, ws, .inr ⟨_, _, hc, rfl, vW⟩, e5.get vD, tD.ex e5, hw, rfl⟩
      · rintro σ' H4 ⟨e4, vF, D, ws, hF, vD, tD, hw, rfl⟩
        have hB4 := (e3.trans e4).get hB2
        walk_at "go"
        refine ⟨D, B, ws, ys, rfl, vD, hB4, tD, hyt.ex (e3.trans e4), by rw [hw, hys], ?_, ?_⟩
        · have := congrArg List.length (hw.trans hys.symm)
          rw [List.length_map, List.length_map] at this
          omega
        walk_at "go"
        rcases hv9 with ⟨c1, rfl⟩ | ⟨q, W, c1, rfl, c3⟩
        · obtain rfl : vF = .non := by
            rcases hF with ⟨_, h⟩ | ⟨q, W, h, _⟩
            · exact h
            · rw [c1] at h; cases h
          walk_at "go"
          exact k _ (e03.trans e4)
        · obtain ⟨W2, rfl, vW2⟩ : ∃ W2, vF = .ref W2 ∧ H4 W2 = some (tupO q) := by
            rcases hF with ⟨h, _⟩ | ⟨q2, W2, h, h2, h3⟩
            · rw [c1] at h; cases h
            · rw [c1] at h
              cases h
              exact ⟨W2, h2, h3⟩
          refine st_F (by simp) ?_
          walk_at "go"
          exact ⟨W2, W, q, rfl, vW2, e4.get c3, k _ (e03.trans e4)⟩
def sp__law_met : Sp := fun vs H Q _ => ∃ (W : Addr) (m n : Nat) (r : Nat → Nat → Nat → Nat → Bool) (ws : List Addr), vs = [.ref W, .int (m : Nat), .int (n : Nat)] ∧ WaysAt H W ws (m + n) (fun l => wayB r m n l) ∧ m ≤ 48 ∧ n ≤ 48 ∧ ∀ M kvs zs H', Ex H H' → MetAt H' M kvs zs r m n → Q (.ref M) H'
theorem ok__law_met (T : Tx K mg ad fd tk base tc) : FnOk P w K mg base CX0 1 (ad 18) (fd 18) ["_law_ways", "_law_many", "_law_far"] sp__law_met := by
  refine T.d__law_met.F.ok sc__law_met (fun vs H Q E h => ?_) (fun cdv A outer s H vs Q E hr h => ?_)
  · obtain ⟨W, m, n, r, ws, rfl, _⟩ := h
    rfl
  · obtain ⟨W, m, n, r, ws, rfl, hW, hm, hn, k⟩ := h
    refine ⟨_, (pss_cons (ps_set (i := 3) sc__law_met.nd rfl (Or.inl rfl) pe_dnewT)
      (pss_cons (ps_for PassesOwn.never rfl (pi_range1 rfl T.b_range (pa_cons (pe_callB (c_len (K := K)) (by rfl) T.b_len (by decide +kernel) (pa_cons (pv 0) pa_nil)) pa_nil)) (pg_name (i := 4) sc__law_met.nd rfl (Or.inl rfl)) (pss_one (ps_for PassesOwn.never rfl (pi_list (pe_ix (i_ix (K := K)) (pv 0) (pv 4) (fun _ _ => rfl))) (pg_name (i := 5) sc__law_met.nd rfl (Or.inl rfl)) (pss_one (ps_expr (pe_bm PySem.F.plainAttrs_list PySem.F.slot_list_append PySem.F.type_list_append mt_append (pe_dsetT (hu_of hr) (pv 3) (pv 5) (pe_lst pa_nil) ⟨rfl, rfl, rfl, rfl⟩) (pa_cons (pv 4) pa_nil)))))))
      (pss_cons (ps_set (i := 6) sc__law_met.nd rfl (Or.inl rfl) pe_dnewT)
      (pss_cons (ps_for PassesOwn.never rfl (pi_range1 rfl T.b_range (pa_cons (pv 1) pa_nil)) (pg_name (i := 7) sc__law_met.nd rfl (Or.inl rfl)) (pss_one (ps_for PassesOwn.never rfl (pi_range1 rfl T.b_range (pa_cons (pv 2) pa_nil)) (pg_name (i := 8) sc__law_met.nd rfl (Or.inl rfl)) (pss_cons (ps_set (i := 9) sc__law_met.nd rfl (Or.inl rfl) (pe_dget2 (hu_of hr) (pv 3) (pe_tup (pa_cons (pv 7) (pa_cons (pv 8) pa_nil))) (pe_lst pa_nil) ⟨rfl, rfl, rfl, rfl⟩))
      (pss_cons (ps_if (pt_cmpR (o_ne hr.units) (pe_callB (c_len (K := K)) (by rfl) T.b_len (by decide +kernel) (pa_cons (pv 9) pa_nil)) pe_int (nomark _)) (pss_one (ps_ret pe_non)) pss_nil)
      (pss_one (ps_expr (pe_bm PySem.F.plainAttrs_list PySem.F.slot_list_append PySem.F.type_list_append mt_append (pe_dsetT (hu_of hr) (pv 6) (pe_tup (pa_cons (pe_ix (i_ix (K := K)) (pv 9) pe_int (fun _ _ => rfl)) (pa_cons (pe_ix (i_ix (K := K)) (pv 9) pe_int (fun _ _ => rfl)) pa_nil))) (pe_lst pa_nil) ⟨rfl, rfl, rfl, rfl⟩) (pa_cons (pe_tup (pa_cons (pv 7) (pa_cons (pv 8) pa_nil))) pa_nil)))))))))
      (pss_one (ps_ret (pv 6))))))), ?_⟩
    walk_at "go"
    rename_i D H1 nD e1 v1
    have hWa := (hW.ex e1).at_
    have hWl := hW.len
    walk_at "go"
    rw [List.length_map, Int.toNat_natCast, hWl]
    have lsQ : ∀ (l : Nat) (q : Nat × Nat), ((List.range l).filter fun o => decide (q ∈ wayB r m n o)).length ≤ l := fun l q => by
      have := List.length_filter_le (fun o => decide (q ∈ wayB r m n o)) (List.range l)
      rwa [List.length_range] at this
    refine for_runs (runs_range 0 (m + n)) (fun l σ H' => (Ex H H' ∧ ∃ kvs, DLs H' D kvs (fun q => ((List.range l).filter fun o => decide (q ∈ wayB r m n o)).map nV) ∧ (∀ q L, valV kvs (kQ q) = some (.ref L) → H L = none) ∧ kvs.length ≤ 2401 * l) ∧ ∃ y4 y5, σ = [some (.ref W), some (.int (m : Nat)), some (.int (n : Nat)), some (.ref D), y4, y5, none, none, none, none]) ⟨⟨e1, [], DLs.new v1, fun q L z => by simp [valV] at z, Nat.zero_le _⟩, _, _, rfl⟩ (fun _ _ _ _ _ => trivial) ?_ ?_
    · rintro l x σ H2 H3 hl ⟨⟨e2, kvs, hd, nL, hk⟩, y4, y5, rfl⟩ ⟨rfl, rfl⟩
      rw [Int.zero_add]
      have hri : ws[l]? = some (ws[l]'(by omega)) := List.getElem?_eq_getElem _
      generalize ws[l]'(by omega) = row at hri
      obtain ⟨zs, w1, w2, w3⟩ := hW.rows l row hri
      have hzl : zs.length ≤ 2401 := by
        have h1 := congrArg List.length w3
        rw [List.length_map] at h1
        have h2 := way_len (r := r) (l := l) hm hn
        omega
      have hnd : (zs.map (·.2)).Nodup := by rw [w3]; exact (cells_nodup m n).filter _
      have hWa2 := e2.get hW.at_
      have w12 := e2.get w1
      walk_at "go"
      refine st_ixL hWa2 (refs_at hri) ?_
      walk_at "go"
      refine for_runs (rv_list K row zs zV) (fun t σ H' => (Ex H H' ∧ ∃ kvs, DLs H' D kvs (fun q => (((List.range l).filter fun o => decide (q ∈ wayB r m n o)) ++ (if q ∈ (zs.take t).map (·.2) then [l] else [])).map nV) ∧ (∀ q L, valV kvs (kQ q) = some (.ref L) → H L = none) ∧ kvs.length ≤ 2401 * l + t) ∧ ∃ y5, σ = [some (.ref W), some (.int (m : Nat)), some (.int (n : Nat)), some (.ref D), some (.int (l : Nat)), y5, none, none, none, none]) ⟨⟨e2, kvs, hd.congr fun q => by simp, nL, hk⟩, _, rfl⟩ (fun t σ H' _ h => lst_of (h.1.1.get w1)) ?_ ?_
      · rintro t x' σ H4 H5 ht ⟨⟨e4, kvs4, d4, nL4, k4⟩, y5, rfl⟩ ⟨rfl, z, hz, rfl⟩
        have hzt : H5 z.1 = some (tupO z.2) := (w2.ex e4) z (List.mem_of_getElem? hz)
        unfold zV
        have d4a := d4.at_
        walk_at "go"
        rename_i p H6 np e6 vp
        refine dls_turn z.2 d4 e4 nD nL4 np e6 vp (e6.get hzt) (by omega) ?_
        intro L kvs' H7 d7 hv7 e7 nL7 k7 _ _
        obtain ⟨L', r1, r2⟩ := d7.yes _ _ hv7
        cases r1
        walk_at "go"
        refine st_app r2 (by
          rw [List.length_map, List.length_append]
          have h1 := lsQ l z.2
          have : (if z.2 ∈ (zs.take t).map (·.2) then [l] else []).length ≤ 1 := by split <;> simp
          omega) ?_
        refine ⟨⟨e7.mut (nL7 _ _ hv7), kvs', (d7.hit hv7 (nV l)).congr fun q => ?_, nL7, by omega⟩, _, rfl⟩
        have mt : q ∈ (zs.take (t + 1)).map (·.2) ↔ (q ∈ (zs.take t).map (·.2) ∨ q = z.2) := by
          rw [List.take_add_one, hz, List.map_append, List.mem_append]
          simp
        by_cases e : q = z.2
        · have n1 : q ∉ (zs.take t).map (·.2) := fun hm => by
            rw [e, List.map_take] at hm
            obtain ⟨c, hc, hc2⟩ := List.getElem_of_mem hm
            rw [List.length_take] at hc
            rw [List.getElem_take] at hc2
            have := nd_ix hnd (i := c) (j := t) (by rw [List.getElem?_eq_getElem (by omega), hc2]) (by rw [List.getElem?_map, hz]; rfl)
            omega
          rw [if_pos e, if_neg n1, if_pos (mt.mpr (.inr e)), List.append_nil, List.map_append]
          rfl
        · rw [if_neg e]
          by_cases c : q ∈ (zs.take t).map (·.2)
          · rw [if_pos c, if_pos (mt.mpr (.inl c))]
          · rw [if_neg c, if_neg fun z => (mt.mp z).elim c e]
      · rintro σ H4 ⟨⟨e4, kvs4, d4, nL4, k4⟩, y5, rfl⟩
        refine ⟨⟨e4, kvs4, d4.congr fun q => ?_, nL4, by omega⟩, _, _, rfl⟩
        rw [List.take_length, w3, List.range_succ, List.filter_append]
        congr 2
        by_cases c : q ∈ wayB r m n l
        · rw [if_pos c]
          simp [c]
        · rw [if_neg c]
          simp [c]
    · rintro σ H2 ⟨⟨e2, kvs, hd, nL, hk⟩, y4, y5, rfl⟩
      have two : ∀ i j, i < m → j < n → ((List.range (m + n)).filter fun o => decide ((i, j) ∈ wayB r m n o)) = [(mmC r m (i, j)).1, (mmC r m (i, j)).2] := fun i j hi hj => by
        rw [← (lines_two (r := r) (n := n) (c := (i, j)) hi hj).1]
        refine List.filter_congr fun o _ => ?_
        have hc : (i, j) ∈ cellsB m n := by
          obtain ⟨rest, e⟩ := cells_split hi hj
          rw [e]
          exact List.mem_append_right _ List.mem_cons_self
        cases hx : inC r m o (i, j) with
        | true => exact decide_eq_true (List.mem_filter.mpr ⟨hc, hx⟩)
        | false => exact decide_eq_false fun z => by rw [(List.mem_filter.mp z).2] at hx; cases hx
      walk_at "go"
      rename_i M H3 nM e3 vM
      have hd3 := hd.ex e3
      have nM2 := nM
      have e03 := e2.trans e3
      rw [Int.toNat_natCast]
      refine for_runs (runs_range 0 m) (fun i σ H' => (Ex H2 H' ∧ ∃ kvm zs, DLs H' M kvm (fun q => (zs q).map zV) ∧ (∀ q, TP H' (zs q)) ∧ (∀ q, (zs q).map (·.2) = (preB m n i 0).filter fun c => decide (mmC r m c = q)) ∧ (∀ q L, valV kvm (kQ q) = some (.ref L) → H2 L = none) ∧ (∀ kv ∈ kvm, ∃ q : Nat × Nat, kv.1 = kQ q ∧ q.1 < q.2 ∧ q.2 < m + n) ∧ kvm.length ≤ (preB m n i 0).length) ∧ ∃ y4 y5 y7 y8 y9, σ = [some (.ref W), some (.int (m : Nat)), some (.int (n : Nat)), some (.ref D), y4, y5, some (.ref M), y7, y8, y9]) ⟨⟨e3, [], fun _ => [], DLs.new vM, fun _ _ h => (by cases h), fun q => (by rw [preB_0]; rfl), fun q L z => by simp [valV] at z, fun _ h => (by cases h), Nat.zero_le _⟩, _, _, _, _, _, rfl⟩ (fun _ _ _ _ _ => trivial) ?_ ?_
      · rintro i x σ H4 H5 hi ⟨⟨e4, kvm, zs, m1, m2, m3, m4, m5, m6⟩, y4, y5, y7, y8, y9, rfl⟩ ⟨rfl, rfl⟩
        rw [Int.zero_add]
        walk_at "go"
        rw [Int.toNat_natCast]
        refine for_runs (runs_range 0 n) (fun j σ H' => (Ex H2 H' ∧ ∃ kvm zs, DLs H' M kvm (fun q => (zs q).map zV) ∧ (∀ q, TP H' (zs q)) ∧ (∀ q, (zs q).map (·.2) = (preB m n i j).filter fun c => decide (mmC r m c = q)) ∧ (∀ q L, valV kvm (kQ q) = some (.ref L) → H2 L = none) ∧ (∀ kv ∈ kvm, ∃ q : Nat × Nat, kv.1 = kQ q ∧ q.1 < q.2 ∧ q.2 < m + n) ∧ kvm.length ≤ (preB m n i j).length) ∧ ∃ y8 y9, σ = [some (.ref W), some (.int (m : Nat)), some (.int (n : Nat)), some (.ref D), y4, y5, some (.ref M), some (.int (i : Nat)), y8, y9]) ⟨⟨e4, kvm, zs, m1, m2, m3, m4, m5, m6⟩, _, _, rfl⟩ (fun _ _ _ _ _ => trivial) ?_ ?_
        · rintro j x σ H6 H7 hj ⟨⟨e6, kvm, zs, m1, m2, m3, m4, m5, m6⟩, y8, y9, rfl⟩ ⟨rfl, rfl⟩
          rw [Int.zero_add]
          obtain ⟨l1, l2, l3⟩ := lines_two (r := r) (n := n) (c := (i, j)) hi hj
          have hD7 := hd.ex e6
          have hD7a := hD7.at_
          have m1a := m1.at_
          have lp : (preB m n i j).length ≤ 2401 := preB_len (by omega) (by omega) (by omega)
          walk_at "go"
          rename_i T1 H8 nT1 e8 vT1 E1 H9 nE1 e9 vE1
          have hD9 := hD7.ex (e8.trans e9)
          refine st_dget2T (k := kQ (i, j)) hD9.at_ (e9.get vT1) ?_
          obtain ⟨L, hL1, hL2⟩ : ∃ L, valV kvs (kQ (i, j)) = some (.ref L) ∧ H9 L = some (.lst [nV (mmC r m (i, j)).1, nV (mmC r m (i, j)).2]) := by
            cases hv : valV kvs (kQ (i, j)) with
            | none =>
              have := hD9.no _ hv
              rw [two i j hi hj] at this
              cases this
            | some v =>
              obtain ⟨L, a1, a2⟩ := hD9.yes _ _ hv
              rw [two i j hi hj] at a2
              exact ⟨L, by rw [a1], a2⟩
          rw [hL1, Option.getD_some]
          walk_at "go"
          rename_i T2 H10 nT2 e10 vT2 E2 H11 nE2 e11 vE2
          refine dls_turn (mmC r m (i, j)) (m1.ex (e8.trans (e9.trans e10))) (e6.trans (e8.trans (e9.trans e10))) nM m4 nE2 e11 vE2 (e11.get vT2) (by omega) ?_
          intro L2 kvs' H12 d12 hv12 e12 nL12 k12 kk12 hc12
          obtain ⟨L', r1, r2⟩ := d12.yes _ _ hv12
          cases r1
          walk_at "go"
          rename_i T3 H13 nT3 e13 vT3
          have r3 := e13.get r2
          have zl : (zs (mmC r m (i, j))).length ≤ 2401 := by
            have h1 := congrArg List.length (m3 (mmC r m (i, j)))
            rw [List.length_map] at h1
            have := List.length_filter_le (fun c => decide (mmC r m c = mmC r m (i, j))) (preB m n i j)
            omega
          refine st_app r3 (by rw [List.length_map]; omega) ?_
          have t12 : ∀ q, TP H12 (zs q) := fun q z hz => by
            have h1 := (((m2 q).ex (e8.trans (e9.trans e10))).ex e11) z hz
            refine (hc12 _ fun e => ?_).trans h1
            have h2 := (m1.ex (e8.trans (e9.trans (e10.trans e11)))).at_
            rw [e, h2] at h1
            cases h1
          have t13 : ∀ q, TP H13 (zs q) := fun q => (t12 q).ex e13
          refine ⟨⟨(e12.trans e13).mut (nL12 _ _ hv12), kvs', fun q => if q = mmC r m (i, j) then zs q ++ [(T3, (i, j))] else zs q, ((d12.ex e13).hit hv12 (.ref T3)).congr fun q => ?_, fun q => ?_, fun q => ?_, nL12, fun kv hk => ?_, ?_⟩, _, _, rfl⟩
          · dsimp only
            by_cases e : q = mmC r m (i, j)
            · rw [if_pos e, if_pos e, List.map_append]
              rfl
            · rw [if_neg e, if_neg e]
          · dsimp only
            by_cases e : q = mmC r m (i, j)
            · rw [if_pos e]
              exact ((t13 q).app (TP.cons (z := (T3, (i, j))) vT3 fun _ h => (by cases h))).up r3
            · rw [if_neg e]
              exact (t13 q).up r3
          · dsimp only
            rw [preB_s hi, List.filter_append]
            by_cases e : q = mmC r m (i, j)
            · rw [if_pos e, List.map_append, m3 q]
              simp [e]
            · rw [if_neg e, m3 q]
              have : ¬ mmC r m (i, j) = q := fun z => e z.symm
              simp [this]
          · rcases kk12 kv hk with h | h
            · exact m5 kv h
            · exact ⟨_, h, l2, l3⟩
          · rw [preB_s hi, List.length_append]
            show _ ≤ _ + 1
            omega
        · rintro σ H6 ⟨⟨e6, kvm, zs, m1, m2, m3, m4, m5, m6⟩, y8, y9, rfl⟩
          refine ⟨⟨e6, kvm, zs, m1, m2, fun q => ?_, m4, m5, ?_⟩, _, _, _, _, _, rfl⟩
          · rw [m3 q, preB_row hi]
          · rw [← preB_row hi]; exact m6
      · rintro σ H4 ⟨⟨e4, kvm, zs, m1, m2, m3, m4, m5, m6⟩, y4, y5, y7, y8, y9, rfl⟩
        walk_at "go"
        refine k M kvm zs H4 (e2.trans e4) ⟨m1, m2, fun q hq => ?_, m5, Nat.le_trans m6 (preB_len (by omega) (by omega) (by omega))⟩
        rw [m3 q, preB_0]
        unfold bothB
        refine List.filter_congr fun c hc => ?_
        obtain ⟨hi, hj⟩ := cellsB_mem hc
        exact mm_both hi hj hq
def sp_Board_cells (K : PySem.W.Frag) : Sp := fun vs H Q E => ∃ (p : Addr) (s t : Str), vs = [.ref p] ∧ BrdAt K H p s t ∧ ∀ D H', Ex H H' → H D = none → H' D = some (.lst ((brdC s t).map V.str)) → Q (.ref D) H'
theorem ok_Board_cells (T : Tx K mg ad fd tk base tc) : FnOk P w K mg base CX0 1 (ad 19) (fd 19) ["self"] (sp_Board_cells K) := by
  refine T.d_Board_cells.F.ok sc_Board_cells (fun vs H Q E h => ?_) (fun cdv A outer s H vs Q E hr h => ?_)
  · obtain ⟨p, s, t, rfl, _⟩ := h
    rfl
  · obtain ⟨p, s, t, rfl, hp, k⟩ := h
    refine ⟨_, (pss_one (ps_ret (pe_callTy (c_list rfl (K := K)) (by rfl) T.b_list (by decide +kernel) (pa_cons (pe_fldK (K := K) (pv 0) rfl) pa_nil)))), ?_⟩
    obtain ⟨dx, me, sg, go, g1, g2⟩ := hp.ex
    have g3 := g2.sg
    walk_at "go"
    rename_i D H1 n1 e1 v1
    refine k D H1 e1 n1 ?_
    rw [v1]
    unfold brdC
    rw [List.map_map]
    rfl
theorem ok_Board_init (T : Tx K mg ad fd tk base tc) : FnOk P w K mg base (L2.CX P w) 5 (ad 20) (fd 20) ["self", "side", "top"] (sp_Board_init K (tabsL tc)) := by
  refine T.fc_Board_init.okX sc_Board_init (fun vs H Q E h => ?_) (fun A outer s H vs Q E hr h => ?_)
  · obtain ⟨p, dx, x, y, rfl, _⟩ := h
    rfl
  · obtain ⟨p, dx, x, y, rfl, hp, hT, hR⟩ := h
    refine ⟨_, (pss_cons (ps_expr (pe_call (ok_need_rows T) (hr.mono (by decide)) rfl T.d_need_rows.g T.d_need_rows.F.kp T.d_need_rows.b .nil (passes_call (takes_of rfl rfl rfl rfl) (fun _ _ _ _ h => h)) (pa_cons (pv 1) (pa_cons (pv 2) pa_nil))))
      (pss_cons (ps_fldK (K := K) (pv 0) (pv 1) rfl)
      (pss_cons (ps_fldK (K := K) (pv 0) (pv 2) rfl)
      (pss_cons (ps_set (i := 3) sc_Board_init.nd rfl (Or.inl rfl) (pe_lamb (T := tabsL tc) (params := lamA L_Board_init) (body := lamB L_Board_init) (scope := lamSc L_Board_init) T.tb_Board_init rfl tabs_m_Board_init (tabs_u_Board_init T) rfl (ndef_free (fr := ["side", "top"]) ndf_Board_init)))
      (pss_cons (ps_asg (pe_callCb (mk := fun c => ⟨q_Board_init, lamA L_Board_init, lamB L_Board_init, lamSc L_Board_init, cloFrom _ (lamSc L_Board_init).names [], c⟩) (js := [1, 2]) (ok_led T) (fun _ _ => lok_t (k := 0) (N := ["row", "column", "across", "above", "side", "top"]) (ps := ["row", "column", "across", "above"]) (fr := ["side", "top"]) (nscope_by nsc_Board_init) (fun _ _ us hl => match us, hl with | [_, _, _, _], _ => rfl) (fun _ _ _ _ hr => (pe_and (pe_cmpR (o_ne hr.units) (pe_ix (i_ix (K := K)) (pv 4) (pv 0) (fun _ _ => rfl)) (pe_ix (i_ix (K := K)) (pv 5) (pv 1) (fun _ _ => rfl)) (nomark _)) (pe_one (pe_cmpR o_lt (pv 2) (pv 3) (nomark _)))))) (fun _ => rfl) (fun ok => Caps.made (scope := lamSc L_Board_init) ok (ndef_free (fr := ["side", "top"]) ndf_Board_init) (ndef_fr (fr := ["side", "top"]) ndf_Board_init) rfl) (hr.mono (by decide)) rfl T.d_led.g T.d_led.F.kp T.d_led.b (pa_cons (pe_callB (c_len (K := K)) (by rfl) T.b_len (by decide +kernel) (pa_cons (pv 1) pa_nil)) (pa_cons (pe_callB (c_len (K := K)) (by rfl) T.b_len (by decide +kernel) (pa_cons (pv 2) pa_nil)) (pa_cons (pv 3) pa_nil)))) (pg_tup rfl (pgs_cons (pg_name (i := 4) sc_Board_init.nd rfl (Or.inl rfl)) (pgs_cons (pg_name (i := 5) sc_Board_init.nd rfl (Or.inl rfl)) (pgs_cons (pg_name (i := 6) sc_Board_init.nd rfl (Or.inl rfl)) pgs_nil)))))
      (pss_cons (ps_fldK (K := K) (pv 0) (pv 4) rfl)
      (pss_cons (ps_fldK (K := K) (pv 0) (pv 5) rfl)
      (pss_one (ps_fldK (K := K) (pv 0) (pv 6) rfl))))))))), ?_⟩
    walk_at "go"
    refine ⟨x, y, rfl, hR.imp fun s t ex ey hs ht k H1 e1 => ?_⟩
    subst ex ey
    have hs1 := hs.len
    have ht1 := ht.len
    have hsl : s.cps.toList.length = s.length := Array.length_toList
    have htl : t.cps.toList.length = t.length := Array.length_toList
    have hp1 := e1.get hp
    have hT1 : LamX.Tabs (tabsL tc) H1 := hT.ext fun b o h => e1.get h
    walk_at "go"
    rw [putF_nil, putF_ne (by decide +kernel), putF_nil]
    have v2 : upd (upd H1 p (.ins (clsA K "Board") dx [("left_row", .str s)])) p (.ins (clsA K "Board") dx [("left_row", .str s), ("upper_row", .str t)]) p = some (.ins (clsA K "Board") dx [("left_row", .str s), ("upper_row", .str t)]) := upd_same
    have f2 : FrP p H1 (upd (upd H1 p (.ins (clsA K "Board") dx [("left_row", .str s)])) p (.ins (clsA K "Board") dx [("left_row", .str s), ("upper_row", .str t)])) := FrP.at.trans FrP.at
    generalize upd (upd H1 p (.ins (clsA K "Board") dx [("left_row", .str s)])) p (.ins (clsA K "Board") dx [("left_row", .str s), ("upper_row", .str t)]) = H2 at v2 f2 ⊢
    have hT2 := tabs_fr hT1 f2 hp1
    refine st_lamb hT2 fun fl c' H3 e3 nn3 hT3 n3 l3 c3 => ?_
    have v3 := e3.get v2
    walk_at "go"
    have hc3 := hT3
    refine ⟨fl, c', s.length, t.length, rfl, l3, c3, by omega, by omega, bR s.cps.toList t.cps.toList, ?_, ?_⟩
    · intro i j a b H' Q' hi hj ha hb e q
      refine ⟨rfl, ?_⟩
      have g1 := List.getElem?_eq_getElem (l := s.cps.toList) (i := i) (by omega)
      have g2 := List.getElem?_eq_getElem (l := t.cps.toList) (i := j) (by omega)
      walk_at "go"
      refine st_sign (by omega) (at_nat g1) ?_
      walk_at "go"
      refine st_sign (by omega) (at_nat g2) ?_
      walk_at "go"
      by_cases hq : s.cps.toList[i]'(by omega) = t.cps.toList[j]'(by omega)
      · rw [if_neg (by rw [hq]; simp)]
        have : bR s.cps.toList t.cps.toList i j a b = false := by
          unfold bR
          rw [g1, g2, hq]
          simp
        rw [← this]
        exact q
      · rw [if_pos (by simp only [tx_inj, List.cons.injEq, and_true, hq, decide_false, Bool.not_false])]
        walk_at "go"
        have : bR s.cps.toList t.cps.toList i j a b = decide ((a : Int) < (b : Int)) := by
          unfold bR
          have z : ¬ (some (s.cps.toList[i]'(by omega)) = some (t.cps.toList[j]'(by omega))) := fun e => hq (Option.some.inj e)
          rw [g1, g2, decide_eq_true (p := _ ≠ _) z, Bool.true_and]
          simp
        rw [← this]
        exact q
    intro t4 me sg go H4 e4 n4 v4 hL
    walk_at "go"
    rw [putF_ne (by decide +kernel), putF_ne (by decide +kernel), putF_nil, putF_ne (by decide +kernel), putF_ne (by decide +kernel), putF_ne (by decide +kernel), putF_nil, putF_ne (by decide +kernel), putF_ne (by decide +kernel), putF_ne (by decide +kernel), putF_ne (by decide +kernel), putF_nil]
    have v5 : H4 p = _ := e4.get v3
    have f3 : Fr (fun b => b = p) (noT H) H3 := fun b o n h => e3 b o (f2 b o n (e1 b o (fun z => z) (noT_of h).1)) (noT_of h).2
    refine k _ ((f3.trans (Fr.ex e4)).trans ((FrP.at.trans FrP.at).trans FrP.at)) (tabs_fr (hT3.ext fun b o h => e4.get h) ((FrP.at.trans FrP.at).trans FrP.at) v5) ⟨dx, me, sg, go, upd_same, hL.frp ((FrP.at.trans FrP.at).trans FrP.at) v5⟩
def sp_Board_lines (K : PySem.W.Frag) : Sp := fun vs H Q E => ∃ (p : Addr) (s t : Str), vs = [.ref p] ∧ BrdAt K H p s t ∧ ∀ D H', Ex H H' → H D = none → H' D = some (.lst ((brdL s t).map nV)) → Q (.ref D) H'
theorem ok_Board_lines (T : Tx K mg ad fd tk base tc) : FnOk P w K mg base CX0 1 (ad 21) (fd 21) ["self"] (sp_Board_lines K) := by
  refine T.d_Board_lines.F.ok sc_Board_lines (fun vs H Q E h => ?_) (fun cdv A outer s H vs Q E hr h => ?_)
  · obtain ⟨p, s, t, rfl, _⟩ := h
    rfl
  · obtain ⟨p, s, t, rfl, hp, k⟩ := h
    refine ⟨_, (pss_one (ps_ret (pe_callTy (c_list rfl (K := K)) (by rfl) T.b_list (by decide +kernel) (pa_cons (pe_fldK (K := K) (pv 0) rfl) pa_nil)))), ?_⟩
    obtain ⟨dx, me, sg, go, g1, g2⟩ := hp.ex
    have g3 := g2.go
    walk_at "go"
    rename_i D H1 n1 e1 v1
    exact k D H1 e1 n1 v1
theorem WaysAt.snoc {H : Hp} {W D : Addr} {ws : List Addr} {i : Nat} {f : Nat → List (Nat × Nat)} {zs : List ZP} (h : WaysAt H W ws i f) (hD : H D = some (.lst (zs.map zV))) (tz : TP H zs) (hz : zs.map (·.2) = f i) (nD : D ∉ ws) (nW : D ≠ W) : WaysAt (upd H W (.lst (ws.map V.ref ++ [V.ref D]))) W (ws ++ [D]) (i + 1) f := ⟨by rw [upd_same, List.map_append]; rfl, by rw [List.length_append, h.len]; rfl, by
  rw [List.nodup_append]
  exact ⟨h.nd, by simp, fun x hx y hy => by rw [List.mem_singleton.mp hy]; exact fun z => nD (z ▸ hx)⟩, fun hm => by
  rcases List.mem_append.mp hm with z | z
  · exact h.nw z
  · exact nW (List.mem_singleton.mp z).symm, fun l row hr => by
  by_cases hl : l < ws.length
  · rw [List.getElem?_append_left hl] at hr
    obtain ⟨ys, a, b, c⟩ := h.rows l row hr
    exact ⟨ys, (upd_ne fun z => h.nw (by rw [← z]; exact List.mem_of_getElem? hr)).trans a, b.up h.at_, c⟩
  · rw [List.getElem?_append_right (by omega)] at hr
    have : l - ws.length = 0 := by
      have := (List.getElem?_eq_some_iff.mp hr).1
      rw [List.length_singleton] at this
      omega
    rw [this] at hr
    cases hr
    refine ⟨zs, (upd_ne nW).trans hD, tz.up h.at_, ?_⟩
    rw [hz]
    congr 1
    have := h.len
    omega⟩
def sp_law (K : PySem.W.Frag) (TL : List (Addr × Str)) : Sp := fun vs H Q _ => ∃ (a : Addr) (ns : List Int), vs = [.ref a] ∧ SqL K H a (ns.map V.int) ∧ LamX.Tabs TL H ∧ ns.length ≤ 63 ∧ ∀ H', Q (.bl true) H'
theorem ok_law (T : Tx K mg ad fd tk base tc) : FnOk P w K mg base CX0 7 (ad 22) (fd 22) ["_law_script"] (sp_law K (tabsL tc)) := by
  refine T.d_law.F.ok sc_law (fun vs H Q E h => ?_) (fun cdv A outer s H vs Q E hr h => ?_)
  · obtain ⟨a, ns, rfl, _⟩ := h
    rfl
  · obtain ⟨a, ns, rfl, hs, hT, hl, k⟩ := h
    refine ⟨_, (pss_cons (ps_set (i := 1) sc_law.nd rfl (Or.inl rfl) (pe_op o_mod (pe_call (ok__law_mix T) (hr.mono (by decide)) rfl T.d__law_mix.g T.d__law_mix.F.kp T.d__law_mix.b .nil pass0 (pa_cons (pe_call (ok__law_at T) (hr.mono (by decide)) rfl T.d__law_at.g T.d__law_at.F.kp T.d__law_at.b .nil pass0 (pa_cons (pv 0) (pa_cons pe_int pa_nil))) (pa_cons pe_int pa_nil))) pe_int))
      (pss_cons (ps_asg (pe_call (ok__law_two T) (hr.mono (by decide)) rfl T.d__law_two.g T.d__law_two.F.kp T.d__law_two.b .nil pass0 (pa_cons (pv 0) (pa_cons (pe_ix (i_ix (K := K)) (pe_lst (pa_cons pe_int (pa_cons pe_int (pa_cons pe_int (pa_cons pe_int (pa_cons pe_int pa_nil)))))) (pv 1) (fun _ _ => rfl)) pa_nil))) (L2.pg_lst rfl (pgs_cons (pg_name (i := 2) sc_law.nd rfl (Or.inl rfl)) (pgs_cons (pg_name (i := 3) sc_law.nd rfl (Or.inl rfl)) pgs_nil))))
      (pss_cons (ps_set (i := 4) sc_law.nd rfl (Or.inl rfl) (pe_callB (c_len (K := K)) (by rfl) T.b_len (by decide +kernel) (pa_cons (pv 2) pa_nil)))
      (pss_cons (ps_set (i := 5) sc_law.nd rfl (Or.inl rfl) (pe_callB (c_len (K := K)) (by rfl) T.b_len (by decide +kernel) (pa_cons (pv 3) pa_nil)))
      (pss_cons (ps_set (i := 6) sc_law.nd rfl (Or.inl rfl) (pe_make T.m_Board (ok_Board_init T) (hr.mono (by decide)) rfl T.mg_Board T.d_Board_init.b .nil passL (pa_cons (pv 2) (pa_cons (pv 3) pa_nil))))
      (pss_cut (ps_if (PW.pt (pw_and (pt_cmpR (o_eq hr.units) (pe_op o_mod (pe_call (ok__law_at T) (hr.mono (by decide)) rfl T.d__law_at.g T.d__law_at.F.kp T.d__law_at.b .nil pass0 (pa_cons (pv 0) (pa_cons pe_int pa_nil))) pe_int) pe_int (nomark _)) (pw_and1 (pt_cmpR o_gt (pv 4) pe_int (nomark _))))) (pss_cons (ps_expr (pe_bm PySem.F.plainAttrs_list PySem.F.slot_list_append PySem.F.type_list_append mt_append (pe_meth (pv 6) T.cl_Board T.d_Board_meets.g (ok_Board_meets T) (hr.mono (by decide)) T.d_Board_meets.b .nil passL (pa_cons pe_int (pa_cons (pe_op o_sub (pv 4) pe_int) pa_nil))) (pa_cons (pe_tup (pa_cons pe_int (pa_cons pe_int pa_nil))) pa_nil)))
      (pss_one (ps_if (pt_cmpR o_notN (pe_meth (pv 6) T.cl_Board T.d_Board_crossed_at.g (ok_Board_crossed_at T) (hr.mono (by decide)) T.d_Board_crossed_at.b .nil passL (pa_cons (pe_op o_sub (pv 4) pe_int) (pa_cons (pe_op o_sub (pv 4) pe_int) pa_nil))) pe_non (nomark _)) (pss_one (ps_ret pe_bl)) pss_nil))) pss_nil)
      (pss_cons (ps_set (i := 7) sc_law.nd rfl (Or.inr rfl) (pe_meth0 (pv 6) T.cl_Board T.d_Board_cells.g (ok_Board_cells T) (hr.mono (by decide)) T.d_Board_cells.b .nil pass0))
      (pss_cons (ps_set (i := 8) sc_law.nd rfl (Or.inl rfl) (pe_meth0 (pv 6) T.cl_Board T.d_Board_lines.g (ok_Board_lines T) (hr.mono (by decide)) T.d_Board_lines.b .nil pass0))
      (pss_cons (ps_if (pt_not (pt_val (pe_call (ok__law_forms T) (hr.mono (by decide)) rfl T.d__law_forms.g T.d__law_forms.F.kp T.d__law_forms.b .nil pass0 (pa_cons (pv 8) (pa_cons (pv 7) (pa_cons (pv 4) (pa_cons (pv 5) pa_nil))))))) (pss_one (ps_ret pe_bl)) pss_nil)
      (pss_cons (ps_set (i := 9) sc_law.nd rfl (Or.inl rfl) (pe_lst pa_nil))
      (pss_cons (ps_for PassesOwn.never rfl (pi_range1 rfl T.b_range (pa_cons (pe_op o_add (pv 4) (pv 5)) pa_nil)) (pg_name (i := 10) sc_law.nd rfl (Or.inl rfl)) (pss_cons (ps_asg (pe_call (ok__law_way T) (hr.mono (by decide)) rfl T.d__law_way.g T.d__law_way.F.kp T.d__law_way.b .nil pass0 (pa_cons (pv 7) (pa_cons (pv 4) (pa_cons (pv 5) (pa_cons (pv 10) pa_nil))))) (pg_tup rfl (pgs_cons (pg_name (i := 11) sc_law.nd rfl (Or.inl rfl)) (pgs_cons (pg_name (i := 12) sc_law.nd rfl (Or.inl rfl)) pgs_nil))))
      (pss_cons (ps_expr (pe_bm PySem.F.plainAttrs_list PySem.F.slot_list_append PySem.F.type_list_append mt_append (pv 9) (pa_cons (pv 11) pa_nil)))
      (pss_cons (ps_if (PW.pt (pw_or (pt_cmpR (o_ne hr.units) (pv 12) (pe_ix (i_ix (K := K)) (pv 8) (pv 10) (fun _ _ => rfl)) (nomark _)) (pw_or (pt_not (pt_val (pe_call (ok__law_pairs T) (hr.mono (by decide)) rfl T.d__law_pairs.g T.d__law_pairs.F.kp T.d__law_pairs.b .nil pass0 (pa_cons (pe_meth (pv 6) T.cl_Board T.d_Board_way.g (ok_Board_way T) (hr.mono (by decide)) T.d_Board_way.b .nil passL (pa_cons (pv 10) pa_nil)) (pa_cons (pv 11) pa_nil))))) (pw_or1 (pt_not (pt_val (pe_call (ok__law_pairs T) (hr.mono (by decide)) rfl T.d__law_pairs.g T.d__law_pairs.F.kp T.d__law_pairs.b .nil pass0 (pa_cons (pe_meth (pv 6) T.cl_Board T.d_Board_meets.g (ok_Board_meets T) (hr.mono (by decide)) T.d_Board_meets.b .nil passL (pa_cons (pv 10) (pa_cons (pv 10) pa_nil))) (pa_cons (pv 11) pa_nil))))))))) (pss_one (ps_ret pe_bl)) pss_nil)
      (pss_one (ps_if (pt_cmpR o_notN (pe_meth (pv 6) T.cl_Board T.d_Board_crossed_at.g (ok_Board_crossed_at T) (hr.mono (by decide)) T.d_Board_crossed_at.b .nil passL (pa_cons (pv 10) (pa_cons (pv 10) pa_nil))) pe_non (nomark _)) (pss_one (ps_ret pe_bl)) pss_nil))))))
      (pss_cons (ps_set (i := 13) sc_law.nd rfl (Or.inl rfl) (pe_call (ok__law_met T) (hr.mono (by decide)) rfl T.d__law_met.g T.d__law_met.F.kp T.d__law_met.b .nil pass0 (pa_cons (pv 9) (pa_cons (pv 4) (pa_cons (pv 5) pa_nil)))))
      (pss_cons (ps_if (pt_cmpR o_isN (pv 13) pe_non (nomark _)) (pss_one (ps_ret pe_bl)) pss_nil)
      (pss_cons (ps_set (i := 14) sc_law.nd rfl (Or.inl rfl) (pe_callTy (c_listT rfl) (by rfl) T.b_list (by decide +kernel) (pa_cons (pv 13) pa_nil)))
      (pss_cons (ps_for PassesOwn.never rfl (pi_range1 rfl T.b_range (pa_cons (pe_callB (c_min rfl) (by rfl) T.b_min (by decide +kernel) (pa_cons pe_int (pa_cons (pe_callB (c_len (K := K)) (by rfl) T.b_len (by decide +kernel) (pa_cons (pv 14) pa_nil)) pa_nil))) pa_nil)) (pg_name (i := 15) sc_law.nd rfl (Or.inl rfl)) (pss_cons (ps_set (i := 16) sc_law.nd rfl (Or.inl rfl) (pe_ix (i_ix (K := K)) (pv 14) (pe_op o_mod (pe_op o_add (pe_op o_div (pe_call (ok__law_at T) (hr.mono (by decide)) rfl T.d__law_at.g T.d__law_at.F.kp T.d__law_at.b .nil pass0 (pa_cons (pv 0) (pa_cons pe_int pa_nil))) pe_int) (pe_op o_mul pe_int (pv 15))) (pe_callB (c_len (K := K)) (by rfl) T.b_len (by decide +kernel) (pa_cons (pv 14) pa_nil))) (fun _ _ => rfl)))
      (pss_cons (ps_setLc (i := 17) (own := [("_law_cell", 21)]) (g := gName 21) rfl sc_law.nd rfl rfl (sw_true rfl rfl rfl (by decide +kernel)) (pi_list (pe_dget (hu_of hr) (pv 13) (pv 16) (fun _ _ => rfl))) (blkOk_by (own := [("_law_cell", 21)]) (N := N_law) (sc := defScope s_law) (by decide +kernel)) (fun _ _ _ _ _ => pg_name (i := 21) sc_law.nd rfl (Or.inl rfl)) (fun _ _ _ _ _ => pts_one (pt_cmpR (o_eq hr.units) (pe_ix (i_ix (K := K)) (pe_ix (i_ix (K := K)) (pv 7) (pe_ix (i_ix (K := K)) (pv 21) pe_int (fun _ _ => rfl)) (fun _ _ => rfl)) (pe_ix (i_ix (K := K)) (pv 21) pe_int (fun _ _ => rfl)) (fun _ _ => rfl)) pe_str (nomark _))) (fun _ _ _ _ _ => (pv 21)))
      (pss_cons (ps_set (i := 18) sc_law.nd rfl (Or.inl rfl) (pe_meth (pe_make T.m_Board (ok_Board_init T) (hr.mono (by decide)) rfl T.mg_Board T.d_Board_init.b .nil passL (pa_cons (pv 2) (pa_cons (pv 3) pa_nil))) T.cl_Board T.d_Board_crossed_at.g (ok_Board_crossed_at T) (hr.mono (by decide)) T.d_Board_crossed_at.b .nil passL (pa_cons (pe_ix (i_ix (K := K)) (pv 16) pe_int (fun _ _ => rfl)) (pa_cons (pe_ix (i_ix (K := K)) (pv 16) pe_int (fun _ _ => rfl)) pa_nil))))
      (pss_one (ps_if (PW.pt (pw_or (PW.pt (pw_and (pt_cmpR (o_eq hr.units) (pv 17) (pe_lst pa_nil) (nomark _)) (pw_and1 (pt_cmpR o_notN (pv 18) pe_non (nomark _))))) (pw_or1 (PW.pt (pw_and (pt_cmpR (o_ne hr.units) (pv 17) (pe_lst pa_nil) (nomark _)) (pw_and1 (pt_not (pt_val (pe_call (ok__law_pair T) (hr.mono (by decide)) rfl T.d__law_pair.g T.d__law_pair.F.kp T.d__law_pair.b .nil pass0 (pa_cons (pv 18) (pa_cons (pe_ix (i_ix (K := K)) (pv 17) pe_int (fun _ _ => rfl)) pa_nil))))))))))) (pss_one (ps_ret pe_bl)) pss_nil))))))
      (pss_cons (ps_for PassesOwn.never rfl (pi_range1 rfl T.b_range (pa_cons (pe_op o_add (pv 4) (pv 5)) pa_nil)) (pg_name (i := 19) sc_law.nd rfl (Or.inl rfl)) (pss_one (ps_for PassesOwn.never rfl (pi_range1 rfl T.b_range (pa_cons (pv 19) pa_nil)) (pg_name (i := 20) sc_law.nd rfl (Or.inl rfl)) (pss_one (ps_if (pt_not (pt_val (pe_call (ok__law_apart T) (hr.mono (by decide)) rfl T.d__law_apart.g T.d__law_apart.F.kp T.d__law_apart.b .nil pass0 (pa_cons (pv 6) (pa_cons (pv 2) (pa_cons (pv 3) (pa_cons (pv 7) (pa_cons (pv 8) (pa_cons (pv 13) (pa_cons (pv 20) (pa_cons (pv 19) pa_nil))))))))))) (pss_one (ps_ret pe_bl)) pss_nil)))))
      (pss_one (ps_ret pe_bl)))))))))))))))))), ?_⟩
    walk_at "go"
    refine ⟨a, ns, 0, rfl, hs, by decide, hl, fun c => ?_⟩
    walk_at "go"
    refine ⟨_, _, rfl, fun u => ?_⟩
    walk_at "go"
    rename_i q1 H1 n1 e1 v1
    have b0 := Int.emod_nonneg u (b := 5) (by omega)
    have b1 := Int.emod_lt_of_pos u (b := 5) (by omega)
    refine st_ixI [8, 8, 8, 8, 16] (by walk_at "hp") rfl b0 b1 (fun w _ hw => ?_)
    have hw : 0 ≤ w ∧ w ≤ 16 := by simp at hw; omega
    walk_at "go"
    refine ⟨a, ns, w, rfl, sqL_ex hs e1, ⟨hw.1, by omega⟩, hl, fun q y z H2 e2 n2 v2 r1 r2 => ?_⟩
    have rs := r1.row (by omega)
    have rt := r2.row (by omega)
    have ly : y.length ≤ 16 := by have := r1.1; omega
    have lz : z.length ≤ 16 := by have := r2.1; omega
    have hT2 : LamX.Tabs (tabsL tc) H2 := hT.ext fun b o h => (e1.trans e2).get h
    have hs2 := sqL_ex hs (e1.trans e2)
    clear e1 e2 hs hT n1 v1 n2
    generalize u % 5 = pk at *
    walk_at "go"
    refine mk_brd rs rt hT2 fun p H3 e3 np hT3 hB => ?_
    have hs3 := sqL_to hs2 e3
    clear e3 hs2 hT2 v2
    obtain ⟨dx, me, sg, go, gB, _⟩ := id hB.ex
    have w0 : ∀ v : Nat, v < y.length + z.length → withinV (.int (v : Nat)) 0 ((y.length : Int) + (z.length : Int) - 1) = true := fun v hv => decide_eq_true (by omega)
    walk_at "go"
    refine ⟨fun σ' H' => Ex H3 H' ∧ σ' = [some (.ref a), some (.int pk), some (.str y), some (.str z), some (.int (y.length : Nat)), some (.int (z.length : Nat)), some (.ref p), none, none, none, none, none, none, none, none, none, none, none, none, none, none, none], ?_, ?_⟩
    · walk_at "go"
      refine ⟨a, ns, 1, rfl, hs3, by decide, hl, fun c1 => ?_⟩
      walk_at "go"
      refine st_br2 (fun d1 => ?_) (fun d1 => ?_)
      · walk_at "go"
        refine st_br2 (fun d2 => ?_) (fun d2 => ?_)
        · have q0 : (0 : Int) = ((0 : Nat) : Int) := rfl
          have q1 : ((y.length : Nat) : Int) - 1 = ((y.length - 1 : Nat) : Int) := by omega
          walk_at "go"
          rw [q1]
          refine ⟨p, y, z, .int ((0 : Nat) : Int), .int ((y.length - 1 : Nat) : Int), rfl, hB, by omega, by omega, ⟨_, rfl⟩, ⟨_, rfl⟩, fun h => absurd h (by rw [w0 0 (by omega)]; decide), fun _ h => absurd h (by rw [w0 _ (by omega)]; decide), fun l o hl ho _ _ D ws H4 e4 nD vD tD hws => ?_⟩
          have wl := way_len (r := bR y.cps.toList z.cps.toList) (m := y.length) (n := z.length) (l := l) (by omega) (by omega)
          have wl2 := congrArg List.length hws
          rw [List.length_map] at wl2
          have wl3 := List.length_filter_le (inC (bR y.cps.toList z.cps.toList) y.length o) (wayB (bR y.cps.toList z.cps.toList) y.length z.length l)
          walk_at "go"
          rename_i T5 H5 n5 e5 v5
          refine st_app (e5.get vD) (by rw [List.length_map]; omega) ?_
          have e6 : Ex H3 (upd H5 D (.lst (ws.map zV ++ [V.ref T5]))) := (e4.trans e5).mut nD
          generalize upd H5 D (.lst (ws.map zV ++ [V.ref T5])) = H6 at e6 ⊢
          have gB6 := e6.get gB
          walk_at "go"
          rw [q1]
          refine ⟨p, y, z, .int ((y.length - 1 : Nat) : Int), .int ((y.length - 1 : Nat) : Int), rfl, hB.to e6, by omega, by omega, ⟨_, rfl⟩, ⟨_, rfl⟩, fun h => absurd h (by rw [w0 _ (by omega)]; decide), fun _ h => absurd h (by rw [w0 _ (by omega)]; decide), fun l o H7 hl ho _ _ e7 hc => ?_, fun l o q W H7 hl ho _ _ e7 hc nW vW => ?_⟩
          · walk_at "go"
            exact ⟨e6.trans e7, rfl⟩
          · have : l = o := by have h1 := V.int.inj hl; have h2 := V.int.inj ho; omega
            subst this
            have := List.find?_some hc
            simp at this
        · walk_at "go"
          exact ⟨Fr.refl _, rfl⟩
      · walk_at "go"
        exact ⟨Fr.refl _, rfl⟩
    rintro σ' H4 ⟨e4, rfl⟩
    have hB4 := hB.to e4
    have hs4 := sqL_ex hs3 e4
    have hT4 : LamX.Tabs (tabsL tc) H4 := hT3.ext fun b o h => e4.get h
    have gB4 := e4.get gB
    clear e4 hs3 hT3 hB gB
    obtain ⟨m, hm⟩ : ∃ m, m = y.length := ⟨_, rfl⟩
    obtain ⟨n, hn⟩ : ∃ n, n = z.length := ⟨_, rfl⟩
    obtain ⟨r, hr2⟩ : ∃ r, r = bR y.cps.toList z.cps.toList := ⟨_, rfl⟩
    walk_at "go"
    refine ⟨p, y, z, rfl, hB4, fun C H5 e5 nC vC => ?_⟩
    have gB5 := e5.get gB4
    walk_at "go"
    refine ⟨p, y, z, rfl, hB4.to e5, fun L H6 e6 nL vL => ?_⟩
    have vC6 := e6.get vC
    have e46 := e5.trans e6
    walk_at "go"
    refine ⟨L, C, y, z, rfl, vL, vC6, by omega, by omega, fun H7 e7 => ?_⟩
    have e47 := e46.trans e7
    have vC7 := e7.get vC6
    have vL7 := e7.get vL
    have hB7 := hB4.to e47
    have hs7 := sqL_ex hs4 e47
    have hT7 : LamX.Tabs (tabsL tc) H7 := hT4.ext fun b o h => e47.get h
    have gB7 := e47.get gB4
    have vCr : H7 C = some (.lst ((List.range m).map fun i => V.str (sgT r m n i))) := by
      rw [vC7]
      unfold brdC
      rw [List.map_map, hr2, hm, hn]
      rfl
    clear e47 e46 e5 e6 e7 vC vC6 vL hs4 hT4 hB4 gB4 gB5
    walk_at "go"
    rename_i Wy H8 nW e8 vW
    rw [← hm, ← hn, show ((m : Int) + (n : Int)).toNat = m + n by omega]
    refine for_runs (runs_range 0 (m + n)) (fun i σ H' => (Ex H7 H' ∧ ∃ ws, WaysAt H' Wy ws i fun l => wayB r m n l) ∧ ∃ y10 y11 y12, σ = [some (.ref a), some (.int pk), some (.str y), some (.str z), some (.int (m : Nat)), some (.int (n : Nat)), some (.ref p), some (.ref C), some (.ref L), some (.ref Wy), y10, y11, y12, none, none, none, none, none, none, none, none, none]) ⟨⟨e8, [], vW, rfl, List.nodup_nil, by simp, fun l row h => by simp at h⟩, _, _, _, rfl⟩ (fun _ _ _ _ _ => trivial) ?_ ?_
    · rintro i x σ H9 H10 hi ⟨⟨e9, ws, hWs⟩, y10, y11, y12, rfl⟩ ⟨rfl, rfl⟩
      rw [Int.zero_add]
      have vC10 := e9.get vCr
      have vL10 := e9.get vL7
      have hB10 := hB7.to e9
      have gB10 := e9.get gB7
      walk_at "go"
      refine ⟨C, m, n, i, r, rfl, vC10, by omega, by omega, hi, fun T1 D ds H11 e11 nD vD tD hd vT1 => ?_⟩
      have hdl : ds.length ≤ 2401 := by
        have h1 := congrArg List.length hd
        rw [List.length_map] at h1
        have := way_len (r := r) (m := m) (n := n) (l := i) (by omega) (by omega)
        omega
      have hWs11 := hWs.ex e11
      have hWa := hWs11.at_
      walk_at "go"
      refine st_app hWa (by rw [List.length_map, hWs11.len]; omega) ?_
      have nDW : D ≠ Wy := fun z => by rw [z, hWs.at_] at nD; cases nD
      have hWs12 := hWs11.snoc vD tD hd (hWs.not_new nD) nDW
      have e12 : Ex H7 (upd H11 Wy (.lst (ws.map V.ref ++ [V.ref D]))) := (e9.trans e11).mut nW
      have vD12 : upd H11 Wy (.lst (ws.map V.ref ++ [V.ref D])) D = some (.lst (ds.map zV)) := (upd_ne nDW).trans vD
      have tD12 := tD.up (u := .lst (ws.map V.ref ++ [V.ref D])) hWa
      generalize upd H11 Wy (.lst (ws.map V.ref ++ [V.ref D])) = H12 at hWs12 e12 vD12 tD12 ⊢
      clear hWs11 hWs hWa vD tD vC10 vL10 hB10 gB10 e9 e11
      have vL12 := e12.get vL7
      have hB12 := hB7.to e12
      have gB12 := e12.get gB7
      have hlen : (brdL y z).length = m + n := by rw [brdL_len, hm, hn]
      have hge : gT (invT (ledE r m n)) i = gT (brdL y z) i := by rw [hr2, hm, hn]; rfl
      have wi := w0 i (by omega)
      walk_at "go"
      refine st_ixL vL12 (at_nV (l := brdL y z) (i := i) (by omega)) ?_
      rw [hge]
      unfold nV
      walk_at "go"
      refine st_F (by simp) ?_
      walk_at "go"
      refine ⟨p, y, z, .int (i : Nat), rfl, hB12, by omega, by omega, ⟨_, rfl⟩, fun h => absurd h (by rw [wi]; decide), fun l hl _ D2 zs2 H13 e13 nD2 vD2 tD2 hz2 => ?_⟩
      obtain rfl : i = l := by have := V.int.inj hl; omega
      have vD13 := e13.get vD12
      have tD13 := tD12.ex e13
      walk_at "go"
      refine ⟨D2, D, zs2, ds, rfl, vD2, vD13, tD2, tD13, by rw [hz2, hd, hr2, hm, hn], by
        have h1 := congrArg List.length hz2
        rw [List.length_map, ← hr2, ← hm, ← hn] at h1
        have := way_len (r := r) (m := m) (n := n) (l := i) (by omega) (by omega)
        omega, ?_⟩
      have hB13 := hB12.to e13
      have gB13 := e13.get gB12
      walk_at "go"
      refine ⟨p, y, z, .int (i : Nat), .int (i : Nat), rfl, hB13, by omega, by omega, ⟨_, rfl⟩, ⟨_, rfl⟩, fun h => absurd h (by rw [wi]; decide), fun _ h => absurd h (by rw [wi]; decide), fun l o hl ho _ _ D3 zs3 H14 e14 nD3 vD3 tD3 hz3 => ?_⟩
      obtain rfl : i = l := by have := V.int.inj hl; omega
      obtain rfl : i = o := by have := V.int.inj ho; omega
      have hz3' : zs3.map (·.2) = wayB r m n i := by
        rw [hz3, ← hr2, ← hm, ← hn, List.filter_eq_self]
        exact fun q hq => (List.mem_filter.mp hq).2
      walk_at "go"
      refine ⟨D3, D, zs3, ds, rfl, vD3, e14.get vD13, tD3, tD13.ex e14, by rw [hz3', hd], by
        have h1 := congrArg List.length hz3'
        rw [List.length_map] at h1
        have := way_len (r := r) (m := m) (n := n) (l := i) (by omega) (by omega)
        omega, ?_⟩
      have gB14 := e14.get gB13
      walk_at "go"
      refine ⟨p, y, z, .int (i : Nat), .int (i : Nat), rfl, hB13.to e14, by omega, by omega, ⟨_, rfl⟩, ⟨_, rfl⟩, fun h => absurd h (by rw [wi]; decide), fun _ h => absurd h (by rw [wi]; decide), fun l o H15 hl ho _ _ e15 hc => ?_, fun l o q W H15 hl ho _ _ e15 hc nW vW => ?_⟩
      · walk_at "go"
        exact ⟨⟨e12.trans (e13.trans (e14.trans e15)), _, hWs12.ex (e13.trans (e14.trans e15))⟩, _, _, _, rfl⟩
      · have : l = o := by have h1 := V.int.inj hl; have h2 := V.int.inj ho; omega
        subst this
        have := List.find?_some hc
        simp at this
    · rintro σ H9 ⟨⟨e9, ws, hWs⟩, y10, y11, y12, rfl⟩
      walk_at "go"
      refine ⟨Wy, m, n, r, ws, rfl, hWs, by omega, by omega, fun M kvs zs H10 e10 hM => ?_⟩
      have e70 := e9.trans e10
      have vC10 := e70.get vC7
      have vL10 := e70.get vL7
      have hB10 := hB7.to e70
      have hs10 := sqL_ex hs7 e70
      have hT10 : LamX.Tabs (tabsL tc) H10 := hT7.ext fun b o h => e70.get h
      clear e70 e9 e10 hWs vCr vC7 vL7 hB7 hs7 hT7 gB7 e8 vW nW
      have hMa := hM.dl.at_
      walk_at "go"
      refine st_listT hMa ?_
      intro P bs H11 nP hk e11 vP
      have vC11 := e11.get vC10
      have vL11 := e11.get vL10
      have hB11 := hB10.to e11
      have hs11 := sqL_ex hs10 e11
      have hT11 : LamX.Tabs (tabsL tc) H11 := hT10.ext fun b o h => e11.get h
      have hM11 := hM.ex e11
      replace hk : IsKeys H11 kvs bs := Paired.mapP hk fun _ _ z => e11.get z
      clear e11 vC10 vL10 hB10 hs10 hT10 hM hMa
      walk_at "go"
      refine for_runs (runs_range 0 _) (fun i σ H' => (Ex (noT H11) H' ∧ LamX.Tabs (tabsL tc) H') ∧ ∃ y15 y16 y17 y18, σ = [some (.ref a), some (.int pk), some (.str y), some (.str z), some (.int (m : Nat)), some (.int (n : Nat)), some (.ref p), some (.ref C), some (.ref L), some (.ref Wy), y10, y11, y12, some (.ref M), some (.ref P), y15, y16, y17, y18, none, none, none]) ⟨⟨noT_ex H11, hT11⟩, _, _, _, _, rfl⟩ (fun _ _ _ _ _ => trivial) ?_ ?_
      · rintro i x σ H12 H13 hi ⟨⟨e12, hT13⟩, y15, y16, y17, y18, rfl⟩ ⟨rfl, rfl⟩
        rw [Int.zero_add]
        have hbl : 0 < (bs.map V.ref).length := by
          by_cases h : (bs.map V.ref).length = 0
          · rw [h] at hi
            simp at hi
          · omega
        have vC13 := keepL vC11 e12
        have hs13 := sqL_to hs11 e12
        have hM13 := hM11.on e12
        have vP13 := keepL vP e12
        have hMa := hM13.dl.at_
        walk_at "go"
        refine ⟨a, ns, 1, rfl, hs13, by decide, hl, fun c2 => ?_⟩
        have j0 := Int.emod_nonneg (c2 / 2 + 5 * ((i : Nat) : Int)) (b := (((bs.map V.ref).length : Nat) : Int)) (by omega)
        have j1 := Int.emod_lt_of_pos (c2 / 2 + 5 * ((i : Nat) : Int)) (b := (((bs.map V.ref).length : Nat) : Int)) (by omega)
        walk_at "go"
        generalize (c2 / 2 + 5 * ((i : Nat) : Int)) % (((bs.map V.ref).length : Nat) : Int) = jx at j0 j1 ⊢
        obtain ⟨v, h2, h3⟩ := at_in (xs := bs.map V.ref) j0 j1
        rw [List.getElem?_map] at h3
        obtain ⟨b, hb, rfl⟩ := Option.map_eq_some_iff.mp h3
        obtain ⟨kv, hkv, hbt⟩ := paired_at hk _ b hb
        have hbt := e12.get (noT_get hbt fun _ z => (by cases z))
        obtain ⟨q, hq1, hq2, hq3⟩ := hM13.keys kv (List.mem_of_getElem? hkv)
        obtain ⟨v2, hv2⟩ := valV_mem (List.mem_of_getElem? hkv)
        rw [hq1] at hv2 hbt
        obtain ⟨Lq, rfl, hLq⟩ := hM13.dl.yes q _ hv2
        have hqt := hM13.tp q
        have hqs := hM13.sp q hq2
        have hqm : ∀ c ∈ zs q, c.2.1 < m ∧ c.2.2 < n := fun c hc => by
          have : c.2 ∈ bothB r m n q.1 q.2 := by rw [← hqs]; exact List.mem_map.mpr ⟨c, hc, rfl⟩
          exact cellsB_mem (List.mem_filter.mp this).1
        have hzl : (zs q).length ≤ 2401 := by
          have h1 := congrArg List.length hqs
          rw [List.length_map] at h1
          have h2 := way_len (r := r) (m := m) (n := n) (l := q.1) (by omega) (by omega)
          have h3 := List.length_filter_le (inC r m q.2) (wayB r m n q.1)
          rw [way_both] at h3
          omega
        refine st_ixL vP13 h2 ?_
        walk_at "go"
        refine ⟨M, .ref Lq, rfl, by rw [← hv2]; exact DGet.t hMa hbt, Lq, rfl, ⟨_, lstAt_sq (lst_of hLq)⟩, ?_⟩
        refine lc_pure (rv_list K Lq (zs q) zV) (fun H' e => lst_of (e.get hLq)) (by omega) (fun c => ledS r m c.2.1 c.2.2) (fun c => zV c) ?_ ?_
        · intro c H' hc e B A' b1 b2
          have hct : H' c.1 = some (.tup [.int (c.2.1 : Nat), .int (c.2.2 : Nat)]) := (hqt.ex e) c hc
          obtain ⟨hi1, hj1⟩ := hqm c hc
          have vC' := e.get vC13
          have gi : atI ((brdC y z).map V.str) ((c.2.1 : Nat) : Int) = some (V.str (sgT r m n c.2.1)) := by
            unfold brdC
            rw [List.map_map, hr2, ← hm, ← hn]
            exact fn_at hi1
          have gl : (sgT r m n c.2.1).length = n := by unfold sgT; rw [tx_length, List.length_map, List.length_range]
          have gS : decide (tx [if ledS r m c.2.1 c.2.2 = true then 120 else 111] = tx [120]) = ledS r m c.2.1 c.2.2 := by
            cases ledS r m c.2.1 c.2.2 with
            | true => exact decide_eq_true rfl
            | false => exact decide_eq_false fun z => absurd (tx_inj.mp z) (by decide)
          rw [show (Str.ofString "x") = tx [120] from by decide +kernel]
          refine ⟨rfl, ?_⟩
          unfold zV
          walk_at "go"
          refine st_ixL vC' gi ?_
          walk_at "go"
          refine st_sign (by omega) (sg_at hj1) ?_
          walk_at "go"
          rw [gS]
          cases hS : ledS r m c.2.1 c.2.2 with
          | true =>
            walk_at "go"
            exact b1 hS _ (Fr.refl _)
          | false =>
            exact b2 hS _ (Fr.refl _)
        · intro D H14 nD e14 vD
          have hT14 : LamX.Tabs (tabsL tc) H14 := hT13.ext fun b o h => e14.get h
          have tD : TP H14 ((zs q).filter fun c => ledS r m c.2.1 c.2.2) := (hqt.ex e14).sub fun c hc => (List.mem_filter.mp hc).1
          have hbt14 := e14.get hbt
          have hws : (((zs q).filter fun c => ledS r m c.2.1 c.2.2).map (·.2)).head? = (bothB r m n q.1 q.2).find? fun c => ledS r m c.1 c.2 := by
            rw [← hqs, ← List.head?_filter, List.filter_map]
            rfl
          have hwl : ((zs q).filter fun c => ledS r m c.2.1 c.2.2).length ≤ 2401 := Nat.le_trans (List.length_filter_le _ _) hzl
          generalize (zs q).filter (fun c => ledS r m c.2.1 c.2.2) = ws at vD tD hws hwl
          replace vD : H14 D = some (.lst (ws.map zV)) := vD
          walk_at "go"
          refine mk_brd rs rt hT14 fun p2 H15 e15 np2 hT15 hB15 => ?_
          have vD15 := keepL vD e15
          have tD15 : TP H15 ws := fun c hc => e15.get (noT_get (tD c hc) fun _ z => (by cases z))
          have hbt15 : H15 b = some (.tup [.int (q.1 : Nat), .int (q.2 : Nat)]) := e15.get (noT_get hbt14 fun _ z => (by cases z))
          obtain ⟨dx2, me2, sg2, go2, gB15, _⟩ := id hB15.ex
          have e1115 : Ex (noT H11) H15 := fun b o n h => e15 b o n (noT_get ((e12.trans e14) b o n h) (noT_of h).2)
          have hcr : crsB r m n q.2 q.1 = (bothB r m n q.1 q.2).find? fun c => ledS r m c.1 c.2 := by
            unfold crsB
            rw [way_both, bothB_comm]
            congr 1
            funext c
            rw [decide_eq_true (by omega), Bool.true_and]
          have eqE : ∀ (H' : Hp) (E : Addr) (Q' : V → Hp → Prop), Ex H15 H' → H' E = some (.lst []) → Q' (.bl (decide (ws.map (·.2) = []))) H' → rEqU (.ref D) (.ref E) H' Q' := fun H' E Q' e hE k' => by
            refine st_eqD ((tD15.ex e).rpL (e.get vD15)) (.lst (lst_of hE) .nil) (by simp [PyData.depth, PyData.depthAll]) ?_
            rw [show PyData.eqv (.list (ws.map fun z => encQ z.2)) (.list []) = decide (ws.map (·.2) = []) from eqv_zs ws []]
            exact k'
          have neE : ∀ (H' : Hp) (E : Addr) (Q' : V → Hp → Prop), Ex H15 H' → H' E = some (.lst []) → Q' (.bl (!decide (ws.map (·.2) = []))) H' → rNeU (.ref D) (.ref E) H' Q' := fun H' E Q' e hE k' => by
            refine st_neD ((tD15.ex e).rpL (e.get vD15)) (.lst (lst_of hE) .nil) (by simp [PyData.depth, PyData.depthAll]) ?_
            rw [show PyData.eqv (.list (ws.map fun z => encQ z.2)) (.list []) = decide (ws.map (·.2) = []) from eqv_zs ws []]
            exact k'
          have wq1 := w0 q.1 (by omega)
          have wq2 := w0 q.2 (by omega)
          walk_at "go"
          refine ⟨p2, y, z, .int (q.2 : Nat), .int (q.1 : Nat), rfl, hB15, by omega, by omega, ⟨_, rfl⟩, ⟨_, rfl⟩, fun h => absurd h (by rw [wq2]; decide), fun _ h => absurd h (by rw [wq1]; decide), fun l o H16 hl ho _ _ e16 hc => ?_, fun l o qq W H16 hl ho _ _ e16 hc nW vW => ?_⟩
          all_goals
            obtain rfl : q.2 = l := by have := V.int.inj hl; omega
            obtain rfl : q.1 = o := by have := V.int.inj ho; omega
            rw [← hr2, ← hm, ← hn, hcr, ← hws] at hc
            walk_at "go"
            rename_i E1 H17 nE1 e17 vE1
            refine eqE H17 E1 _ (e16.trans e17) vE1 ?_
          · have hnil : ws.map (·.2) = [] := List.head?_eq_none_iff.mp hc
            rw [hnil, decide_eq_true rfl]
            walk_at "go"
            rename_i E2 H18 nE2 e18 vE2
            refine neE H18 E2 _ (e16.trans (e17.trans e18)) vE2 ?_
            rw [hnil, decide_eq_true rfl]
            walk_at "go"
            exact ⟨⟨fun b o n h => (e16.trans (e17.trans e18)).get (e1115 b o n h), hT15.ext fun b o h => (e16.trans (e17.trans e18)).get h⟩, _, _, _, _, rfl⟩
          · obtain ⟨c, rest, rfl⟩ : ∃ c rest, ws = c :: rest := by
              cases ws with
              | nil => cases hc
              | cons c rest => exact ⟨c, rest, rfl⟩
            have hcq : c.2 = qq := by
              have : some c.2 = some qq := hc
              exact Option.some.inj this
            rw [decide_eq_false (by simp)]
            walk_at "go"
            rename_i E2 H18 nE2 e18 vE2
            refine neE H18 E2 _ (e16.trans (e17.trans e18)) vE2 ?_
            rw [decide_eq_false (by simp)]
            have vD18 : H18 D = some (.lst (zV c :: rest.map zV)) := (e16.trans (e17.trans e18)).get vD15
            walk_at "go"
            refine st_ixL (i := 0) vD18 (at_nat (i := 0) rfl) ?_
            walk_at "go"
            refine ⟨W, c.1, qq, rfl, (e17.trans e18).get vW, by rw [← hcq]; exact (e16.trans (e17.trans e18)).get (tD15 c List.mem_cons_self), ?_⟩
            walk_at "go"
            exact ⟨⟨fun b o n h => (e16.trans (e17.trans e18)).get (e1115 b o n h), hT15.ext fun b o h => (e16.trans (e17.trans e18)).get h⟩, _, _, _, _, rfl⟩
      · rintro σ H12 ⟨⟨e12, hT12⟩, y15, y16, y17, y18, rfl⟩
        have vC12 := keepL vC11 e12
        have vL12 := keepL vL11 e12
        have hM12 := hM11.on e12
        have hB12 := hB11.on e12
        walk_at "go"
        rw [show ((m : Int) + (n : Int)).toNat = m + n by omega]
        refine for_runs (runs_range 0 (m + n)) (fun i σ H' => Ex H12 H' ∧ ∃ y19 y20, σ = [some (.ref a), some (.int pk), some (.str y), some (.str z), some (.int (m : Nat)), some (.int (n : Nat)), some (.ref p), some (.ref C), some (.ref L), some (.ref Wy), y10, y11, y12, some (.ref M), some (.ref P), y15, y16, y17, y18, y19, y20, none]) ⟨Fr.refl _, _, _, rfl⟩ (fun _ _ _ _ _ => trivial) ?_ ?_
        · rintro i x σ H13 H14 hi ⟨e13, y19, y20, rfl⟩ ⟨rfl, rfl⟩
          rw [Int.zero_add]
          walk_at "go"
          rw [Int.toNat_natCast]
          refine for_runs (runs_range 0 i) (fun j σ H' => Ex H12 H' ∧ ∃ y20, σ = [some (.ref a), some (.int pk), some (.str y), some (.str z), some (.int (m : Nat)), some (.int (n : Nat)), some (.ref p), some (.ref C), some (.ref L), some (.ref Wy), y10, y11, y12, some (.ref M), some (.ref P), y15, y16, y17, y18, some (.int (i : Nat)), y20, none]) ⟨e13, _, rfl⟩ (fun _ _ _ _ _ => trivial) ?_ ?_
          · rintro j x σ H15 H16 hj ⟨e15, y20, rfl⟩ ⟨rfl, rfl⟩
            rw [Int.zero_add]
            walk_at "go"
            refine ⟨p, y, z, C, L, M, kvs, zs, j, i, rfl, hB12.to e15, by omega, by omega, e15.get vC12, e15.get vL12, by rw [← hr2, ← hm, ← hn]; exact hM12.ex e15, hj, by omega, fun H17 e17 => ?_⟩
            walk_at "go"
            exact ⟨e15.trans e17, _, rfl⟩
          · rintro σ H15 ⟨e15, y20, rfl⟩
            exact ⟨e15, _, _, rfl⟩
        · rintro σ H13 ⟨e13, y19, y20, rfl⟩
          walk_at "go"
          exact k _
end
theorem all_mk {l : PySem.W.OpenLaw} {w : World} {K : PySem.W.Frag} {h : Heap} {mg : Str → Option Value} {fa f0 f1 f2 f3 f4 f5 f6 f7 f8 f9 f10 f11 f12 f13 f14 f15 f16 f17 f18 f19 f20 f21 f22 : Addr} (X : K.In h) (G : h.Ns mainGlobals mg) (hfa : mg "law" = some (.ref fa))
    {od0 od1 od2 od3 od4 od5 od6 od7 od8 od9 od10 od11 od12 od13 od14 od15 od16 od17 od18 od19 od20 od21 od22 an0 an1 an2 an3 an4 an5 an6 an7 an8 an9 an10 an11 an12 an13 an14 an15 an16 an17 an18 an19 an20 an21 an22 : Option Addr} {sl0 sl1 sl2 sl3 sl4 sl5 sl6 sl7 sl8 sl9 sl10 sl11 sl12 sl13 sl14 sl15 sl16 sl17 sl18 sl19 sl20 sl21 sl22 : Array (Option Value)} {oc0 oc1 oc2 oc3 oc4 oc5 oc6 oc7 oc8 oc9 oc10 oc11 oc12 oc13 oc14 oc15 oc16 oc17 oc18 oc19 oc20 oc21 oc22 kV0 kV1 kV2 kV3 kV4 kV5 kV6 kV7 kV8 kV9 kV10 kV11 kV12 kV13 kV14 kV15 kV16 kV17 kV18 kV19 kV20 kV21 kV22 dc0 dc1 dc2 dc3 dc4 dc5 dc6 dc7 dc8 dc9 dc10 dc11 dc12 dc13 dc14 dc15 dc16 dc17 dc18 dc19 dc20 dc21 dc22 pm0 pm1 pm2 pm3 pm4 pm5 pm6 pm7 pm8 pm9 pm10 pm11 pm12 pm13 pm14 pm15 pm16 pm17 pm18 pm19 pm20 pm21 pm22 cd0 cd1 cd2 cd3 cd4 cd5 cd6 cd7 cd8 cd9 cd10 cd11 cd12 cd13 cd14 cd15 cd16 cd17 cd18 cd19 cd21 cd22 ct0 ct1 ct2 ct3 ct4 ct5 ct6 ct7 ct8 ct9 ct10 ct11 ct12 ct13 ct14 ct15 ct16 ct17 ct18 ct19 ct20 ct21 ct22 : Value} {cc20 PT20 : Addr} {hc20 : Value} {hd20 : Option Addr} {hv20 : Array Value} {hs20 : Array (Option Value)} {t_0 t_1 : Tok}{C_NoRow C_NoPlace C_PaneError C_Board I_NoRow I_NoPlace : Addr} {xn_NoRow xn_NoPlace xq_NoRow xq_NoPlace : Str} {xN_NoRow xN_NoPlace : Addr} {xb_NoRow xb_NoPlace xu_NoRow xu_NoPlace : List Value} {xs_NoRow xs_NoPlace : List Str} {xa_NoRow xa_NoPlace : Bool} {xc_NoRow xc_NoPlace : Option Bool} {xd_NoRow xd_NoPlace Iod_NoRow Iod_NoPlace Ian_NoRow Ian_NoPlace : Option Addr} {xk0_NoRow xk0_NoPlace xk1_NoRow xk1_NoPlace xk2_NoRow xk2_NoPlace xk3_NoRow xk3_NoPlace xk5_NoRow xk5_NoPlace : Option Value} {Ioc_NoRow Ioc_NoPlace IkV_NoRow IkV_NoPlace Idc_NoRow Idc_NoPlace Ipm_NoRow Ipm_NoPlace Icd_NoRow Icd_NoPlace Ict_NoRow Ict_NoPlace : Value} {Isl_NoRow Isl_NoPlace : Array (Option Value)} 
    (a0 : PySem.W.nsIn K mainGlobals "is_whole" = some (some (.ref f0)))
    (l0 : K.lookup f0 = some ⟨oc0, od0, .func (PySem.W.fnOf "is_whole" "is_whole" (defArgs s_is_whole) (defBody s_is_whole) (defScope s_is_whole) .none kV0 dc0 pm0 an0 cd0 ct0), sl0⟩)
    (c0 : PySem.W.codeIn K cd0 "is_whole" = true) (k0 : PySem.W.keepIn K (.ref f0) = true)
    (a1 : PySem.W.nsIn K mainGlobals "is_within" = some (some (.ref f1)))
    (l1 : K.lookup f1 = some ⟨oc1, od1, .func (PySem.W.fnOf "is_within" "is_within" (defArgs s_is_within) (defBody s_is_within) (defScope s_is_within) .none kV1 dc1 pm1 an1 cd1 ct1), sl1⟩)
    (c1 : PySem.W.codeIn K cd1 "is_within" = true) (k1 : PySem.W.keepIn K (.ref f1) = true)
    (a2 : PySem.W.nsIn K mainGlobals "is_row" = some (some (.ref f2)))
    (l2 : K.lookup f2 = some ⟨oc2, od2, .func (PySem.W.fnOf "is_row" "is_row" (defArgs s_is_row) (defBody s_is_row) (defScope s_is_row) .none kV2 dc2 pm2 an2 cd2 ct2), sl2⟩)
    (c2 : PySem.W.codeIn K cd2 "is_row" = true) (k2 : PySem.W.keepIn K (.ref f2) = true)
    (a3 : PySem.W.nsIn K mainGlobals "need_row" = some (some (.ref f3)))
    (l3 : K.lookup f3 = some ⟨oc3, od3, .func (PySem.W.fnOf "need_row" "need_row" (defArgs s_need_row) (defBody s_need_row) (defScope s_need_row) .none kV3 dc3 pm3 an3 cd3 ct3), sl3⟩)
    (c3 : PySem.W.codeIn K cd3 "need_row" = true) (k3 : PySem.W.keepIn K (.ref f3) = true)
    (a4 : PySem.W.nsIn K mainGlobals "need_rows" = some (some (.ref f4)))
    (l4 : K.lookup f4 = some ⟨oc4, od4, .func (PySem.W.fnOf "need_rows" "need_rows" (defArgs s_need_rows) (defBody s_need_rows) (defScope s_need_rows) .none kV4 dc4 pm4 an4 cd4 ct4), sl4⟩)
    (c4 : PySem.W.codeIn K cd4 "need_rows" = true) (k4 : PySem.W.keepIn K (.ref f4) = true)
    (a5 : PySem.W.nsIn K mainGlobals "led" = some (some (.ref f5)))
    (l5 : K.lookup f5 = some ⟨oc5, od5, .func (PySem.W.fnOf "led" "led" (defArgs s_led) (defBody s_led) (defScope s_led) .none kV5 dc5 pm5 an5 cd5 ct5), sl5⟩)
    (c5 : PySem.W.codeIn K cd5 "led" = true) (k5 : PySem.W.keepIn K (.ref f5) = true)
    (a6 : PySem.W.nsIn K mainGlobals "_law_at" = some (some (.ref f6)))
    (l6 : K.lookup f6 = some ⟨oc6, od6, .func (PySem.W.fnOf "_law_at" "_law_at" (defArgs s__law_at) (defBody s__law_at) (defScope s__law_at) .none kV6 dc6 pm6 an6 cd6 ct6), sl6⟩)
    (c6 : PySem.W.codeIn K cd6 "_law_at" = true) (k6 : PySem.W.keepIn K (.ref f6) = true)
    (a7 : PySem.W.nsIn K mainGlobals "_law_mix" = some (some (.ref f7)))
    (l7 : K.lookup f7 = some ⟨oc7, od7, .func (PySem.W.fnOf "_law_mix" "_law_mix" (defArgs s__law_mix) (defBody s__law_mix) (defScope s__law_mix) .none kV7 dc7 pm7 an7 cd7 ct7), sl7⟩)
    (c7 : PySem.W.codeIn K cd7 "_law_mix" = true) (k7 : PySem.W.keepIn K (.ref f7) = true)
    (a8 : PySem.W.nsIn K mainGlobals "_law_put" = some (some (.ref f8)))
    (l8 : K.lookup f8 = some ⟨oc8, od8, .func (PySem.W.fnOf "_law_put" "_law_put" (defArgs s__law_put) (defBody s__law_put) (defScope s__law_put) .none kV8 dc8 pm8 an8 cd8 ct8), sl8⟩)
    (c8 : PySem.W.codeIn K cd8 "_law_put" = true) (k8 : PySem.W.keepIn K (.ref f8) = true)
    (a9 : PySem.W.nsIn K mainGlobals "_law_two" = some (some (.ref f9)))
    (l9 : K.lookup f9 = some ⟨oc9, od9, .func (PySem.W.fnOf "_law_two" "_law_two" (defArgs s__law_two) (defBody s__law_two) (defScope s__law_two) .none kV9 dc9 pm9 an9 cd9 ct9), sl9⟩)
    (c9 : PySem.W.codeIn K cd9 "_law_two" = true) (k9 : PySem.W.keepIn K (.ref f9) = true)
    (a10 : PySem.W.nsIn K mainGlobals "_law_pair" = some (some (.ref f10)))
    (l10 : K.lookup f10 = some ⟨oc10, od10, .func (PySem.W.fnOf "_law_pair" "_law_pair" (defArgs s__law_pair) (defBody s__law_pair) (defScope s__law_pair) .none kV10 dc10 pm10 an10 cd10 ct10), sl10⟩)
    (c10 : PySem.W.codeIn K cd10 "_law_pair" = true) (k10 : PySem.W.keepIn K (.ref f10) = true)
    (a11 : PySem.W.nsIn K mainGlobals "_law_pairs" = some (some (.ref f11)))
    (l11 : K.lookup f11 = some ⟨oc11, od11, .func (PySem.W.fnOf "_law_pairs" "_law_pairs" (defArgs s__law_pairs) (defBody s__law_pairs) (defScope s__law_pairs) .none kV11 dc11 pm11 an11 cd11 ct11), sl11⟩)
    (c11 : PySem.W.codeIn K cd11 "_law_pairs" = true) (k11 : PySem.W.keepIn K (.ref f11) = true)
    (a12 : PySem.W.nsIn K mainGlobals "_law_forms" = some (some (.ref f12)))
    (l12 : K.lookup f12 = some ⟨oc12, od12, .func (PySem.W.fnOf "_law_forms" "_law_forms" (defArgs s__law_forms) (defBody s__law_forms) (defScope s__law_forms) .none kV12 dc12 pm12 an12 cd12 ct12), sl12⟩)
    (c12 : PySem.W.codeIn K cd12 "_law_forms" = true) (k12 : PySem.W.keepIn K (.ref f12) = true)
    (a13 : PySem.W.nsIn K mainGlobals "_law_way" = some (some (.ref f13)))
    (l13 : K.lookup f13 = some ⟨oc13, od13, .func (PySem.W.fnOf "_law_way" "_law_way" (defArgs s__law_way) (defBody s__law_way) (defScope s__law_way) .none kV13 dc13 pm13 an13 cd13 ct13), sl13⟩)
    (c13 : PySem.W.codeIn K cd13 "_law_way" = true) (k13 : PySem.W.keepIn K (.ref f13) = true)
    (a14 : PySem.W.findIn K (.ref C_Board) "way" = some (some (.ref f14))) (i14 : PySem.W.isFn K (.ref f14) = true)
    (l14 : K.lookup f14 = some ⟨oc14, od14, .func (PySem.W.fnOf "way" "Board.way" (defArgs s_Board_way) (defBody s_Board_way) (defScope s_Board_way) .none kV14 dc14 pm14 an14 cd14 ct14), sl14⟩)
    (c14 : PySem.W.codeIn K cd14 "Board.way" = true) (k14 : PySem.W.keepIn K (.ref f14) = true)
    (a15 : PySem.W.findIn K (.ref C_Board) "meets" = some (some (.ref f15))) (i15 : PySem.W.isFn K (.ref f15) = true)
    (l15 : K.lookup f15 = some ⟨oc15, od15, .func (PySem.W.fnOf "meets" "Board.meets" (defArgs s_Board_meets) (defBody s_Board_meets) (defScope s_Board_meets) .none kV15 dc15 pm15 an15 cd15 ct15), sl15⟩)
    (c15 : PySem.W.codeIn K cd15 "Board.meets" = true) (k15 : PySem.W.keepIn K (.ref f15) = true)
    (a16 : PySem.W.findIn K (.ref C_Board) "crossed_at" = some (some (.ref f16))) (i16 : PySem.W.isFn K (.ref f16) = true)
    (l16 : K.lookup f16 = some ⟨oc16, od16, .func (PySem.W.fnOf "crossed_at" "Board.crossed_at" (defArgs s_Board_crossed_at) (defBody s_Board_crossed_at) (defScope s_Board_crossed_at) .none kV16 dc16 pm16 an16 cd16 ct16), sl16⟩)
    (c16 : PySem.W.codeIn K cd16 "Board.crossed_at" = true) (k16 : PySem.W.keepIn K (.ref f16) = true)
    (a17 : PySem.W.nsIn K mainGlobals "_law_apart" = some (some (.ref f17)))
    (l17 : K.lookup f17 = some ⟨oc17, od17, .func (PySem.W.fnOf "_law_apart" "_law_apart" (defArgs s__law_apart) (defBody s__law_apart) (defScope s__law_apart) .none kV17 dc17 pm17 an17 cd17 ct17), sl17⟩)
    (c17 : PySem.W.codeIn K cd17 "_law_apart" = true) (k17 : PySem.W.keepIn K (.ref f17) = true)
    (a18 : PySem.W.nsIn K mainGlobals "_law_met" = some (some (.ref f18)))
    (l18 : K.lookup f18 = some ⟨oc18, od18, .func (PySem.W.fnOf "_law_met" "_law_met" (defArgs s__law_met) (defBody s__law_met) (defScope s__law_met) .none kV18 dc18 pm18 an18 cd18 ct18), sl18⟩)
    (c18 : PySem.W.codeIn K cd18 "_law_met" = true) (k18 : PySem.W.keepIn K (.ref f18) = true)
    (a19 : PySem.W.findIn K (.ref C_Board) "cells" = some (some (.ref f19))) (i19 : PySem.W.isFn K (.ref f19) = true)
    (l19 : K.lookup f19 = some ⟨oc19, od19, .func (PySem.W.fnOf "cells" "Board.cells" (defArgs s_Board_cells) (defBody s_Board_cells) (defScope s_Board_cells) .none kV19 dc19 pm19 an19 cd19 ct19), sl19⟩)
    (c19 : PySem.W.codeIn K cd19 "Board.cells" = true) (k19 : PySem.W.keepIn K (.ref f19) = true)
    (a20 : PySem.W.findIn K (.ref C_Board) "__init__" = some (some (.ref f20))) (i20 : PySem.W.isFn K (.ref f20) = true)
    (l20 : K.lookup f20 = some ⟨oc20, od20, .func (PySem.W.fnOf "__init__" "Board.__init__" (defArgs s_Board_init) (defBody s_Board_init) (defScope s_Board_init) .none kV20 dc20 pm20 an20 (.ref cc20) ct20), sl20⟩)
    (c20 : PySem.W.codeIn K (.ref cc20) "Board.__init__" = true) (k20 : PySem.W.keepIn K (.ref f20) = true)
    (h20 : K.lookup cc20 = some ⟨hc20, hd20, .fields hv20, hs20⟩) (p20 : (hv20[11]? : Option Value) = some (.ref PT20)) (g20 : PySem.W.codeHdIn K cc20 PT20 = true) (n20 : K.lookup PT20 = none) (t20 : h.get? PT20 = some { cls := .none, data := .fields #[] })
    (a21 : PySem.W.findIn K (.ref C_Board) "lines" = some (some (.ref f21))) (i21 : PySem.W.isFn K (.ref f21) = true)
    (l21 : K.lookup f21 = some ⟨oc21, od21, .func (PySem.W.fnOf "lines" "Board.lines" (defArgs s_Board_lines) (defBody s_Board_lines) (defScope s_Board_lines) .none kV21 dc21 pm21 an21 cd21 ct21), sl21⟩)
    (c21 : PySem.W.codeIn K cd21 "Board.lines" = true) (k21 : PySem.W.keepIn K (.ref f21) = true)
    (a22 : PySem.W.nsIn K mainGlobals "law" = some (some (.ref f22)))
    (l22 : K.lookup f22 = some ⟨oc22, od22, .func (PySem.W.fnOf "law" "law" (defArgs s_law) (defBody s_law) (defScope s_law) .none kV22 dc22 pm22 an22 cd22 ct22), sl22⟩)
    (c22 : PySem.W.codeIn K cd22 "law" = true) (k22 : PySem.W.keepIn K (.ref f22) = true)
    (cn0 : PySem.W.nsIn K mainGlobals "MOST_SIGNS" = some (some (.int 48 t_0)))
    (cn1 : PySem.W.nsIn K mainGlobals "LETTERS" = some (some (.str "abcdefghijklmnopqrstuvwxyz" t_1)))
    (z0 : PySem.W.nsIn K mainGlobals "isinstance" = some none)
    (z1 : PySem.W.nsIn K mainGlobals "int" = some none)
    (z2 : PySem.W.nsIn K mainGlobals "bool" = some none)
    (z3 : PySem.W.nsIn K mainGlobals "all" = some none)
    (z4 : PySem.W.nsIn K mainGlobals "str" = some none)
    (z5 : PySem.W.nsIn K mainGlobals "len" = some none)
    (z6 : PySem.W.nsIn K mainGlobals "list" = some none)
    (z7 : PySem.W.nsIn K mainGlobals "range" = some none)
    (z8 : PySem.W.nsIn K mainGlobals "enumerate" = some none)
    (z9 : PySem.W.nsIn K mainGlobals "tuple" = some none)
    (z10 : PySem.W.nsIn K mainGlobals "sorted" = some none)
    (z11 : PySem.W.nsIn K mainGlobals "max" = some none)
    (z12 : PySem.W.nsIn K mainGlobals "min" = some none)
    (g_NoRow : PySem.W.nsIn K mainGlobals "NoRow" = some (some (.ref C_NoRow)))
    (g_NoPlace : PySem.W.nsIn K mainGlobals "NoPlace" = some (some (.ref C_NoPlace)))
    (g_PaneError : PySem.W.nsIn K mainGlobals "PaneError" = some (some (.ref C_PaneError)))
    (lk_NoRow : K.lookup C_NoRow = some (excClassObj xn_NoRow xq_NoRow C_NoRow xN_NoRow xb_NoRow [.ref C_PaneError, .type "ValueError", .type "Exception", .type "BaseException", .type "object"] true xs_NoRow xu_NoRow xa_NoRow xc_NoRow xd_NoRow xk0_NoRow xk1_NoRow xk2_NoRow xk3_NoRow xk5_NoRow "ValueError.__new__"))
    (f_setattr_NoRow : PySem.W.findIn K (.ref C_NoRow) "__setattr__" = some (some (.builtin "object.__setattr__")))
    (sb_NoRow : PySem.W.subIn K (.ref C_NoRow) (.type "BaseException") = some true)
    (ty_NoRow : PySem.W.typeIn K (.ref C_NoRow) = some (.type "type"))
    (k_NoRow : PySem.W.keepIn K (.ref C_NoRow) = true)
    (f_found_NoRow : PySem.W.findIn K (.ref C_NoRow) "found" = some none)
    (ini_NoRow : PySem.W.findIn K (.ref C_NoRow) "__init__" = some (some (.ref I_NoRow)))
    (int_NoRow : PySem.W.typeIn K (.ref I_NoRow) = some (.type "function"))
    (il_NoRow : K.lookup I_NoRow = some ⟨Ioc_NoRow, Iod_NoRow, .func (PySem.W.fnOf "__init__" "NoRow.__init__" (defArgs si_NoRow) (defBody si_NoRow) (defScope si_NoRow) .none IkV_NoRow Idc_NoRow Ipm_NoRow Ian_NoRow Icd_NoRow Ict_NoRow), Isl_NoRow⟩)
    (ic_NoRow : PySem.W.codeIn K Icd_NoRow "NoRow.__init__" = true)
    (ik_NoRow : PySem.W.keepIn K (.ref I_NoRow) = true)
    (lk_NoPlace : K.lookup C_NoPlace = some (excClassObj xn_NoPlace xq_NoPlace C_NoPlace xN_NoPlace xb_NoPlace [.ref C_PaneError, .type "ValueError", .type "Exception", .type "BaseException", .type "object"] true xs_NoPlace xu_NoPlace xa_NoPlace xc_NoPlace xd_NoPlace xk0_NoPlace xk1_NoPlace xk2_NoPlace xk3_NoPlace xk5_NoPlace "ValueError.__new__"))
    (f_setattr_NoPlace : PySem.W.findIn K (.ref C_NoPlace) "__setattr__" = some (some (.builtin "object.__setattr__")))
    (sb_NoPlace : PySem.W.subIn K (.ref C_NoPlace) (.type "BaseException") = some true)
    (ty_NoPlace : PySem.W.typeIn K (.ref C_NoPlace) = some (.type "type"))
    (k_NoPlace : PySem.W.keepIn K (.ref C_NoPlace) = true)
    (f_found_NoPlace : PySem.W.findIn K (.ref C_NoPlace) "found" = some none)
    (ini_NoPlace : PySem.W.findIn K (.ref C_NoPlace) "__init__" = some (some (.ref I_NoPlace)))
    (int_NoPlace : PySem.W.typeIn K (.ref I_NoPlace) = some (.type "function"))
    (il_NoPlace : K.lookup I_NoPlace = some ⟨Ioc_NoPlace, Iod_NoPlace, .func (PySem.W.fnOf "__init__" "NoPlace.__init__" (defArgs si_NoPlace) (defBody si_NoPlace) (defScope si_NoPlace) .none IkV_NoPlace Idc_NoPlace Ipm_NoPlace Ian_NoPlace Icd_NoPlace Ict_NoPlace), Isl_NoPlace⟩)
    (ic_NoPlace : PySem.W.codeIn K Icd_NoPlace "NoPlace.__init__" = true)
    (ik_NoPlace : PySem.W.keepIn K (.ref I_NoPlace) = true)
    (ba_PaneError : PySem.W.specialIn K (.ref C_PaneError) "__getattribute__" = some (some (.builtin "type.__getattribute__")))
    (br_PaneError : PySem.W.readsIn K C_PaneError (.type "type") = true)
    (bf_PaneError : PySem.W.findCls K (.ref C_PaneError) (.type "type") "__init__" = some (.val (.builtin "ValueError.__init__")))
    (g_Board : PySem.W.nsIn K mainGlobals "Board" = some (some (.ref C_Board)))
    (pg_Board : PySem.W.plainGet K C_Board Str.empty = true)
    (hd_Board : PySem.W.hasDictIn K C_Board = true)
    (po_Board : PySem.W.plainOver K C_Board = true)
    (sa_Board : PySem.W.findIn K (.ref C_Board) "__setattr__" = some (some (.builtin "object.__setattr__")))
    (na_Board_left_row : PySem.W.findIn K (.ref C_Board) "left_row" = some none)
    (na_Board_upper_row : PySem.W.findIn K (.ref C_Board) "upper_row" = some none)
    (na_Board_meetings : PySem.W.findIn K (.ref C_Board) "meetings" = some none)
    (na_Board_signs : PySem.W.findIn K (.ref C_Board) "signs" = some none)
    (na_Board_goals : PySem.W.findIn K (.ref C_Board) "goals" = some none)
    (mk_Board : PySem.W.makesIn K C_Board = true)
    (kc_Board : PySem.W.keepIn K (.ref C_Board) = true)
    : LamX.LawAtS l w K CX0 7 63 "_law_script" mg fa h := by
  have e := hfa.symm.trans (PySem.W.mg_of X G a22)
  cases e
  have q_NoRow := clsA_of g_NoRow
  subst q_NoRow
  have q_NoPlace := clsA_of g_NoPlace
  subst q_NoPlace
  have q_PaneError := clsA_of g_PaneError
  subst q_PaneError
  have q_Board := clsA_of g_Board
  subst q_Board
  refine ⟨PySem.W.fnOf "law" "law" (defArgs s_law) (defBody s_law) (defScope s_law) .none kV22 dc22 pm22 an22 cd22 ct22, [(cc20, PT20)], sp_law K (tabsL (fun i => match i with | 0 => (cc20, PT20) | _ => (cc20, PT20))), (fun p hp => by
    simp only [List.mem_cons, List.not_mem_nil, or_false] at hp
    rcases hp with rfl
    · exact t20), (fun p hp => by
    simp only [List.mem_cons, List.not_mem_nil, or_false] at hp
    rcases hp with rfl
    · exact n20), (fun p hp => by
    simp only [List.mem_cons, List.not_mem_nil, or_false] at hp
    rcases hp with rfl
    · exact PySem.W.codeHd_of_K X g20), fun s v => .of_eq rfl, fun H a ns hl _ hTt hS => ⟨a, ns, rfl, hS, fun p hp => ?_, hl, fun _ => rfl⟩, fun base _ _ hTB => ?_⟩
  · simp only [tabsL, List.mem_cons, List.not_mem_nil, or_false] at hp
    rcases hp with rfl
    · exact LamX.TabS.nil (hTt (cc20, PT20) (by simp))
  have T : Tx K mg (fun i => match i with | 0 => f0 | 1 => f1 | 2 => f2 | 3 => f3 | 4 => f4 | 5 => f5 | 6 => f6 | 7 => f7 | 8 => f8 | 9 => f9 | 10 => f10 | 11 => f11 | 12 => f12 | 13 => f13 | 14 => f14 | 15 => f15 | 16 => f16 | 17 => f17 | 18 => f18 | 19 => f19 | 20 => f20 | 21 => f21 | 22 => fa | _ => f0) (fun i => match i with | 0 => PySem.W.fnOf "is_whole" "is_whole" (defArgs s_is_whole) (defBody s_is_whole) (defScope s_is_whole) .none kV0 dc0 pm0 an0 cd0 ct0 | 1 => PySem.W.fnOf "is_within" "is_within" (defArgs s_is_within) (defBody s_is_within) (defScope s_is_within) .none kV1 dc1 pm1 an1 cd1 ct1 | 2 => PySem.W.fnOf "is_row" "is_row" (defArgs s_is_row) (defBody s_is_row) (defScope s_is_row) .none kV2 dc2 pm2 an2 cd2 ct2 | 3 => PySem.W.fnOf "need_row" "need_row" (defArgs s_need_row) (defBody s_need_row) (defScope s_need_row) .none kV3 dc3 pm3 an3 cd3 ct3 | 4 => PySem.W.fnOf "need_rows" "need_rows" (defArgs s_need_rows) (defBody s_need_rows) (defScope s_need_rows) .none kV4 dc4 pm4 an4 cd4 ct4 | 5 => PySem.W.fnOf "led" "led" (defArgs s_led) (defBody s_led) (defScope s_led) .none kV5 dc5 pm5 an5 cd5 ct5 | 6 => PySem.W.fnOf "_law_at" "_law_at" (defArgs s__law_at) (defBody s__law_at) (defScope s__law_at) .none kV6 dc6 pm6 an6 cd6 ct6 | 7 => PySem.W.fnOf "_law_mix" "_law_mix" (defArgs s__law_mix) (defBody s__law_mix) (defScope s__law_mix) .none kV7 dc7 pm7 an7 cd7 ct7 | 8 => PySem.W.fnOf "_law_put" "_law_put" (defArgs s__law_put) (defBody s__law_put) (defScope s__law_put) .none kV8 dc8 pm8 an8 cd8 ct8 | 9 => PySem.W.fnOf "_law_two" "_law_two" (defArgs s__law_two) (defBody s__law_two) (defScope s__law_two) .none kV9 dc9 pm9 an9 cd9 ct9 | 10 => PySem.W.fnOf "_law_pair" "_law_pair" (defArgs s__law_pair) (defBody s__law_pair) (defScope s__law_pair) .none kV10 dc10 pm10 an10 cd10 ct10 | 11 => PySem.W.fnOf "_law_pairs" "_law_pairs" (defArgs s__law_pairs) (defBody s__law_pairs) (defScope s__law_pairs) .none kV11 dc11 pm11 an11 cd11 ct11 | 12 => PySem.W.fnOf "_law_forms" "_law_forms" (defArgs s__law_forms) (defBody s__law_forms) (defScope s__law_forms) .none kV12 dc12 pm12 an12 cd12 ct12 | 13 => PySem.W.fnOf "_law_way" "_law_way" (defArgs s__law_way) (defBody s__law_way) (defScope s__law_way) .none kV13 dc13 pm13 an13 cd13 ct13 | 14 => PySem.W.fnOf "way" "Board.way" (defArgs s_Board_way) (defBody s_Board_way) (defScope s_Board_way) .none kV14 dc14 pm14 an14 cd14 ct14 | 15 => PySem.W.fnOf "meets" "Board.meets" (defArgs s_Board_meets) (defBody s_Board_meets) (defScope s_Board_meets) .none kV15 dc15 pm15 an15 cd15 ct15 | 16 => PySem.W.fnOf "crossed_at" "Board.crossed_at" (defArgs s_Board_crossed_at) (defBody s_Board_crossed_at) (defScope s_Board_crossed_at) .none kV16 dc16 pm16 an16 cd16 ct16 | 17 => PySem.W.fnOf "_law_apart" "_law_apart" (defArgs s__law_apart) (defBody s__law_apart) (defScope s__law_apart) .none kV17 dc17 pm17 an17 cd17 ct17 | 18 => PySem.W.fnOf "_law_met" "_law_met" (defArgs s__law_met) (defBody s__law_met) (defScope s__law_met) .none kV18 dc18 pm18 an18 cd18 ct18 | 19 => PySem.W.fnOf "cells" "Board.cells" (defArgs s_Board_cells) (defBody s_Board_cells) (defScope s_Board_cells) .none kV19 dc19 pm19 an19 cd19 ct19 | 20 => PySem.W.fnOf "__init__" "Board.__init__" (defArgs s_Board_init) (defBody s_Board_init) (defScope s_Board_init) .none kV20 dc20 pm20 an20 (.ref cc20) ct20 | 21 => PySem.W.fnOf "lines" "Board.lines" (defArgs s_Board_lines) (defBody s_Board_lines) (defScope s_Board_lines) .none kV21 dc21 pm21 an21 cd21 ct21 | 22 => PySem.W.fnOf "law" "law" (defArgs s_law) (defBody s_law) (defScope s_law) .none kV22 dc22 pm22 an22 cd22 ct22 | _ => PySem.W.fnOf "is_whole" "is_whole" (defArgs s_is_whole) (defBody s_is_whole) (defScope s_is_whole) .none kV0 dc0 pm0 an0 cd0 ct0) (fun i => match i with | 0 => t_0 | 1 => t_1 | _ => t_0) base (fun i => match i with | 0 => (cc20, PT20) | _ => (cc20, PT20)) := {
    d_is_whole := df_mk X G a0 l0 c0 k0 (fun _ _ _ _ _ _ us hl => match us, hl with | [_], _ => rfl)
    d_is_within := df_mk X G a1 l1 c1 k1 (fun _ _ _ _ _ _ us hl => match us, hl with | [_, _, _], _ => rfl)
    d_is_row := df_mk X G a2 l2 c2 k2 (fun _ _ _ _ _ _ us hl => match us, hl with | [_], _ => rfl)
    d_need_row := df_mk X G a3 l3 c3 k3 (fun _ _ _ _ _ _ us hl => match us, hl with | [_], _ => rfl)
    d_need_rows := df_mk X G a4 l4 c4 k4 (fun _ _ _ _ _ _ us hl => match us, hl with | [_, _], _ => rfl)
    d_led := df_mk X G a5 l5 c5 k5 (fun _ _ _ _ _ _ us hl => match us, hl with | [_, _, _], _ => rfl)
    d__law_at := df_mk X G a6 l6 c6 k6 (fun _ _ _ _ _ _ us hl => match us, hl with | [_, _], _ => rfl)
    d__law_mix := df_mk X G a7 l7 c7 k7 (fun _ _ _ _ _ _ us hl => match us, hl with | [_, _], _ => rfl)
    d__law_put := df_mk X G a8 l8 c8 k8 (fun _ _ _ _ _ _ us hl => match us, hl with | [_, _, _, _, _], _ => rfl)
    d__law_two := df_mk X G a9 l9 c9 k9 (fun _ _ _ _ _ _ us hl => match us, hl with | [_, _], _ => rfl)
    d__law_pair := df_mk X G a10 l10 c10 k10 (fun _ _ _ _ _ _ us hl => match us, hl with | [_, _], _ => rfl)
    d__law_pairs := df_mk X G a11 l11 c11 k11 (fun _ _ _ _ _ _ us hl => match us, hl with | [_, _], _ => rfl)
    d__law_forms := df_mk X G a12 l12 c12 k12 (fun _ _ _ _ _ _ us hl => match us, hl with | [_, _, _, _], _ => rfl)
    d__law_way := df_mk X G a13 l13 c13 k13 (fun _ _ _ _ _ _ us hl => match us, hl with | [_, _, _, _], _ => rfl)
    d_Board_way := dm_mk a14 i14 l14 c14 k14 (fun _ _ _ _ _ _ us hl => match us, hl with | [_, _], _ => rfl)
    d_Board_meets := dm_mk a15 i15 l15 c15 k15 (fun _ _ _ _ _ _ us hl => match us, hl with | [_, _, _], _ => rfl)
    d_Board_crossed_at := dm_mk a16 i16 l16 c16 k16 (fun _ _ _ _ _ _ us hl => match us, hl with | [_, _, _], _ => rfl)
    d__law_apart := df_mk X G a17 l17 c17 k17 (fun _ _ _ _ _ _ us hl => match us, hl with | [_, _, _, _, _, _, _, _], _ => rfl)
    d__law_met := df_mk X G a18 l18 c18 k18 (fun _ _ _ _ _ _ us hl => match us, hl with | [_, _, _], _ => rfl)
    d_Board_cells := dm_mk a19 i19 l19 c19 k19 (fun _ _ _ _ _ _ us hl => match us, hl with | [_], _ => rfl)
    d_Board_init := dm_mk a20 i20 l20 c20 k20 (fun _ _ _ _ _ _ us hl => match us, hl with | [_, _, _], _ => rfl)
    fc_Board_init := ⟨⟨_, _, _, _, _, _, _, _, rfl, l20, c20⟩⟩
    tb_Board_init := hTB (cc20, PT20) (by simp)
    d_Board_lines := dm_mk a21 i21 l21 c21 k21 (fun _ _ _ _ _ _ us hl => match us, hl with | [_], _ => rfl)
    d_law := df_mk X G a22 l22 c22 k22 (fun _ _ _ _ _ _ us hl => match us, hl with | [_], _ => rfl)
    c_MOST_SIGNS := PySem.W.mg_of X G cn0
    c_LETTERS := PySem.W.mg_of X G cn1
    b_isinstance := PySem.W.mg_none_of X G z0
    b_int := PySem.W.mg_none_of X G z1
    b_bool := PySem.W.mg_none_of X G z2
    b_all := PySem.W.mg_none_of X G z3
    b_str := PySem.W.mg_none_of X G z4
    b_len := PySem.W.mg_none_of X G z5
    b_list := PySem.W.mg_none_of X G z6
    b_range := PySem.W.mg_none_of X G z7
    b_enumerate := PySem.W.mg_none_of X G z8
    b_tuple := PySem.W.mg_none_of X G z9
    b_sorted := PySem.W.mg_none_of X G z10
    b_max := PySem.W.mg_none_of X G z11
    b_min := PySem.W.mg_none_of X G z12
    g_NoRow := PySem.W.mg_of X G g_NoRow
    o_NoRow := ⟨⟨_, _, _, _, _, _, _, _, _, _, _, _, _, _, _, lk_NoRow, rfl⟩, f_setattr_NoRow, sb_NoRow, ty_NoRow, k_NoRow⟩
    n_NoRow_found := f_found_NoRow
    i_NoRow := ini_mk ini_NoRow int_NoRow il_NoRow ic_NoRow ik_NoRow (fun _ _ _ _ _ _ us hl => match us, hl with | [_, _], _ => rfl)
    g_NoPlace := PySem.W.mg_of X G g_NoPlace
    o_NoPlace := ⟨⟨_, _, _, _, _, _, _, _, _, _, _, _, _, _, _, lk_NoPlace, rfl⟩, f_setattr_NoPlace, sb_NoPlace, ty_NoPlace, k_NoPlace⟩
    n_NoPlace_found := f_found_NoPlace
    i_NoPlace := ini_mk ini_NoPlace int_NoPlace il_NoPlace ic_NoPlace ik_NoPlace (fun _ _ _ _ _ _ us hl => match us, hl with | [_, _], _ => rfl)
    bi_PaneError := ⟨PySem.W.mg_of X G g_PaneError, ba_PaneError, br_PaneError, bf_PaneError⟩
    mg_Board := PySem.W.mg_of X G g_Board
    cl_Board := ⟨pg_Board, hd_Board, po_Board, sa_Board⟩
    na_Board_left_row := na_Board_left_row
    na_Board_upper_row := na_Board_upper_row
    na_Board_meetings := na_Board_meetings
    na_Board_signs := na_Board_signs
    na_Board_goals := na_Board_goals
    m_Board := ⟨mk_Board, a20, i20, kc_Board⟩
  }
  exact ok_law T
end My
open PySem PySem.W PyProof.Rows in
set_option maxRecDepth 100000 in
set_option maxHeartbeats 0 in
theorem PySem.Challenge.cw_panethread_k33_whole_no_two_cross_twice_holds : PySem.Challenge.rw_panethread_k33_whole_no_two_cross_twice.Holds := by
  w_on; o_law; k_head; (case hw => w_witness2)
  k_fill
  refine LamX.walk_ofTs (l := PySem.Challenge.rw_panethread_k33_whole_no_two_cross_twice) (n := 63) (k := 7) (x := "_law_script") (CX := fun _ => L2.CX0) rfl (by decide) rfl ⟨rfl, by decide, by decide⟩ (fun w h Y => PySem.W.km_in_of Y) ?F (fun _ _ _ _ _ z => z)
  case F =>
    intro w mg fa h Y KX G hmg
    refine' My.all_mk KX G hmg ?a0 ?l0 ?c0 ?k0 ?a1 ?l1 ?c1 ?k1 ?a2 ?l2 ?c2 ?k2 ?a3 ?l3 ?c3 ?k3 ?a4 ?l4 ?c4 ?k4 ?a5 ?l5 ?c5 ?k5 ?a6 ?l6 ?c6 ?k6 ?a7 ?l7 ?c7 ?k7 ?a8 ?l8 ?c8 ?k8 ?a9 ?l9 ?c9 ?k9 ?a10 ?l10 ?c10 ?k10 ?a11 ?l11 ?c11 ?k11 ?a12 ?l12 ?c12 ?k12 ?a13 ?l13 ?c13 ?k13 ?a14 ?i14 ?l14 ?c14 ?k14 ?a15 ?i15 ?l15 ?c15 ?k15 ?a16 ?i16 ?l16 ?c16 ?k16 ?a17 ?l17 ?c17 ?k17 ?a18 ?l18 ?c18 ?k18 ?a19 ?i19 ?l19 ?c19 ?k19 ?a20 ?i20 ?l20 ?c20 ?k20 ?h20 ?p20 ?g20 ?n20 ?t20 ?a21 ?i21 ?l21 ?c21 ?k21 ?a22 ?l22 ?c22 ?k22 ?cn0 ?cn1 ?z0 ?z1 ?z2 ?z3 ?z4 ?z5 ?z6 ?z7 ?z8 ?z9 ?z10 ?z11 ?z12 ?g_NoRow ?g_NoPlace ?g_PaneError ?lk_NoRow ?f_setattr_NoRow ?sb_NoRow ?ty_NoRow ?k_NoRow ?f_found_NoRow ?ini_NoRow ?int_NoRow ?il_NoRow ?ic_NoRow ?ik_NoRow ?lk_NoPlace ?f_setattr_NoPlace ?sb_NoPlace ?ty_NoPlace ?k_NoPlace ?f_found_NoPlace ?ini_NoPlace ?int_NoPlace ?il_NoPlace ?ic_NoPlace ?ik_NoPlace ?ba_PaneError ?br_PaneError ?bf_PaneError ?g_Board ?pg_Board ?hd_Board ?po_Board ?sa_Board ?na_Board_left_row ?na_Board_upper_row ?na_Board_meetings ?na_Board_signs ?na_Board_goals ?mk_Board ?kc_Board
    (case g_NoRow => k_is)
    (case g_NoPlace => k_is)
    (case g_PaneError => k_is)
    (case g_Board => k_is)
    (case a0 => k_is)
    (case l0 => k_is)
    (case c0 => k_is)
    (case k0 => k_is)
    (case a1 => k_is)
    (case l1 => k_is)
    (case c1 => k_is)
    (case k1 => k_is)
    (case a2 => k_is)
    (case l2 => k_is)
    (case c2 => k_is)
    (case k2 => k_is)
    (case a3 => k_is)
    (case l3 => k_is)
    (case c3 => k_is)
    (case k3 => k_is)
    (case a4 => k_is)
    (case l4 => k_is)
    (case c4 => k_is)
    (case k4 => k_is)
    (case a5 => k_is)
    (case l5 => k_is)
    (case c5 => k_is)
    (case k5 => k_is)
    (case a6 => k_is)
    (case l6 => k_is)
    (case c6 => k_is)
    (case k6 => k_is)
    (case a7 => k_is)
    (case l7 => k_is)
    (case c7 => k_is)
    (case k7 => k_is)
    (case a8 => k_is)
    (case l8 => k_is)
    (case c8 => k_is)
    (case k8 => k_is)
    (case a9 => k_is)
    (case l9 => k_is)
    (case c9 => k_is)
    (case k9 => k_is)
    (case a10 => k_is)
    (case l10 => k_is)
    (case c10 => k_is)
    (case k10 => k_is)
    (case a11 => k_is)
    (case l11 => k_is)
    (case c11 => k_is)
    (case k11 => k_is)
    (case a12 => k_is)
    (case l12 => k_is)
    (case c12 => k_is)
    (case k12 => k_is)
    (case a13 => k_is)
    (case l13 => k_is)
    (case c13 => k_is)
    (case k13 => k_is)
    (case a14 => k_is)
    (case i14 => k_is)
    (case l14 => k_is)
    (case c14 => k_is)
    (case k14 => k_is)
    (case a15 => k_is)
    (case i15 => k_is)
    (case l15 => k_is)
    (case c15 => k_is)
    (case k15 => k_is)
    (case a16 => k_is)
    (case i16 => k_is)
    (case l16 => k_is)
    (case c16 => k_is)
    (case k16 => k_is)
    (case a17 => k_is)
    (case l17 => k_is)
    (case c17 => k_is)
    (case k17 => k_is)
    (case a18 => k_is)
    (case l18 => k_is)
    (case c18 => k_is)
    (case k18 => k_is)
    (case a19 => k_is)
    (case i19 => k_is)
    (case l19 => k_is)
    (case c19 => k_is)
    (case k19 => k_is)
    (case a20 => k_is)
    (case i20 => k_is)
    (case l20 => k_is)
    (case c20 => k_is)
    (case k20 => k_is)
    (case h20 => k_is)
    (case p20 => exact rfl)
    (case g20 => kernel_rfl)
    (case n20 => kernel_rfl)
    (case t20 => exact PySem.W.km_tabs_of Y _ (by decide))
    (case a21 => k_is)
    (case i21 => k_is)
    (case l21 => k_is)
    (case c21 => k_is)
    (case k21 => k_is)
    (case a22 => k_is)
    (case l22 => k_is)
    (case c22 => k_is)
    (case k22 => k_is)
    (case cn0 => k_is)
    (case cn1 => k_is)
    (case z0 => k_is)
    (case z1 => k_is)
    (case z2 => k_is)
    (case z3 => k_is)
    (case z4 => k_is)
    (case z5 => k_is)
    (case z6 => k_is)
    (case z7 => k_is)
    (case z8 => k_is)
    (case z9 => k_is)
    (case z10 => k_is)
    (case z11 => k_is)
    (case z12 => k_is)
    (case lk_NoRow => k_is)
    (case f_setattr_NoRow => k_is)
    (case sb_NoRow => k_is)
    (case ty_NoRow => k_is)
    (case k_NoRow => k_is)
    (case f_found_NoRow => k_is)
    (case ini_NoRow => k_is)
    (case int_NoRow => k_is)
    (case il_NoRow => k_is)
    (case ic_NoRow => k_is)
    (case ik_NoRow => k_is)
    (case lk_NoPlace => k_is)
    (case f_setattr_NoPlace => k_is)
    (case sb_NoPlace => k_is)
    (case ty_NoPlace => k_is)
    (case k_NoPlace => k_is)
    (case f_found_NoPlace => k_is)
    (case ini_NoPlace => k_is)
    (case int_NoPlace => k_is)
    (case il_NoPlace => k_is)
    (case ic_NoPlace => k_is)
    (case ik_NoPlace => k_is)
    (case ba_PaneError => k_is)
    (case br_PaneError => k_is)
    (case bf_PaneError => k_is)
    (case pg_Board => k_is)
    (case hd_Board => k_is)
    (case po_Board => k_is)
    (case sa_Board => k_is)
    (case na_Board_left_row => k_is)
    (case na_Board_upper_row => k_is)
    (case na_Board_meetings => k_is)
    (case na_Board_signs => k_is)
    (case na_Board_goals => k_is)
    (case mk_Board => k_is)
    (case kc_Board => k_is)
#print axioms PySem.Challenge.cw_panethread_k33_whole_no_two_cross_twice_holds
